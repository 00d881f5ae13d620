import PyProof.Rows.All
import HandS.ForMost
import HandS.EndTab
import HandS.AnyAll
import HandS.Deep
import HandS.TupAny
import KE.SortKeyHeap
import KE.SortData
import HandS.Text
import HandS.Style
import HandS.NoneIn
import HandS.Conv
import HandS.RevRange
import HandS.GenYield
import HandS.GenList
import PyProof.TupleOfGen
import HandS.IsInst
import HandS.Iter
import HandS.SetFor
import HandS.Strs
import KE.GoesMore
import HandS.HeadHook4
import HandS.HeadWalk
import HandS.TupSets
import PyProof.JoinWalk
import HandS.Zip
import HandS.TupMul
import HandS.SortKw
import KE.DataMinMax
import KE.DataMinKey
import PyProof.WalkInts
import Wide.All
import OpenK.AllK
import Wide.FinOn
import KE.KStateDown
import HandS.Head0
import HandS.Head1
import HandS.Head2
import HandS.HeadEnd
import HandS.HeadHook1
import HandS.HeadHook2
import PySem.Challenge.RW_latticehouse_k64_complements_and_what_is
set_option Elab.async false
set_option linter.all false
set_option maxRecDepth 100000
set_option maxHeartbeats 2000000
/-! Lh1: values by value over the layer's abstract heap: RD, Stay, Rep, the judgements tE, tT, tF, tS -/
namespace LH
open PySem PySem.Spec PyProof.Rows L2

/-- a tuple that has no dict of its own: frozen or an object of the module -/
def SqN (K : PySem.W.Frag) (H : Hp) (a : Addr) (xs : List V) : Prop :=
  (∃ o, H a = some (.frz o (.tup xs)) ∧ o.dict = none) ∨
    ∃ (o : Obj) (its : Array Value) (n : Nat), (K.lookup a = some o ∧ o.cls = .type "tuple" ∧ o.data = .seq its n ∧ its.size ≤ sizeLine ∧ Vals xs its.toList) ∧ o.dict = none
theorem SqN.t {K : PySem.W.Frag} {H : Hp} {a : Addr} {xs : List V} (h : SqN K H a xs) : SqT K H a xs := by
  rcases h with ⟨o, h, _⟩ | ⟨o, its, n, h, _⟩
  · exact .inl (.inr ⟨o, h⟩)
  · exact .inr ⟨o, its, n, h⟩
instance {K : PySem.W.Frag} {H : Hp} {a : Addr} {xs : List V} : Coe (SqN K H a xs) (SqT K H a xs) := ⟨SqN.t⟩
/-! ### data at a value; O: addresses of lists that the datum must not lean on -/
mutual
inductive RD (K : PySem.W.Frag) (H : Hp) (O : Addr → Prop) : V → PyData → Prop
  | non : RD K H O .non .none
  | bl (b : Bool) : RD K H O (.bl b) (.bool b)
  | int (i : Int) : RD K H O (.int i) (.int i)
  | str (x : Str) : RD K H O (.str x) (.str x)
  | lst {a : Addr} {xs : List V} {ds : List PyData} : Rd H a (.lst xs) → (¬ O a ∨ ∃ o, H a = some (.frz o (.lst xs))) → RDs K H O xs ds → RD K H O (.ref a) (.list ds)
  | tup {a : Addr} {xs : List V} {ds : List PyData} : SqN K H a xs → RDs K H O xs ds → RD K H O (.ref a) (.tuple ds)
  /-- a def or a lambda, by its address -/
  | fn (a : Addr) : RD K H O (.ref a) (.dict [(.int (a : Nat), .none)])
inductive RDs (K : PySem.W.Frag) (H : Hp) (O : Addr → Prop) : List V → List PyData → Prop
  | nil : RDs K H O [] []
  | cons {v : V} {vs : List V} {d : PyData} {ds : List PyData} : RD K H O v d → RDs K H O vs ds → RDs K H O (v :: vs) (d :: ds)
end

/-- a code object at c with its table at P and its name q -/
def CodeO (c P : Addr) (q : Str) : HO := .ext fun h => PySem.W.CodeHd h c P ∧ h.CodeRec (.ref c) q
/-- a table of code objects, and the tables of those that it tells; ν: which name stands at which place of the text -/
abbrev Nu := Nat → Nat → Str → Prop
/-- where the laws' lambdas stand, and the defs that make them -/
def lamTab : List (Nat × Nat × String) := [(9, 43, "down_sets"), (10, 41, "undoing"), (12, 43, "down_sets"), (23, 25, "smoothed"), (25, 44, "decide_spans"), (26, 46, "chain_counts"), (27, 44, "counts_from"), (29, 43, "down_sets"), (31, 36, "closed_sets"), (33, 36, "closed_sets"), (35, 36, "closed_sets"), (36, 30, "next_closed"), (36, 36, "closed_sets"), (36, 44, "counts_from"), (38, 36, "closed_sets"), (39, 36, "closed_sets"), (42, 36, "closed_sets"), (48, 30, "firmness_by_counts"), (53, 35, "stem"), (53, 42, "row_with"), (54, 35, "stem"), (67, 44, "counts_from"), (68, 43, "down_sets"), (78, 36, "closed_sets"), (82, 41, "row_with"), (86, 35, "stem"), (89, 35, "stem"), (90, 43, "number_row"), (99, 36, "closed_sets"), (112, 41, "row_with"), (112, 43, "down_sets"), (122, 44, "counts_from"), (146, 34, "tree_of"), (149, 50, "_law_pseudo"), (184, 50, "_law_pseudo")]
/-- which code objects stand at which place (a lambda's name is told here) -/
def nuG : Nu := fun l c q => ∀ e ∈ lamTab, e.1 = l → e.2.1 = c → q = (Str.ofString e.2.2 ++ ".<locals>." ++ "<lambda>" : Str)
theorem nuG_no {l c : Nat} {q : Str} (h : (lamTab.any fun e => e.1 == l && e.2.1 == c) = false) : nuG l c q := fun e he e1 e2 => by
  have := List.any_eq_false.mp h e he
  simp [e1, e2] at this
theorem nuG_mk {l c : Nat} {x : String} {q : Str} (h : (lamTab.all fun e => !(e.1 == l && e.2.1 == c) || e.2.2 == x) = true) (hq : q = (Str.ofString x ++ ".<locals>." ++ "<lambda>" : Str)) : nuG l c q := fun e he e1 e2 => by
  have := List.all_eq_true.mp h e he
  simp only [e1, e2, beq_self_eq_true, Bool.and_self, Bool.not_true, Bool.false_or, beq_iff_eq] at this
  rw [hq, this]
theorem nuG_at {l c : Nat} {x : String} {q : Str} (h : nuG l c q) (hm : (lamTab.any fun e => e.1 == l && e.2.1 == c && e.2.2 == x) = true) : q = (Str.ofString x ++ ".<locals>." ++ "<lambda>" : Str) := by
  obtain ⟨e, he, h2⟩ := List.any_eq_true.mp hm
  simp only [Bool.and_eq_true, beq_iff_eq] at h2
  rw [h e he h2.1.1 h2.1.2, h2.2]
def TabD (ν : Nu) : Nat → Hp → Addr → Prop
  | 0, H, P => ∃ ps : Array Value, H P = some (.tbl ps) ∧ TriplesOk ps.toList
  | n + 1, H, P => ∃ ps : Array Value, H P = some (.tbl ps) ∧ TriplesOk ps.toList ∧ ∀ (pos : Pos) (cv : Value), codeAmong pos ps.toList = some cv → ∃ c' P' q, cv = .ref c' ∧ ν pos.line pos.col q ∧ H c' = some (CodeO c' P' q) ∧ TabD ν n H P'
theorem TabD.ext {ν : Nu} {H H' : Hp} (ht : ∀ b ps, H b = some (.tbl ps) → H' b = some (.tbl ps)) (hx : ∀ b φ, H b = some (.ext φ) → H' b = some (.ext φ)) : ∀ {n : Nat} {P : Addr}, TabD ν n H P → TabD ν n H' P
  | 0, _, ⟨ps, h, t⟩ => ⟨ps, ht _ _ h, t⟩
  | n + 1, _, ⟨ps, h, t, a⟩ => ⟨ps, ht _ _ h, t, fun pos cv e => let ⟨c', P', q, e1, e2, e3, e4⟩ := a pos cv e; ⟨c', P', q, e1, e2, hx _ _ e3, TabD.ext ht hx e4⟩⟩
theorem TabD.base {ν : Nu} {H : Hp} : ∀ {n : Nat} {P : Addr}, TabD ν n H P → ∃ ps : Array Value, H P = some (.tbl ps) ∧ TriplesOk ps.toList
  | 0, _, h => h
  | _ + 1, _, ⟨ps, h, t, _⟩ => ⟨ps, h, t⟩
theorem TabD.nil {ν : Nu} {H : Hp} {P : Addr} (h : H P = some (.tbl #[])) : ∀ n : Nat, TabD ν n H P
  | 0 => ⟨#[], h, True.intro⟩
  | n + 1 => ⟨#[], h, True.intro, fun pos cv z => by
    have z : codeAmong pos [] = some cv := z
    simp [codeAmong] at z⟩
/-- the tracked things stay, but for what stands in O and the tables, which grow -/
structure Stay (O : Addr → Prop) (H H' : Hp) : Prop where
  keep : ∀ b o, H b = some o → ¬ O b → (∀ ps, o ≠ .tbl ps) → H' b = some o
  there : ∀ b, H b ≠ none → H' b ≠ none
  tups : ∀ b xs, H b = some (.tup xs) → H' b = some (.tup xs)
  frzs : ∀ b o u, H b = some (.frz o u) → H' b = some (.frz o u)
  exts : ∀ b φ, H b = some (.ext φ) → H' b = some (.ext φ)
  tabs : ∀ n P, TabD nuG n H P → TabD nuG n H' P
theorem Stay.refl (O : Addr → Prop) (H : Hp) : Stay O H H := ⟨fun _ _ h _ _ => h, fun _ h => h, fun _ _ h => h, fun _ _ _ h => h, fun _ _ h => h, fun _ _ h => h⟩
theorem Stay.trans {O : Addr → Prop} {H H1 H2 : Hp} (a : Stay O H H1) (b : Stay O H1 H2) : Stay O H H2 :=
  ⟨fun c o h n t => b.keep c o (a.keep c o h n t) n t, fun c h => b.there c (a.there c h), fun c xs h => b.tups c xs (a.tups c xs h), fun c o u h => b.frzs c o u (a.frzs c o u h), fun c φ h => b.exts c φ (a.exts c φ h), fun n P h => b.tabs n P (a.tabs n P h)⟩
theorem Stay.mono {O O' : Addr → Prop} {H H1 : Hp} (a : Stay O H H1) (h : ∀ b, O b → O' b) : Stay O' H H1 :=
  ⟨fun c o e n t => a.keep c o e (fun z => n (h c z)) t, a.there, a.tups, a.frzs, a.exts, a.tabs⟩
abbrev No : Addr → Prop := fun _ => False
theorem Stay.of0 {O : Addr → Prop} {H H1 : Hp} (a : Stay No H H1) : Stay O H H1 := a.mono fun _ z => z.elim
/-- a new object -/
theorem Stay.new {H : Hp} {p : Addr} {o : HO} (hp : H p = none) : Stay No H (upd H p o) := by
  have ne : ∀ b u, H b = some u → b ≠ p := fun b u e => ne_of_none e hp
  refine ⟨fun b o h _ _ => by rw [upd_ne (ne b _ h)]; exact h, fun b h => ?_, fun b xs h => by rw [upd_ne (ne b _ h)]; exact h, fun b o u h => by rw [upd_ne (ne b _ h)]; exact h, fun b φ h => by rw [upd_ne (ne b _ h)]; exact h,
    fun n P h => h.ext (fun b ps e => by rw [upd_ne (ne b _ e)]; exact e) fun b φ e => by rw [upd_ne (ne b _ e)]; exact e⟩
  by_cases e : b = p
  · subst e; exact absurd hp h
  · rw [upd_ne e]; exact h
/-- a list written -/
theorem Stay.write {O : Addr → Prop} {H : Hp} {p : Addr} {xs ys : List V} (hp : H p = some (.lst xs)) (hO : O p) : Stay O H (upd H p (.lst ys)) := by
  refine ⟨fun b o h n _ => ?_, fun b h => ?_, fun b xs h => ?_, fun b o u h => ?_, fun b φ h => ?_, fun n P h => h.ext (fun b ps e => ?_) fun b φ e => ?_⟩
  · rw [upd_ne (fun e => n (by rw [e]; exact hO))]; exact h
  · by_cases e : b = p
    · subst e; rw [upd_same]; intro z; cases z
    · rw [upd_ne e]; exact h
  · rw [upd_ne (ne_of h hp (fun z => by cases z))]; exact h
  · rw [upd_ne (ne_of h hp (fun z => by cases z))]; exact h
  · rw [upd_ne (ne_of h hp (fun z => by cases z))]; exact h
  · rw [upd_ne (ne_of e hp (fun z => by cases z))]; exact e
  · rw [upd_ne (ne_of e hp (fun z => by cases z))]; exact e

section
variable {K : PySem.W.Frag} {H H' : Hp} {O O' : Addr → Prop}
theorem Stay.sqT (s : Stay O H H') {a : Addr} {xs : List V} (h : SqT K H a xs) : SqT K H' a xs := by
  rcases h with (h | ⟨o, h⟩) | h
  · exact .inl (.inl (s.tups _ _ h))
  · exact .inl (.inr ⟨o, s.frzs _ _ _ h⟩)
  · exact .inr h
theorem Stay.sqN (s : Stay O H H') {a : Addr} {xs : List V} (h : SqN K H a xs) : SqN K H' a xs := by
  rcases h with ⟨o, h, d⟩ | h
  · exact .inl ⟨o, s.frzs _ _ _ h, d⟩
  · exact .inr h
theorem Stay.rdL (s : Stay O H H') {a : Addr} {xs : List V} (n : ¬ O a) (h : Rd H a (.lst xs)) : Rd H' a (.lst xs) := by
  rcases h with h | ⟨o, h⟩
  · exact .inl (s.keep _ _ h n (fun ps z => by cases z))
  · exact .inr ⟨o, s.frzs _ _ _ h⟩
theorem Stay.rdF (s : Stay O' H H') (hO : ∀ b, O' b → O b) {a : Addr} {xs : List V} (n : ¬ O a ∨ ∃ o, H a = some (.frz o (.lst xs))) (h : Rd H a (.lst xs)) : Rd H' a (.lst xs) ∧ (¬ O a ∨ ∃ o, H' a = some (.frz o (.lst xs))) := by
  rcases n with n | ⟨o, z⟩
  · exact ⟨s.rdL (fun z => n (hO _ z)) h, .inl n⟩
  · exact ⟨.inr ⟨o, s.frzs _ _ _ z⟩, .inr ⟨o, s.frzs _ _ _ z⟩⟩
mutual
theorem RD.keep (s : Stay O' H H') (hO : ∀ b, O' b → O b) : ∀ {v : V} (d : PyData), RD K H O v d → RD K H' O v d
  | _, .none, r => by cases r; exact .non
  | _, .bool _, r => by cases r; exact .bl _
  | _, .int _, r => by cases r; exact .int _
  | _, .str _, r => by cases r; exact .str _
  | _, .list ds, r => by
    cases r with
    | lst h n rs => exact .lst (s.rdF hO n h).1 (s.rdF hO n h).2 (RDs.keep s hO ds rs)
  | _, .tuple ds, r => by
    cases r with
    | tup h rs => exact .tup (s.sqN h) (RDs.keep s hO ds rs)
  | _, .dict _, r => by cases r; exact .fn _
theorem RDs.keep (s : Stay O' H H') (hO : ∀ b, O' b → O b) : ∀ {vs : List V} (ds : List PyData), RDs K H O vs ds → RDs K H' O vs ds
  | _, [], r => by cases r; exact .nil
  | _, d :: ds, r => by
    cases r with
    | cons a b => exact .cons (RD.keep s hO d a) (RDs.keep s hO ds b)
end
mutual
theorem RD.mono (hO : ∀ b, O' b → O b) : ∀ {v : V} (d : PyData), RD K H O v d → RD K H O' v d
  | _, .none, r => by cases r; exact .non
  | _, .bool _, r => by cases r; exact .bl _
  | _, .int _, r => by cases r; exact .int _
  | _, .str _, r => by cases r; exact .str _
  | _, .list ds, r => by
    cases r with
    | lst h n rs => exact .lst h (n.imp_left fun n z => n (hO _ z)) (RDs.mono hO ds rs)
  | _, .tuple ds, r => by
    cases r with
    | tup h rs => exact .tup h (RDs.mono hO ds rs)
  | _, .dict _, r => by cases r; exact .fn _
theorem RDs.mono (hO : ∀ b, O' b → O b) : ∀ {vs : List V} (ds : List PyData), RDs K H O vs ds → RDs K H O' vs ds
  | _, [], r => by cases r; exact .nil
  | _, d :: ds, r => by
    cases r with
    | cons a b => exact .cons (RD.mono hO d a) (RDs.mono hO ds b)
end
mutual
/-- no list within -/
def lf : PyData → Bool
  | .none | .bool _ | .int _ | .str _ => true
  | .list _ => false
  | .tuple xs => lfs xs
  | .dict _ => false
def lfs : List PyData → Bool
  | [] => true
  | x :: xs => lf x && lfs xs
end
mutual
theorem RD.free : ∀ {v : V} (d : PyData), lf d = true → RD K H O v d → RD K H O' v d
  | _, .none, _, r => by cases r; exact .non
  | _, .bool _, _, r => by cases r; exact .bl _
  | _, .int _, _, r => by cases r; exact .int _
  | _, .str _, _, r => by cases r; exact .str _
  | _, .list ds, h, _ => by simp [lf] at h
  | _, .tuple ds, h, r => by
    cases r with
    | tup q rs => exact .tup q (RDs.free ds (by simpa [lf] using h) rs)
  | _, .dict _, h, _ => by simp [lf] at h
theorem RDs.free : ∀ {vs : List V} (ds : List PyData), lfs ds = true → RDs K H O vs ds → RDs K H O' vs ds
  | _, [], _, r => by cases r; exact .nil
  | _, d :: ds, h, r => by
    simp only [lfs, Bool.and_eq_true] at h
    cases r with
    | cons a b => exact .cons (RD.free d h.1 a) (RDs.free ds h.2 b)
end
mutual
/-- no def within -/
def nd : PyData → Bool
  | .none | .bool _ | .int _ | .str _ => true
  | .list xs | .tuple xs => nds xs
  | .dict _ => false
def nds : List PyData → Bool
  | [] => true
  | x :: xs => nd x && nds xs
end
mutual
theorem nd_lay : ∀ d : PyData, d.canLay0 = true → nd d = true
  | .none, _ => rfl
  | .bool _, _ => rfl
  | .int _, _ => rfl
  | .str _, _ => rfl
  | .list xs, h => nds_lay xs h
  | .tuple xs, h => nds_lay xs h
  | .dict _, h => by cases h
theorem nds_lay : ∀ ds : List PyData, PyData.canLayAll0 ds = true → nds ds = true
  | [], _ => rfl
  | d :: ds, h => by
    have h : (d.canLay0 && PyData.canLayAll0 ds) = true := h
    rw [Bool.and_eq_true] at h
    show (nd d && nds ds) = true
    rw [nd_lay d h.1, nds_lay ds h.2]; rfl
end
theorem nd_shaped {d : PyData} (h : SeqAt.shaped d = true) : nd d = true := nd_lay d (SeqAt.canLay_of_shaped h)
mutual
theorem nd_alike : ∀ x : PyData, PySem.W.alike x x = true → nd x = true
  | .none, _ => rfl
  | .bool _, _ => rfl
  | .int _, _ => rfl
  | .str _, _ => rfl
  | .list xs, h => nds_alike xs h
  | .tuple xs, h => nds_alike xs h
  | .dict _, h => by cases h
theorem nds_alike : ∀ xs : List PyData, PySem.W.alikeAll xs xs = true → nds xs = true
  | [], _ => rfl
  | x :: xs, h => by
    obtain ⟨h1, h2⟩ := PySem.W.alike_all_cons h
    show (nd x && nds xs) = true
    rw [nd_alike x h1, nds_alike xs h2]; rfl
end
theorem nds_of : ∀ {ds : List PyData}, (∀ d ∈ ds, nd d = true) → nds ds = true
  | [], _ => rfl
  | d :: ds, h => by
    show (nd d && nds ds) = true
    rw [h d List.mem_cons_self, nds_of fun d hd => h d (List.mem_cons_of_mem _ hd)]; rfl
mutual
theorem RD.dp : ∀ {v : V} (d : PyData), nd d = true → RD K H O v d → Dp K H v d
  | _, .none, _, r => by cases r; exact .non
  | _, .bool _, _, r => by cases r; exact .bl _
  | _, .int _, _, r => by cases r; exact .int _
  | _, .str _, _, r => by cases r; exact .str _
  | _, .list ds, hn, r => by
    cases r with
    | lst h n rs => exact .lst (.inl h) (RDs.dp ds hn rs)
  | _, .tuple ds, hn, r => by
    cases r with
    | tup h rs => exact .tup h (RDs.dp ds hn rs)
  | _, .dict _, h, _ => by cases h
theorem RDs.dp : ∀ {vs : List V} (ds : List PyData), nds ds = true → RDs K H O vs ds → DpAll K H vs ds
  | _, [], _, r => by cases r; exact .nil
  | _, d :: ds, h, r => by
    have h : (nd d && nds ds) = true := h
    rw [Bool.and_eq_true] at h
    cases r with
    | cons a b => exact .cons (RD.dp d h.1 a) (RDs.dp ds h.2 b)
end
theorem RDs.length : ∀ {vs : List V} {ds : List PyData}, RDs K H O vs ds → vs.length = ds.length
  | _, _, .nil => rfl
  | _, _, .cons _ t => by simp [RDs.length t]
theorem RDs.get : ∀ {vs : List V} {ds : List PyData} {i : Nat} {d : PyData}, RDs K H O vs ds → ds[i]? = some d → ∃ v, vs[i]? = some v ∧ RD K H O v d
  | _, _, _, _, .nil, e => by simp at e
  | _, _, 0, _, .cons r _, e => by simp at e; subst e; exact ⟨_, rfl, r⟩
  | _, _, i + 1, d, .cons _ t, e => by
    obtain ⟨v, h1, h2⟩ := RDs.get (i := i) (d := d) t (by simpa using e)
    exact ⟨v, by simpa using h1, h2⟩
theorem RDs.get' : ∀ {vs : List V} {ds : List PyData} {i : Nat} {v : V}, RDs K H O vs ds → vs[i]? = some v → ∃ d, ds[i]? = some d ∧ RD K H O v d
  | _, _, _, _, .nil, e => by simp at e
  | _, _, 0, _, .cons r _, e => by simp at e; subst e; exact ⟨_, rfl, r⟩
  | _, _, i + 1, d, .cons _ t, e => by
    obtain ⟨v, h1, h2⟩ := RDs.get' (i := i) (v := d) t (by simpa using e)
    exact ⟨v, by simpa using h1, h2⟩
theorem RDs.append : ∀ {vs ws : List V} {ds es : List PyData}, RDs K H O vs ds → RDs K H O ws es → RDs K H O (vs ++ ws) (ds ++ es)
  | _, _, _, _, .nil, s => s
  | _, _, _, _, .cons r t, s => .cons r (RDs.append t s)
theorem RDs.take : ∀ (n : Nat) {vs : List V} {ds : List PyData}, RDs K H O vs ds → RDs K H O (vs.take n) (ds.take n)
  | 0, _, _, _ => .nil
  | _ + 1, _, _, .nil => .nil
  | n + 1, _, _, .cons r t => .cons r (RDs.take n t)
theorem RDs.drop : ∀ (n : Nat) {vs : List V} {ds : List PyData}, RDs K H O vs ds → RDs K H O (vs.drop n) (ds.drop n)
  | 0, _, _, r => r
  | _ + 1, _, _, .nil => .nil
  | n + 1, _, _, .cons _ t => RDs.drop n t
theorem RDs.set : ∀ (i : Nat) {vs : List V} {ds : List PyData} {v : V} {d : PyData}, RDs K H O vs ds → RD K H O v d → RDs K H O (vs.set i v) (ds.set i d)
  | _, _, _, _, _, .nil, _ => .nil
  | 0, _, _, _, _, .cons _ t, q => .cons q t
  | i + 1, _, _, _, _, .cons r t, q => .cons r (RDs.set i t q)
theorem RDs.one {v : V} {d : PyData} (h : RD K H O v d) : RDs K H O [v] [d] := .cons h .nil
theorem RDs.reverse : ∀ {vs : List V} {ds : List PyData}, RDs K H O vs ds → RDs K H O vs.reverse ds.reverse
  | _, _, .nil => .nil
  | _, _, .cons r t => by
    rw [List.reverse_cons, List.reverse_cons]
    exact (RDs.reverse t).append (.one r)
theorem RDs.dropLast {vs : List V} {ds : List PyData} (h : RDs K H O vs ds) : RDs K H O vs.dropLast ds.dropLast := by
  rw [List.dropLast_eq_take, List.dropLast_eq_take, h.length]
  exact RDs.take _ h
theorem RDs.ints : ∀ {vs : List V} (ns : List Int), RDs K H O vs (ns.map PyData.int) → vs = ns.map V.int
  | _, [], r => by cases r; rfl
  | _, n :: ns, r => by
    cases r with
    | cons a b =>
      cases a
      rw [RDs.ints ns b]
      rfl
theorem RDs.of_ints : ∀ (ns : List Int), RDs K H O (ns.map V.int) (ns.map PyData.int)
  | [] => .nil
  | n :: ns => .cons (.int n) (RDs.of_ints ns)
end

section
variable {K : PySem.W.Frag} {H H' : Hp} {O O' : Addr → Prop}
mutual
/-- what is not yet there is leant on by nothing -/
theorem RD.fresh {p : Addr} (hp : H p = none) : ∀ {v : V} (d : PyData), RD K H O v d → RD K H (fun b => O b ∨ b = p) v d
  | _, .none, r => by cases r; exact .non
  | _, .bool _, r => by cases r; exact .bl _
  | _, .int _, r => by cases r; exact .int _
  | _, .str _, r => by cases r; exact .str _
  | _, .list ds, r => by
    cases r with
    | lst h n rs =>
      refine .lst h (n.imp_left fun n z => ?_) (RDs.fresh hp ds rs)
      rcases z with z | z
      · exact n z
      · subst z
        rcases h with h | ⟨o, h⟩ <;> rw [hp] at h <;> cases h
  | _, .tuple ds, r => by
    cases r with
    | tup h rs => exact .tup h (RDs.fresh hp ds rs)
  | _, .dict _, r => by cases r; exact .fn _
theorem RDs.fresh {p : Addr} (hp : H p = none) : ∀ {vs : List V} (ds : List PyData), RDs K H O vs ds → RDs K H (fun b => O b ∨ b = p) vs ds
  | _, [], r => by cases r; exact .nil
  | _, d :: ds, r => by
    cases r with
    | cons a b => exact .cons (RD.fresh hp d a) (RDs.fresh hp ds b)
end
end

/-! ### slots -/
/-- a slot's content: a datum, or a list of one's own (nothing else leans on it: it may be written) -/
inductive Sl where
  | val (d : PyData)
  | own (ds : List PyData)
  /-- a dict of one's own: its keys are ints; tuples of ints -/
  | dK (kvs : List (Int × PyData))
  | dT (kvs : List (List Int × PyData))
abbrev Dn := List (Option Sl)
def Sl.mine : Sl → Bool
  | .val _ => false
  | _ => true
def Sl.isD : Sl → Bool
  | .dK _ => true
  | .dT _ => true
  | _ => false
theorem Sl.isD_mine {s : Sl} (h : s.isD = true) : s.mine = true := by cases s <;> first | rfl | cases h
def ownAt (st : Dn) (σ : L2.St) (i : Nat) (b : Addr) : Prop := (∃ s, st[i]? = some (some s) ∧ Sl.mine s = true) ∧ σ[i]? = some (some (V.ref b))
/-- what a dict's object holds: leaves alone -/
abbrev DKs (K : PySem.W.Frag) (H : Hp) : List (Key × V) → List (Int × PyData) → Prop := Paired fun p q => p.1 = Sum.inl q.1 ∧ lf q.2 = true ∧ RD K H (fun _ => True) p.2 q.2
abbrev DTs (K : PySem.W.Frag) (H : Hp) : List (List Key × V) → List (List Int × PyData) → Prop := Paired fun p q => p.1 = q.1.map Sum.inl ∧ lf q.2 = true ∧ RD K H (fun _ => True) p.2 q.2
def DIs (K : PySem.W.Frag) (H : Hp) (o : HO) : Sl → Prop
  | .dK kvs => ∃ kv, o = .dK kv ∧ DKs K H kv kvs
  | .dT kvs => ∃ kv, o = .dT kv ∧ DTs K H kv kvs
  | _ => False
theorem Paired.impP {α β : Type} {F G : α → β → Prop} (h : ∀ a b, F a b → G a b) : ∀ {xs : List α} {ys : List β}, Paired F xs ys → Paired G xs ys
  | _, _, .nil => .nil
  | _, _, .cons a b => .cons (h _ _ a) (Paired.impP h b)
theorem DIs.keep {K : PySem.W.Frag} {O : Addr → Prop} {H H1 : Hp} {o : HO} (s : Stay O H H1) : ∀ {x : Sl}, DIs K H o x → DIs K H1 o x
  | .dK _, ⟨kv, e, r⟩ => ⟨kv, e, Paired.impP (fun a b ⟨h1, h2, h3⟩ => ⟨h1, h2, RD.keep s (fun _ _ => trivial) _ h3⟩) r⟩
  | .dT _, ⟨kv, e, r⟩ => ⟨kv, e, Paired.impP (fun a b ⟨h1, h2, h3⟩ => ⟨h1, h2, RD.keep s (fun _ _ => trivial) _ h3⟩) r⟩
  | .val _, h => h.elim
  | .own _, h => h.elim
theorem DIs.tbl {K : PySem.W.Frag} {H : Hp} {o : HO} : ∀ {x : Sl}, DIs K H o x → ∀ ps, o ≠ .tbl ps
  | .dK _, ⟨kv, e, r⟩, ps, z => by rw [e] at z; cases z
  | .dT _, ⟨kv, e, r⟩, ps, z => by rw [e] at z; cases z
  | .val _, h, _, _ => h.elim
  | .own _, h, _, _ => h.elim
/-- forbidden: the callers' lists, and one's own but those at rs -/
def Ob (Out : Addr → Prop) (st : Dn) (σ : L2.St) (rs : List Nat) : Addr → Prop := fun b => Out b ∨ ∃ i, i ∉ rs ∧ ownAt st σ i b
/-- one's own lists at ch -/
def Ow (st : Dn) (σ : L2.St) (ch : List Nat) : Addr → Prop := fun b => ∃ i, i ∈ ch ∧ ownAt st σ i b
structure Rep (K : PySem.W.Frag) (Out : Addr → Prop) (st : Dn) (σ : L2.St) (H : Hp) : Prop where
  len : st.length = σ.length
  out : ∀ b, Out b → H b ≠ none
  val : ∀ (i : Nat) (d : PyData), st[i]? = some (some (Sl.val d)) → ∃ v, σ[i]? = some (some v) ∧ RD K H (Ob Out st σ []) v d
  own : ∀ (i : Nat) (ds : List PyData), st[i]? = some (some (Sl.own ds)) → ∃ a vs, σ[i]? = some (some (V.ref a)) ∧ ¬ Out a ∧ H a = some (.lst vs) ∧ RDs K H (Ob Out st σ []) vs ds
  dct : ∀ (i : Nat) (x : Sl), st[i]? = some (some x) → x.isD = true → ∃ a o, σ[i]? = some (some (V.ref a)) ∧ ¬ Out a ∧ H a = some o ∧ DIs K H o x
  sep : ∀ (i j : Nat) (a : Addr), ownAt st σ i a → ownAt st σ j a → i = j
/-- what is known of the tables: it stays -/
structure Tbs where
  p : Hp → Prop
  mono : ∀ {O : Addr → Prop} {H H' : Hp}, Stay O H H' → p H → p H'
def TH (T : Tbs) (H : Hp) : Prop := T.p H

section
variable {K : PySem.W.Frag} {T : Tbs} {Out : Addr → Prop} {st st1 st2 : Dn} {σ σ1 σ2 : L2.St} {H H1 H2 : Hp} {rs rs' ch ch1 ch2 : List Nat} {a : Addr}
theorem Rep.ownLst (R : Rep K Out st σ H) {i : Nat} {b : Addr} (h : ownAt st σ i b) : ∃ x o, st[i]? = some (some x) ∧ H b = some o ∧ ¬ Out b ∧ ∀ ps, o ≠ .tbl ps := by
  obtain ⟨⟨x, e, hm⟩, e2⟩ := h
  cases x with
  | val d => cases hm
  | own ds =>
    obtain ⟨a, vs, q1, q2, q3, q4⟩ := R.own i ds e
    rw [e2] at q1
    cases q1
    exact ⟨_, _, e, q3, q2, fun ps z => by cases z⟩
  | dK kvs =>
    obtain ⟨a, o, q1, q2, q3, q4⟩ := R.dct i _ e rfl
    rw [e2] at q1
    cases q1
    exact ⟨_, _, e, q3, q2, q4.tbl⟩
  | dT kvs =>
    obtain ⟨a, o, q1, q2, q3, q4⟩ := R.dct i _ e rfl
    rw [e2] at q1
    cases q1
    exact ⟨_, _, e, q3, q2, q4.tbl⟩
theorem Rep.obThere (R : Rep K Out st σ H) : ∀ b, Ob Out st σ rs b → H b ≠ none := fun b h => by
  rcases h with h | ⟨i, _, h⟩
  · exact R.out b h
  · obtain ⟨_, _, _, e, _⟩ := R.ownLst h
    rw [e]; intro z; cases z
theorem TH.stay {O : Addr → Prop} (t : TH T H) (s : Stay O H H1) : TH T H1 := T.mono s t
theorem Ob.mono (h : ∀ i, i ∈ rs → i ∈ rs') : ∀ b, Ob Out st σ rs' b → Ob Out st σ rs b := fun b z => by
  rcases z with z | ⟨i, n, z⟩
  · exact .inl z
  · exact .inr ⟨i, fun m => n (h i m), z⟩
/-- the heap has grown: nothing of ours is written -/
theorem Rep.grow (R : Rep K Out st σ H) (s : Stay No H H1) : Rep K Out st σ H1 := by
  refine ⟨R.len, fun b h => s.there b (R.out b h), fun i d e => ?_, fun i ds e => ?_, fun i x e hx => ?_, R.sep⟩
  · obtain ⟨v, q1, q2⟩ := R.val i d e
    exact ⟨v, q1, q2.keep s fun _ z => z.elim⟩
  · obtain ⟨a, vs, q1, q2, q3, q4⟩ := R.own i ds e
    exact ⟨a, vs, q1, q2, s.keep _ _ q3 (fun z => z) (fun ps z => by cases z), q4.keep s fun _ z => z.elim⟩
  · obtain ⟨a, o, q1, q2, q3, q4⟩ := R.dct i x e hx
    exact ⟨a, o, q1, q2, s.keep _ _ q3 (fun z => z) q4.tbl, q4.keep s⟩

def OutA (Out : Addr → Prop) (a : Addr) : Addr → Prop := fun b => Out b ∨ b = a
theorem obA {a : Addr} : ∀ b, Ob (OutA Out a) st σ rs b → Ob Out st σ rs b ∨ b = a := fun b z => by
  rcases z with (z | z) | z
  · exact .inl (.inl z)
  · exact .inr z
  · exact .inl (.inr z)
theorem obA' {a : Addr} : ∀ b, Ob Out st σ rs b → Ob (OutA Out a) st σ rs b := fun b z => by
  rcases z with z | z
  · exact .inl (.inl z)
  · exact .inr z
/-- a new object is laid: nothing leans on it -/
theorem Rep.new (R : Rep K Out st σ H) {p : Addr} {o : HO} (hp : H p = none) : Rep K (OutA Out p) st σ (upd H p o) := by
  have s : Stay No H (upd H p o) := Stay.new hp
  refine ⟨R.len, fun b h => ?_, fun i d e => ?_, fun i ds e => ?_, fun i x e hx => ?_, R.sep⟩
  · rcases h with h | rfl
    · exact s.there b (R.out b h)
    · rw [upd_same]; intro z; cases z
  · obtain ⟨v, q1, q2⟩ := R.val i d e
    exact ⟨v, q1, RD.keep s (fun _ z => z.elim) d (RD.mono (fun b z => obA b z) d (q2.fresh hp))⟩
  · obtain ⟨a, vs, q1, q2, q3, q4⟩ := R.own i ds e
    refine ⟨a, vs, q1, fun z => ?_, s.keep _ _ q3 (fun z => z) (fun ps z => by cases z), RDs.keep s (fun _ z => z.elim) ds (RDs.mono (fun b z => obA b z) ds (q4.fresh hp))⟩
    rcases z with z | z
    · exact q2 z
    · rw [z, hp] at q3; cases q3
  · obtain ⟨a, o, q1, q2, q3, q4⟩ := R.dct i x e hx
    refine ⟨a, o, q1, fun z => ?_, s.keep _ _ q3 (fun z => z) q4.tbl, q4.keep s⟩
    rcases z with z | z
    · exact q2 z
    · rw [z, hp] at q3; cases q3
theorem Rep.unA (R : Rep K (OutA Out a) st σ H) : Rep K Out st σ H := by
  refine ⟨R.len, fun b h => R.out b (.inl h), fun i d e => ?_, fun i ds e => ?_, fun i x e hx => ?_, R.sep⟩
  · obtain ⟨v, q1, q2⟩ := R.val i d e
    exact ⟨v, q1, RD.mono obA' d q2⟩
  · obtain ⟨a, vs, q1, q2, q3, q4⟩ := R.own i ds e
    exact ⟨a, vs, q1, fun z => q2 (.inl z), q3, RDs.mono obA' ds q4⟩
  · obtain ⟨a, o, q1, q2, q3, q4⟩ := R.dct i x e hx
    exact ⟨a, o, q1, fun z => q2 (.inl z), q3, q4⟩

/-! ### expressions -/
structure EPost (K : PySem.W.Frag) (T : Tbs) (Out : Addr → Prop) (σ : L2.St) (st : Dn) (H : Hp) (ch : List Nat) (st' : Dn) (H' : Hp) : Prop where
  th : TH T H'
  rep : Rep K Out st' σ H'
  stay : Stay (Ow st σ ch) H H'
  same : ∀ (i : Nat), i ∉ ch → st'[i]? = st[i]?
  sub : ∀ i b, ownAt st' σ i b → ownAt st σ i b
theorem EPost.refl (t : TH T H) (R : Rep K Out st σ H) : EPost K T Out σ st H ch st H := ⟨t, R, Stay.refl _ _, fun _ _ => rfl, fun _ _ h => h⟩
theorem EPost.grow (t : TH T H) (R : Rep K Out st σ H) (s : Stay No H H1) : EPost K T Out σ st H ch st H1 := ⟨t.stay s, R.grow s, s.of0, fun _ _ => rfl, fun _ _ h => h⟩
theorem EPost.trans (a : EPost K T Out σ st H ch1 st1 H1) (b : EPost K T Out σ st1 H1 ch2 st2 H2) : EPost K T Out σ st H (ch1 ++ ch2) st2 H2 := by
  refine ⟨b.th, b.rep, (a.stay.mono fun c ⟨i, m, h⟩ => ⟨i, List.mem_append_left _ m, h⟩).trans (b.stay.mono fun c ⟨i, m, h⟩ => ⟨i, List.mem_append_right _ m, a.sub i c h⟩), fun i n => ?_, fun i c h => a.sub i c (b.sub i c h)⟩
  rw [List.mem_append, not_or] at n
  exact (b.same i n.2).trans (a.same i n.1)
theorem EPost.mono (a : EPost K T Out σ st H ch1 st1 H1) (h : ∀ i, i ∈ ch1 → i ∈ ch2) : EPost K T Out σ st H ch2 st1 H1 :=
  ⟨a.th, a.rep, a.stay.mono fun c ⟨i, m, q⟩ => ⟨i, h i m, q⟩, fun i n => a.same i fun z => n (h i z), a.sub⟩
theorem EPost.then (a : EPost K T Out σ st H ch st1 H1) (s : Stay No H1 H2) : EPost K T Out σ st H ch st1 H2 :=
  ⟨a.th.stay s, a.rep.grow s, a.stay.trans s.of0, a.same, a.sub⟩
def Dj (rs ch : List Nat) : Prop := ∀ i, i ∈ rs → i ∈ ch → False
theorem Dj.nilL : Dj [] ch := fun _ h => nomatch h
theorem Dj.nilR : Dj rs [] := fun _ _ h => nomatch h
/-- what was read before stays -/
theorem EPost.rd (b : EPost K T Out σ st1 H1 ch2 st2 H2) (dj : Dj rs ch2) {v : V} {d : PyData} (r : RD K H1 (Ob Out st1 σ rs) v d) : RD K H2 (Ob Out st2 σ rs) v d := by
  refine RD.mono (fun c h => ?_) d (RD.keep b.stay (fun c ⟨i, m, h⟩ => .inr ⟨i, fun z => dj i z m, h⟩) d r)
  rcases h with h | ⟨i, n, h⟩
  · exact .inl h
  · exact .inr ⟨i, n, b.sub i c h⟩
theorem EPost.rds (b : EPost K T Out σ st1 H1 ch2 st2 H2) (dj : Dj rs ch2) {v : List V} {d : List PyData} (r : RDs K H1 (Ob Out st1 σ rs) v d) : RDs K H2 (Ob Out st2 σ rs) v d := by
  refine RDs.mono (fun c h => ?_) d (RDs.keep b.stay (fun c ⟨i, m, h⟩ => .inr ⟨i, fun z => dj i z m, h⟩) d r)
  rcases h with h | ⟨i, n, h⟩
  · exact .inl h
  · exact .inr ⟨i, n, b.sub i c h⟩
end

abbrev M (α : Type) := Dn → Option (α × Dn)
def tE (K : PySem.W.Frag) (T : Tbs) (rs ch : List Nat) (f : M PyData) : TE := fun σ H Q => ∃ Out st d st', TH T H ∧ Rep K Out st σ H ∧ f st = some (d, st') ∧
  ∀ v H', EPost K T Out σ st H ch st' H' → RD K H' (Ob Out st' σ rs) v d → Q v H'
/-- tests -/
def tT (K : PySem.W.Frag) (T : Tbs) (ch : List Nat) (f : M Bool) : TT := fun σ H Q => ∃ Out st d st', TH T H ∧ Rep K Out st σ H ∧ f st = some (d, st') ∧
  ∀ H', EPost K T Out σ st H ch st' H' → Q d H'
/-- a new list: nothing else leans on it -/
def tF (K : PySem.W.Frag) (T : Tbs) (rs ch : List Nat) (f : M (List PyData)) : TE := fun σ H Q => ∃ Out st ds st', TH T H ∧ Rep K Out st σ H ∧ f st = some (ds, st') ∧
  ∀ a vs H', EPost K T Out σ st H ch st' H' → Rep K (OutA Out a) st' σ H' → H a = none → H' a = some (.lst vs) → RDs K H' (Ob (OutA Out a) st' σ rs) vs ds → Q (.ref a) H'
abbrev SE (X : Cx) (T : Tbs) (rs ch : List Nat) (e : Expr) (f : M PyData) : Prop := PE X e (tE X.K T rs ch f)
abbrev ST (X : Cx) (T : Tbs) (ch : List Nat) (e : Expr) (f : M Bool) : Prop := PT X e (tT X.K T ch f)
abbrev SW (X : Cx) (T : Tbs) (ch : List Nat) (e : Expr) (f : M Bool) : Prop := PW X e (tT X.K T ch f)
abbrev SF (X : Cx) (T : Tbs) (rs ch : List Nat) (e : Expr) (f : M (List PyData)) : Prop := PE X e (tF X.K T rs ch f)
theorem PE.imp {X : Cx} {e : Expr} {t t' : TE} (h : PE X e t) (i : ∀ σ H Q, t' σ H Q → t σ H Q) : PE X e t' := ⟨fun pins s σ H Q I q => h.run pins s σ H Q I (i σ H Q q)⟩
theorem PT.imp {X : Cx} {e : Expr} {t t' : TT} (h : PT X e t) (i : ∀ σ H Q, t' σ H Q → t σ H Q) : PT X e t' := ⟨fun pins s σ H Q I q => h.run pins s σ H Q I (i σ H Q q)⟩
theorem PW.imp {X : Cx} {e : Expr} {t t' : TT} (h : PW X e t) (i : ∀ σ H Q, t' σ H Q → t σ H Q) : PW X e t' := ⟨fun wh pins s σ H Q I q => h.run wh pins s σ H Q I (i σ H Q q)⟩
theorem PS.imp {X : Cx} {e : Stmt} {t t' : TS} (h : PS X e t) (i : ∀ D σ H, t' D σ H → t D σ H) : PS X e t' := ⟨fun pins s σ H Q I q => h.run pins s σ H Q I (i Q σ H q)⟩
theorem PSs.imp {X : Cx} {e : List Stmt} {t t' : TS} (h : PSs X e t) (i : ∀ D σ H, t' D σ H → t D σ H) : PSs X e t' := ⟨fun pins s σ H Q I q => h.run pins s σ H Q I (i Q σ H q)⟩

/-! ### statements -/
inductive Fl where
  | nx | rt (d : PyData) | bk | ct
structure SPost (K : PySem.W.Frag) (T : Tbs) (Out : Addr → Prop) (st : Dn) (σ : L2.St) (H : Hp) (asg ch : List Nat) (st' : Dn) (σ' : L2.St) (H' : Hp) : Prop where
  th : TH T H'
  rep : Rep K Out st' σ' H'
  stay : Stay (Ow st σ ch) H H'
  same : ∀ (i : Nat), i ∉ ch → i ∉ asg → st'[i]? = st[i]?
  sg : ∀ (i : Nat), i ∉ asg → σ'[i]? = σ[i]?
  own : ∀ i b, ownAt st' σ' i b → ownAt st σ i b ∨ H b = none
def fin (K : PySem.W.Frag) (Out : Addr → Prop) (st' : Dn) (σ' : L2.St) (H' : Hp) (D : Ends) : Fl → Prop
  | .nx => D.nx σ' H'
  | .bk => D.bk σ' H'
  | .ct => D.ct σ' H'
  | .rt d => ∀ v, RD K H' (Ob Out st' σ' []) v d → D.rt v H'
def tS (K : PySem.W.Frag) (T : Tbs) (asg ch : List Nat) (f : M Fl) : TS := fun D σ H => ∃ Out st fl st', TH T H ∧ Rep K Out st σ H ∧ f st = some (fl, st') ∧
  ∀ σ' H', SPost K T Out st σ H asg ch st' σ' H' → fin K Out st' σ' H' D fl
abbrev SS (X : Cx) (T : Tbs) (asg ch : List Nat) (s : Stmt) (f : M Fl) : Prop := PS X s (tS X.K T asg ch f)
abbrev SSs (X : Cx) (T : Tbs) (asg ch : List Nat) (s : List Stmt) (f : M Fl) : Prop := PSs X s (tS X.K T asg ch f)
section
variable {K : PySem.W.Frag} {T : Tbs} {Out : Addr → Prop} {st st1 st2 : Dn} {σ σ1 σ2 : L2.St} {H H1 H2 : Hp} {rs rs' ch ch1 ch2 as1 as2 : List Nat}
theorem SPost.refl (t : TH T H) (R : Rep K Out st σ H) : SPost K T Out st σ H as1 ch st σ H := ⟨t, R, Stay.refl _ _, fun _ _ _ => rfl, fun _ _ => rfl, fun _ _ h => .inl h⟩
theorem SPost.trans (a : SPost K T Out st σ H as1 ch1 st1 σ1 H1) (b : SPost K T Out st1 σ1 H1 as2 ch2 st2 σ2 H2) : SPost K T Out st σ H (as1 ++ as2) (ch1 ++ ch2) st2 σ2 H2 := by
  have key : ∀ c o, H c = some o → ¬ Ow st σ (ch1 ++ ch2) c → ¬ Ow st1 σ1 ch2 c := fun c o e n ⟨i, m, h⟩ => by
    rcases a.own i c h with q | q
    · exact n ⟨i, List.mem_append_right _ m, q⟩
    · rw [e] at q; cases q
  have key1 : ∀ c, ¬ Ow st σ (ch1 ++ ch2) c → ¬ Ow st σ ch1 c := fun c n ⟨i, m, h⟩ => n ⟨i, List.mem_append_left _ m, h⟩
  refine ⟨b.th, b.rep, ⟨fun c o e n t => b.stay.keep c o (a.stay.keep c o e (key1 c n) t) (key c o e n) t, fun c h => b.stay.there c (a.stay.there c h), fun c xs h => b.stay.tups c xs (a.stay.tups c xs h), fun c o u h => b.stay.frzs c o u (a.stay.frzs c o u h), fun c φ h => b.stay.exts c φ (a.stay.exts c φ h), fun n P h => b.stay.tabs n P (a.stay.tabs n P h)⟩,
    fun i n m => ?_, fun i n => ?_, fun i c h => ?_⟩
  · rw [List.mem_append, not_or] at n m
    exact (b.same i n.2 m.2).trans (a.same i n.1 m.1)
  · rw [List.mem_append, not_or] at n
    exact (b.sg i n.2).trans (a.sg i n.1)
  · rcases b.own i c h with q | q
    · exact a.own i c q
    · refine .inr ?_
      cases e : H c with
      | none => rfl
      | some o => exact absurd q (a.stay.there c (by rw [e]; intro z; cases z))
theorem SPost.mono (a : SPost K T Out st σ H as1 ch1 st1 σ1 H1) (h1 : ∀ i, i ∈ as1 → i ∈ as2) (h2 : ∀ i, i ∈ ch1 → i ∈ ch2) : SPost K T Out st σ H as2 ch2 st1 σ1 H1 :=
  ⟨a.th, a.rep, a.stay.mono fun c ⟨i, m, q⟩ => ⟨i, h2 i m, q⟩, fun i n m => a.same i (fun z => n (h2 i z)) fun z => m (h1 i z), fun i n => a.sg i fun z => n (h1 i z), a.own⟩
theorem EPost.s (a : EPost K T Out σ st H ch st1 H1) : SPost K T Out st σ H [] ch st1 σ H1 :=
  ⟨a.th, a.rep, a.stay, fun i n _ => a.same i n, fun _ _ => rfl, fun i b h => .inl (a.sub i b h)⟩
end
end LH

set_option Elab.async false
set_option linter.all false
set_option maxRecDepth 100000
set_option maxHeartbeats 2000000
/-! Lh2: names, constants, operators, comparisons, tests, displays -/
namespace LH
open PySem PySem.Spec PyProof.Rows L2

/-! ### denotations -/
def vr (i : Nat) : M PyData := fun st => match st[i]? with
  | some (some (.val d)) => some (d, st)
  | _ => none
def vo (i : Nat) : M PyData := fun st => match st[i]? with
  | some (some (.own ds)) => some (.list ds, st)
  | some (some (.val d)) => some (d, st)
  | _ => none
def cst (d : PyData) : M PyData := fun st => some (d, st)
def bnd {α β : Type} (f : M α) (g : α → M β) : M β := fun st => match f st with
  | some (a, st1) => g a st1
  | none => none
def lift1 {α : Type} (op : PyData → Option α) (f : M PyData) : M α := fun st => match f st with
  | some (a, st1) => (match op a with
    | some d => some (d, st1)
    | none => none)
  | none => none
def lift2 {α : Type} (op : PyData → PyData → Option α) (f g : M PyData) : M α := fun st => match f st with
  | some (a, st1) => (match g st1 with
    | some (b, st2) => (match op a b with
      | some d => some (d, st2)
      | none => none)
    | none => none)
  | none => none
theorem lift1_some {α : Type} {op : PyData → Option α} {f : M PyData} {st st1 : Dn} {d : α} (h : lift1 op f st = some (d, st1)) : ∃ a, f st = some (a, st1) ∧ op a = some d := by
  unfold lift1 at h
  split at h
  · rename_i a st1' e
    split at h
    · rename_i d' e2
      cases h
      exact ⟨a, e, e2⟩
    · cases h
  · cases h
theorem lift2_some {α : Type} {op : PyData → PyData → Option α} {f g : M PyData} {st st2 : Dn} {d : α} (h : lift2 op f g st = some (d, st2)) : ∃ a st1 b, f st = some (a, st1) ∧ g st1 = some (b, st2) ∧ op a b = some d := by
  unfold lift2 at h
  split at h
  · rename_i a st1 e
    split at h
    · rename_i b st2' e2
      split at h
      · rename_i d' e3
        cases h
        exact ⟨a, st1, b, e, e2, e3⟩
      · cases h
    · cases h
  · cases h
theorem bnd_some {α β : Type} {f : M α} {g : α → M β} {st st2 : Dn} {d : β} (h : bnd f g st = some (d, st2)) : ∃ a st1, f st = some (a, st1) ∧ g a st1 = some (d, st2) := by
  unfold bnd at h
  split at h
  · rename_i a st1 e
    exact ⟨a, st1, e, h⟩
  · cases h

/-! ### names -/
/-- the name x stands in slot i and is seen in this scope -/
structure Nm (X : Cx) (i : Nat) (x : Str) : Prop where
  ix : X.N[i]? = some x
  vis : Vis X.env.scope x
  d : (x == ("__debug__" : Str)) = false
  c : (x == ("__classdict__" : Str)) = false
section
variable {X : Cx} {T : Tbs} {rs rs1 rs2 rs3 ch ch1 ch2 ch3 : List Nat} {e a b c : Expr} {pos p1 p2 : Pos} {f fa fb fc : M PyData} {i : Nat} {x : Str}

theorem se_v (n : Nm X i x) : SE X T [] [] (.Name x pos) (vr i) := by
  refine PE.imp (pe_var n.ix n.vis n.d n.c) fun σ H Q h => ?_
  obtain ⟨Out, st, d, st', th, R, e, q⟩ := h
  unfold vr at e
  split at e
  · rename_i d' e1
    cases e
    obtain ⟨v, e2, r⟩ := R.val i d e1
    exact ⟨v, e2, q v H (.refl th R) r⟩
  · cases e
theorem se_o (n : Nm X i x) : SE X T [i] [] (.Name x pos) (vo i) := by
  refine PE.imp (pe_var n.ix n.vis n.d n.c) fun σ H Q h => ?_
  obtain ⟨Out, st, d, st', th, R, e, q⟩ := h
  unfold vo at e
  split at e
  · rename_i ds e1
    cases e
    obtain ⟨a, vs, e2, na, ha, r⟩ := R.own i ds e1
    refine ⟨.ref a, e2, q _ H (.refl th R) (.lst (Rd.of ha) (.inl fun z => ?_) (RDs.mono (Ob.mono (by simp)) ds r))⟩
    rcases z with z | ⟨j, nj, z⟩
    · exact na z
    · exact nj (by rw [R.sep j i a z ⟨⟨_, e1, rfl⟩, e2⟩]; exact List.mem_singleton.mpr rfl)
  · rename_i d' e1
    cases e
    obtain ⟨v, e2, r⟩ := R.val i d e1
    exact ⟨v, e2, q v H (.refl th R) (RD.mono (Ob.mono (by simp)) d r)⟩
  · cases e
theorem se_tc {v : V} {d : PyData} (h : PE X e (tC v)) (r : ∀ H O, RD X.K H O v d) : SE X T [] [] e (cst d) := by
  refine PE.imp h fun σ H Q h => ?_
  obtain ⟨Out, st, d', st', th, R, e, q⟩ := h
  cases e
  exact q v H (.refl th R) (r _ _)
theorem se_int {i : Int} {j : Nat} : SE X T [] [] (.Constant (.int i) j pos) (cst (.int i)) := se_tc pe_int fun _ _ => .int _
theorem se_bl {b : Bool} {j : Nat} : SE X T [] [] (.Constant (.bool b) j pos) (cst (.bool b)) := se_tc pe_bl fun _ _ => .bl _
theorem se_non {j : Nat} : SE X T [] [] (.Constant .none j pos) (cst .none) := se_tc pe_non fun _ _ => .non
theorem se_str {x : Str} {j : Nat} : SE X T [] [] (.Constant (.str x) j pos) (cst (.str x)) := se_tc pe_str fun _ _ => .str _
theorem se_gstr {s : Str} {u : Value} (hg : Gl X x) (hm : X.mg x = some u) (r : RelV (.str s) u) (hd : (x == ("__debug__" : Str)) = false := by decide) : SE X T [] [] (.Name x pos) (cst (.str s)) := se_tc (pe_glob hg hm r hd) fun _ _ => .str _

/-! ### operators -/
/-- an operator by data -/
structure OpD (X : Cx) (g : Value → Value → Sem Value) (op : PyData → PyData → Option PyData) : Prop where
  ex : ∃ r, OpR X g r ∧ ∀ x y dx dy d H O Q, (∀ b, O b → H b ≠ none) → RD X.K H O x dx → RD X.K H O y dy → op dx dy = some d → (∀ v H', Stay No H H' → RD X.K H' O v d → Q v H') → r x y H Q
structure UnD (X : Cx) (g : Value → Sem Value) (op : PyData → Option PyData) : Prop where
  ex : ∃ r, UnR X g r ∧ ∀ x dx d H O Q, (∀ b, O b → H b ≠ none) → RD X.K H O x dx → op dx = some d → (∀ v H', Stay No H H' → RD X.K H' O v d → Q v H') → r x H Q
def orD (op op' : PyData → PyData → Option PyData) : PyData → PyData → Option PyData := fun a b => match op a b with
  | some d => some d
  | none => op' a b
theorem OpD.or {g : Value → Value → Sem Value} {op op' : PyData → PyData → Option PyData} (h : OpD X g op) (h' : OpD X g op') : OpD X g (orD op op') := by
  obtain ⟨r, h1, h2⟩ := h.ex
  obtain ⟨r', h1', h2'⟩ := h'.ex
  refine ⟨_, h1.or h1', fun x y dx dy d H O Q hO rx ry e q => ?_⟩
  unfold orD at e
  split at e
  · rename_i d' e'
    cases e
    exact .inl (h2 x y dx dy d H O Q hO rx ry e' q)
  · exact .inr (h2' x y dx dy d H O Q hO rx ry e q)
theorem OpD.congr {g : Value → Value → Sem Value} {op op' : PyData → PyData → Option PyData} (h : OpD X g op) (e : ∀ a b d, op' a b = some d → op a b = some d) : OpD X g op' := by
  obtain ⟨r, h1, h2⟩ := h.ex
  exact ⟨r, h1, fun x y dx dy d H O Q hO rx ry q => h2 x y dx dy d H O Q hO rx ry (e _ _ _ q)⟩
/-- two expressions in a row, by their data -/
theorem two (dj : Dj rs1 ch2) {r : R2} {op : PyData → PyData → Option PyData} (ho : ∀ x y dx dy d H O Q, (∀ b, O b → H b ≠ none) → RD X.K H O x dx → RD X.K H O y dy → op dx dy = some d → (∀ v H', Stay No H H' → RD X.K H' O v d → Q v H') → r x y H Q)
    {σ : L2.St} {H : Hp} {Q : VK} (h : tE X.K T (rs1 ++ rs2) (ch1 ++ ch2) (lift2 op fa fb) σ H Q) : tOp r (tE X.K T rs1 ch1 fa) (tE X.K T rs2 ch2 fb) σ H Q := by
  obtain ⟨Out, st, d, st', th, R, e, q⟩ := h
  obtain ⟨da, st1, db, e1, e2, e3⟩ := lift2_some e
  refine ⟨Out, st, da, st1, th, R, e1, fun x H1 p1 r1 => ⟨Out, st1, db, st', p1.th, p1.rep, e2, fun y H2 p2 r2 => ?_⟩⟩
  refine ho x y da db d H2 (Ob Out st' σ (rs1 ++ rs2)) Q p2.rep.obThere (RD.mono (Ob.mono fun i h => List.mem_append_left _ h) _ (p2.rd dj r1)) (RD.mono (Ob.mono fun i h => List.mem_append_right _ h) _ r2) e3 fun v H' s rv => ?_
  exact q v H' ((p1.trans p2).then s) rv
theorem se_bin {op : Operator} {o : PyData → PyData → Option PyData} (ho : OpD X (binaryOp op) o) (ha : SE X T rs1 ch1 a fa) (hb : SE X T rs2 ch2 b fb) (dj : Dj rs1 ch2) :
    SE X T (rs1 ++ rs2) (ch1 ++ ch2) (.BinOp a op b pos) (lift2 o fa fb) := by
  obtain ⟨r, h1, h2⟩ := ho.ex
  exact PE.imp (pe_op h1 ha hb) fun σ H Q h => two dj h2 h
theorem se_un {op : UnaryOp} {o : PyData → Option PyData} (ho : UnD X (unaryOp op) o) (ha : SE X T rs ch a fa) : SE X T rs ch (.UnaryOp op a pos) (lift1 o fa) := by
  obtain ⟨r, h1, h2⟩ := ho.ex
  refine PE.imp (pe_un h1 ha) fun σ H Q h => ?_
  obtain ⟨Out, st, d, st', th, R, e, q⟩ := h
  obtain ⟨da, e1, e2⟩ := lift1_some e
  exact ⟨Out, st, da, st', th, R, e1, fun x H1 p1 r1 => h2 x da d H1 _ Q p1.rep.obThere r1 e2 fun v H' s rv => q v H' (p1.then s) rv⟩
theorem se_cmp {op : CmpOp} {o : PyData → PyData → Option PyData} (ho : OpD X (compareOp op) o) (ha : SE X T rs1 ch1 a fa) (hb : SE X T rs2 ch2 b fb) (dj : Dj rs1 ch2) (hm : behindInMarks op b = false) :
    SE X T (rs1 ++ rs2) (ch1 ++ ch2) (.Compare a [op] [b] pos) (lift2 o fa fb) := by
  obtain ⟨r, h1, h2⟩ := ho.ex
  exact PE.imp (pe_cmpR h1 ha hb hm) fun σ H Q h => two dj h2 h
def isB : PyData → Option Bool
  | .bool b => some b
  | _ => none
theorem isB_some {d : PyData} {b : Bool} (h : isB d = some b) : d = .bool b := by
  cases d <;> simp [isB] at h
  rw [h]
def both (op : PyData → PyData → Option PyData) : PyData → PyData → Option Bool := fun a b => match op a b with
  | some d => isB d
  | none => none
theorem both_some {op : PyData → PyData → Option PyData} {a b : PyData} {c : Bool} (h : both op a b = some c) : op a b = some (.bool c) := by
  unfold both at h
  split at h
  · rename_i d e
    rw [e, isB_some h]
  · cases h
theorem st_cmp {op : CmpOp} {o : PyData → PyData → Option PyData} (ho : OpD X (compareOp op) o) (ha : SE X T rs1 ch1 a fa) (hb : SE X T rs2 ch2 b fb) (dj : Dj rs1 ch2) (hm : behindInMarks op b = false) :
    ST X T (ch1 ++ ch2) (.Compare a [op] [b] pos) (lift2 (both o) fa fb) := by
  obtain ⟨r, h1, h2⟩ := ho.ex
  refine PT.imp (pt_cmpR h1 ha hb hm) fun σ H Q h => ?_
  obtain ⟨Out, st, d, st', th, R, e, q⟩ := h
  obtain ⟨da, st1, db, e1, e2, e3⟩ := lift2_some e
  refine two (rs1 := rs1) (rs2 := rs2) (op := o) (fa := fa) (fb := fb) dj h2 ⟨Out, st, .bool d, st', th, R, ?_, fun v H' p r => ?_⟩
  · unfold lift2
    rw [e1]; simp only; rw [e2]; simp only; rw [both_some e3]
  · cases r
    exact ⟨d, rfl, q H' p⟩
/-- an expression as a test: bools -/
theorem st_bool (h : SE X T rs ch e f) (he : ∀ whole, isTrue e X.env whole = (do let v ← whole; standAt e.pos; holding [v] (truthy v)) := by intro _; rfl) : ST X T ch e (lift1 isB f) := by
  refine PT.imp (pt_val h he) fun σ H Q h => ?_
  obtain ⟨Out, st, d, st', th, R, e, q⟩ := h
  obtain ⟨da, e1, e2⟩ := lift1_some e
  obtain rfl := isB_some e2
  refine ⟨Out, st, .bool d, st', th, R, e1, fun v H' p r => ?_⟩
  cases r
  exact ⟨d, rfl, q H' p⟩
/-- by truth -/
def truD : PyData → Option Bool
  | .none => some false
  | .bool b => some b
  | .int i => some (i != 0)
  | .str x => if x.length ≤ sizeLine then some ((x.length : Int) != 0) else none
  | .list xs => some (!xs.isEmpty)
  | .tuple xs => some (!xs.isEmpty)
  | .dict _ => none
theorem RDs.isEmpty {K : PySem.W.Frag} {H : Hp} {O : Addr → Prop} {vs : List V} {ds : List PyData} (r : RDs K H O vs ds) : vs.isEmpty = ds.isEmpty := by cases r <;> rfl
theorem truD_ok {K : PySem.W.Frag} {H : Hp} {O : Addr → Prop} {v : V} {d : PyData} {k : Bool} (r : RD K H O v d) (e : truD d = some k) : TruV K v H k := by
  cases r with
  | non => cases e; exact rfl
  | bl b => cases e; exact rfl
  | int i => cases e; exact rfl
  | str x =>
    by_cases h : x.length ≤ sizeLine
    · simp only [truD, if_pos h] at e
      cases e; exact ⟨h, rfl⟩
    · simp only [truD, if_neg h] at e
      cases e
  | lst h n rs => cases e; exact .inl ⟨_, .inl h, by rw [rs.isEmpty]⟩
  | tup h rs => cases e; exact .inr (.inl ⟨_, h, by rw [rs.isEmpty]⟩)
  | fn a => cases e
theorem st_tru (h : SE X T rs ch e f) (he : ∀ whole, isTrue e X.env whole = (do let v ← whole; standAt e.pos; holding [v] (truthy v)) := by intro _; rfl) : ST X T ch e (lift1 truD f) := by
  refine PT.imp (pt_truth h he) fun σ H Q h => ?_
  obtain ⟨Out, st, d, st', th, R, e, q⟩ := h
  obtain ⟨da, e1, e2⟩ := lift1_some e
  exact ⟨Out, st, da, st', th, R, e1, fun v H' p r => ⟨d, truD_ok r e2, q H' p⟩⟩

/-! ### and, or, not, a if c else b -/
def andM (f g : M Bool) : M Bool := fun st => match f st with
  | some (true, st1) => g st1
  | some (false, st1) => some (false, st1)
  | none => none
def orM (f g : M Bool) : M Bool := fun st => match f st with
  | some (true, st1) => some (true, st1)
  | some (false, st1) => g st1
  | none => none
def notM (f : M Bool) : M Bool := fun st => match f st with
  | some (b, st1) => some (!b, st1)
  | none => none
def iteM {α : Type} (c : M Bool) (f g : M α) : M α := fun st => match c st with
  | some (true, st1) => f st1
  | some (false, st1) => g st1
  | none => none
variable {ga gb gc : M Bool} {rest : List Expr}
theorem sw_and1 (ha : ST X T ch a ga) : SW X T ch (.BoolOp .And [a] pos) ga := pw_and1 ha
theorem sw_or1 (ha : ST X T ch a ga) : SW X T ch (.BoolOp .Or [a] pos) ga := pw_or1 ha
theorem SW.st {e : Expr} {g : M Bool} (h : SW X T ch e g) : ST X T ch e g := PW.pt h
theorem sw_and (ha : ST X T ch1 a ga) (hb : SW X T ch2 (.BoolOp .And (b :: rest) pos) gb) : SW X T (ch1 ++ ch2) (.BoolOp .And (a :: b :: rest) pos) (andM ga gb) := by
  refine PW.imp (pw_and ha hb) fun σ H Q h => ?_
  obtain ⟨Out, st, d, st', th, R, e, q⟩ := h
  unfold andM at e
  split at e
  · rename_i st1 e1
    exact ⟨Out, st, true, st1, th, R, e1, fun H1 p1 => iteT <| ⟨Out, st1, d, st', p1.th, p1.rep, e, fun H2 p2 => q H2 (p1.trans p2)⟩⟩
  · rename_i st1 e1
    cases e
    exact ⟨Out, st, false, st', th, R, e1, fun H1 p1 => iteF <| q H1 (p1.mono fun i h => List.mem_append_left _ h)⟩
  · cases e
theorem sw_or (ha : ST X T ch1 a ga) (hb : SW X T ch2 (.BoolOp .Or (b :: rest) pos) gb) : SW X T (ch1 ++ ch2) (.BoolOp .Or (a :: b :: rest) pos) (orM ga gb) := by
  refine PW.imp (pw_or ha hb) fun σ H Q h => ?_
  obtain ⟨Out, st, d, st', th, R, e, q⟩ := h
  unfold orM at e
  split at e
  · rename_i st1 e1
    cases e
    exact ⟨Out, st, true, st', th, R, e1, fun H1 p1 => iteT <| q H1 (p1.mono fun i h => List.mem_append_left _ h)⟩
  · rename_i st1 e1
    exact ⟨Out, st, false, st1, th, R, e1, fun H1 p1 => iteF <| ⟨Out, st1, d, st', p1.th, p1.rep, e, fun H2 p2 => q H2 (p1.trans p2)⟩⟩
  · cases e
theorem st_not (ha : ST X T ch a ga) : ST X T ch (.UnaryOp .Not a pos) (notM ga) := by
  refine PT.imp (pt_not ha) fun σ H Q h => ?_
  obtain ⟨Out, st, d, st', th, R, e, q⟩ := h
  unfold notM at e
  split at e
  · rename_i b st1 e1
    cases e
    exact ⟨Out, st, b, st', th, R, e1, fun H1 p1 => q H1 p1⟩
  · cases e
/-- a truth value as a datum -/
def blM (g : M Bool) : M PyData := fun st => match g st with
  | some (b, st1) => some (.bool b, st1)
  | none => none
theorem blM_some {g : M Bool} {st st1 : Dn} {d : PyData} (h : blM g st = some (d, st1)) : ∃ b, g st = some (b, st1) ∧ d = .bool b := by
  unfold blM at h
  split at h
  · rename_i b st' e
    cases h
    exact ⟨b, e, rfl⟩
  · cases h
/-- a bool-valued expression, told by its truth value -/
abbrev SB (X : Cx) (T : Tbs) (ch : List Nat) (e : Expr) (g : M Bool) : Prop := SE X T [] ch e (blM g)
theorem sb_of (h : SE X T rs ch e f) : SB X T ch e (lift1 isB f) := by
  refine PE.imp h fun σ H Q h => ?_
  obtain ⟨Out, st, d, st', th, R, e, q⟩ := h
  obtain ⟨b, e1, rfl⟩ := blM_some e
  obtain ⟨da, e2, e3⟩ := lift1_some e1
  obtain rfl := isB_some e3
  refine ⟨Out, st, .bool b, st', th, R, e2, fun v H' p r => ?_⟩
  cases r
  exact q _ H' p (.bl b)
theorem sb_cmp {op : CmpOp} {o : PyData → PyData → Option PyData} (ho : OpD X (compareOp op) o) (ha : SE X T rs1 ch1 a fa) (hb : SE X T rs2 ch2 b fb) (dj : Dj rs1 ch2) (hm : behindInMarks op b = false) :
    SB X T (ch1 ++ ch2) (.Compare a [op] [b] pos) (lift2 (both o) fa fb) := by
  refine PE.imp (se_cmp ho ha hb dj hm) fun σ H Q h => ?_
  obtain ⟨Out, st, d, st', th, R, e, q⟩ := h
  obtain ⟨c, e1, rfl⟩ := blM_some e
  obtain ⟨da, st1, db, e2, e3, e4⟩ := lift2_some e1
  refine ⟨Out, st, .bool c, st', th, R, ?_, fun v H' p r => ?_⟩
  · unfold lift2
    rw [e2]; simp only; rw [e3]; simp only; rw [both_some e4]
  · cases r
    exact q _ H' p (.bl c)
theorem sb_one {op} (ha : SB X T ch a ga) : SB X T ch (.BoolOp op [a] pos) ga := pe_one ha
theorem sb_and (ha : SB X T ch1 a ga) (hb : SB X T ch2 (.BoolOp .And (b :: rest) pos) gb) : SB X T (ch1 ++ ch2) (.BoolOp .And (a :: b :: rest) pos) (andM ga gb) := by
  refine PE.imp (pe_and ha hb) fun σ H Q h => ?_
  obtain ⟨Out, st, d, st', th, R, e, q⟩ := h
  obtain ⟨k, e0, rfl⟩ := blM_some e
  clear e
  unfold andM at e0
  split at e0
  · rename_i st1 e1
    refine ⟨Out, st, .bool true, st1, th, R, by unfold blM; rw [e1], fun v H1 p1 r => ?_⟩
    cases r
    refine ⟨true, rfl, ?_⟩
    refine iteT ?_
    exact ⟨Out, st1, .bool k, st', p1.th, p1.rep, by unfold blM; rw [e0], fun v H2 p2 r2 => q v H2 (p1.trans p2) r2⟩
  · rename_i st1 e1
    cases e0
    refine ⟨Out, st, .bool false, st', th, R, by unfold blM; rw [e1], fun v H1 p1 r => ?_⟩
    cases r
    refine ⟨false, rfl, ?_⟩
    refine iteF ?_
    exact q _ H1 (p1.mono fun i h => List.mem_append_left _ h) (.bl _)
  · cases e0
theorem sb_or (ha : SB X T ch1 a ga) (hb : SB X T ch2 (.BoolOp .Or (b :: rest) pos) gb) : SB X T (ch1 ++ ch2) (.BoolOp .Or (a :: b :: rest) pos) (orM ga gb) := by
  refine PE.imp (pe_or ha hb) fun σ H Q h => ?_
  obtain ⟨Out, st, d, st', th, R, e, q⟩ := h
  obtain ⟨k, e0, rfl⟩ := blM_some e
  clear e
  unfold orM at e0
  split at e0
  · rename_i st1 e1
    cases e0
    refine ⟨Out, st, .bool true, st', th, R, by unfold blM; rw [e1], fun v H1 p1 r => ?_⟩
    cases r
    refine ⟨true, rfl, ?_⟩
    refine iteT ?_
    exact q _ H1 (p1.mono fun i h => List.mem_append_left _ h) (.bl _)
  · rename_i st1 e1
    refine ⟨Out, st, .bool false, st1, th, R, by unfold blM; rw [e1], fun v H1 p1 r => ?_⟩
    cases r
    refine ⟨false, rfl, ?_⟩
    refine iteF ?_
    exact ⟨Out, st1, .bool k, st', p1.th, p1.rep, by unfold blM; rw [e0], fun v H2 p2 r2 => q v H2 (p1.trans p2) r2⟩
  · cases e0
/-- not, of a bool -/
theorem sb_not (ha : SB X T ch a ga) : SB X T ch (.UnaryOp .Not a pos) (notM ga) := by
  refine PE.imp (pe_not ha) fun σ H Q h => ?_
  obtain ⟨Out, st, d, st', th, R, e, q⟩ := h
  obtain ⟨k, e0, rfl⟩ := blM_some e
  clear e
  unfold notM at e0
  split at e0
  · rename_i b st1 e1
    cases e0
    refine ⟨Out, st, .bool b, st', th, R, by unfold blM; rw [e1], fun v H1 p1 r => ?_⟩
    cases r
    exact ⟨b, rfl, q _ H1 p1 (.bl _)⟩
  · cases e0
theorem se_ite (hc : ST X T ch1 c gc) (ha : SE X T rs2 ch2 a fa) (hb : SE X T rs3 ch3 b fb) : SE X T (rs2 ++ rs3) (ch1 ++ (ch2 ++ ch3)) (.IfExp c a b pos) (iteM gc fa fb) := by
  refine PE.imp (pe_ifExp hc ha hb) fun σ H Q h => ?_
  obtain ⟨Out, st, d, st', th, R, e, q⟩ := h
  unfold iteM at e
  split at e
  · rename_i st1 e1
    exact ⟨Out, st, true, st1, th, R, e1, fun H1 p1 => iteT <| ⟨Out, st1, d, st', p1.th, p1.rep, e, fun v H2 p2 r => q v H2 ((p1.trans p2).mono fun i h => by
        rcases List.mem_append.mp h with h | h
        · exact List.mem_append_left _ h
        · exact List.mem_append_right _ (List.mem_append_left _ h)) (RD.mono (Ob.mono fun i h => List.mem_append_left _ h) _ r)⟩⟩
  · rename_i st1 e1
    exact ⟨Out, st, false, st1, th, R, e1, fun H1 p1 => iteF <| ⟨Out, st1, d, st', p1.th, p1.rep, e, fun v H2 p2 r => q v H2 ((p1.trans p2).mono fun i h => by
        rcases List.mem_append.mp h with h | h
        · exact List.mem_append_left _ h
        · exact List.mem_append_right _ (List.mem_append_right _ h)) (RD.mono (Ob.mono fun i h => List.mem_append_right _ h) _ r)⟩⟩
  · cases e
/-- by a bool-valued reading -/
theorem SB.st {e : Expr} {g : M Bool} (h : SB X T ch e g) (he : ∀ whole, isTrue e X.env whole = (do let v ← whole; standAt e.pos; holding [v] (truthy v)) := by intro _; rfl) : ST X T ch e g := by
  refine PT.imp (st_bool h he) fun σ H Q h => ?_
  obtain ⟨Out, st, d, st', th, R, e, q⟩ := h
  exact ⟨Out, st, d, st', th, R, by unfold lift1 blM; rw [e]; rfl, q⟩
theorem SB.se {e : Expr} {g : M Bool} (h : SB X T ch e g) : SE X T [] ch e (blM g) := h

/-! ### argument lists, displays -/
def nilM : M (List PyData) := fun st => some ([], st)
def consM (f : M PyData) (g : M (List PyData)) : M (List PyData) := fun st => match f st with
  | some (a, st1) => (match g st1 with
    | some (r, st2) => some (a :: r, st2)
    | none => none)
  | none => none
theorem consM_some {f : M PyData} {g : M (List PyData)} {st st2 : Dn} {ds : List PyData} (h : consM f g st = some (ds, st2)) : ∃ a st1 r, f st = some (a, st1) ∧ g st1 = some (r, st2) ∧ ds = a :: r := by
  unfold consM at h
  split at h
  · rename_i a st1 e
    split at h
    · rename_i r st2' e2
      cases h
      exact ⟨a, st1, r, e, e2, rfl⟩
    · cases h
  · cases h
def tAs (K : PySem.W.Frag) (T : Tbs) (rs ch : List Nat) (f : M (List PyData)) : TA := fun σ H Q => ∃ Out st ds st', TH T H ∧ Rep K Out st σ H ∧ f st = some (ds, st') ∧
  ∀ vs H', EPost K T Out σ st H ch st' H' → RDs K H' (Ob Out st' σ rs) vs ds → Q vs H'
abbrev SA (X : Cx) (T : Tbs) (rs ch : List Nat) (es : List Expr) (f : M (List PyData)) : Prop := PA X es (tAs X.K T rs ch f)
theorem PA.imp {X : Cx} {e : List Expr} {t t' : TA} (h : PA X e t) (i : ∀ σ H Q, t' σ H Q → t σ H Q) : PA X e t' := ⟨fun pos pins s σ H Q I q => h.run pos pins s σ H Q I (i σ H Q q)⟩
variable {es : List Expr} {fs : M (List PyData)}
theorem sa_nil : SA X T [] [] [] nilM := by
  refine PA.imp pa_nil fun σ H Q h => ?_
  obtain ⟨Out, st, d, st', th, R, e, q⟩ := h
  cases e
  exact q [] H (.refl th R) .nil
theorem sa_cons (ha : SE X T rs1 ch1 a fa) (hr : SA X T rs2 ch2 es fs) (dj : Dj rs1 ch2) (hs : starEach (a :: es) X.env = (false, eval a X.env) :: starEach es X.env := by rfl) : SA X T (rs1 ++ rs2) (ch1 ++ ch2) (a :: es) (consM fa fs) := by
  refine PA.imp (pa_cons ha hr hs) fun σ H Q h => ?_
  obtain ⟨Out, st, d, st', th, R, e, q⟩ := h
  obtain ⟨da, st1, r, e1, e2, rfl⟩ := consM_some e
  refine ⟨Out, st, da, st1, th, R, e1, fun x H1 p1 r1 => ⟨Out, st1, r, st', p1.th, p1.rep, e2, fun ys H2 p2 r2 => ?_⟩⟩
  exact q _ H2 (p1.trans p2) (.cons (RD.mono (Ob.mono fun i h => List.mem_append_left _ h) _ (p2.rd dj r1)) (RDs.mono (Ob.mono fun i h => List.mem_append_right _ h) _ r2))
/-- a tuple's display -/
def tupM (f : M (List PyData)) : M PyData := fun st => match f st with
  | some (ds, st1) => if ds.length ≤ sizeLine then some (.tuple ds, st1) else none
  | none => none
theorem tupM_some {f : M (List PyData)} {st st1 : Dn} {d : PyData} (h : tupM f st = some (d, st1)) : ∃ ds, f st = some (ds, st1) ∧ ds.length ≤ sizeLine ∧ d = .tuple ds := by
  unfold tupM at h
  split at h
  · rename_i ds st' e
    split at h
    · rename_i hl
      cases h
      exact ⟨ds, e, hl, rfl⟩
    · cases h
  · cases h
/-- a tuple's display: the new object has no dict -/
def tTupN (t : TA) : TE := fun σ H Q => t σ H fun xs H1 => xs.length ≤ sizeLine ∧ ∀ p o, H1 p = none → o.dict = none → Q (.ref p) (upd H1 p (.frz o (.tup xs)))
theorem pe_tupN {k : Nat} {t : TA} (h : PA X es t) : PE X (.Tuple es k pos) (tTupN t) := by
  refine ⟨fun pins s σ H Q I hq => ?_⟩
  refine wpAny_Tuple_spliced (thn (h.run pos pins s σ H _ I hq) fun us s1 ⟨xs, H1, I1, r, z, q⟩ => ⟨by rw [← r.length]; exact z, ?_⟩)
  have hf : H1 s1.heap.objs.size = none := I1.hok.fresh (Nat.le_refl _)
  refine ⟨.ref s1.heap.objs.size, _, I1.laid (t' := s1.toks) (o := .frz _ (.tup xs)) (fun b u e => Heap.get?_push_of_some _ e) (Nat.le_refl _) ⟨Heap.get?_push_size _ rfl, z, us, r, IsTup.new _ _⟩, rfl, q _ _ hf rfl⟩
theorem se_tup {k : Nat} (h : SA X T rs ch es fs) : SE X T rs ch (.Tuple es k pos) (tupM fs) := by
  refine PE.imp (pe_tupN h) fun σ H Q h => ?_
  obtain ⟨Out, st, d, st', th, R, e, q⟩ := h
  obtain ⟨ds, e1, hl, rfl⟩ := tupM_some e
  refine ⟨Out, st, ds, st', th, R, e1, fun vs H1 p1 r1 => ⟨by rw [r1.length]; exact hl, fun p o hp hd => ?_⟩⟩
  exact q _ _ (p1.then (Stay.new hp)) (.tup (.inl ⟨o, upd_same, hd⟩) (RDs.keep (Stay.new hp) (fun _ z => z.elim) _ r1))
def lstM (f : M (List PyData)) : M (List PyData) := fun st => match f st with
  | some (ds, st1) => if ds.length ≤ sizeLine then some (ds, st1) else none
  | none => none
theorem lstM_some {f : M (List PyData)} {st st1 : Dn} {d : List PyData} (h : lstM f st = some (d, st1)) : f st = some (d, st1) ∧ d.length ≤ sizeLine := by
  unfold lstM at h
  split at h
  · rename_i ds st' e
    split at h
    · rename_i hl
      cases h
      exact ⟨e, hl⟩
    · cases h
  · cases h
theorem hnone {O : Addr → Prop} {H H1 : Hp} (s : Stay O H H1) {p : Addr} (hp : H1 p = none) : H p = none := by
  cases e : H p with
  | none => rfl
  | some o => exact absurd hp (s.there p (by rw [e]; intro z; cases z))
theorem sf_lst (h : SA X T rs ch es fs) : SF X T rs ch (.List es pos) (lstM fs) := by
  refine PE.imp (pe_lst h) fun σ H Q h => ?_
  obtain ⟨Out, st, d, st', th, R, e, q⟩ := h
  obtain ⟨e1, hl⟩ := lstM_some e
  refine ⟨Out, st, d, st', th, R, e1, fun vs H1 p1 r1 => ⟨by rw [r1.length]; exact hl, fun p hp => ?_⟩⟩
  exact q p vs _ (p1.then (Stay.new hp)) (p1.rep.new hp) (hnone p1.stay hp) upd_same (RDs.keep (Stay.new hp) (fun _ z => z.elim) _ (RDs.mono (fun b z => obA b z) _ (r1.fresh hp)))
/-- a new list as a datum -/
def liD (f : M (List PyData)) : M PyData := fun st => match f st with
  | some (ds, st1) => some (.list ds, st1)
  | none => none
theorem liD_some {f : M (List PyData)} {st st1 : Dn} {d : PyData} (h : liD f st = some (d, st1)) : ∃ ds, f st = some (ds, st1) ∧ d = .list ds := by
  unfold liD at h
  split at h
  · rename_i ds st' e
    cases h
    exact ⟨ds, e, rfl⟩
  · cases h
theorem liD_go {fl : M (List PyData)} {σ : L2.St} {H : Hp} {Q : VK} (h : tE X.K T rs ch (liD fl) σ H Q) : tF X.K T rs ch fl σ H Q := by
  obtain ⟨Out, st, d, st', th, R, e, q⟩ := h
  obtain ⟨ds, e1, rfl⟩ := liD_some e
  refine ⟨Out, st, ds, st', th, R, e1, fun a vs H' p ra ha ha' r => q _ H' p (.lst (Rd.of ha') (.inl fun z => ?_) (RDs.mono obA' _ r))⟩
  rcases z with z | ⟨i, _, z⟩
  · exact R.out a z ha
  · obtain ⟨_, _, _, e, _⟩ := R.ownLst (p.sub i a z)
    rw [ha] at e; cases e
theorem SF.se {fl : M (List PyData)} (h : SF X T rs ch e fl) : SE X T rs ch e (liD fl) := PE.imp h fun σ H Q h => liD_go h
end
end LH

set_option Elab.async false
set_option linter.all false
set_option maxRecDepth 100000
set_option maxHeartbeats 2000000
/-! Lh3: operators by data -/
namespace LH
open PySem PySem.Spec PyProof.Rows L2

def addD : PyData → PyData → Option PyData
  | .int i, .int j => some (.int (i + j))
  | .str x, .str y => if x.length + y.length ≤ sizeLine then some (.str (x ++ y)) else none
  | .tuple xs, .tuple ys => if xs.length + ys.length ≤ sizeLine then some (.tuple (xs ++ ys)) else none
  | .list xs, .list ys => if xs.length + ys.length ≤ sizeLine then some (.list (xs ++ ys)) else none
  | _, _ => none
def subD : PyData → PyData → Option PyData
  | .int i, .int j => some (.int (i - j))
  | _, _ => none
def small64 (i : Int) : Bool := decide (-(2 ^ 64) < i ∧ i < 2 ^ 64)
def mulD : PyData → PyData → Option PyData
  | .int i, .int j => if small64 i || small64 j then some (.int (i * j)) else none
  | _, _ => none
def modD : PyData → PyData → Option PyData
  | .int i, .int j => if 0 < j then some (.int (i % j)) else none
  | _, _ => none
def fdivD : PyData → PyData → Option PyData
  | .int i, .int j => if 0 < j ∧ j < 1073741824 then some (.int (i / j)) else none
  | _, _ => none
def powD : PyData → PyData → Option PyData
  | .int i, .int j => if 0 ≤ j ∧ j ≤ 1000000 ∧ i.natAbs < 2 ^ 64 then some (.int (i ^ j.toNat)) else none
  | _, _ => none
def negD : PyData → Option PyData
  | .int i => some (.int (-i))
  | _ => none
def eqD (a b : PyData) : Option PyData := if SeqAt.shaped a && SeqAt.shaped b then some (.bool (PyData.eqv a b)) else none
def neD (a b : PyData) : Option PyData := if SeqAt.shaped a && SeqAt.shaped b then some (.bool (!PyData.eqv a b)) else none
def ltD : PyData → PyData → Option PyData
  | .int i, .int j => some (.bool (decide (i < j)))
  | .str x, .str y => some (.bool (decide (x.cps.toList < y.cps.toList)))
  | _, _ => none
def leD : PyData → PyData → Option PyData
  | .int i, .int j => some (.bool (decide (i ≤ j)))
  | _, _ => none
def gtD : PyData → PyData → Option PyData
  | .int i, .int j => some (.bool (decide (j < i)))
  | _, _ => none
def geD : PyData → PyData → Option PyData
  | .int i, .int j => some (.bool (decide (j ≤ i)))
  | _, _ => none
def inD : PyData → PyData → Option PyData
  | d, .list ds => if SeqAt.shaped d && SeqAt.shaped (.list ds) then some (.bool (ds.any fun z => PyData.eqv z d)) else none
  | d, .tuple ds => if SeqAt.shaped d && SeqAt.shaped (.tuple ds) then some (.bool (ds.any fun z => PyData.eqv z d)) else none
  | .str x, .str z => match x.cps.toList with
    | [c] => some (.bool (decide (c ∈ z.cps.toList)))
    | _ => none
  | _, _ => none
def ninD : PyData → PyData → Option PyData
  | d, .list ds => if SeqAt.shaped d && SeqAt.shaped (.list ds) then some (.bool (!ds.any fun z => PyData.eqv z d)) else none
  | d, .tuple ds => if SeqAt.shaped d && SeqAt.shaped (.tuple ds) then some (.bool (!ds.any fun z => PyData.eqv z d)) else none
  | .str x, .str z => match x.cps.toList with
    | [c] => some (.bool (!decide (c ∈ z.cps.toList)))
    | _ => none
  | _, _ => none
def isNon : PyData → Bool
  | .none => true
  | _ => false
def isD : PyData → PyData → Option PyData
  | a, .none => some (.bool (isNon a))
  | .bool a, .bool b => some (.bool (decide (a = b)))
  | _, _ => none
def isnD : PyData → PyData → Option PyData
  | a, .none => some (.bool (!isNon a))
  | .bool a, .bool b => some (.bool (!decide (a = b)))
  | _, _ => none

section
variable {X : Cx} {k : Nat}
/-- lists of data joined -/
theorem op_catR : OpR X (binaryOp .Add) (fun x y H Q => ∃ l b xs zs, x = .ref l ∧ y = .ref b ∧ Rd H l (.lst xs) ∧ Rd H b (.lst zs) ∧ xs.length + zs.length ≤ sizeLine ∧ ∀ p, H p = none → Q (.ref p) (upd H p (.lst (xs ++ zs)))) := by
  intro pins s σ H x y v u Q I rx ry h
  obtain ⟨l, b, xs, zs, rfl, rfl, hH, hB, hz, q⟩ := h
  cases rx
  cases ry
  obtain ⟨z, its, n, r, e⟩ := hH.ok I.hok
  obtain ⟨z2, its2, n2, r2, e2⟩ := hB.ok I.hok
  have hl := r.length
  have hl2 := r2.length
  refine PySem.P.add_list e e2 ?_ (by rw [List.size_toArray, List.size_toArray]; omega)
  have ea : its.toArray ++ its2.toArray = (its ++ its2).toArray := by simp
  rw [ea]
  exact ⟨.ref _, _, I.lnew (t' := s.toks) (r.append r2) (by rw [List.length_append]; omega), rfl, q _ I.fresh⟩
theorem rd_tup {K : PySem.W.Frag} {H : Hp} {O : Addr → Prop} {p : Addr} {o : Obj} {xs : List V} {ds : List PyData} (hp : H p = none) (hd : o.dict = none) (r : RDs K H O xs ds) : RD K (upd H p (.frz o (.tup xs))) O (.ref p) (.tuple ds) :=
  .tup (.inl ⟨o, upd_same, hd⟩) (RDs.keep (Stay.new hp) (fun _ z => z.elim) _ r)
/-- t + u: a new tuple has no dict -/
def rCatN (K : PySem.W.Frag) : R2 := fun x y H Q => ∃ a b xs ys, x = .ref a ∧ y = .ref b ∧ SqT K H a xs ∧ SqT K H b ys ∧ xs.length + ys.length ≤ sizeLine ∧
  (xs = [] → Q (.ref b) H) ∧ (xs ≠ [] → ys = [] → Q (.ref a) H) ∧ (xs ≠ [] → ys ≠ [] → ∀ p o, H p = none → o.dict = none → Q (.ref p) (upd H p (.frz o (.tup (xs ++ ys)))))
theorem op_catN : OpR X (binaryOp .Add) (rCatN X.K) := by
  intro pins s σ H x y v u Q I rx ry h
  obtain ⟨a, b, xs, ys, rfl, rfl, ha, hb, hz, q0, q1, q2⟩ := h
  cases rx
  cases ry
  obtain ⟨its, r1, p1, _⟩ := I.tuple ha
  obtain ⟨its2, r2, p2, _⟩ := I.tuple hb
  by_cases hx : xs = []
  · subst hx
    cases r1
    exact cat_tup0 p1 p2 ⟨.ref b, H, I, rfl, q0 rfl⟩
  · refine HT.cat_tup p1 p2 (fun z => hx (r1.nil_iff.mp z)) (fun z => ⟨.ref a, H, I, rfl, q1 hx (r2.nil_iff.mp z)⟩) (fun z => ?_) (by rw [← r1.length, ← r2.length]; exact hz)
    exact ⟨.ref s.heap.objs.size, _, I.laid (t' := s.toks) (o := .frz _ (.tup (xs ++ ys))) (fun b ob q => Heap.get?_push_of_some _ q) (Nat.le_refl _) ⟨Heap.get?_push_size _ rfl, by rw [List.length_append]; exact hz, _, r1.append r2, IsTup.new _ _⟩, rfl, q2 hx (fun w => z (r2.nil_iff.mpr w)) _ _ (I.hok.fresh (Nat.le_refl _)) rfl⟩
/-- tuple(x): a new tuple has no dict -/
theorem call_tupleN : CallR X (.type "tuple") (fun xs H Q => ∃ p ys, xs = [.ref p] ∧ ((SqL X.K H p ys ∧ ∀ l o, H l = none → o.dict = none → Q (.ref l) (upd H l (.frz o (.tup ys)))) ∨ (SqT X.K H p ys ∧ Q (.ref p) H))) := by
  intro pins s σ H xs us Q I r h
  obtain ⟨p, ys, rfl, h⟩ := h
  rcases h with ⟨hq, q⟩ | ⟨hq, q⟩
  · obtain ⟨u, rfl, rx⟩ := vals1 r
    cases rx
    obtain ⟨its, r', pl, hz⟩ := I.list hq
    refine call_tuple_list pl.isList (fun h' kp => ?_) (by have := r'.length; simp only [List.size_toArray]; omega)
    have I1 : Inv X pins σ H { s with heap := h' } := I.kept (t' := s.toks) kp
    exact ⟨.ref h'.objs.size, _, I1.laid (t' := s.toks) (o := .frz _ (.tup ys)) (fun b o e => Heap.get?_push_of_some _ e) (Nat.le_refl _) ⟨Heap.get?_push_size _ rfl, hz, its, r', IsTup.new _ _⟩, rfl, q _ _ (I1.hok.fresh (Nat.le_refl _)) rfl⟩
  · exact call_tupleT pins s σ H _ us Q I r ⟨p, ys, rfl, hq, q⟩
theorem rd_lst {K : PySem.W.Frag} {H : Hp} {O : Addr → Prop} {p : Addr} {xs : List V} {ds : List PyData} (hO : ∀ b, O b → H b ≠ none) (hp : H p = none) (r : RDs K H O xs ds) : RD K (upd H p (.lst xs)) O (.ref p) (.list ds) :=
  .lst (Rd.of upd_same) (.inl fun z => hO p z hp) (RDs.keep (Stay.new hp) (fun _ z => z.elim) _ r)
theorem od_add : OpD X (binaryOp .Add) addD := by
  refine ⟨_, op_add.or (op_add_str.or (op_catN.or op_catR)), fun x y dx dy d H O Q hO rx ry e q => ?_⟩
  unfold addD at e
  split at e
  · cases rx; cases ry; cases e
    exact .inl ⟨_, _, rfl, rfl, q _ _ (Stay.refl _ _) (.int _)⟩
  · split at e
    · rename_i hl
      cases rx; cases ry; cases e
      exact .inr (.inl ⟨_, _, rfl, rfl, hl, q _ _ (Stay.refl _ _) (.str _)⟩)
    · cases e
  · split at e
    · rename_i hl
      cases rx with
      | tup h1 r1 =>
        cases ry with
        | tup h2 r2 =>
          cases e
          refine .inr (.inr (.inl ⟨_, _, _, _, rfl, rfl, h1.t, h2.t, by rw [r1.length, r2.length]; exact hl, fun z => ?_, fun _ z => ?_, fun _ _ p o hp hd => ?_⟩))
          · subst z
            cases r1
            exact q _ _ (Stay.refl _ _) (.tup h2 r2)
          · subst z
            cases r2
            refine q _ _ (Stay.refl _ _) ?_
            rw [List.append_nil]
            exact .tup h1 r1
          · exact q _ _ (Stay.new hp) (rd_tup hp hd (r1.append r2))
    · cases e
  · split at e
    · rename_i hl
      cases rx with
      | lst h1 _ r1 =>
        cases ry with
        | lst h2 _ r2 =>
          cases e
          exact .inr (.inr (.inr ⟨_, _, _, _, rfl, rfl, h1, h2, by rw [r1.length, r2.length]; exact hl, fun p hp => q _ _ (Stay.new hp) (rd_lst hO hp (r1.append r2))⟩))
    · cases e
  · cases e
/-- an operator of two ints -/
theorem od_int {g : Value → Value → Sem Value} {C : Int → Int → Prop} {o : PyData → PyData → Option PyData} {v : Int → Int → V} (ho : OpR X g (rI C v))
    (h : ∀ dx dy d, o dx dy = some d → ∃ i j, dx = .int i ∧ dy = .int j ∧ C i j ∧ ∀ H O, RD X.K H O (v i j) d) : OpD X g o := by
  refine ⟨_, ho, fun x y dx dy d H O Q hO rx ry e q => ?_⟩
  obtain ⟨i, j, rfl, rfl, c, r⟩ := h _ _ _ e
  cases rx; cases ry
  exact ⟨i, j, rfl, rfl, c, q _ _ (Stay.refl _ _) (r _ _)⟩
theorem od_int0 {g : Value → Value → Sem Value} {o : PyData → PyData → Option PyData} {v : Int → Int → V} (ho : OpR X g (rI0 v))
    (h : ∀ dx dy d, o dx dy = some d → ∃ i j, dx = .int i ∧ dy = .int j ∧ ∀ H O, RD X.K H O (v i j) d) : OpD X g o := by
  refine ⟨_, ho, fun x y dx dy d H O Q hO rx ry e q => ?_⟩
  obtain ⟨i, j, rfl, rfl, r⟩ := h _ _ _ e
  cases rx; cases ry
  exact ⟨i, j, rfl, rfl, q _ _ (Stay.refl _ _) (r _ _)⟩
theorem od_sub : OpD X (binaryOp .Sub) subD := od_int0 op_sub fun dx dy d e => by
  unfold subD at e
  split at e
  · cases e; exact ⟨_, _, rfl, rfl, fun _ _ => .int _⟩
  · cases e
theorem od_mul : OpD X (binaryOp .Mult) mulD := od_int op_mul fun dx dy d e => by
  unfold mulD at e
  split at e
  · split at e
    · rename_i h
      cases e
      refine ⟨_, _, rfl, rfl, ?_, fun _ _ => .int _⟩
      rw [Bool.or_eq_true] at h
      rcases h with h | h
      · exact .inl (of_decide_eq_true h)
      · exact .inr (of_decide_eq_true h)
    · cases e
  · cases e
theorem od_mod : OpD X (binaryOp .Mod) modD := od_int op_mod fun dx dy d e => by
  unfold modD at e
  split at e
  · split at e
    · rename_i h
      cases e
      exact ⟨_, _, rfl, rfl, h, fun _ _ => .int _⟩
    · cases e
  · cases e
theorem od_fdiv : OpD X (binaryOp .FloorDiv) fdivD := od_int op_fdiv fun dx dy d e => by
  unfold fdivD at e
  split at e
  · split at e
    · rename_i h
      cases e
      exact ⟨_, _, rfl, rfl, h, fun _ _ => .int _⟩
    · cases e
  · cases e
theorem od_pow : OpD X (binaryOp .Pow) powD := od_int op_pow fun dx dy d e => by
  unfold powD at e
  split at e
  · split at e
    · rename_i h
      cases e
      exact ⟨_, _, rfl, rfl, h, fun _ _ => .int _⟩
    · cases e
  · cases e
theorem ud_neg : UnD X (unaryOp .USub) negD := by
  refine ⟨_, un_neg, fun x dx d H O Q hO rx e q => ?_⟩
  unfold negD at e
  split at e
  · cases rx; cases e
    exact ⟨_, rfl, q _ _ (Stay.refl _ _) (.int _)⟩
  · cases e
theorem and2 {a b : Bool} (h : (a && b) = true) : a = true ∧ b = true := by simpa using h
theorem od_eq (hu : X.A.units + 65 < cLine) : OpD X (compareOp .Eq) eqD := by
  refine ⟨_, op_eqD (by omega), fun x y dx dy d H O Q hO rx ry e q => ?_⟩
  unfold eqD at e
  split at e
  · rename_i h
    cases e
    exact ⟨dx, dy, RD.dp _ (nd_shaped (and2 h).1) rx, RD.dp _ (nd_shaped (and2 h).2) ry, (and2 h).1, (and2 h).2, q _ _ (Stay.refl _ _) (.bl _)⟩
  · cases e
theorem od_ne (hu : X.A.units + 65 < cLine) : OpD X (compareOp .NotEq) neD := by
  refine ⟨_, op_neD (by omega), fun x y dx dy d H O Q hO rx ry e q => ?_⟩
  unfold neD at e
  split at e
  · rename_i h
    cases e
    exact ⟨dx, dy, RD.dp _ (nd_shaped (and2 h).1) rx, RD.dp _ (nd_shaped (and2 h).2) ry, (and2 h).1, (and2 h).2, q _ _ (Stay.refl _ _) (.bl _)⟩
  · cases e
theorem od_lt : OpD X (compareOp .Lt) ltD := by
  refine ⟨_, op_lt.or op_lt_str, fun x y dx dy d H O Q hO rx ry e q => ?_⟩
  unfold ltD at e
  split at e
  · cases rx; cases ry; cases e
    exact .inl ⟨_, _, rfl, rfl, q _ _ (Stay.refl _ _) (.bl _)⟩
  · cases rx; cases ry; cases e
    exact .inr ⟨_, _, rfl, rfl, q _ _ (Stay.refl _ _) (.bl _)⟩
  · cases e
theorem od_le : OpD X (compareOp .LtE) leD := od_int0 op_le fun dx dy d e => by
  unfold leD at e
  split at e
  · cases e; exact ⟨_, _, rfl, rfl, fun _ _ => .bl _⟩
  · cases e
theorem od_gt : OpD X (compareOp .Gt) gtD := od_int0 op_gt fun dx dy d e => by
  unfold gtD at e
  split at e
  · cases e; exact ⟨_, _, rfl, rfl, fun _ _ => .bl _⟩
  · cases e
theorem od_ge : OpD X (compareOp .GtE) geD := od_int0 op_ge fun dx dy d e => by
  unfold geD at e
  split at e
  · cases e; exact ⟨_, _, rfl, rfl, fun _ _ => .bl _⟩
  · cases e
theorem op_inDT (hu : X.A.units + 65 < cLine) : OpR X (compareOp .In) (fun x y H Q => ∃ d ds, Dp X.K H x d ∧ Dp X.K H y (.tuple ds) ∧ SeqAt.shaped d = true ∧ SeqAt.shaped (.tuple ds) = true ∧ Q (.bl (ds.any fun z => PyData.eqv z d)) H) := by
  intro pins s σ H x y v u Q I rx ry h
  obtain ⟨d, ds, hd, he, sd, se, q⟩ := h
  obtain ⟨as, r1⟩ := Dp.reads I d x v hd rx
  obtain ⟨bs, r2⟩ := Dp.reads I (.tuple ds) y u he ry
  exact SeqAt.in_tuple_reads r2 r1 (SeqAt.canLay_of_shaped se) (SeqAt.canLay_of_shaped sd) (room_in_shaped sd hu) ⟨.bl _, H, I, rfl, q⟩
theorem op_notInDT (hu : X.A.units + 65 < cLine) : OpR X (compareOp .NotIn) (fun x y H Q => ∃ d ds, Dp X.K H x d ∧ Dp X.K H y (.tuple ds) ∧ SeqAt.shaped d = true ∧ SeqAt.shaped (.tuple ds) = true ∧ Q (.bl (!ds.any fun z => PyData.eqv z d)) H) := by
  intro pins s σ H x y v u Q I rx ry h
  obtain ⟨d, ds, hd, he, sd, se, q⟩ := h
  obtain ⟨as, r1⟩ := Dp.reads I d x v hd rx
  obtain ⟨bs, r2⟩ := Dp.reads I (.tuple ds) y u he ry
  exact SeqAt.notIn_tuple_reads r2 r1 (SeqAt.canLay_of_shaped se) (SeqAt.canLay_of_shaped sd) (room_in_shaped sd hu) ⟨.bl _, H, I, rfl, q⟩
theorem str_of_one {x : Str} {c : Nat} (h : x.cps.toList = [c]) : x = ⟨#[c]⟩ := by
  obtain ⟨a⟩ := x
  have : a = #[c] := by
    apply Array.ext'
    simpa using h
  rw [this]
theorem od_in (hu : X.A.units + 65 < cLine) : OpD X (compareOp .In) inD := by
  refine ⟨_, (op_inD hu).or ((op_inDT hu).or op_in_sign), fun x y dx dy d H O Q hO rx ry e q => ?_⟩
  unfold inD at e
  split at e
  · split at e
    · rename_i h
      cases e
      exact .inl ⟨_, _, RD.dp _ (nd_shaped (and2 h).1) rx, RD.dp _ (nd_shaped (and2 h).2) ry, (and2 h).1, (and2 h).2, q _ _ (Stay.refl _ _) (.bl _)⟩
    · cases e
  · split at e
    · rename_i h
      cases e
      exact .inr (.inl ⟨_, _, RD.dp _ (nd_shaped (and2 h).1) rx, RD.dp _ (nd_shaped (and2 h).2) ry, (and2 h).1, (and2 h).2, q _ _ (Stay.refl _ _) (.bl _)⟩)
    · cases e
  · split at e
    · rename_i c hc
      cases rx; cases ry; cases e
      exact .inr (.inr ⟨c, _, by rw [str_of_one hc], rfl, q _ _ (Stay.refl _ _) (.bl _)⟩)
    · cases e
  · cases e
theorem od_nin (hu : X.A.units + 65 < cLine) : OpD X (compareOp .NotIn) ninD := by
  refine ⟨_, (op_notInD hu).or ((op_notInDT hu).or op_notIn_sign), fun x y dx dy d H O Q hO rx ry e q => ?_⟩
  unfold ninD at e
  split at e
  · split at e
    · rename_i h
      cases e
      exact .inl ⟨_, _, RD.dp _ (nd_shaped (and2 h).1) rx, RD.dp _ (nd_shaped (and2 h).2) ry, (and2 h).1, (and2 h).2, q _ _ (Stay.refl _ _) (.bl _)⟩
    · cases e
  · split at e
    · rename_i h
      cases e
      exact .inr (.inl ⟨_, _, RD.dp _ (nd_shaped (and2 h).1) rx, RD.dp _ (nd_shaped (and2 h).2) ry, (and2 h).1, (and2 h).2, q _ _ (Stay.refl _ _) (.bl _)⟩)
    · cases e
  · split at e
    · rename_i c hc
      cases rx; cases ry; cases e
      exact .inr (.inr ⟨c, _, by rw [str_of_one hc], rfl, q _ _ (Stay.refl _ _) (.bl _)⟩)
    · cases e
  · cases e
theorem isNon_of {K : PySem.W.Frag} {H : Hp} {O : Addr → Prop} {v : V} {d : PyData} (r : RD K H O v d) : isNon d = decide (v = .non) := by
  cases r <;> rfl
theorem od_is : OpD X (compareOp .Is) isD := by
  refine ⟨_, op_isN.or op_isBl, fun x y dx dy d H O Q hO rx ry e q => ?_⟩
  unfold isD at e
  split at e
  · cases ry; cases e
    exact .inl ⟨rfl, q _ _ (Stay.refl _ _) (by rw [isNon_of rx]; exact .bl _)⟩
  · cases rx; cases ry; cases e
    exact .inr ⟨_, _, rfl, rfl, q _ _ (Stay.refl _ _) (.bl _)⟩
  · cases e
theorem od_isn : OpD X (compareOp .IsNot) isnD := by
  refine ⟨_, op_notN.or op_notBl, fun x y dx dy d H O Q hO rx ry e q => ?_⟩
  unfold isnD at e
  split at e
  · cases ry; cases e
    exact .inl ⟨rfl, q _ _ (Stay.refl _ _) (by rw [isNon_of rx]; exact .bl _)⟩
  · cases rx; cases ry; cases e
    exact .inr ⟨_, _, rfl, rfl, q _ _ (Stay.refl _ _) (.bl _)⟩
  · cases e
theorem Room.u65 {A : Around} (hr : L2.Room k A) : A.units + 65 < cLine := by have := hr.un; omega

/-! ### items -/
def ixD : PyData → PyData → Option PyData
  | .list xs, .int i => atI xs i
  | .tuple xs, .int i => atI xs i
  | .str z, .int i => if z.length ≤ sizeLine then (match atI z.cps.toList i with
    | some c => some (.str ⟨#[c]⟩)
    | none => none) else none
  | _, _ => none
theorem RDs.atI {K : PySem.W.Frag} {H : Hp} {O : Addr → Prop} {vs : List V} {ds : List PyData} {i : Int} {d : PyData} (r : RDs K H O vs ds) (h : L2.atI ds i = some d) : ∃ v, L2.atI vs i = some v ∧ RD K H O v d := by
  unfold L2.atI at h ⊢
  rw [r.length]
  cases e : ixN ds.length i with
  | none => rw [e] at h; cases h
  | some j =>
    rw [e] at h
    exact r.get h
theorem se_ix {T : Tbs} {rs1 rs2 ch1 ch2 : List Nat} {a b : Expr} {pos : Pos} {fa fb : M PyData} (ha : SE X T rs1 ch1 a fa) (hb : SE X T rs2 ch2 b fb) (dj : Dj rs1 ch2) (hs : PlainIx b := by intro _ _; rfl) :
    SE X T (rs1 ++ rs2) (ch1 ++ ch2) (.Subscript a b pos) (lift2 ixD fa fb) := by
  refine PE.imp (pe_ix ix_seq ha hb hs) fun σ H Q h => two dj (fun x y dx dy d H O Q hO rx ry e q => ?_) h
  unfold ixD at e
  split at e
  · cases ry
    cases rx with
    | lst h1 n r =>
      obtain ⟨v, h2, r2⟩ := r.atI e
      exact .inl ⟨_, _, _, v, rfl, rfl, .inl h1, h2, q _ _ (Stay.refl _ _) r2⟩
  · cases ry
    cases rx with
    | tup h1 r =>
      obtain ⟨v, h2, r2⟩ := r.atI e
      exact .inr (.inl ⟨_, _, _, v, rfl, rfl, h1, h2, q _ _ (Stay.refl _ _) r2⟩)
  · split at e
    · rename_i hl
      split at e
      · rename_i c hc
        cases ry; cases rx; cases e
        exact .inr (.inr ⟨_, _, c, rfl, rfl, hl, hc, q _ _ (Stay.refl _ _) (.str _)⟩)
      · cases e
    · cases e
  · cases e

/-! ### built-in functions of data -/
structure CallD (X : Cx) (f : Value) (op : List PyData → Option PyData) : Prop where
  ex : ∃ r, CallR X f r ∧ ∀ xs ds d H O Q, (∀ b, O b → H b ≠ none) → RDs X.K H O xs ds → op ds = some d → (∀ v H', Stay No H H' → RD X.K H' O v d → Q v H') → r xs H Q
def liftL {α : Type} (op : List PyData → Option α) (f : M (List PyData)) : M α := fun st => match f st with
  | some (a, st1) => (match op a with
    | some d => some (d, st1)
    | none => none)
  | none => none
theorem liftL_some {α : Type} {op : List PyData → Option α} {f : M (List PyData)} {st st1 : Dn} {d : α} (h : liftL op f st = some (d, st1)) : ∃ a, f st = some (a, st1) ∧ op a = some d := by
  unfold liftL at h
  split at h
  · rename_i a st1' e
    split at h
    · rename_i d' e2
      cases h
      exact ⟨a, e, e2⟩
    · cases h
  · cases h
section
variable {T : Tbs} {rs ch : List Nat} {e : Expr} {es : List Expr} {pos p : Pos} {fs : M (List PyData)} {x : Str} {id Ty : String} {op : List PyData → Option PyData}
theorem callD_go {r : List V → Hp → VK → Prop} (h2 : ∀ xs ds d H O Q, (∀ b, O b → H b ≠ none) → RDs X.K H O xs ds → op ds = some d → (∀ v H', Stay No H H' → RD X.K H' O v d → Q v H') → r xs H Q) {σ : L2.St} {H : Hp} {Q : VK}
    (h : tE X.K T rs ch (liftL op fs) σ H Q) : tCB r (tAs X.K T rs ch fs) σ H Q := by
  obtain ⟨Out, st, d, st', th, R, e, q⟩ := h
  obtain ⟨ds, e1, e2⟩ := liftL_some e
  exact ⟨Out, st, ds, st', th, R, e1, fun vs H1 p1 r1 => h2 vs ds d H1 _ Q p1.rep.obThere r1 e2 fun v H' s rv => q v H' (p1.then s) rv⟩
theorem se_callB (hc : CallD X (.builtin id) op) (hg : Gl X x) (hm : X.mg x = none) (hv : bootBuiltins x = some (.builtin id)) (ha : SA X T rs ch (e :: es) fs) (hn : x ≠ "__name__" := by decide) (hdb : (x == ("__debug__" : Str)) = false := by decide)
    (he : starEach (e :: es) X.env = (false, eval e X.env) :: starEach es X.env := by rfl) (hpl : (backTo pos (starEach es X.env)).any (·.1) = false := by rfl) : SE X T rs ch (.Call (.Name x p) (e :: es) [] pos) (liftL op fs) := by
  obtain ⟨r, h1, h2⟩ := hc.ex
  exact PE.imp (pe_callB h1 hg hm hv ha hn hdb he hpl) fun σ H Q h => callD_go h2 h
theorem se_callTy (hc : CallD X (.type Ty) op) (hg : Gl X x) (hm : X.mg x = none) (hv : bootBuiltins x = some (.type Ty)) (ha : SA X T rs ch (e :: es) fs) (hn : x ≠ "__name__" := by decide) (hdb : (x == ("__debug__" : Str)) = false := by decide)
    (he : starEach (e :: es) X.env = (false, eval e X.env) :: starEach es X.env := by rfl) (hpl : (backTo pos (starEach es X.env)).any (·.1) = false := by rfl) : SE X T rs ch (.Call (.Name x p) (e :: es) [] pos) (liftL op fs) := by
  obtain ⟨r, h1, h2⟩ := hc.ex
  exact PE.imp (pe_callTy h1 hg hm hv ha hn hdb he hpl) fun σ H Q h => callD_go h2 h
end
def lenD : List PyData → Option PyData
  | [.list xs] => some (.int xs.length)
  | [.tuple xs] => some (.int xs.length)
  | [.str z] => if z.length ≤ sizeLine then some (.int z.length) else none
  | _ => none
theorem cd_len : CallD X (.builtin "len") lenD := by
  refine ⟨_, call_len_seq.or call_len_str, fun xs ds d H O Q hO r e q => ?_⟩
  unfold lenD at e
  split at e
  · cases r with
    | cons r1 r2 =>
      cases r2
      cases r1 with
      | lst h n rr => cases e; exact .inl ⟨_, _, rfl, .inl (.inl h), by rw [rr.length]; exact q _ _ (Stay.refl _ _) (.int _)⟩
  · cases r with
    | cons r1 r2 =>
      cases r2
      cases r1 with
      | tup h rr => cases e; exact .inl ⟨_, _, rfl, .inr h, by rw [rr.length]; exact q _ _ (Stay.refl _ _) (.int _)⟩
  · split at e
    · rename_i hl
      cases r with
      | cons r1 r2 =>
        cases r2
        cases r1
        cases e
        exact .inr ⟨_, rfl, hl, q _ _ (Stay.refl _ _) (.int _)⟩
    · cases e
  · cases e
def intD : List PyData → Option PyData
  | [.int i] => some (.int i)
  | [.bool b] => some (.int (if b then 1 else 0))
  | _ => none
theorem cd_int : CallD X (.type "int") intD := by
  refine ⟨_, call_int1, fun xs ds d H O Q hO r e q => ?_⟩
  unfold intD at e
  split at e
  · cases r with
    | cons r1 r2 => cases r2; cases r1; cases e; exact .inl ⟨_, rfl, q _ _ (Stay.refl _ _) (.int _)⟩
  · cases r with
    | cons r1 r2 => cases r2; cases r1; cases e; exact .inr ⟨_, rfl, q _ _ (Stay.refl _ _) (.int _)⟩
  · cases e
/-- tuple(x) -/
def tupleD : List PyData → Option PyData
  | [.list xs] => some (.tuple xs)
  | [.tuple xs] => some (.tuple xs)
  | _ => none
theorem cd_tuple : CallD X (.type "tuple") tupleD := by
  refine ⟨_, call_tupleN, fun xs ds d H O Q hO r e q => ?_⟩
  unfold tupleD at e
  split at e
  · cases r with
    | cons r1 r2 =>
      cases r2
      cases r1 with
      | lst h n rr => cases e; exact ⟨_, _, rfl, .inl ⟨.inl h, fun l o hl hd => q _ _ (Stay.new hl) (rd_tup hl hd rr)⟩⟩
  · cases r with
    | cons r1 r2 =>
      cases r2
      cases r1 with
      | tup h rr => cases e; exact ⟨_, _, rfl, .inr ⟨h.t, q _ _ (Stay.refl _ _) (.tup h rr)⟩⟩
  · cases e
end
end LH

set_option Elab.async false
set_option linter.all false
set_option maxRecDepth 100000
set_option maxHeartbeats 2000000
/-! Lh4: slots written, targets, statements -/
namespace LH
open PySem PySem.Spec PyProof.Rows L2

/-! ### lists given up -/
def thaw (i : Nat) (st : Dn) : Dn := match st[i]? with
  | some (some (.own ds)) => st.set i (some (.val (.list ds)))
  | some (some (.dK _)) => st.set i none
  | some (some (.dT _)) => st.set i none
  | _ => st
def unown : List Nat → Dn → Dn
  | [], st => st
  | i :: r, st => unown r (thaw i st)
def frzD (rs : List Nat) (d : PyData) (st : Dn) : Dn := if lf d then st else unown rs st
def frzL (rs : List Nat) (ds : List PyData) (st : Dn) : Dn := if lfs ds then st else unown rs st

theorem get_lt {α : Type} {l : List α} {i : Nat} {a : α} (h : l[i]? = some a) : i < l.length := (List.getElem?_eq_some_iff.mp h).1
theorem set_at {α : Type} {l : List α} {i j : Nat} {a b : α} (h : (l.set i a)[j]? = some b) : (j = i ∧ b = a ∧ i < l.length) ∨ (j ≠ i ∧ l[j]? = some b) := by
  by_cases e : j = i
  · subst e
    have hl : j < l.length := by have := get_lt h; simpa using this
    rw [List.getElem?_set_self hl] at h
    exact .inl ⟨rfl, (Option.some.inj h).symm, hl⟩
  · rw [List.getElem?_set_ne (Ne.symm e)] at h
    exact .inr ⟨e, h⟩
theorem set_other {α : Type} {l : List α} {i j : Nat} {a : α} (h : j ≠ i) : (l.set i a)[j]? = l[j]? := List.getElem?_set_ne (Ne.symm h)

section
variable {K : PySem.W.Frag} {T : Tbs} {Out : Addr → Prop} {st st1 st2 : Dn} {σ σ1 σ2 : L2.St} {H H1 H2 : Hp} {rs rs' ch ch1 ch2 as1 as2 : List Nat}
theorem thaw_at {i j : Nat} {b : Addr} (h : ownAt (thaw i st) σ j b) : ownAt st σ j b ∧ j ≠ i := by
  obtain ⟨⟨x, e, hm⟩, e2⟩ := h
  unfold thaw at e
  split at e
  · rcases set_at e with ⟨_, q, _⟩ | ⟨n, q⟩
    · cases q; cases hm
    · exact ⟨⟨⟨x, q, hm⟩, e2⟩, n⟩
  · rcases set_at e with ⟨_, q, _⟩ | ⟨n, q⟩
    · cases q
    · exact ⟨⟨⟨x, q, hm⟩, e2⟩, n⟩
  · rcases set_at e with ⟨_, q, _⟩ | ⟨n, q⟩
    · cases q
    · exact ⟨⟨⟨x, q, hm⟩, e2⟩, n⟩
  · rename_i h1 h2 h3
    refine ⟨⟨⟨x, e, hm⟩, e2⟩, fun z => ?_⟩
    subst z
    cases x with
    | val d => cases hm
    | own ds => exact h1 ds e
    | dK kvs => exact h2 kvs e
    | dT kvs => exact h3 kvs e
theorem thaw_other {i j : Nat} (h : j ≠ i) : (thaw i st)[j]? = st[j]? := by
  unfold thaw
  split
  · exact set_other h
  · exact set_other h
  · exact set_other h
  · rfl
theorem thaw_len {i : Nat} : (thaw i st).length = st.length := by
  unfold thaw
  split
  · rw [List.length_set]
  · rw [List.length_set]
  · rw [List.length_set]
  · rfl
theorem Rep.thaw (R : Rep K Out st σ H) (i : Nat) : Rep K Out (thaw i st) σ H := by
  have sub : ∀ b, Ob Out (LH.thaw i st) σ [] b → Ob Out st σ [] b := fun b z => by
    rcases z with z | ⟨j, n, z⟩
    · exact .inl z
    · exact .inr ⟨j, n, (thaw_at z).1⟩
  have at_i : ∀ x : Sl, (LH.thaw i st)[i]? = some (some x) → Sl.mine x = true → False := fun x e hm => by
    unfold LH.thaw at e
    split at e
    · rcases set_at e with ⟨_, q, _⟩ | ⟨n, _⟩
      · cases q; cases hm
      · exact n rfl
    · rcases set_at e with ⟨_, q, _⟩ | ⟨n, _⟩
      · cases q
      · exact n rfl
    · rcases set_at e with ⟨_, q, _⟩ | ⟨n, _⟩
      · cases q
      · exact n rfl
    · rename_i h1 h2 h3
      cases x with
      | val d => cases hm
      | own ds => exact h1 ds e
      | dK kvs => exact h2 kvs e
      | dT kvs => exact h3 kvs e
  refine ⟨by rw [thaw_len]; exact R.len, R.out, fun j d e => ?_, fun j ds e => ?_, fun j x e hx => ?_, fun j k a h1 h2 => R.sep j k a (thaw_at h1).1 (thaw_at h2).1⟩
  · by_cases hj : j = i
    · subst hj
      unfold LH.thaw at e
      split at e
      · rename_i ds e1
        rcases set_at e with ⟨_, q, _⟩ | ⟨n, _⟩
        · cases q
          obtain ⟨a, vs, q1, q2, q3, q4⟩ := R.own j ds e1
          refine ⟨.ref a, q1, .lst (Rd.of q3) (.inl fun z => ?_) (RDs.mono sub ds q4)⟩
          rcases z with z | ⟨k, _, z⟩
          · exact q2 z
          · exact (thaw_at z).2 (R.sep k j a (thaw_at z).1 ⟨⟨_, e1, rfl⟩, q1⟩)
        · exact absurd rfl n
      · rcases set_at e with ⟨_, q, _⟩ | ⟨n, _⟩
        · cases q
        · exact absurd rfl n
      · rcases set_at e with ⟨_, q, _⟩ | ⟨n, _⟩
        · cases q
        · exact absurd rfl n
      · obtain ⟨v, q1, q2⟩ := R.val j d e
        exact ⟨v, q1, RD.mono sub d q2⟩
    · rw [thaw_other hj] at e
      obtain ⟨v, q1, q2⟩ := R.val j d e
      exact ⟨v, q1, RD.mono sub d q2⟩
  · have hj : j ≠ i := fun z => by subst z; exact at_i _ e rfl
    rw [thaw_other hj] at e
    obtain ⟨a, vs, q1, q2, q3, q4⟩ := R.own j ds e
    exact ⟨a, vs, q1, q2, q3, RDs.mono sub ds q4⟩
  · have hj : j ≠ i := fun z => by subst z; exact at_i _ e (Sl.isD_mine hx)
    rw [thaw_other hj] at e
    exact R.dct j x e hx
theorem Rep.unown : ∀ (rs : List Nat) {st : Dn}, Rep K Out st σ H → Rep K Out (unown rs st) σ H ∧ (∀ (i : Nat) b, ownAt (unown rs st) σ i b → ownAt st σ i b ∧ i ∉ rs) ∧ ∀ (i : Nat), i ∉ rs → (LH.unown rs st)[i]? = st[i]?
  | [], st, R => ⟨R, fun _ _ h => ⟨h, by simp⟩, fun _ _ => rfl⟩
  | i :: r, st, R => by
    obtain ⟨a, b, c⟩ := Rep.unown r (R.thaw i)
    refine ⟨a, fun j b' h => ?_, fun j h => ?_⟩
    · obtain ⟨h1, h2⟩ := b j b' h
      obtain ⟨h3, h4⟩ := thaw_at h1
      exact ⟨h3, by simp only [List.mem_cons, not_or]; exact ⟨h4, h2⟩⟩
    · simp only [List.mem_cons, not_or] at h
      exact (c j h.2).trans (thaw_other h.1)
/-- behind an expression: what it read is given up where the datum has a list -/
structure Frz (K : PySem.W.Frag) (Out : Addr → Prop) (rs : List Nat) (st st' : Dn) (σ : L2.St) (H : Hp) : Prop where
  rep : Rep K Out st' σ H
  own : ∀ (i : Nat) b, ownAt st' σ i b → ownAt st σ i b
  same : ∀ (i : Nat), i ∉ rs → st'[i]? = st[i]?
theorem frzD_ok {d : PyData} (R : Rep K Out st σ H) : Frz K Out rs st (frzD rs d st) σ H ∧ ∀ v, RD K H (Ob Out st σ rs) v d → RD K H (Ob Out (frzD rs d st) σ []) v d := by
  unfold frzD
  split
  · rename_i h
    exact ⟨⟨R, fun _ _ q => q, fun _ _ => rfl⟩, fun v r => r.free d h⟩
  · obtain ⟨a, b, c⟩ := Rep.unown rs R
    refine ⟨⟨a, fun i x h => (b i x h).1, c⟩, fun v r => RD.mono (fun x z => ?_) d r⟩
    rcases z with z | ⟨i, _, z⟩
    · exact .inl z
    · exact .inr ⟨i, (b i x z).2, (b i x z).1⟩
theorem frzL_ok {ds : List PyData} (R : Rep K Out st σ H) : Frz K Out rs st (frzL rs ds st) σ H ∧ ∀ v, RDs K H (Ob Out st σ rs) v ds → RDs K H (Ob Out (frzL rs ds st) σ []) v ds := by
  unfold frzL
  split
  · rename_i h
    exact ⟨⟨R, fun _ _ q => q, fun _ _ => rfl⟩, fun v r => r.free ds h⟩
  · obtain ⟨a, b, c⟩ := Rep.unown rs R
    refine ⟨⟨a, fun i x h => (b i x h).1, c⟩, fun v r => RDs.mono (fun x z => ?_) ds r⟩
    rcases z with z | ⟨i, _, z⟩
    · exact .inl z
    · exact .inr ⟨i, (b i x z).2, (b i x z).1⟩
theorem EPost.frz (a : EPost K T Out σ st H ch st1 H1) (f : Frz K Out rs st1 st2 σ H1) : SPost K T Out st σ H [] (ch ++ rs) st2 σ H1 := by
  refine ⟨a.th, f.rep, a.stay.mono fun c ⟨i, m, h⟩ => ⟨i, List.mem_append_left _ m, h⟩, fun i n _ => ?_, fun _ _ => rfl, fun i b h => .inl (a.sub i b (f.own i b h))⟩
  rw [List.mem_append, not_or] at n
  exact (f.same i n.2).trans (a.same i n.1)

/-! ### a slot written -/
/-- what a target's assignment leaves -/
structure GPost (K : PySem.W.Frag) (Out : Addr → Prop) (st : Dn) (σ : L2.St) (H : Hp) (asg : List Nat) (st' : Dn) (σ' : L2.St) : Prop where
  rep : Rep K Out st' σ' H
  same : ∀ (i : Nat), i ∉ asg → st'[i]? = st[i]?
  sg : ∀ (i : Nat), i ∉ asg → σ'[i]? = σ[i]?
  own : ∀ (i : Nat) b, ownAt st' σ' i b → ownAt st σ i b
  len : σ'.length = σ.length
theorem GPost.refl (R : Rep K Out st σ H) : GPost K Out st σ H [] st σ := ⟨R, fun _ _ => rfl, fun _ _ => rfl, fun _ _ h => h, rfl⟩
theorem GPost.trans (a : GPost K Out st σ H as1 st1 σ1) (b : GPost K Out st1 σ1 H as2 st2 σ2) : GPost K Out st σ H (as1 ++ as2) st2 σ2 := by
  refine ⟨b.rep, fun i n => ?_, fun i n => ?_, fun i x h => a.own i x (b.own i x h), b.len.trans a.len⟩
  · rw [List.mem_append, not_or] at n
    exact (b.same i n.2).trans (a.same i n.1)
  · rw [List.mem_append, not_or] at n
    exact (b.sg i n.2).trans (a.sg i n.1)
theorem setVal_at {i j : Nat} {b : Addr} {d : PyData} {v : V} (h : ownAt (st.set i (some (.val d))) (σ.set i (some v)) j b) : j ≠ i ∧ ownAt st σ j b := by
  obtain ⟨⟨x, e, hm⟩, e2⟩ := h
  rcases set_at e with ⟨_, q, _⟩ | ⟨n, q⟩
  · cases q; cases hm
  · rw [set_other n] at e2
    exact ⟨n, ⟨x, q, hm⟩, e2⟩
theorem setVal_ok {i : Nat} {d : PyData} {v : V} (R : Rep K Out st σ H) (r : RD K H (Ob Out st σ []) v d) : GPost K Out st σ H [i] (st.set i (some (.val d))) (σ.set i (some v)) := by
  have sub : ∀ b, Ob Out (st.set i (some (.val d))) (σ.set i (some v)) [] b → Ob Out st σ [] b := fun b z => by
    rcases z with z | ⟨j, n, z⟩
    · exact .inl z
    · exact .inr ⟨j, n, (setVal_at z).2⟩
  refine ⟨⟨by rw [List.length_set, List.length_set]; exact R.len, R.out, fun j d' e => ?_, fun j ds e => ?_, fun j x e hx => ?_, fun j k a h1 h2 => R.sep j k a (setVal_at h1).2 (setVal_at h2).2⟩, fun j n => set_other (by simpa using n), fun j n => set_other (by simpa using n), fun j b h => (setVal_at h).2, by rw [List.length_set]⟩
  · rcases set_at e with ⟨rfl, q, hl⟩ | ⟨n, q⟩
    · cases q
      exact ⟨v, List.getElem?_set_self (by rw [← R.len]; exact hl), RD.mono sub _ r⟩
    · obtain ⟨v', q1, q2⟩ := R.val j d' q
      exact ⟨v', by rw [set_other n]; exact q1, RD.mono sub d' q2⟩
  · rcases set_at e with ⟨_, q, _⟩ | ⟨n, q⟩
    · cases q
    · obtain ⟨a, vs, q1, q2, q3, q4⟩ := R.own j ds q
      exact ⟨a, vs, by rw [set_other n]; exact q1, q2, q3, RDs.mono sub ds q4⟩
  · rcases set_at e with ⟨_, q, _⟩ | ⟨n, q⟩
    · cases q; cases hx
    · obtain ⟨a, o, q1, q2⟩ := R.dct j x q hx
      exact ⟨a, o, by rw [set_other n]; exact q1, q2⟩
theorem setOwn_at {i j : Nat} {b a : Addr} {d : Sl} (h : ownAt (st.set i (some d)) (σ.set i (some (.ref a))) j b) : (j = i ∧ b = a) ∨ (j ≠ i ∧ ownAt st σ j b) := by
  obtain ⟨⟨x, e, hm⟩, e2⟩ := h
  rcases set_at e with ⟨rfl, q, hl⟩ | ⟨n, q⟩
  · rcases set_at e2 with ⟨_, q, _⟩ | ⟨n, _⟩
    · cases q
      exact .inl ⟨rfl, rfl⟩
    · exact absurd rfl n
  · rw [set_other n] at e2
    exact .inr ⟨n, ⟨x, q, hm⟩, e2⟩
/-- a new list, a new dict is laid in slot i -/
theorem setMine_ok {i : Nat} {y : Sl} {a : Addr} (hy : y.mine = true) (R : Rep K (OutA Out a) st σ H) (na : ¬ Out a) (r1 : ∀ ds, y = .own ds → ∃ vs, H a = some (.lst vs) ∧ RDs K H (Ob (OutA Out a) st σ []) vs ds) (r2 : y.isD = true → ∃ o, H a = some o ∧ DIs K H o y) : Rep K Out (st.set i (some y)) (σ.set i (some (.ref a))) H := by
  have sub : ∀ b, Ob Out (st.set i (some y)) (σ.set i (some (.ref a))) [] b → Ob (OutA Out a) st σ [] b := fun b z => by
    rcases z with z | ⟨j, n, z⟩
    · exact .inl (.inl z)
    · rcases setOwn_at z with ⟨_, e⟩ | ⟨_, q⟩
      · exact .inl (.inr e)
      · exact .inr ⟨j, n, q⟩
  refine ⟨by rw [List.length_set, List.length_set]; exact R.len, fun b h => R.out b (.inl h), fun j d e => ?_, fun j es e => ?_, fun j x e hx => ?_, fun j k b h1 h2 => ?_⟩
  · rcases set_at e with ⟨_, q, _⟩ | ⟨n, q⟩
    · cases q; cases hy
    · obtain ⟨v, q1, q2⟩ := R.val j d q
      exact ⟨v, by rw [set_other n]; exact q1, RD.mono sub d q2⟩
  · rcases set_at e with ⟨rfl, q, hl⟩ | ⟨n, q⟩
    · cases q
      obtain ⟨vs, ha, r⟩ := r1 es rfl
      exact ⟨a, vs, List.getElem?_set_self (by rw [← R.len]; exact hl), na, ha, RDs.mono sub _ r⟩
    · obtain ⟨b, ws, q1, q2, q3, q4⟩ := R.own j es q
      exact ⟨b, ws, by rw [set_other n]; exact q1, fun z => q2 (.inl z), q3, RDs.mono sub _ q4⟩
  · rcases set_at e with ⟨rfl, q, hl⟩ | ⟨n, q⟩
    · cases q
      obtain ⟨o, ha, r⟩ := r2 hx
      exact ⟨a, o, List.getElem?_set_self (by rw [← R.len]; exact hl), na, ha, r⟩
    · obtain ⟨b, o, q1, q2, q3⟩ := R.dct j x q hx
      exact ⟨b, o, by rw [set_other n]; exact q1, fun z => q2 (.inl z), q3⟩
  · have key : ∀ j k, j ≠ k → ownAt (st.set i (some y)) (σ.set i (some (.ref a))) j b → ownAt (st.set i (some y)) (σ.set i (some (.ref a))) k b → False := fun j k njk h1 h2 => by
      rcases setOwn_at h1 with ⟨e1, e2⟩ | ⟨n1, q1⟩
      · rcases setOwn_at h2 with ⟨e3, _⟩ | ⟨n2, q2⟩
        · exact njk (e1.trans e3.symm)
        · obtain ⟨_, _, _, _, z, _⟩ := R.ownLst q2
          exact z (.inr e2)
      · rcases setOwn_at h2 with ⟨e3, e4⟩ | ⟨n2, q2⟩
        · obtain ⟨_, _, _, _, z, _⟩ := R.ownLst q1
          exact z (.inr e4)
        · exact njk (R.sep j k b q1 q2)
    by_cases hjk : j = k
    · exact hjk
    · exact (key j k hjk h1 h2).elim
theorem setOwn_ok {i : Nat} {ds : List PyData} {a : Addr} {vs : List V} (R : Rep K (OutA Out a) st σ H) (na : ¬ Out a) (ha : H a = some (.lst vs)) (r : RDs K H (Ob (OutA Out a) st σ []) vs ds) : Rep K Out (st.set i (some (.own ds))) (σ.set i (some (.ref a))) H :=
  setMine_ok rfl R na (fun es e => by cases e; exact ⟨vs, ha, r⟩) (fun h => by cases h)
/-- one's own list in slot i is written -/
theorem writeMine_ok {i : Nat} {x y : Sl} {a : Addr} {o' : HO} (hx : x.mine = true) (hy : y.mine = true) (R : Rep K Out st σ H) (e : st[i]? = some (some x)) (e2 : σ[i]? = some (some (.ref a))) (s : Stay (Ow st σ [i]) H (upd H a o'))
    (r1 : ∀ ds, y = .own ds → ∃ vs, o' = .lst vs ∧ RDs K H (Ob Out st σ []) vs ds) (r2 : y.isD = true → DIs K H o' y) :
    Rep K Out (st.set i (some y)) σ (upd H a o') ∧ ∀ (j : Nat) b, ownAt (st.set i (some y)) σ j b → ownAt st σ j b := by
  have oa : ownAt st σ i a := ⟨⟨x, e, hx⟩, e2⟩
  have ow : ∀ (j : Nat) b, ownAt (st.set i (some y)) σ j b → ownAt st σ j b := fun j b ⟨⟨d, q, hm⟩, q2⟩ => by
    rcases set_at q with ⟨rfl, _, _⟩ | ⟨_, q⟩
    · exact ⟨⟨x, e, hx⟩, q2⟩
    · exact ⟨⟨d, q, hm⟩, q2⟩
  have sub : ∀ b, Ob Out (st.set i (some y)) σ [] b → Ob Out st σ [] b := fun b z => by
    rcases z with z | ⟨j, n, z⟩
    · exact .inl z
    · exact .inr ⟨j, n, ow j b z⟩
  have sub2 : ∀ b, Ow st σ [i] b → Ob Out st σ [] b := fun b ⟨j, _, z⟩ => .inr ⟨j, by simp, z⟩
  have na : ¬ Out a := by
    obtain ⟨_, _, _, _, z, _⟩ := R.ownLst oa
    exact z
  refine ⟨⟨by rw [List.length_set]; exact R.len, fun b h => s.there b (R.out b h), fun j d q => ?_, fun j fs q => ?_, fun j z q hz => ?_, fun j k b h1 h2 => R.sep j k b (ow j b h1) (ow k b h2)⟩, ow⟩
  · rcases set_at q with ⟨_, q, _⟩ | ⟨n, q⟩
    · cases q; cases hy
    · obtain ⟨v, q1, q2⟩ := R.val j d q
      exact ⟨v, q1, RD.mono sub d (RD.keep s sub2 d q2)⟩
  · rcases set_at q with ⟨rfl, q, hl⟩ | ⟨n, q⟩
    · cases q
      obtain ⟨ws, rfl, r⟩ := r1 fs rfl
      exact ⟨a, ws, e2, na, upd_same, RDs.mono sub _ (RDs.keep s sub2 _ r)⟩
    · obtain ⟨b, us, q1, q2, q3, q4⟩ := R.own j fs q
      have nb : b ≠ a := fun z => n (R.sep j i a ⟨⟨_, q, rfl⟩, by rw [← z]; exact q1⟩ oa)
      exact ⟨b, us, q1, q2, by rw [upd_ne nb]; exact q3, RDs.mono sub _ (RDs.keep s sub2 _ q4)⟩
  · rcases set_at q with ⟨rfl, q, hl⟩ | ⟨n, q⟩
    · cases q
      exact ⟨a, o', e2, na, upd_same, (r2 hz).keep s⟩
    · obtain ⟨b, o, q1, q2, q3, q4⟩ := R.dct j z q hz
      have nb : b ≠ a := fun w => n (R.sep j i a ⟨⟨_, q, Sl.isD_mine hz⟩, by rw [← w]; exact q1⟩ oa)
      exact ⟨b, o, q1, q2, by rw [upd_ne nb]; exact q3, q4.keep s⟩
theorem writeOwn_ok {i : Nat} {ds es : List PyData} {a : Addr} {vs ws : List V} (R : Rep K Out st σ H) (e : st[i]? = some (some (.own ds))) (e2 : σ[i]? = some (some (.ref a))) (ha : H a = some (.lst vs)) (r : RDs K H (Ob Out st σ []) ws es) :
    Rep K Out (st.set i (some (.own es))) σ (upd H a (.lst ws)) ∧ Stay (Ow st σ [i]) H (upd H a (.lst ws)) ∧ ∀ (j : Nat) b, ownAt (st.set i (some (.own es))) σ j b → ownAt st σ j b := by
  have oa : ownAt st σ i a := ⟨⟨_, e, rfl⟩, e2⟩
  have s : Stay (Ow st σ [i]) H (upd H a (.lst ws)) := Stay.write ha ⟨i, by simp, oa⟩
  obtain ⟨h1, h2⟩ := writeMine_ok (y := .own es) rfl rfl R e e2 s (fun fs z => by cases z; exact ⟨ws, rfl, r⟩) (fun h => by cases h)
  exact ⟨h1, s, h2⟩
theorem GPost.s (a : GPost K Out st σ H as1 st1 σ1) (t : TH T H) : SPost K T Out st σ H as1 ch st1 σ1 H :=
  ⟨t, a.rep, Stay.refl _ _, fun i _ n => a.same i n, a.sg, fun i b h => .inl (a.own i b h)⟩
end

/-! ### statements -/
def nxM : M Fl := fun st => some (.nx, st)
def bkM : M Fl := fun st => some (.bk, st)
def ctM : M Fl := fun st => some (.ct, st)
def sq (f g : M Fl) : M Fl := fun st => match f st with
  | some (.nx, st1) => g st1
  | r => r
def retM (rs : List Nat) (f : M PyData) : M Fl := fun st => match f st with
  | some (d, st1) => some (.rt d, frzD rs d st1)
  | none => none
def setM (i : Nat) (rs : List Nat) (f : M PyData) : M Fl := fun st => match f st with
  | some (d, st1) => some (.nx, (frzD rs d st1).set i (some (.val d)))
  | none => none
def setO (i : Nat) (rs : List Nat) (f : M (List PyData)) : M Fl := fun st => match f st with
  | some (ds, st1) => some (.nx, (frzL rs ds st1).set i (some (.own ds)))
  | none => none
def exM {α : Type} (f : M α) : M Fl := fun st => match f st with
  | some (_, st1) => some (.nx, st1)
  | none => none
/-- a list of one's own changed -/
def chO {α : Type} (i : Nat) (rs : List Nat) (fz : α → Bool) (f : M α) (w : List PyData → α → Option (List PyData)) : M Fl := fun st => match st[i]? with
  | some (some (.own _)) => (match f st with
  | some (d, st1) => (match (if fz d then st1 else unown rs st1)[i]? with
    | some (some (.own ds)) => (match w ds d with
      | some es => some (.nx, (if fz d then st1 else unown rs st1).set i (some (.own es)))
      | none => none)
    | _ => none)
  | none => none)
  | _ => none
def appM (i : Nat) (rs : List Nat) (f : M PyData) : M Fl := chO i rs lf f fun ds d => if ds.length < sizeLine then some (ds ++ [d]) else none
def freeze (rs : List Nat) : M Fl := fun st => some (.nx, unown rs st)
section
variable {X : Cx} {T : Tbs} {rs rs1 rs2 ch ch1 ch2 ch3 as1 as2 as3 : List Nat} {e : Expr} {pos p1 p2 : Pos} {f : M PyData} {fl : M (List PyData)} {g g1 g2 : M Fl} {c : M Bool} {i : Nat} {x : Str} {s : Stmt} {r : List Stmt}
theorem ss_nil : SSs X T [] [] [] nxM := PSs.imp pss_nil fun D σ H ⟨Out, st, fl, st', th, R, e, q⟩ => by
  cases e
  exact q σ H (.refl th R)
theorem ss_pass : SS X T [] [] (.Pass pos) nxM := PS.imp ps_pass fun D σ H ⟨Out, st, fl, st', th, R, e, q⟩ => by
  cases e
  exact q σ H (.refl th R)
theorem ss_break : SS X T [] [] (.Break pos) bkM := PS.imp ps_break fun D σ H ⟨Out, st, fl, st', th, R, e, q⟩ => by
  cases e
  exact q σ H (.refl th R)
theorem ss_cont : SS X T [] [] (.Continue pos) ctM := PS.imp ps_continue fun D σ H ⟨Out, st, fl, st', th, R, e, q⟩ => by
  cases e
  exact q σ H (.refl th R)
theorem sq_go {D : Ends} {σ : L2.St} {H : Hp} (h : tS X.K T (as1 ++ as2) (ch1 ++ ch2) (sq g1 g2) D σ H) : tS X.K T as1 ch1 g1 { D with nx := tS X.K T as2 ch2 g2 D } σ H := by
  obtain ⟨Out, st, fl, st', th, R, e, q⟩ := h
  cases e1 : g1 st with
  | none => simp [sq, e1] at e
  | some r =>
    obtain ⟨f1, st1⟩ := r
    cases f1 with
    | nx =>
      simp only [sq, e1] at e
      refine ⟨Out, st, .nx, st1, th, R, e1, fun σ1 H1 p1 => ⟨Out, st1, fl, st', p1.th, p1.rep, e, fun σ2 H2 p2 => q σ2 H2 (p1.trans p2)⟩⟩
    | rt d =>
      simp only [sq, e1] at e
      cases e
      exact ⟨Out, st, .rt d, _, th, R, e1, fun σ1 H1 p1 => q σ1 H1 (p1.mono (fun i h => List.mem_append_left _ h) fun i h => List.mem_append_left _ h)⟩
    | bk =>
      simp only [sq, e1] at e
      cases e
      exact ⟨Out, st, .bk, _, th, R, e1, fun σ1 H1 p1 => q σ1 H1 (p1.mono (fun i h => List.mem_append_left _ h) fun i h => List.mem_append_left _ h)⟩
    | ct =>
      simp only [sq, e1] at e
      cases e
      exact ⟨Out, st, .ct, _, th, R, e1, fun σ1 H1 p1 => q σ1 H1 (p1.mono (fun i h => List.mem_append_left _ h) fun i h => List.mem_append_left _ h)⟩
theorem ss_cons (h1 : SS X T as1 ch1 s g1) (h2 : SSs X T as2 ch2 r g2) : SSs X T (as1 ++ as2) (ch1 ++ ch2) (s :: r) (sq g1 g2) :=
  PSs.imp (pss_cons h1 h2) fun D σ H h => sq_go h
theorem ss_one (h1 : SS X T as1 ch1 s g1) : SSs X T as1 ch1 [s] g1 := pss_one h1
/-- one's own lists given up -/
theorem ss_freeze (h2 : SSs X T as2 ch2 r g2) : SSs X T as2 (rs ++ ch2) r (sq (freeze rs) g2) := by
  refine PSs.imp h2 fun D σ H ⟨Out, st, fl, st', th, R, e, q⟩ => ?_
  obtain ⟨R1, ow, sm⟩ := Rep.unown rs R
  have p : SPost X.K T Out st σ H [] rs (unown rs st) σ H := ⟨th, R1, Stay.refl _ _, fun i n _ => sm i n, fun _ _ => rfl, fun i b h => .inl (ow i b h).1⟩
  exact ⟨Out, unown rs st, fl, st', th, R1, e, fun σ1 H1 p1 => q σ1 H1 (p.trans p1)⟩
theorem ss_ret (h : SE X T rs ch e f) : SS X T [] (ch ++ rs) (.Return (some e) pos) (retM rs f) := by
  refine PS.imp (ps_ret h) fun D σ H ⟨Out, st, fl, st', th, R, e, q⟩ => ?_
  unfold retM at e
  split at e
  · rename_i d st1 e1
    cases e
    refine ⟨Out, st, d, st1, th, R, e1, fun v H1 p1 r1 => ?_⟩
    obtain ⟨fz, fr⟩ := frzD_ok (rs := rs) (d := d) p1.rep
    exact q σ H1 (p1.frz fz) v (fr v r1)
  · cases e
theorem ss_retN : SS X T [] [] (.Return none pos) (retM [] (cst .none)) := by
  refine PS.imp ps_retN fun D σ H ⟨Out, st, fl, st', th, R, e, q⟩ => ?_
  cases e
  exact q σ H (.refl th R) _ .non
theorem setM_go {D : Ends} {σ : L2.St} {H : Hp} (h : tS X.K T [i] (ch ++ rs) (setM i rs f) D σ H) : tAsg (tE X.K T rs ch f) (gName i) D σ H := by
  obtain ⟨Out, st, fl, st', th, R, e, q⟩ := h
  unfold setM at e
  split at e
  · rename_i d st1 e1
    cases e
    refine ⟨Out, st, d, st1, th, R, e1, fun v H1 p1 r1 => ?_⟩
    obtain ⟨fz, fr⟩ := frzD_ok (rs := rs) (d := d) p1.rep
    exact q (σ.set i (some v)) H1 (((p1.frz fz).trans ((setVal_ok fz.rep (fr v r1)).s (ch := []) p1.th)).mono (fun i h => h) fun i h => by simpa using h)
  · cases e
theorem ss_set (nd : X.N.Nodup) (hi : X.N[i]? = some x) (hx : Loc X.env.scope x) (h : SE X T rs ch e f) (hs : swapsWith e (some (.Name x p1)) pos.line X.env = pure false) (hf : X.fn x = true ∨ X.env.scope.names.lookup x = some .local) :
    SS X T [i] (ch ++ rs) (.Assign [.Name x p1] e pos) (setM i rs f) := PS.imp (ps_set nd hi hx h hs hf) fun D σ H h => setM_go h
theorem setO_go {D : Ends} {σ : L2.St} {H : Hp} (h : tS X.K T [i] (ch ++ rs) (setO i rs fl) D σ H) : tAsg (tF X.K T rs ch fl) (gName i) D σ H := by
  obtain ⟨Out, st, fl', st', th, R, e, q⟩ := h
  unfold setO at e
  split at e
  · rename_i ds st1 e1
    cases e
    refine ⟨Out, st, ds, st1, th, R, e1, fun a vs H1 p1 ra hn ha r1 => ?_⟩
    obtain ⟨fz, fr⟩ := frzL_ok (rs := rs) (ds := ds) ra
    have na : ¬ Out a := fun z => R.out a z hn
    have R2 := setOwn_ok (i := i) fz.rep na ha (fr vs r1)
    refine q (σ.set i (some (.ref a))) H1 ⟨p1.th, R2, p1.stay.mono fun c ⟨j, m, h⟩ => ⟨j, List.mem_append_left _ m, h⟩, fun j n m => ?_, fun j n => set_other (by simpa using n), fun j b h => ?_⟩
    · rw [List.mem_append, not_or] at n
      rw [set_other (by simpa using m)]
      exact (fz.same j n.2).trans (p1.same j n.1)
    · rcases setOwn_at h with ⟨_, rfl⟩ | ⟨_, h⟩
      · exact .inr hn
      · exact .inl (p1.sub j b (fz.own j b h))
  · cases e
theorem ss_setO (nd : X.N.Nodup) (hi : X.N[i]? = some x) (hx : Loc X.env.scope x) (h : SF X T rs ch e fl) (hs : swapsWith e (some (.Name x p1)) pos.line X.env = pure false) (hf : X.fn x = true ∨ X.env.scope.names.lookup x = some .local) :
    SS X T [i] (ch ++ rs) (.Assign [.Name x p1] e pos) (setO i rs fl) :=
  PS.imp (ps_set nd hi hx h hs hf) fun D σ H h => setO_go h
theorem ss_ex (h : SE X T rs ch e f) (hs : swapsWith e none pos.line X.env = pure false := by rfl) : SS X T [] ch (.Expr e pos) (exM f) := by
  refine PS.imp (ps_expr h hs) fun D σ H ⟨Out, st, fl, st', th, R, e, q⟩ => ?_
  unfold exM at e
  split at e
  · rename_i d st1 e1
    cases e
    exact ⟨Out, st, d, _, th, R, e1, fun v H1 p1 r1 => q σ H1 p1.s⟩
  · cases e
theorem ss_doc {z : Str} {j : Nat} : SS X T [] [] (.Expr (.Constant (.str z) j p1) pos) nxM := PS.imp ps_doc fun D σ H ⟨Out, st, fl, st', th, R, e, q⟩ => by
  cases e
  exact q σ H (.refl th R)
theorem ss_if {ce : Expr} {a b : List Stmt} (hc : ST X T ch1 ce c) (ha : SSs X T as2 ch2 a g1) (hb : SSs X T as3 ch3 b g2) : SS X T (as2 ++ as3) (ch1 ++ (ch2 ++ ch3)) (.If ce a b pos) (iteM c g1 g2) := by
  refine PS.imp (ps_if hc ha hb) fun D σ H ⟨Out, st, fl, st', th, R, e, q⟩ => ?_
  unfold iteM at e
  split at e
  · rename_i st1 e1
    exact ⟨Out, st, true, st1, th, R, e1, fun H1 p1 => iteT ⟨Out, st1, fl, st', p1.th, p1.rep, e, fun σ2 H2 p2 => q σ2 H2 ((p1.s.trans p2).mono (fun i h => List.mem_append_left _ h) fun i h => by
      rcases List.mem_append.mp h with h | h
      · exact List.mem_append_left _ h
      · exact List.mem_append_right _ (List.mem_append_left _ h))⟩⟩
  · rename_i st1 e1
    exact ⟨Out, st, false, st1, th, R, e1, fun H1 p1 => iteF ⟨Out, st1, fl, st', p1.th, p1.rep, e, fun σ2 H2 p2 => q σ2 H2 ((p1.s.trans p2).mono (fun i h => List.mem_append_right _ h) fun i h => by
      rcases List.mem_append.mp h with h | h
      · exact List.mem_append_left _ h
      · exact List.mem_append_right _ (List.mem_append_right _ h))⟩⟩
  · cases e
/-- a list of one's own is changed, from what an expression gave -/
theorem chO_go {α : Type} {fz : α → Bool} {fa : M α} {w : List PyData → α → Option (List PyData)} {D : Ends} {σ : L2.St} {H : Hp} (h : tS X.K T [] (ch ++ rs ++ [i]) (chO i rs fz fa w) D σ H) :
    ∃ Out st d st1, TH T H ∧ Rep X.K Out st σ H ∧ (∃ ds, st[i]? = some (some (.own ds))) ∧ fa st = some (d, st1) ∧ ∀ H1, EPost X.K T Out σ st H ch st1 H1 →
      ∃ ds es a vs, w ds d = some es ∧ σ[i]? = some (some (.ref a)) ∧ H1 a = some (.lst vs) ∧
        ∃ st2, Rep X.K Out st2 σ H1 ∧ RDs X.K H1 (Ob Out st2 σ []) vs ds ∧ (fz d = true → st2 = st1) ∧ (∀ b, Ob Out st2 σ [] b → Ob Out st1 σ (if fz d then [] else rs) b) ∧
          ∀ ws, RDs X.K H1 (Ob Out st2 σ []) ws es → D.nx σ (upd H1 a (.lst ws)) := by
  obtain ⟨Out, st, fl', st', th, R, e, q⟩ := h
  unfold chO at e
  split at e
  rename_i ds0 e0
  split at e
  · rename_i d st1 e1
    split at e
    · rename_i ds e2
      split at e
      · rename_i es e3
        cases e
        refine ⟨Out, st, d, st1, th, R, ⟨ds0, e0⟩, e1, fun H1 p1 => ?_⟩
        have fr : Frz X.K Out rs st1 (if fz d then st1 else unown rs st1) σ H1 ∧ ∀ b, Ob Out (if fz d then st1 else unown rs st1) σ [] b → Ob Out st1 σ (if fz d then [] else rs) b := by
          cases hb : fz d with
          | true => exact ⟨⟨p1.rep, fun _ _ h => h, fun _ _ => rfl⟩, fun _ h => h⟩
          | false =>
            obtain ⟨a, b, c⟩ := Rep.unown rs p1.rep
            refine ⟨⟨a, fun i x h => (b i x h).1, c⟩, fun x z => ?_⟩
            rcases z with z | ⟨j, _, z⟩
            · exact .inl z
            · exact .inr ⟨j, (b j x z).2, (b j x z).1⟩
        obtain ⟨fr, fo⟩ := fr
        obtain ⟨a, vs, q1, q2, q3, q4⟩ := fr.rep.own i ds e2
        refine ⟨ds, es, a, vs, e3, q1, q3, _, fr.rep, q4, fun hb => by rw [hb]; rfl, fo, fun ws r => ?_⟩
        obtain ⟨R3, s3, o3⟩ := writeOwn_ok fr.rep e2 q1 q3 r
        refine q σ (upd H1 a (.lst ws)) ((p1.frz fr).trans (as2 := []) (ch2 := [i]) ⟨p1.th.stay s3, R3, s3, fun j n _ => set_other (by simpa using n), fun _ _ => rfl, fun j b h => .inl (o3 j b h)⟩)
      · cases e
    · cases e
  · cases e
  · cases e
theorem ty_list {K : PySem.W.Frag} {H : Hp} {a : Addr} {xs : List V} (h : H a = some (.lst xs)) : tyV K "list" (.ref a) H := Or.inl ⟨rfl, _, Or.inl (Or.inl h)⟩
/-- x.append(e) -/
theorem ss_app {apos cpos : Pos} (n : Nm X i x) (he : SE X T rs ch e f) (hbase : attributeBase (.Name x p1) "append" X.env (eval (.Name x p1) X.env) = eval (.Name x p1) X.env := by rfl)
    (hst : starEach [e] X.env = (false, eval e X.env) :: starEach [] X.env := by rfl)
    (hfew : ((backTo cpos (starEach [e] X.env)).all (fun x => !x.1) && (backToKw cpos (keywordEach [] X.env)).all (fun x => x.1.isSome)
      && decide (([e] : List Expr).length + ([] : List Keyword).length + (if ([] : List Keyword).isEmpty then 0 else 1) < 30)) = true := by rfl)
    (hline : (apos.endLine == cpos.line) = true := by rfl) (hs : swapsWith (.Call (.Attribute (.Name x p1) "append" apos) [e] [] cpos) none pos.line X.env = pure false := by rfl) :
    SS X T [] (ch ++ rs ++ [i]) (.Expr (.Call (.Attribute (.Name x p1) "append" apos) [e] [] cpos) pos) (appM i rs f) := by
  refine PS.imp (ps_expr (pe_bm PySem.F.plainAttrs_list PySem.F.slot_list_append PySem.F.type_list_append mt_append (pe_var n.ix n.vis n.d n.c) (pa_cons he pa_nil hst) hbase hfew hline hst) hs) fun D σ H h => ?_
  obtain ⟨Out, st, d, st1, th, R, ⟨ds0, e0⟩, e1, q⟩ := chO_go h
  obtain ⟨a0, vs0, q1, _, q3, _⟩ := R.own i ds0 e0
  refine ⟨.ref a0, q1, ty_list q3, Out, st, d, st1, th, R, e1, fun v H1 p1 r1 => ?_⟩
  obtain ⟨ds, es, a, vs, w, s1, ha, st2, R2, r2, sm, ob, go⟩ := q H1 p1
  rw [q1] at s1
  cases s1
  split at w
  · rename_i hl
    cases w
    refine ⟨_, vs, v, rfl, rfl, ha, by rw [r2.length]; exact hl, go _ (r2.append (.one ?_))⟩
    cases hb : lf d with
    | true => exact r1.free d hb
    | false =>
      refine RD.mono (fun b z => ?_) d r1
      have := ob b z
      rw [hb] at this
      exact this
  · cases w
/-- x[k] = e -/
def putM (i : Nat) (rs : List Nat) (f : M PyData) (fk : M PyData) : M Fl := chO i rs (fun p : PyData × PyData => lf p.1) (bnd f fun d => lift1 (fun k => some (d, k)) fk) fun ds p => match p.2 with
  | .int k => (match ixN ds.length k with
    | some j => some (ds.set j p.1)
    | none => none)
  | _ => none
theorem ss_put {k : Expr} {fk : M PyData} {kpos : Pos} (n : Nm X i x) (he : SE X T rs ch e f) (hk : SE X T rs2 [] k fk)
    (hs : swapsWithSole [.Subscript (.Name x p1) k kpos] e pos.line X.env = pure false := by rfl) (hw : swappedStores [.Subscript (.Name x p1) k kpos] e X.env = pure none := by rfl)
    (h1 : (assignEach [.Subscript (.Name x p1) k kpos] X.env).map (·.2) = [assign (.Subscript (.Name x p1) k kpos) X.env] := by rfl)
    (ha : ∀ v, assign (.Subscript (.Name x p1) k kpos) X.env v = (do
      let ov ← holding [v] (eval (.Name x p1) X.env)
      let iv ← holding [v, ov] (eval k X.env)
      standAt kpos
      holding [v, ov, iv] (setItem ov iv v)
      release [v, ov, iv] []) := by intro _; rfl) :
    SS X T [] (ch ++ rs ++ [i]) (.Assign [.Subscript (.Name x p1) k kpos] e pos) (putM i rs f fk) := by
  refine PS.imp (ps_asg he (pg_sub (pe_var n.ix n.vis n.d n.c) hk set_list ha) hs hw h1) fun D σ H h => ?_
  obtain ⟨Out, st, d, st1, th, R, ⟨ds0, e0⟩, e1, q⟩ := chO_go h
  obtain ⟨dd, stm, e2, e3⟩ := bnd_some e1
  obtain ⟨dk, e4, e5⟩ := lift1_some e3
  cases e5
  obtain ⟨a0, vs0, q1, _, q3, _⟩ := R.own i ds0 e0
  refine ⟨Out, st, dd, stm, th, R, e2, fun v H1 p1 r1 => ⟨.ref a0, q1, Out, stm, dk, st1, p1.th, p1.rep, e4, fun kv H2 p2 r2 => ?_⟩⟩
  obtain ⟨ds, es, a, vs, w, s1, ha, st2, R2, rr, sm, ob, go⟩ := q H2 ((p1.trans p2).mono fun i h => by simpa using h)
  rw [q1] at s1
  cases s1
  split at w
  · rename_i kk hkk
    dsimp only at hkk
    subst hkk
    split at w
    · rename_i j hj
      cases w
      cases r2
      refine ⟨_, vs, kk, j, rfl, rfl, ha, by rw [rr.length]; exact hj, go _ (rr.set j ?_)⟩
      have r3 := p2.rd Dj.nilR r1
      cases hb : lf dd with
      | true => exact r3.free dd hb
      | false =>
        refine RD.mono (fun b z => ?_) dd r3
        have := ob b z
        simp only [hb] at this
        exact this
    · cases w
  · cases w

/-! ### targets -/
def tG (K : PySem.W.Frag) (asg : List Nat) (g : PyData → Dn → Option Dn) : TG := fun v σ H Q => ∃ Out st d st', Rep K Out st σ H ∧ RD K H (Ob Out st σ []) v d ∧ g d st = some st' ∧ ∀ σ', GPost K Out st σ H asg st' σ' → Q σ' H
def tGs (K : PySem.W.Frag) (asg : List Nat) (g : List PyData → Dn → Option Dn) : TGs := fun vs σ H Q => ∃ Out st ds st', Rep K Out st σ H ∧ RDs K H (Ob Out st σ []) vs ds ∧ g ds st = some st' ∧ ∀ σ', GPost K Out st σ H asg st' σ' → Q σ' H
theorem PG.imp {e : Expr} {t t' : TG} (h : PG X e t) (i : ∀ v σ H Q, t' v σ H Q → t v σ H Q) : PG X e t' := ⟨fun pins s σ H v u Q I r q => h.run pins s σ H v u Q I r (i v σ H Q q)⟩
theorem PGs.imp {es : List Expr} {t t' : TGs} (h : PGs X es t) (i : ∀ v σ H Q, t' v σ H Q → t v σ H Q) : PGs X es t' := ⟨fun pins s σ H v u Q I r q => h.run pins s σ H v u Q I r (i v σ H Q q)⟩
abbrev SG (X : Cx) (asg : List Nat) (e : Expr) (g : PyData → Dn → Option Dn) : Prop := PG X e (tG X.K asg g)
abbrev SGs (X : Cx) (asg : List Nat) (es : List Expr) (g : List PyData → Dn → Option Dn) : Prop := PGs X es (tGs X.K asg g)
def gv (i : Nat) : PyData → Dn → Option Dn := fun d st => some (st.set i (some (.val d)))
def gnil : List PyData → Dn → Option Dn := fun ds st => match ds with
  | [] => some st
  | _ => none
def gcons (g : PyData → Dn → Option Dn) (gs : List PyData → Dn → Option Dn) : List PyData → Dn → Option Dn := fun ds st => match ds with
  | d :: r => (match g d st with
    | some st1 => gs r st1
    | none => none)
  | [] => none
def gtup (gs : List PyData → Dn → Option Dn) : PyData → Dn → Option Dn := fun d st => match d with
  | .tuple ds => gs ds st
  | .list ds => gs ds st
  | _ => none
variable {g0 : PyData → Dn → Option Dn} {gs : List PyData → Dn → Option Dn} {es : List Expr}
theorem sg_name (nd : X.N.Nodup) (hi : X.N[i]? = some x) (hx : Loc X.env.scope x) (hf : X.fn x = true ∨ X.env.scope.names.lookup x = some .local) : SG X [i] (.Name x pos) (gv i) := by
  refine PG.imp (pg_name nd hi hx hf) fun v σ H Q ⟨Out, st, d, st', R, r, e, q⟩ => ?_
  cases e
  exact q _ (setVal_ok R r)
theorem sgs_nil : SGs X [] [] gnil := by
  refine PGs.imp pgs_nil fun v σ H Q ⟨Out, st, d, st', R, r, e, q⟩ => ?_
  cases r with
  | nil => cases e; exact ⟨rfl, q σ (.refl R)⟩
  | cons a b => cases e
theorem sgs_cons (h1 : SG X as1 e g0) (h2 : SGs X as2 es gs) (hs : (assignEach (e :: es) X.env).map (·.2) = assign e X.env :: (assignEach es X.env).map (·.2) := by rfl) : SGs X (as1 ++ as2) (e :: es) (gcons g0 gs) := by
  refine PGs.imp (pgs_cons h1 h2 hs) fun v σ H Q ⟨Out, st, d, st', R, r, e, q⟩ => ?_
  cases r with
  | nil => cases e
  | @cons v vs d ds a b =>
    simp only [gcons] at e
    split at e
    · rename_i st1 e1
      refine ⟨_, _, rfl, Out, st, d, st1, R, a, e1, fun σ1 p1 => ⟨Out, st1, ds, st', p1.rep, RDs.mono (fun b z => ?_) ds b, e, fun σ2 p2 => q σ2 (p1.trans p2)⟩⟩
      rcases z with z | ⟨j, n, z⟩
      · exact .inl z
      · exact .inr ⟨j, n, p1.own j b z⟩
    · cases e
/-- the target's length is the datum's -/
def glen (n : Nat) (gs : List PyData → Dn → Option Dn) : List PyData → Dn → Option Dn := fun ds st => if ds.length = n then gs ds st else none
theorem PG.or {e : Expr} {t t' : TG} (h : PG X e t) (h' : PG X e t') : PG X e (fun v σ H Q => t v σ H Q ∨ t' v σ H Q) := ⟨fun pins s σ H v u Q I r q => q.elim (h.run pins s σ H v u Q I r) (h'.run pins s σ H v u Q I r)⟩
theorem sg_tup {k n : Nat} (hc : X.calm = true) (h : SGs X as1 es gs) (hn : (assignEach es X.env).length = n := by rfl) (hst : (assignEach es X.env).findIdx? (·.1) = none := by rfl) : SG X as1 (.Tuple es k pos) (gtup (glen n gs)) := by
  refine PG.imp (PG.or (pg_tup hc h hn hst) (pg_unl hc h hn hst)) fun v σ H Q ⟨Out, st, d, st', R, r, e, q⟩ => ?_
  cases r with
  | @tup a xs ds h1 rr =>
    simp only [gtup, glen] at e
    split at e
    · rename_i hl
      exact .inl ⟨a, xs, rfl, h1, by rw [rr.length]; exact hl, Out, st, ds, st', R, rr, e, q⟩
    · cases e
  | @lst a xs ds h1 ho rr =>
    simp only [gtup, glen] at e
    split at e
    · rename_i hl
      exact .inr ⟨a, xs, rfl, .inl h1, by rw [rr.length]; exact hl, Out, st, ds, st', R, rr, e, q⟩
    · cases e
  | _ => simp only [gtup] at e; cases e
/-- target = e -/
def asgM (g : PyData → Dn → Option Dn) (rs : List Nat) (f : M PyData) : M Fl := fun st => match f st with
  | some (d, st1) => (match g d (frzD rs d st1) with
    | some st2 => some (.nx, st2)
    | none => none)
  | none => none
theorem ss_asg {tg : Expr} (he : SE X T rs ch e f) (hg : SG X as1 tg g0) (hs : swapsWithSole [tg] e pos.line X.env = pure false := by rfl) (hw : swappedStores [tg] e X.env = pure none := by rfl)
    (h1 : (assignEach [tg] X.env).map (·.2) = [assign tg X.env] := by rfl) : SS X T as1 (ch ++ rs) (.Assign [tg] e pos) (asgM g0 rs f) := by
  refine PS.imp (ps_asg he hg hs hw h1) fun D σ H ⟨Out, st, fl, st', th, R, e, q⟩ => ?_
  unfold asgM at e
  split at e
  · rename_i d st1 e1
    split at e
    · rename_i st2 e2
      cases e
      refine ⟨Out, st, d, st1, th, R, e1, fun v H1 p1 r1 => ?_⟩
      obtain ⟨fz, fr⟩ := frzD_ok (rs := rs) (d := d) p1.rep
      exact ⟨Out, _, d, _, fz.rep, fr v r1, e2, fun σ1 gp => q σ1 H1 (((p1.frz fz).trans (gp.s (ch := []) p1.th)).mono (fun i h => h) fun i h => by simpa using h)⟩
    · cases e
  · cases e
/-- x op= e -/
def augM (i : Nat) (op : PyData → PyData → Option PyData) (f : M PyData) : M Fl := fun st => match st[i]? with
  | some (some (.val d0)) => (match f st with
    | some (d, st1) => (match op d0 d with
      | some z => some (.nx, st1.set i (some (.val z)))
      | none => none)
    | none => none)
  | _ => none
theorem ss_aug {op : Operator} {o : PyData → PyData → Option PyData} (nd : X.N.Nodup) (hi : X.N[i]? = some x) (hx : Loc X.env.scope x) (ho : OpD X (inplaceOp op) o) (he : SE X T [] [] e f) (hf : X.fn x = true ∨ X.env.scope.names.lookup x = some .local) :
    SS X T [i] [] (.AugAssign (.Name x p1) op e pos) (augM i o f) := by
  obtain ⟨r, h1, h2⟩ := ho.ex
  refine PS.imp (ps_aug nd hi hx he (ti := fun x y H Q => r x y H Q) h1 hf) fun D σ H ⟨Out, st, fl, st', th, R, e, q⟩ => ?_
  unfold augM at e
  split at e
  · rename_i d0 e0
    split at e
    · rename_i d st1 e1
      split at e
      · rename_i z e2
        cases e
        obtain ⟨v0, q1, q2⟩ := R.val i d0 e0
        refine ⟨v0, q1, Out, st, d, st1, th, R, e1, fun v H1 p1 r1 => h2 v0 v d0 d z H1 (Ob Out st1 σ []) _ p1.rep.obThere (p1.rd Dj.nilR q2) r1 e2 fun w H2 s2 r2 => ?_⟩
        have p2 := p1.then s2
        exact q (σ.set i (some w)) H2 ((p2.s.trans ((setVal_ok p2.rep r2).s (ch := []) p2.th)).mono (fun i h => h) fun i h => by simpa using h)
      · cases e
    · cases e
  · cases e
end
end LH

set_option Elab.async false
set_option linter.all false
set_option maxRecDepth 100000
set_option maxHeartbeats 2000000
/-! Lh5: containers, what is walked, loops -/
namespace LH
open PySem PySem.Spec PyProof.Rows L2

section
variable {K : PySem.W.Frag} {H H' : Hp} {O O' : Addr → Prop}
mutual
/-- what is not yet there is leant on by nothing -/
theorem RD.freshO (hO : ∀ b, O' b → O b ∨ H b = none) : ∀ {v : V} (d : PyData), RD K H O v d → RD K H O' v d
  | _, .none, r => by cases r; exact .non
  | _, .bool _, r => by cases r; exact .bl _
  | _, .int _, r => by cases r; exact .int _
  | _, .str _, r => by cases r; exact .str _
  | _, .list ds, r => by
    cases r with
    | lst h n rs =>
      refine .lst h (n.imp_left fun n z => ?_) (RDs.freshO hO ds rs)
      rcases hO _ z with z | z
      · exact n z
      · rcases h with h | ⟨o, h⟩ <;> rw [z] at h <;> cases h
  | _, .tuple ds, r => by
    cases r with
    | tup h rs => exact .tup h (RDs.freshO hO ds rs)
  | _, .dict _, r => by cases r; exact .fn _
theorem RDs.freshO (hO : ∀ b, O' b → O b ∨ H b = none) : ∀ {vs : List V} (ds : List PyData), RDs K H O vs ds → RDs K H O' vs ds
  | _, [], r => by cases r; exact .nil
  | _, d :: ds, r => by
    cases r with
    | cons a b => exact .cons (RD.freshO hO d a) (RDs.freshO hO ds b)
end
end

/-! ### containers: a list or a tuple that is read at once -/
/-- O: forbidden as the container; Oe: within its items -/
def Con (K : PySem.W.Frag) (H : Hp) (O Oe : Addr → Prop) (v : V) (ds : List PyData) : Prop :=
  ∃ a vs, v = .ref a ∧ ((Rd H a (.lst vs) ∧ (¬ O a ∨ ∃ o, H a = some (.frz o (.lst vs)))) ∨ SqN K H a vs) ∧ RDs K H Oe vs ds
def tC (K : PySem.W.Frag) (T : Tbs) (rc re ch : List Nat) (f : M (List PyData)) : TE := fun σ H Q => ∃ Out st ds st', TH T H ∧ Rep K Out st σ H ∧ f st = some (ds, st') ∧
  ∀ v H', EPost K T Out σ st H ch st' H' → Con K H' (Ob Out st' σ rc) (Ob Out st' σ re) v ds → Q v H'
abbrev SC (X : Cx) (T : Tbs) (rc re ch : List Nat) (e : Expr) (f : M (List PyData)) : Prop := PE X e (tC X.K T rc re ch f)
def seqOf : PyData → Option (List PyData)
  | .list ds => some ds
  | .tuple ds => some ds
  | _ => none
def seqV (i : Nat) : M (List PyData) := fun st => match st[i]? with
  | some (some (.own ds)) => some (ds, st)
  | some (some (.val d)) => (match seqOf d with
    | some ds => some (ds, st)
    | none => none)
  | _ => none
section
variable {X : Cx} {T : Tbs} {rs rs1 rs2 rc re ch ch1 ch2 ch3 as1 as2 as3 : List Nat} {e a b : Expr} {es : List Expr} {pos p1 p2 : Pos} {f fa fb : M PyData} {fl fs : M (List PyData)} {i : Nat} {x : Str}
theorem con_of {K : PySem.W.Frag} {H : Hp} {O : Addr → Prop} {v : V} {d : PyData} {ds : List PyData} (r : RD K H O v d) (h : seqOf d = some ds) : Con K H O O v ds := by
  cases r <;> simp only [seqOf] at h <;> try cases h
  · rename_i h1 n rr; exact ⟨_, _, rfl, .inl ⟨h1, n⟩, rr⟩
  · rename_i h1 rr; exact ⟨_, _, rfl, .inr h1, rr⟩
theorem sc_val (h : SE X T rs ch e f) : SC X T rs rs ch e (lift1 seqOf f) := by
  refine PE.imp h fun σ H Q ⟨Out, st, d, st', th, R, e, q⟩ => ?_
  obtain ⟨da, e1, e2⟩ := lift1_some e
  exact ⟨Out, st, da, st', th, R, e1, fun v H' p r => q v H' p (con_of r e2)⟩
theorem sc_own (n : Nm X i x) : SC X T [i] [] [] (.Name x pos) (seqV i) := by
  refine PE.imp (pe_var n.ix n.vis n.d n.c) fun σ H Q ⟨Out, st, d, st', th, R, e, q⟩ => ?_
  unfold seqV at e
  split at e
  · rename_i ds e1
    cases e
    obtain ⟨a, vs, e2, na, ha, r⟩ := R.own i _ e1
    refine ⟨.ref a, e2, q _ H (.refl th R) ⟨a, vs, rfl, .inl ⟨Rd.of ha, .inl fun z => ?_⟩, r⟩⟩
    rcases z with z | ⟨j, nj, z⟩
    · exact na z
    · exact nj (by rw [R.sep j i a z ⟨⟨_, e1, rfl⟩, e2⟩]; exact List.mem_singleton.mpr rfl)
  · rename_i d' e1
    split at e
    · rename_i ds e3
      cases e
      obtain ⟨v, e2, r⟩ := R.val i d' e1
      obtain ⟨a, vs, rfl, h1, h2⟩ := con_of r e3
      exact ⟨_, e2, q _ H (.refl th R) ⟨a, vs, rfl, h1.imp (fun z => ⟨z.1, z.2.imp_left fun n y => n (Ob.mono (by simp) _ y)⟩) id, h2⟩⟩
    · cases e
  · cases e
theorem sc_new (h : SF X T rs ch e fl) : SC X T [] rs ch e fl := by
  refine PE.imp h fun σ H Q ⟨Out, st, d, st', th, R, e, q⟩ => ?_
  refine ⟨Out, st, d, st', th, R, e, fun a vs H' p ra hn ha r => q _ H' p ⟨a, vs, rfl, .inl ⟨Rd.of ha, .inl fun z => ?_⟩, RDs.mono obA' _ r⟩⟩
  rcases z with z | ⟨i, _, z⟩
  · exact R.out a z hn
  · obtain ⟨_, _, _, e, _⟩ := R.ownLst (p.sub i a z)
    rw [hn] at e; cases e
/-- a call of one container -/
def conTA (K : PySem.W.Frag) (T : Tbs) (rc re ch : List Nat) (f : M (List PyData)) : TA := fun σ H Q => ∃ Out st ds st', TH T H ∧ Rep K Out st σ H ∧ f st = some (ds, st') ∧
  ∀ v H', EPost K T Out σ st H ch st' H' → Con K H' (Ob Out st' σ rc) (Ob Out st' σ re) v ds → Q [v] H'
theorem sca (h : SC X T rc re ch e fl) (hs : starEach [e] X.env = (false, eval e X.env) :: starEach [] X.env := by rfl) : PA X [e] (conTA X.K T rc re ch fl) := by
  refine PA.imp (pa_cons h pa_nil hs) fun σ H Q ⟨Out, st, d, st', th, R, e, q⟩ => ?_
  exact ⟨Out, st, d, st', th, R, e, fun v H' p c => q v H' p c⟩
/-- len(container) -/
def lenM (f : M (List PyData)) : M PyData := fun st => match f st with
  | some (ds, st1) => some (.int ds.length, st1)
  | none => none
theorem se_len {p pos : Pos} {n : Str} (h : SC X T rc re ch e fl) (hg : Gl X n) (hm : X.mg n = none) (hv : bootBuiltins n = some (.builtin "len")) (hn : n ≠ "__name__" := by decide) (hdb : (n == ("__debug__" : Str)) = false := by decide)
    (hs : starEach [e] X.env = (false, eval e X.env) :: starEach [] X.env := by rfl) (hpl : (backTo pos (starEach [] X.env)).any (·.1) = false := by rfl) : SE X T [] ch (.Call (.Name n p) [e] [] pos) (lenM fl) := by
  refine PE.imp (pe_callB call_len_seq hg hm hv (sca h hs) hn hdb hs hpl) fun σ H Q ⟨Out, st, d, st', th, R, e, q⟩ => ?_
  unfold lenM at e
  split at e
  · rename_i ds st1 e1
    cases e
    refine ⟨Out, st, ds, _, th, R, e1, fun v H' p ⟨a, vs, ev, h1, h2⟩ => ?_⟩
    subst ev
    refine ⟨a, vs, rfl, h1.elim (fun z => .inl (.inl z.1)) (fun z => .inr z.t), ?_⟩
    rw [h2.length]
    exact q _ H' p (.int _)
  · cases e
/-- tuple(container) -/
def tuM (f : M (List PyData)) : M PyData := fun st => match f st with
  | some (ds, st1) => some (.tuple ds, st1)
  | none => none
theorem se_tuple {p pos : Pos} {n : Str} (h : SC X T rc re ch e fl) (hg : Gl X n) (hm : X.mg n = none) (hv : bootBuiltins n = some (.type "tuple")) (hn : n ≠ "__name__" := by decide) (hdb : (n == ("__debug__" : Str)) = false := by decide)
    (hs : starEach [e] X.env = (false, eval e X.env) :: starEach [] X.env := by rfl) (hpl : (backTo pos (starEach [] X.env)).any (·.1) = false := by rfl) : SE X T re ch (.Call (.Name n p) [e] [] pos) (tuM fl) := by
  refine PE.imp (pe_callTy call_tupleN hg hm hv (sca h hs) hn hdb hs hpl) fun σ H Q ⟨Out, st, d, st', th, R, e, q⟩ => ?_
  unfold tuM at e
  split at e
  · rename_i ds st1 e1
    cases e
    refine ⟨Out, st, ds, _, th, R, e1, fun v H' p ⟨a, vs, ev, h1, h2⟩ => ?_⟩
    subst ev
    refine ⟨a, vs, rfl, ?_⟩
    rcases h1 with ⟨h1, _⟩ | h1
    · exact .inl ⟨.inl h1, fun l o hl hd => q _ _ (p.then (Stay.new hl)) (rd_tup hl hd h2)⟩
    · exact .inr ⟨h1.t, q _ H' p (.tup h1 h2)⟩
  · cases e
/-- list(container) -/
theorem sf_list {p pos : Pos} {n : Str} (h : SC X T rc re ch e fl) (hg : Gl X n) (hm : X.mg n = none) (hv : bootBuiltins n = some (.type "list")) (hn : n ≠ "__name__" := by decide) (hdb : (n == ("__debug__" : Str)) = false := by decide)
    (hs : starEach [e] X.env = (false, eval e X.env) :: starEach [] X.env := by rfl) (hpl : (backTo pos (starEach [] X.env)).any (·.1) = false := by rfl) : SF X T re ch (.Call (.Name n p) [e] [] pos) fl := by
  refine PE.imp (pe_callTy call_list_of hg hm hv (sca h hs) hn hdb hs hpl) fun σ H Q ⟨Out, st, ds, st', th, R, e, q⟩ => ?_
  refine ⟨Out, st, ds, _, th, R, e, fun v H' p ⟨a, vs, ev, h1, h2⟩ => ?_⟩
  subst ev
  refine ⟨a, vs, rfl, h1.elim (fun z => .inl (.inl z.1)) (fun z => .inr z.t), fun l hl => ?_⟩
  exact q l vs _ (p.then (Stay.new hl)) (p.rep.new hl) (hnone p.stay hl) upd_same (RDs.keep (Stay.new hl) (fun _ z => z.elim) _ (RDs.mono (fun b z => obA b z) _ (h2.fresh hl)))

/-! ### what a loop walks -/
/-- J hands out ds in every later heap in which what is forbidden may have changed -/
def Gives (K : PySem.W.Frag) (O Oe : Addr → Prop) (H' : Hp) (J : It) (ds : List PyData) : Prop :=
  ∀ (j : Nat) (H2 : Hp), Stay O H' H2 → (ds.length ≤ j → J.stop j H2) ∧ ∀ d, ds[j]? = some d → J.go j H2 ∧ ∀ x H3, J.yld j H2 x H3 → Stay No H2 H3 ∧ ∀ O2 : Addr → Prop, (∀ b, O2 b → Oe b ∨ H' b = none) → RD K H3 O2 x d
def tI (K : PySem.W.Frag) (T : Tbs) (rc ch : List Nat) (f : M (List PyData)) : TI := fun σ H R => ∃ Out st ds st', TH T H ∧ Rep K Out st σ H ∧ f st = some (ds, st') ∧
  ∀ J H', EPost K T Out σ st H ch st' H' → Gives K (Ob Out st' σ rc) (Ob Out st' σ []) H' J ds → R J H'
abbrev SI (X : Cx) (T : Tbs) (tg : Expr) (rc ch : List Nat) (e : Expr) (f : M (List PyData)) : Prop := PI X tg e (tI X.K T rc ch f)
theorem PI.imp {tg : Expr} {t t' : TI} (h : PI X tg e t) (i : ∀ σ H Q, t' σ H Q → t σ H Q) : PI X tg e t' := ⟨fun pins s σ H Q I q => h.run pins s σ H Q I (i σ H Q q)⟩
variable {tg : Expr}
/-- a list or a tuple, walked -/
def iSeq (K : PySem.W.Frag) (tl : TE) : TI := fun σ H R => tl σ H fun x H1 => ∃ a, x = .ref a ∧ (((∃ xs, SqL K H1 a xs) ∧ R (Itl K a) H1) ∨ ((∃ xs, SqT K H1 a xs) ∧ R (Itt K a) H1))
theorem pi_seq {l : Expr} {tl : TE} (hl : PE X l tl) : PI X tg l (iSeq X.K tl) := by
  refine ⟨fun pins s σ H R I h => ?_⟩
  refine thn (hl.run pins s σ H _ I h) fun v s1 ⟨x, H1, I1, r1, q1⟩ => ?_
  obtain ⟨a, e, q⟩ := q1
  subst e
  cases r1
  rcases q with ⟨⟨xs, hq⟩, q⟩ | ⟨⟨xs, hq⟩, q⟩
  · obtain ⟨its, rv, p, hz⟩ := I1.list hq
    refine wpAny_pyIter_list p.isList ?_
    refine ⟨s1.heap.objs.size, [s1.heap.objs.size], _, _, H1, rfl, I1.kept (t' := s1.toks) fun b o e => Heap.get?_push_of_some _ e, turn_list a _, ⟨_, Heap.get?_push_size _ rfl, rfl, rfl⟩, fun b hb => ?_, q⟩
    have e : b = s1.heap.objs.size := by simpa using hb
    subst e
    exact I1.fpOk (Nat.le_refl _) (I1.hok.fresh (Nat.le_refl _))
  · obtain ⟨its, rv, p, hz⟩ := I1.tuple hq
    refine wpAny_pyIter_tuple (show s1.heap.IsTuple a its.toArray from p) ?_
    refine ⟨s1.heap.objs.size, [s1.heap.objs.size], _, _, H1, rfl, I1.kept (t' := s1.toks) fun b o e => Heap.get?_push_of_some _ e, turn_tuple a _, ⟨_, Heap.get?_push_size _ rfl, rfl, rfl⟩, fun b hb => ?_, q⟩
    have e : b = s1.heap.objs.size := by simpa using hb
    subst e
    exact I1.fpOk (Nat.le_refl _) (I1.hok.fresh (Nat.le_refl _))
theorem gives_list {K : PySem.W.Frag} {O Oe : Addr → Prop} {H' : Hp} {a : Addr} {vs : List V} {ds : List PyData} (h : Rd H' a (.lst vs)) (n : ¬ O a ∨ ∃ o, H' a = some (.frz o (.lst vs))) (r : RDs K H' Oe vs ds) (hO : ∀ b, O b → Oe b ∨ H' b = none) : Gives K O Oe H' (Itl K a) ds := by
  intro j H2 s
  have h2 : SqL K H2 a vs := .inl (s.rdF (fun _ z => z) n h).1
  refine ⟨fun hj => ⟨vs, h2, by rw [r.length]; exact hj⟩, fun d hd => ?_⟩
  obtain ⟨v, e1, e2⟩ := r.get hd
  refine ⟨⟨vs, v, h2, e1⟩, fun x H3 ⟨e, y⟩ => ?_⟩
  subst e
  have := y vs h2
  rw [e1] at this
  cases this
  refine ⟨Stay.refl _ _, fun O2 h2 => ?_⟩
  exact RD.mono (fun b z => .inl z) d (RD.keep s (fun b z => .inr z) d (RD.freshO (O' := fun b => O2 b ∨ O b) (fun b z => z.elim (h2 b) (hO b)) d e2))
theorem gives_tup {K : PySem.W.Frag} {O Oe : Addr → Prop} {H' : Hp} {a : Addr} {vs : List V} {ds : List PyData} (h : SqT K H' a vs) (r : RDs K H' Oe vs ds) (hO : ∀ b, O b → Oe b ∨ H' b = none) : Gives K O Oe H' (Itt K a) ds := by
  intro j H2 s
  have h2 : SqT K H2 a vs := s.sqT h
  refine ⟨fun hj => ⟨vs, h2, by rw [r.length]; exact hj⟩, fun d hd => ?_⟩
  obtain ⟨v, e1, e2⟩ := r.get hd
  refine ⟨⟨vs, v, h2, e1⟩, fun x H3 ⟨e, y⟩ => ?_⟩
  subst e
  have := y vs h2
  rw [e1] at this
  cases this
  refine ⟨Stay.refl _ _, fun O2 h2 => ?_⟩
  exact RD.mono (fun b z => .inl z) d (RD.keep s (fun b z => .inr z) d (RD.freshO (O' := fun b => O2 b ∨ O b) (fun b z => z.elim (h2 b) (hO b)) d e2))
theorem obSub {Out : Addr → Prop} {st : Dn} {σ : L2.St} {H : Hp} : ∀ b, Ob Out st σ rc b → Ob Out st σ [] b ∨ H b = none := fun b z => .inl (Ob.mono (by simp) b z)
theorem si_con (h : SC X T rc [] ch e fl) : SI X T tg rc ch e fl := by
  refine PI.imp (pi_seq h) fun σ H R ⟨Out, st, ds, st', th, Rp, e, q⟩ => ?_
  refine ⟨Out, st, ds, st', th, Rp, e, fun v H' p ⟨a, vs, ev, h1, h2⟩ => ?_⟩
  subst ev
  refine ⟨a, rfl, ?_⟩
  rcases h1 with ⟨h1, n⟩ | h1
  · exact .inl ⟨⟨vs, .inl h1⟩, q _ H' p (gives_list h1 n h2 obSub)⟩
  · exact .inr ⟨⟨vs, h1.t⟩, q _ H' p (gives_tup h1.t h2 obSub)⟩
/-! ranges -/
def rangeD (lo : Int) (n : Nat) : List PyData := (List.range n).map fun (j : Nat) => PyData.int (lo + j)
theorem gives_range {K : PySem.W.Frag} {O Oe : Addr → Prop} {H' : Hp} {lo : Int} {n : Nat} : Gives K O Oe H' (Itr lo n) (rangeD lo n) := by
  intro j H2 s
  refine ⟨fun hj => ?_, fun d hd => ?_⟩
  · show n ≤ j
    simpa [rangeD] using hj
  · unfold rangeD at hd
    rw [List.getElem?_map] at hd
    cases hr : (List.range n)[j]? with
    | none => rw [hr] at hd; cases hd
    | some m =>
      rw [hr] at hd
      obtain ⟨hm, e⟩ := List.getElem?_eq_some_iff.mp hr
      rw [List.getElem_range] at e
      subst e
      cases hd
      refine ⟨by show j < n; simpa using hm, fun x H3 ⟨e, y⟩ => ?_⟩
      subst e y
      exact ⟨Stay.refl _ _, fun O2 _ => .int _⟩
def small62 (i : Int) : Bool := decide (-(2 ^ 62) ≤ i ∧ i < 2 ^ 62)
def range1D : PyData → Option (List PyData)
  | .int j => if small62 j then some (rangeD 0 j.toNat) else none
  | _ => none
def range2D : PyData → PyData → Option (List PyData)
  | .int i, .int j => if small62 i && small62 j then some (rangeD i (j - i).toNat) else none
  | _, _ => none
theorem si_range1 (hg : Gl X "range") (hm : X.mg "range" = none) (ha : SE X T rs ch a fa) (hs : starEach [a] X.env = (false, eval a X.env) :: starEach [] X.env := by rfl) (hs' : starEach [a] X.env = [(false, eval a X.env)] := by rfl) :
    SI X T tg [] ch (.Call (.Name "range" p1) [a] [] pos) (lift1 range1D fa) := by
  refine PI.imp (pi_range1 hg hm (pa_cons ha pa_nil hs) hs') fun σ H R ⟨Out, st, ds, st', th, Rp, e, q⟩ => ?_
  obtain ⟨da, e1, e2⟩ := lift1_some e
  refine ⟨Out, st, da, st', th, Rp, e1, fun v H' p r => ?_⟩
  unfold range1D at e2
  split at e2
  · rename_i j
    split at e2
    · rename_i hsm
      cases e2
      cases r
      have hb := of_decide_eq_true hsm
      exact ⟨j, rfl, hb.1, hb.2, q _ H' p gives_range⟩
    · cases e2
  · cases e2
theorem si_range2 (hg : Gl X "range") (hm : X.mg "range" = none) (ha : SE X T rs1 ch1 a fa) (hb : SE X T rs2 ch2 b fb) (dj : Dj rs1 ch2) (hs : starEach [a, b] X.env = (false, eval a X.env) :: starEach [b] X.env := by rfl) (hs1 : starEach [b] X.env = (false, eval b X.env) :: starEach [] X.env := by rfl)
    (hs2 : starEach [a, b] X.env = [(false, eval a X.env), (false, eval b X.env)] := by rfl) (hs3 : starEach [b] X.env = [(false, eval b X.env)] := by rfl) :
    SI X T tg [] (ch1 ++ ch2) (.Call (.Name "range" p1) [a, b] [] pos) (lift2 range2D fa fb) := by
  refine PI.imp (pi_range2 hg hm (pa_cons ha (pa_cons hb pa_nil hs1) hs) hs2 hs3) fun σ H R ⟨Out, st, ds, st', th, Rp, e, q⟩ => ?_
  obtain ⟨da, st1, db, e1, e2, e3⟩ := lift2_some e
  refine ⟨Out, st, da, st1, th, Rp, e1, fun v H1 p r => ⟨Out, st1, db, st', p.th, p.rep, e2, fun w H2 p2 r2 => ?_⟩⟩
  unfold range2D at e3
  split at e3
  · rename_i i j
    split at e3
    · rename_i hsm
      cases e3
      cases r
      cases r2
      rw [Bool.and_eq_true] at hsm
      have h1 := of_decide_eq_true hsm.1
      have h2 := of_decide_eq_true hsm.2
      exact ⟨i, j, rfl, ⟨h1.1, h1.2, h2.1, h2.2⟩, q _ H2 (p.trans p2) gives_range⟩
    · cases e3
  · cases e3

/-! ### for -/
def forGo (g : PyData → Dn → Option Dn) (body : M Fl) : List PyData → M Fl
  | [], st => some (.nx, st)
  | d :: ds, st => match g d st with
    | none => none
    | some st1 => match body st1 with
      | none => none
      | some (.nx, st2) => forGo g body ds st2
      | some (.ct, st2) => forGo g body ds st2
      | some (.bk, st2) => some (.nx, st2)
      | some (.rt r, st2) => some (.rt r, st2)
def forM (it : M (List PyData)) (g : PyData → Dn → Option Dn) (body : M Fl) : M Fl := fun st => match it st with
  | some (ds, st1) => forGo g body ds st1
  | none => none
theorem ownO {K : PySem.W.Frag} {T : Tbs} {Out : Addr → Prop} {st st1 : Dn} {σ σ1 : L2.St} {H H1 : Hp} (p : SPost K T Out st σ H as1 ch st1 σ1 H1) : ∀ b, Ob Out st1 σ1 [] b → Ob Out st σ [] b ∨ H b = none := fun b z => by
  rcases z with z | ⟨j, n, z⟩
  · exact .inl (.inl z)
  · exact (p.own j b z).imp (fun q => .inr ⟨j, n, q⟩) id
theorem ss_for {body : List Stmt} {it : M (List PyData)} {g : PyData → Dn → Option Dn} {gb : M Fl} (hp : PassesOwn (model X.prog X.w) X.A X.env X.xe) (hc : X.calm = true) (hi : SI X T tg rc ch1 e it) (hg : SG X as1 tg g) (hb : SSs X T as2 ch2 body gb) (dj : Dj rc ch2)
    (hs : ∀ x, foldedSetIterable e X.env x = pure x := by intro _; rfl) : SS X T (as1 ++ as2) (ch1 ++ ch2) (.For tg e body [] pos) (forM it g gb) := by
  refine PS.imp (ps_for hp hc hi hg hb hs) fun D σ H ⟨Out, st, fl, st', th, R, e, q⟩ => ?_
  unfold forM at e
  split at e
  · rename_i ds st0 e0
    refine ⟨Out, st, ds, st0, th, R, e0, fun J H0 p0 gv => ?_⟩
    refine ⟨fun i m σi Hi => m = ds.length - i ∧ i ≤ ds.length ∧ ∃ sti, forGo g gb (ds.drop i) sti = some (fl, st') ∧ SPost X.K T Out st0 σ H0 (as1 ++ as2) ch2 sti σi Hi,
      ⟨ds.length, by simp, Nat.zero_le _, st0, e, .refl p0.th p0.rep⟩, ?_⟩
    rintro i m σi Hi ⟨rfl, hi, sti, ei, pi⟩
    have stO : Stay (Ob Out st0 σ rc) H0 Hi := pi.stay.mono fun b ⟨j, m, z⟩ => .inr ⟨j, fun y => dj j y m, z⟩
    obtain ⟨gs, gi⟩ := gv i Hi stO
    by_cases hlt : i < ds.length
    · refine .inr ?_
      obtain ⟨go, gy⟩ := gi ds[i] (List.getElem?_eq_getElem hlt)
      rw [List.drop_eq_getElem_cons hlt] at ei
      simp only [forGo] at ei
      split at ei
      · cases ei
      · rename_i st1 e1
        refine ⟨go, ?_⟩
        -- what the body is to reach
        refine ⟨fun σ' H' => ∃ m', m' < ds.length - i ∧ (m' = ds.length - (i + 1) ∧ i + 1 ≤ ds.length ∧ ∃ sti, forGo g gb (ds.drop (i + 1)) sti = some (fl, st') ∧ SPost X.K T Out st0 σ H0 (as1 ++ as2) ch2 sti σ' H'),
          fun σ' H' ⟨m', h1, h2⟩ => ⟨m', h1, h2⟩, fun x H3 y => ?_⟩
        obtain ⟨s3, rx⟩ := gy x H3 y
        have R3 : Rep X.K Out sti σi H3 := pi.rep.grow s3
        refine ⟨Out, sti, ds[i], st1, R3, rx _ (ownO pi), e1, fun σ1 gp => ?_⟩
        have p3 : SPost X.K T Out st0 σ H0 (as1 ++ as2) ch2 sti σi H3 := ⟨pi.th.stay s3, R3, pi.stay.trans s3.of0, pi.same, pi.sg, pi.own⟩
        have p4 := (p3.trans (gp.s (ch := []) p3.th)).mono (as2 := as1 ++ as2) (ch2 := ch2) (fun i h => by
          rcases List.mem_append.mp h with h | h
          · exact h
          · exact List.mem_append_left _ h) fun i h => by simpa using h
        have comb : ∀ {st2 : Dn} {σ2 : L2.St} {H2 : Hp}, SPost X.K T Out st1 σ1 H3 as2 ch2 st2 σ2 H2 → SPost X.K T Out st0 σ H0 (as1 ++ as2) ch2 st2 σ2 H2 := fun {st2 σ2 H2} p5 =>
          (p4.trans p5).mono (fun i h => by
            rcases List.mem_append.mp h with h | h
            · exact h
            · exact List.mem_append_right _ h) fun i h => by
            rcases List.mem_append.mp h with h | h <;> exact h
        have all : ∀ {st2 : Dn} {σ2 : L2.St} {H2 : Hp}, SPost X.K T Out st1 σ1 H3 as2 ch2 st2 σ2 H2 → SPost X.K T Out st σ H (as1 ++ as2) (ch1 ++ ch2) st2 σ2 H2 := fun {st2 σ2 H2} p5 =>
          (p0.s.trans (comb p5)).mono (fun i h => by simpa using h) fun i h => h
        split at ei
        · cases ei
        · rename_i st2 e2
          exact ⟨Out, st1, .nx, st2, p4.th, p4.rep, e2, fun σ2 H2 p5 => ⟨_, by omega, rfl, hlt, st2, ei, comb p5⟩⟩
        · rename_i st2 e2
          exact ⟨Out, st1, .ct, st2, p4.th, p4.rep, e2, fun σ2 H2 p5 => ⟨_, by omega, rfl, hlt, st2, ei, comb p5⟩⟩
        · rename_i st2 e2
          cases ei
          exact ⟨Out, st1, .bk, _, p4.th, p4.rep, e2, fun σ2 H2 p5 => q σ2 H2 (all p5)⟩
        · rename_i r st2 e2
          cases ei
          exact ⟨Out, st1, .rt r, _, p4.th, p4.rep, e2, fun σ2 H2 p5 => q σ2 H2 (all p5)⟩
    · have e2 : i = ds.length := by omega
      subst e2
      rw [List.drop_length] at ei
      cases ei
      exact .inl ⟨gs (Nat.le_refl _), q σi Hi ((p0.s.trans pi).mono (fun i h => by simpa using h) fun i h => h)⟩
  · cases e

/-! ### while -/
def whileGo (c : M Bool) (body : M Fl) : Nat → M Fl
  | 0, _ => none
  | n + 1, st => match c st with
    | none => none
    | some (false, st1) => some (.nx, st1)
    | some (true, st1) => match body st1 with
      | none => none
      | some (.nx, st2) => whileGo c body n st2
      | some (.ct, st2) => whileGo c body n st2
      | some (.bk, st2) => some (.nx, st2)
      | some (.rt r, st2) => some (.rt r, st2)
theorem ss_while {ce : Expr} {body : List Stmt} {c : M Bool} {gb : M Fl} (N : Nat) (hp : PassesOwn (model X.prog X.w) X.A X.env X.xe) (hc : ST X T ch1 ce c) (hb : SSs X T as2 ch2 body gb) : SS X T as2 (ch1 ++ ch2) (.While ce body [] pos) (whileGo c gb N) := by
  refine PS.imp (ps_while hp hc hb) fun D σ H ⟨Out, st, fl, st', th, R, e, q⟩ => ?_
  refine ⟨fun m σi Hi => ∃ sti, whileGo c gb m sti = some (fl, st') ∧ SPost X.K T Out st σ H as2 (ch1 ++ ch2) sti σi Hi, ⟨N, st, e, .refl th R⟩, ?_⟩
  rintro m σi Hi ⟨sti, ei, pi⟩
  cases m with
  | zero => cases ei
  | succ n =>
    simp only [whileGo] at ei
    split at ei
    · cases ei
    · rename_i st1 e1
      cases ei
      exact ⟨Out, sti, false, _, pi.th, pi.rep, e1, fun H1 p1 => iteF (q σi H1 ((pi.trans p1.s).mono (fun i h => by simpa using h) fun i h => by
        rcases List.mem_append.mp h with h | h
        · exact h
        · exact List.mem_append_left _ h))⟩
    · rename_i st1 e1
      refine ⟨Out, sti, true, st1, pi.th, pi.rep, e1, fun H1 p1 => iteT ?_⟩
      have p4 : SPost X.K T Out st σ H as2 (ch1 ++ ch2) st1 σi H1 := (pi.trans p1.s).mono (fun i h => by simpa using h) fun i h => by
        rcases List.mem_append.mp h with h | h
        · exact h
        · exact List.mem_append_left _ h
      have comb : ∀ {st2 : Dn} {σ2 : L2.St} {H2 : Hp}, SPost X.K T Out st1 σi H1 as2 ch2 st2 σ2 H2 → SPost X.K T Out st σ H as2 (ch1 ++ ch2) st2 σ2 H2 := fun {st2 σ2 H2} p5 =>
        (p4.trans p5).mono (fun i h => by
          rcases List.mem_append.mp h with h | h <;> exact h) fun i h => by
          rcases List.mem_append.mp h with h | h
          · exact h
          · exact List.mem_append_right _ h
      refine ⟨fun σ' H' => ∃ sti, whileGo c gb n sti = some (fl, st') ∧ SPost X.K T Out st σ H as2 (ch1 ++ ch2) sti σ' H', fun σ' H' h => ⟨n, Nat.lt_succ_self n, h⟩, ?_⟩
      split at ei
      · cases ei
      · rename_i st2 e2
        exact ⟨Out, st1, .nx, st2, p4.th, p4.rep, e2, fun σ2 H2 p5 => ⟨st2, ei, comb p5⟩⟩
      · rename_i st2 e2
        exact ⟨Out, st1, .ct, st2, p4.th, p4.rep, e2, fun σ2 H2 p5 => ⟨st2, ei, comb p5⟩⟩
      · rename_i st2 e2
        cases ei
        exact ⟨Out, st1, .bk, _, p4.th, p4.rep, e2, fun σ2 H2 p5 => q σ2 H2 (comb p5)⟩
      · rename_i r st2 e2
        cases ei
        exact ⟨Out, st1, .rt r, _, p4.th, p4.rep, e2, fun σ2 H2 p5 => q σ2 H2 (comb p5)⟩
end
end LH

set_option Elab.async false
set_option linter.all false
set_option maxRecDepth 100000
set_option maxHeartbeats 2000000
/-! Lh6: calls of the text's own defs, a def's body -/
namespace LH
open PySem PySem.Spec PyProof.Rows L2

/-- what a def gives: by data; with a list of one's own lent as the first argument; a new list -/
abbrev DF := List PyData → Option PyData
abbrev LF := List PyData → List PyData → Option (PyData × List PyData)
abbrev NF := List PyData → Option (List PyData)

def spD (K : PySem.W.Frag) (T : Tbs) (F : DF) : Sp := fun vs H Q _ => ∃ Out ds d, TH T H ∧ (∀ b, Out b → H b ≠ none) ∧ RDs K H Out vs ds ∧ F ds = some d ∧
  ∀ v H', TH T H' → Stay No H H' → RD K H' Out v d → Q v H'
def spL (K : PySem.W.Frag) (T : Tbs) (F : LF) : Sp := fun vs H Q _ => ∃ Out a ws us ds0 ds d es, vs = .ref a :: us ∧ TH T H ∧ (∀ b, Out b → H b ≠ none) ∧ ¬ Out a ∧ H a = some (.lst ws) ∧
  RDs K H (OutA Out a) ws ds0 ∧ RDs K H (OutA Out a) us ds ∧ F ds0 ds = some (d, es) ∧
  ∀ v H' ws', TH T H' → Stay (fun b => b = a) H H' → H' a = some (.lst ws') → RDs K H' (OutA Out a) ws' es → RD K H' (OutA Out a) v d → Q v H'
/-- a def as the callers see it -/
structure FD (P : Program) (w : World) (K : PySem.W.Frag) (mg : Str → Option Value) (base : Heap) (k : Nat) (x : Str) (sp : Sp) : Prop where
  ex : ∃ (fa : Addr) (fd : FuncData) (ps : List Str), mg x = some (.ref fa) ∧ PySem.W.keepIn K (.ref fa) = true ∧ Binds K fd ps [] ∧ FnOk P w K mg base CX0 k fa fd ps sp

section
variable {X : Cx} {T T0 : Tbs} {G : DF} {GL : LF} {GN : NF} {k : Nat} {rs ch : List Nat} {e : Expr} {es : List Expr} {p pos p1 : Pos} {fs : M (List PyData)} {x y : Str} {i : Nat}
def callD (G : DF) (fs : M (List PyData)) : M PyData := fun st => match fs st with
  | some (ds, st1) => (match G ds with
    | some d => some (d, st1)
    | none => none)
  | none => none
theorem callD_some {st st2 : Dn} {d : PyData} (h : callD G fs st = some (d, st2)) : ∃ ds, fs st = some (ds, st2) ∧ G ds = some d := by
  unfold callD at h
  split at h
  · rename_i ds st1 e
    split at h
    · rename_i d' e2
      cases h
      exact ⟨ds, e, e2⟩
    · cases h
  · cases h
/-- the callee's forbidden: all of ours but what is handed in -/
theorem callF_go (hT : ∀ H, TH T H → TH T0 H) {σ : L2.St} {H : Hp} {Q : VK} (h : tE X.K T rs ch (callD G fs) σ H Q) : tCall (spD X.K T0 G) [] E0 (tAs X.K T rs ch fs) σ H Q := by
  obtain ⟨Out, st, d, st', th, R, e, q⟩ := h
  obtain ⟨ds, e1, e2⟩ := callD_some e
  refine ⟨Out, st, ds, st', th, R, e1, fun vs H1 p1 r1 => ?_⟩
  show spD X.K T0 G (vs ++ []) H1 Q E0
  rw [List.append_nil]
  exact ⟨Ob Out st' σ rs, ds, d, hT _ p1.th, p1.rep.obThere, r1, e2, fun v H' th' s r => q v H' (p1.then s) r⟩
theorem se_call (F : FD X.prog X.w X.K X.mg X.base k x (spD X.K T0 G)) (hT : ∀ H, TH T H → TH T0 H) (hr : Room k X.A) (hg : Gl X x) (ha : SA X T rs ch (e :: es) fs) (hdb : (x == ("__debug__" : Str)) = false := by decide)
    (he : starEach (e :: es) X.env = (false, eval e X.env) :: starEach es X.env := by rfl) (hpl : (backTo pos (starEach es X.env)).any (·.1) = false := by rfl) : SE X T rs ch (.Call (.Name x p) (e :: es) [] pos) (callD G fs) := by
  obtain ⟨fa, fd, ps, h1, h2, h3, h4⟩ := F.ex
  exact PE.imp (pe_call h4 hr hg h1 h2 h3 .nil pass0 ha hdb he hpl) fun σ H Q h => callF_go hT h
theorem se_call0 (F : FD X.prog X.w X.K X.mg X.base k x (spD X.K T0 G)) (hT : ∀ H, TH T H → TH T0 H) (hr : Room k X.A) (hg : Gl X x) (hdb : (x == ("__debug__" : Str)) = false := by decide) : SE X T [] [] (.Call (.Name x p) [] [] pos) (callD G nilM) := by
  obtain ⟨fa, fd, ps, h1, h2, h3, h4⟩ := F.ex
  refine PE.imp (pe_call0 h4 hr hg h1 h2 h3 .nil pass0 hdb) fun σ H Q h => ?_
  obtain ⟨Out, st, d, st', th, R, e, q⟩ := h
  obtain ⟨ds, e1, e2⟩ := callD_some e
  cases e1
  show spD X.K T0 G ([] ++ []) H Q E0
  exact ⟨Ob Out _ σ [], [], d, hT _ th, R.obThere, .nil, e2, fun v H' th' s r => q v H' (EPost.grow th R s) r⟩
/-- the first argument a list of one's own, lent -/
def callL (GL : LF) (i : Nat) (fs : M (List PyData)) : M PyData := fun st => match st[i]? with
  | some (some (.own _)) => (match fs st with
    | some (ds, st1) => (match st1[i]? with
      | some (some (.own ds0)) => (match GL ds0 ds with
        | some (d, es) => some (d, st1.set i (some (.own es)))
        | none => none)
      | _ => none)
    | none => none)
  | _ => none
theorem callL_some {st st2 : Dn} {d : PyData} (h : callL GL i fs st = some (d, st2)) : ∃ dsx ds st1 ds0 es, st[i]? = some (some (.own dsx)) ∧ fs st = some (ds, st1) ∧ st1[i]? = some (some (.own ds0)) ∧ GL ds0 ds = some (d, es) ∧ st2 = st1.set i (some (.own es)) := by
  unfold callL at h
  split at h
  · rename_i dsx ex
    split at h
    · rename_i ds st1 e
      split at h
      · rename_i ds0 e0
        split at h
        · rename_i d' es e2
          cases h
          exact ⟨dsx, ds, st1, ds0, es, ex, e, e0, e2, rfl⟩
        · cases h
      · cases h
    · cases h
  · cases h
theorem se_callL (F : FD X.prog X.w X.K X.mg X.base k x (spL X.K T0 GL)) (hT : ∀ H, TH T H → TH T0 H) (hr : Room k X.A) (hg : Gl X x) (n : Nm X i y) (ha : SA X T [] ch es fs) (hdb : (x == ("__debug__" : Str)) = false := by decide)
    (hst : starEach (.Name y p1 :: es) X.env = (false, eval (.Name y p1) X.env) :: starEach es X.env := by rfl) (hpl : (backTo pos (starEach es X.env)).any (·.1) = false := by rfl) :
    SE X T [] (ch ++ [i]) (.Call (.Name x p) (.Name y p1 :: es) [] pos) (callL GL i fs) := by
  obtain ⟨fa, fd, ps, h1, h2, h3, h4⟩ := F.ex
  refine PE.imp (pe_call h4 hr hg h1 h2 h3 .nil pass0 (pa_cons (pe_var n.ix n.vis n.d n.c) ha hst) hdb hst hpl) fun σ H Q h => ?_
  obtain ⟨Out, st, d, st', th, R, e, q⟩ := h
  obtain ⟨dsx, ds, st1, ds0, es', ex, e1, e0, e2, rfl⟩ := callL_some e
  obtain ⟨a0, vs0, q1, _, q3, _⟩ := R.own i dsx ex
  refine ⟨.ref a0, q1, Out, st, ds, st1, th, R, e1, fun us H1 p1 r1 => ?_⟩
  show spL X.K T0 GL ((.ref a0 :: us) ++ []) H1 Q E0
  rw [List.append_nil]
  obtain ⟨a, ws, s1, na, ha, rw⟩ := p1.rep.own i ds0 e0
  rw [q1] at s1
  cases s1
  have oa : ownAt st1 σ i a0 := ⟨⟨_, e0, rfl⟩, q1⟩
  -- the callee's forbidden
  have sub : ∀ b, OutA (Ob Out st1 σ [i]) a0 b → Ob Out st1 σ [] b := fun b z => by
    rcases z with (z | ⟨j, n, z⟩) | z
    · exact .inl z
    · exact .inr ⟨j, by simp, z⟩
    · subst z; exact .inr ⟨i, by simp, oa⟩
  have sub' : ∀ b, Ob Out st1 σ [] b → OutA (Ob Out st1 σ [i]) a0 b := fun b z => by
    rcases z with z | ⟨j, n, z⟩
    · exact .inl (.inl z)
    · by_cases hj : j = i
      · subst hj
        have : some (some (V.ref a0)) = some (some (V.ref b)) := q1.symm.trans z.2
        cases this
        exact .inr rfl
      · exact .inl (.inr ⟨j, by simpa using hj, z⟩)
  refine ⟨Ob Out st1 σ [i], a0, ws, us, ds0, ds, d, es', rfl, hT _ p1.th, p1.rep.obThere, fun z => ?_, ha, RDs.mono sub _ rw, RDs.mono sub _ r1, e2, fun v H' ws' th' s ha' rw' rv => ?_⟩
  · rcases z with z | ⟨j, n, z⟩
    · exact na z
    · exact n (by rw [p1.rep.sep j i a0 z oa]; exact List.mem_singleton.mpr rfl)
  · have sO : Stay (Ow st1 σ [i]) H1 H' := s.mono fun b z => by subst z; exact ⟨i, by simp, oa⟩
    have sOb : ∀ b, b = a0 → Ob Out st1 σ [] b := fun b z => by subst z; exact .inr ⟨i, by simp, oa⟩
    have ow : ∀ (j : Nat) b, ownAt (st1.set i (some (.own es'))) σ j b → ownAt st1 σ j b := fun j b ⟨⟨d, q, hm⟩, q2⟩ => by
      rcases set_at q with ⟨rfl, _, _⟩ | ⟨_, q⟩
      · exact ⟨⟨_, e0, rfl⟩, q2⟩
      · exact ⟨⟨d, q, hm⟩, q2⟩
    have obS : ∀ b, Ob Out (st1.set i (some (.own es'))) σ [] b → Ob Out st1 σ [] b := fun b z => by
      rcases z with z | ⟨j, n, z⟩
      · exact .inl z
      · exact .inr ⟨j, n, ow j b z⟩
    have R2 : Rep X.K Out (st1.set i (some (.own es'))) σ H' := by
      refine ⟨by rw [List.length_set]; exact p1.rep.len, fun b h => s.there b (p1.rep.out b h), fun j d q => ?_, fun j fs q => ?_, fun j x q hx => ?_, fun j k b h1 h2 => p1.rep.sep j k b (ow j b h1) (ow k b h2)⟩
      · rcases set_at q with ⟨_, q, _⟩ | ⟨n, q⟩
        · cases q
        · obtain ⟨v, q1, q2⟩ := p1.rep.val j d q
          exact ⟨v, q1, RD.mono obS d (RD.keep s sOb d q2)⟩
      · rcases set_at q with ⟨rfl, q, hl⟩ | ⟨n, q⟩
        · cases q
          exact ⟨a0, ws', q1, na, ha', RDs.mono (fun b z => sub' b (obS b z)) _ rw'⟩
        · obtain ⟨b, us, q1', q2, q3, q4⟩ := p1.rep.own j fs q
          have nb : ¬ b = a0 := fun z => n (p1.rep.sep j i a0 ⟨⟨_, q, rfl⟩, by rw [← z]; exact q1'⟩ oa)
          exact ⟨b, us, q1', q2, s.keep _ _ q3 nb (fun ps z => by cases z), RDs.mono obS _ (RDs.keep s sOb _ q4)⟩
      · rcases set_at q with ⟨rfl, q, hl⟩ | ⟨n, q⟩
        · cases q; cases hx
        · obtain ⟨b, o, q1', q2, q3, q4⟩ := p1.rep.dct j x q hx
          have nb : ¬ b = a0 := fun z => n (p1.rep.sep j i a0 ⟨⟨_, q, Sl.isD_mine hx⟩, by rw [← z]; exact q1'⟩ oa)
          exact ⟨b, o, q1', q2, s.keep _ _ q3 nb q4.tbl, q4.keep s⟩
    have p2 : EPost X.K T Out σ st1 H1 [i] (st1.set i (some (.own es'))) H' := ⟨p1.th.stay s, R2, sO, fun j n => set_other (by simpa using n), ow⟩
    exact q v H' (p1.trans p2) (RD.mono (fun b z => sub' b (obS b z)) _ rv)
end

/-! ### a def's body -/
/-- np parameters, nn other names -/
def runD (np nn : Nat) (body : M Fl) : List PyData → Option PyData := fun ds => if ds.length = np then (match body (ds.map (fun d => some (.val d)) ++ List.replicate nn none) with
    | some (.rt d, _) => some d
    | some (.nx, _) => some .none
    | _ => none) else none
def ownOf (st : Dn) (i : Nat) : Option (List PyData) := match st[i]? with
  | some (some (.own es)) => some es
  | _ => none
def runL (np nn : Nat) (body : M Fl) : List PyData → List PyData → Option (PyData × List PyData) := fun ds0 ds => if ds.length + 1 = np then (match body (some (.own ds0) :: ds.map (fun d => some (.val d)) ++ List.replicate nn none) with
    | some (.rt d, st) => (match ownOf st 0 with
      | some es => some (d, es)
      | none => none)
    | some (.nx, st) => (match ownOf st 0 with
      | some es => some (.none, es)
      | none => none)
    | _ => none) else none
/-- a def of the text as it stands behind the top; c: its code object -/
structure Fun2 (K : PySem.W.Frag) (x qual : Str) (st : Stmt) (f c : Addr) (fd : FuncData) : Prop where
  ex : ∃ (oc : Value) (od : Option Addr) (kV doc pm : Value) (an : Option Addr) (ct : Value) (osl : Array (Option Value)),
    fd = PySem.W.fnOf x qual (defArgs st) (defBody st) (defScope st) .none kV doc pm an (.ref c) ct ∧ K.lookup f = some ⟨oc, od, .func fd, osl⟩ ∧ PySem.W.codeIn K (.ref c) qual = true
  kp : PySem.W.keepIn K (.ref f) = true
theorem fun2_mk {K : PySem.W.Frag} {x qual : Str} {st : Stmt} {f c : Addr} {oc : Value} {od an : Option Addr} {osl : Array (Option Value)} {kV doc pm ct : Value} (l : K.lookup f = some ⟨oc, od, .func (PySem.W.fnOf x qual (defArgs st) (defBody st) (defScope st) .none kV doc pm an (.ref c) ct), osl⟩)
    (h : PySem.W.codeIn K (.ref c) qual = true) (k : PySem.W.keepIn K (.ref f) = true) : Fun2 K x qual st f c (PySem.W.fnOf x qual (defArgs st) (defBody st) (defScope st) .none kV doc pm an (.ref c) ct) := ⟨⟨oc, od, kV, doc, pm, an, ct, osl, rfl, l, h⟩, k⟩
theorem Fun2.binds {K : PySem.W.Frag} {x qual : Str} {st : Stmt} {f c : Addr} {fd : FuncData} {ps : List Str} (F : Fun2 K x qual st f c fd)
    (h : ∀ (kV doc pm : Value) (an : Option Addr) (cdv ct : Value) (us : List Value), us.length = ps.length → bindArgs (PySem.W.fnOf x qual (defArgs st) (defBody st) (defScope st) .none kV doc pm an cdv ct) ⟨us, []⟩ = pure (ps.zip us)) : Binds K fd ps [] := by
  obtain ⟨oc, od, kV, doc, pm, an, ct, osl, rfl, lk, hcd⟩ := F.ex
  exact .all (h kV doc pm an _ ct)
/-- the context of a def's body -/
abbrev bx (P : Program) (w : World) (K : PySem.W.Frag) (mg : Str → Option Value) (base : Heap) (N : List Str) (qual : Str) (st : Stmt) (f c : Addr) (A : Around) (outer : List Env) (s : Shared) (H : Hp) (E : XK) : Cx :=
  (cxOf CX0 P w K mg base N qual (defScope st) f (.ref c) A outer s H E).nox
section
variable {P : Program} {w : World} {K : PySem.W.Frag} {mg : Str → Option Value} {base : Heap} {T : Tbs} {G : DF} {GL : LF} {GN : NF} {x qual : Str} {st : Stmt} {f c : Addr} {fd : FuncData} {N ps : List Str} {k nn : Nat} {body : M Fl} {asg ch : List Nat}
theorem rep_start {Out : Addr → Prop} {H : Hp} {vs : List V} {ds : List PyData} (hO : ∀ b, Out b → H b ≠ none) (r : RDs K H Out vs ds) (hl : ds.length = ps.length) (hN : N.length = ps.length + nn) :
    Rep K Out (ds.map (fun d => some (Sl.val d)) ++ List.replicate nn none) (L2.start N vs) H := by
  have hv := r.length
  have e : L2.start N vs = vs.map some ++ List.replicate nn none := by
    unfold L2.start
    rw [show N.length - vs.length = nn by omega]
  rw [e]
  have noown : ∀ (i : Nat) (es : Sl), Sl.mine es = true → (ds.map (fun d => some (Sl.val d)) ++ List.replicate nn none)[i]? ≠ some (some es) := fun i es hm z => by
    rw [List.getElem?_append] at z
    split at z
    · rw [List.getElem?_map] at z
      cases q : ds[i]? with
      | none => rw [q] at z; cases z
      | some d => rw [q] at z; cases z; cases hm
    · rw [List.getElem?_replicate] at z
      split at z <;> cases z
  refine ⟨by simp; omega, hO, fun i d q => ?_, fun i es z => absurd z (noown i _ rfl), fun i x z hx => absurd z (noown i x (Sl.isD_mine hx)), fun i j a ⟨⟨es, z, hm⟩, _⟩ => absurd z (noown i es hm)⟩
  rw [List.getElem?_append] at q
  split at q
  · rename_i hi
    rw [List.getElem?_map] at q
    cases z : ds[i]? with
    | none => rw [z] at q; cases q
    | some d' =>
      rw [z] at q
      cases q
      obtain ⟨v, e1, e2⟩ := r.get z
      refine ⟨v, ?_, RD.mono (fun b y => ?_) d e2⟩
      · rw [List.getElem?_append_left (by simp at hi; simp; omega), List.getElem?_map, e1]
        rfl
      · rcases y with y | ⟨j, _, ⟨⟨es, y, hm⟩, _⟩⟩
        · exact y
        · exact absurd y (noown j es hm)
  · rw [List.getElem?_replicate] at q
    split at q <;> cases q
theorem fn_d (F : Fun2 K x qual st f c fd) (S : FnScope N ps (defScope st)) (hN : N.length = ps.length + nn) (hC : ∀ ds, G ds = runD ps.length nn body ds)
    (hb : ∀ (A : Around) (outer : List Env) (s : Shared) (H : Hp) (E : XK), Room k (A.deeper (envOfC qual (defScope st) s.heap.objs.size f (.ref c))) → SSs (bx P w K mg base N qual st f c A outer s H E) T asg ch (defBody st) body) :
    FnOk P w K mg base CX0 (k + 1) f fd ps (spD K T G) := by
  obtain ⟨oc, od, kV, doc, pm, an, ct, osl, rfl, lk, hcd⟩ := F.ex
  have hlen : ∀ vs H Q E, spD K T G vs H Q E → vs.length = ps.length := fun vs H Q E ⟨Out, ds, d, _, _, r, e, _⟩ => by
    rw [hC] at e
    unfold runD at e
    split at e
    · rename_i h; rw [r.length, h]
    · cases e
  refine fn_of lk hcd S hlen fun A outer s H vs Q E hr hsp => ?_
  refine ⟨_, (hb A outer s H E hr).nox, ?_⟩
  have hl := hlen _ _ _ _ hsp
  obtain ⟨Out, ds, d, th, hO, r, e, q⟩ := hsp
  rw [hC] at e
  unfold runD at e
  have hds : ds.length = ps.length := by rw [← r.length]; exact hl
  rw [if_pos hds] at e
  have R := rep_start (nn := nn) (N := N) (ps := ps) hO r hds hN
  have noown : ∀ (i : Nat) b, ¬ ownAt (ds.map (fun d => some (Sl.val d)) ++ List.replicate nn none) (L2.start N vs) i b := fun i b ⟨⟨es, z, hm⟩, _⟩ => by
    rw [List.getElem?_append] at z
    split at z
    · rw [List.getElem?_map] at z
      cases q : ds[i]? with
      | none => rw [q] at z; cases z
      | some d => rw [q] at z; cases z; cases hm
    · rw [List.getElem?_replicate] at z
      split at z <;> cases z
  have stay0 : ∀ {st' σ' H'}, SPost K T Out (ds.map (fun d => some (Sl.val d)) ++ List.replicate nn none) (L2.start N vs) H asg ch st' σ' H' → Stay No H H' := fun p => p.stay.mono fun b ⟨i, _, z⟩ => noown i b z
  split at e
  · rename_i d' st' e1
    cases e
    exact ⟨Out, _, _, _, th, R, e1, fun σ' H' p v rv => q v H' p.th (stay0 p) (RD.mono (fun b z => .inl z) _ rv)⟩
  · rename_i st' e1
    cases e
    exact ⟨Out, _, _, _, th, R, e1, fun σ' H' p => q .non H' p.th (stay0 p) .non⟩
  · cases e
theorem vals_noown {nn : Nat} {ds : List PyData} (i : Nat) (es : Sl) (hm : es.mine = true) : (ds.map (fun d => some (Sl.val d)) ++ List.replicate nn none)[i]? ≠ some (some es) := fun z => by
  rw [List.getElem?_append] at z
  split at z
  · rw [List.getElem?_map] at z
    cases q : ds[i]? with
    | none => rw [q] at z; cases z
    | some d => rw [q] at z; cases z; cases hm
  · rw [List.getElem?_replicate] at z
    split at z <;> cases z
theorem rep_startL {Out : Addr → Prop} {H : Hp} {a : Addr} {ws us : List V} {ds0 ds : List PyData} (hO : ∀ b, Out b → H b ≠ none) (na : ¬ Out a) (ha : H a = some (.lst ws)) (r0 : RDs K H (OutA Out a) ws ds0) (r : RDs K H (OutA Out a) us ds) (hl : ds.length + 1 = ps.length) (hN : N.length = ps.length + nn) :
    Rep K Out (some (.own ds0) :: ds.map (fun d => some (Sl.val d)) ++ List.replicate nn none) (L2.start N (.ref a :: us)) H ∧
      ∀ (i : Nat) b, ownAt (some (.own ds0) :: ds.map (fun d => some (Sl.val d)) ++ List.replicate nn none) (L2.start N (.ref a :: us)) i b → i = 0 ∧ b = a := by
  have hv := r.length
  have e : L2.start N (.ref a :: us) = some (.ref a) :: (us.map some ++ List.replicate nn none) := by
    unfold L2.start
    rw [show N.length - (V.ref a :: us).length = nn by simp; omega]
    rfl
  rw [e]
  have ow : ∀ (i : Nat) b, ownAt (some (.own ds0) :: ds.map (fun d => some (Sl.val d)) ++ List.replicate nn none) (some (.ref a) :: (us.map some ++ List.replicate nn none)) i b → i = 0 ∧ b = a := fun i b ⟨⟨es, z, hm⟩, z2⟩ => by
    cases i with
    | zero => simp at z2; exact ⟨rfl, z2.symm⟩
    | succ i => exact absurd (by simpa using z) (vals_noown (nn := nn) (ds := ds) i es hm)
  have sub : ∀ b, Ob Out (some (.own ds0) :: ds.map (fun d => some (Sl.val d)) ++ List.replicate nn none) (some (.ref a) :: (us.map some ++ List.replicate nn none)) [] b → OutA Out a b := fun b z => by
    rcases z with z | ⟨i, _, z⟩
    · exact .inl z
    · exact .inr (ow i b z).2
  refine ⟨⟨by simp; omega, hO, fun i d q => ?_, fun i es z => ?_, fun i x z hx => ?_, fun i j b h1 h2 => by rw [(ow i b h1).1, (ow j b h2).1]⟩, ow⟩
  · cases i with
    | zero => simp at q
    | succ i =>
      have q : (ds.map (fun d => some (Sl.val d)) ++ List.replicate nn none)[i]? = some (some (Sl.val d)) := by simpa using q
      rw [List.getElem?_append] at q
      split at q
      · rename_i hi
        rw [List.getElem?_map] at q
        cases z : ds[i]? with
        | none => rw [z] at q; cases q
        | some d' =>
          rw [z] at q
          cases q
          obtain ⟨v, e1, e2⟩ := r.get z
          refine ⟨v, ?_, RD.mono sub d e2⟩
          show (us.map some ++ List.replicate nn none)[i]? = _
          rw [List.getElem?_append_left (by simp at hi; simp; omega), List.getElem?_map, e1]
          rfl
      · rw [List.getElem?_replicate] at q
        split at q <;> cases q
  · cases i with
    | zero =>
      simp at z
      subst z
      exact ⟨a, ws, rfl, na, ha, RDs.mono sub _ r0⟩
    | succ i => exact absurd (by simpa using z) (vals_noown (nn := nn) (ds := ds) i _ rfl)
  · cases i with
    | zero =>
      simp at z
      subst z
      cases hx
    | succ i => exact absurd (by simpa using z) (vals_noown (nn := nn) (ds := ds) i x (Sl.isD_mine hx))
theorem fn_l (F : Fun2 K x qual st f c fd) (S : FnScope N ps (defScope st)) (hN : N.length = ps.length + nn) (h0 : 0 ∉ asg) (hC : ∀ ds0 ds, GL ds0 ds = runL ps.length nn body ds0 ds)
    (hb : ∀ (A : Around) (outer : List Env) (s : Shared) (H : Hp) (E : XK), Room k (A.deeper (envOfC qual (defScope st) s.heap.objs.size f (.ref c))) → SSs (bx P w K mg base N qual st f c A outer s H E) T asg ch (defBody st) body) :
    FnOk P w K mg base CX0 (k + 1) f fd ps (spL K T GL) := by
  obtain ⟨oc, od, kV, doc, pm, an, ct, osl, rfl, lk, hcd⟩ := F.ex
  have hlen : ∀ vs H Q E, spL K T GL vs H Q E → vs.length = ps.length := fun vs H Q E ⟨Out, a, ws, us, ds0, ds, d, es, ev, _, _, _, _, _, r, e, _⟩ => by
    rw [hC] at e
    unfold runL at e
    split at e
    · rename_i h; rw [ev, List.length_cons, r.length, h]
    · cases e
  refine fn_of lk hcd S hlen fun A outer s H vs Q E hr hsp => ?_
  refine ⟨_, (hb A outer s H E hr).nox, ?_⟩
  have hl := hlen _ _ _ _ hsp
  obtain ⟨Out, a, ws, us, ds0, ds, d, es, rfl, th, hO, na, ha, r0, r, e, q⟩ := hsp
  rw [hC] at e
  unfold runL at e
  have hds : ds.length + 1 = ps.length := by rw [← r.length]; simpa using hl
  rw [if_pos hds] at e
  obtain ⟨R, ow⟩ := rep_startL (nn := nn) (N := N) (ps := ps) hO na ha r0 r hds hN
  have go : ∀ {st' : Dn} {σ' : L2.St} {H' : Hp} {es : List PyData}, SPost K T Out (some (.own ds0) :: ds.map (fun d => some (Sl.val d)) ++ List.replicate nn none) (L2.start N (.ref a :: us)) H asg ch st' σ' H' → ownOf st' 0 = some es →
      Stay (fun b => b = a) H H' ∧ ∃ ws', H' a = some (.lst ws') ∧ RDs K H' (OutA Out a) ws' es ∧ ∀ b, OutA Out a b → Ob Out st' σ' [] b := fun {st' σ' H' es} p ho => by
    have e0 : st'[0]? = some (some (Sl.own es)) := by
      unfold ownOf at ho
      split at ho
      · rename_i es' z
        cases ho
        exact z
      · cases ho
    obtain ⟨b, ws', q1, q2, q3, q4⟩ := p.rep.own 0 es e0
    have s0 : σ'[0]? = some (some (V.ref a)) := by
      rw [p.sg 0 h0]
      unfold L2.start
      simp
    rw [s0] at q1
    cases q1
    have sub : ∀ b, OutA Out a b → Ob Out st' σ' [] b := fun b z => by
      rcases z with z | rfl
      · exact .inl z
      · exact .inr ⟨0, by simp, ⟨⟨_, e0, rfl⟩, s0⟩⟩
    exact ⟨p.stay.mono fun b ⟨i, _, z⟩ => (ow i b z).2, ws', q3, RDs.mono sub _ q4, sub⟩
  split at e
  · rename_i d' st' e1
    split at e
    · rename_i es' e2
      cases e
      refine ⟨Out, _, _, _, th, R, e1, fun σ' H' p v rv => ?_⟩
      obtain ⟨s1, ws', h1, h2, sub⟩ := go p e2
      exact q v H' ws' p.th s1 h1 h2 (RD.mono sub _ rv)
    · cases e
  · rename_i st' e1
    split at e
    · rename_i es' e2
      cases e
      refine ⟨Out, _, _, _, th, R, e1, fun σ' H' p => ?_⟩
      obtain ⟨s1, ws', h1, h2, sub⟩ := go p e2
      exact q .non H' ws' p.th s1 h1 h2 .non
    · cases e
  · cases e
end
end LH

set_option Elab.async false
set_option linter.all false
set_option maxRecDepth 100000
set_option maxHeartbeats 2000000
/-! Lh7: list comprehensions -/
namespace LH
open PySem PySem.Spec PyProof.Rows L2

def wipeD (st : Dn) : List Nat → Dn
  | [] => st
  | v :: vs => (wipeD st vs).set v none
def noOwn (st : Dn) (vs : List Nat) : Bool := vs.all fun i => match st[i]? with
  | some (some x) => !x.mine
  | _ => true
def restore (o n : Dn) : List Nat → Dn
  | [] => n
  | v :: vs => match o[v]? with
    | some x => (restore o n vs).set v x
    | none => restore o n vs
def lcGo (vs : List Nat) (g : PyData → Dn → Option Dn) (c : M Bool) (elt : M PyData) : List PyData → M (List PyData)
  | [], st => some ([], st)
  | d :: ds, st => match g d st with
    | none => none
    | some st1 => match c st1 with
      | none => none
      | some (false, st2) => lcGo vs g c elt ds (wipeD st2 vs)
      | some (true, st2) => match elt st2 with
        | none => none
        | some (y, st3) => match lcGo vs g c elt ds (wipeD st3 vs) with
          | none => none
          | some (r, st4) => some (y :: r, st4)
def lcM (vs : List Nat) (it : M (List PyData)) (g : PyData → Dn → Option Dn) (c : M Bool) (elt : M PyData) : M (List PyData) := fun st => match it st with
  | none => none
  | some (ds, st1) => if noOwn st1 vs then (match lcGo vs g c elt ds (wipeD st1 vs) with
    | none => none
    | some (r, st2) => if r.length ≤ sizeLine then some (r, restore st1 st2 vs) else none) else none

section
variable {K : PySem.W.Frag} {T : Tbs} {Out : Addr → Prop} {st st1 st2 : Dn} {σ σ1 σ2 : L2.St} {H H1 H2 : Hp} {rs ch vs : List Nat}
theorem wipeD_len : ∀ vs : List Nat, (wipeD st vs).length = st.length
  | [] => rfl
  | v :: vs => by unfold wipeD; rw [List.length_set, wipeD_len vs]
theorem wipeD_some {i : Nat} {x : Sl} : ∀ {vs : List Nat}, (wipeD st vs)[i]? = some (some x) → st[i]? = some (some x) ∧ i ∉ vs
  | [], h => ⟨h, by simp⟩
  | v :: vs, h => by
    unfold wipeD at h
    rcases set_at h with ⟨_, q, _⟩ | ⟨n, q⟩
    · cases q
    · obtain ⟨h1, h2⟩ := wipeD_some q
      exact ⟨h1, by simp only [List.mem_cons, not_or]; exact ⟨n, h2⟩⟩
theorem wipeD_other {i : Nat} : ∀ {vs : List Nat}, i ∉ vs → (wipeD st vs)[i]? = st[i]?
  | [], _ => rfl
  | v :: vs, h => by
    simp only [List.mem_cons, not_or] at h
    unfold wipeD
    rw [set_other h.1, wipeD_other h.2]
theorem wipe_other {i : Nat} : ∀ {vs : List Nat}, i ∉ vs → (wipe σ vs)[i]? = σ[i]?
  | [], _ => rfl
  | v :: vs, h => by
    simp only [List.mem_cons, not_or] at h
    unfold wipe
    rw [set_other h.1, wipe_other h.2]
theorem wipe_in {i : Nat} : ∀ {vs : List Nat}, i ∈ vs → i < σ.length → (wipe σ vs)[i]? = some none
  | v :: vs, h, hl => by
    unfold wipe
    by_cases e : i = v
    · subst e
      exact List.getElem?_set_self (by rw [wipe_length]; exact hl)
    · rw [set_other e]
      rcases List.mem_cons.mp h with z | z
      · exact absurd z e
      · exact wipe_in z hl
theorem wipe_eq (hl : σ1.length = σ.length) (h : ∀ (i : Nat), i ∉ vs → σ1[i]? = σ[i]?) : wipe σ1 vs = wipe σ vs := by
  apply List.ext_getElem?
  intro i
  by_cases hi : i ∈ vs
  · by_cases hlt : i < σ.length
    · rw [wipe_in hi hlt, wipe_in hi (by omega)]
    · rw [List.getElem?_eq_none (by rw [wipe_length]; omega), List.getElem?_eq_none (by rw [wipe_length]; omega)]
  · rw [wipe_other hi, wipe_other hi, h i hi]
theorem wipe_wipe : wipe (wipe σ vs) vs = wipe σ vs := wipe_eq (wipe_length σ vs) fun i h => wipe_other h
theorem noOwn_at (h : noOwn st vs = true) {i : Nat} (hi : i ∈ vs) {b : Addr} (o : ownAt st σ i b) : False := by
  unfold noOwn at h
  rw [List.all_eq_true] at h
  have := h i hi
  obtain ⟨⟨ds, e, hm⟩, _⟩ := o
  rw [e] at this
  simp only [hm] at this
  cases this
theorem ownW {i : Nat} {b : Addr} (o : ownAt (wipeD st vs) (wipe σ vs) i b) : ownAt st σ i b ∧ i ∉ vs := by
  obtain ⟨⟨ds, e, hm⟩, e2⟩ := o
  obtain ⟨h1, h2⟩ := wipeD_some e
  rw [wipe_other h2] at e2
  exact ⟨⟨⟨ds, h1, hm⟩, e2⟩, h2⟩
theorem Rep.wipe (R : Rep K Out st σ H) (n : ∀ (i : Nat) b, i ∈ vs → ¬ ownAt st σ i b) : Rep K Out (wipeD st vs) (L2.wipe σ vs) H := by
  have sub : ∀ b, Ob Out (wipeD st vs) (L2.wipe σ vs) [] b → Ob Out st σ [] b := fun b z => by
    rcases z with z | ⟨i, m, z⟩
    · exact .inl z
    · exact .inr ⟨i, m, (ownW z).1⟩
  refine ⟨by rw [wipeD_len, wipe_length]; exact R.len, R.out, fun i d e => ?_, fun i ds e => ?_, fun i x e hx => ?_, fun i j a h1 h2 => R.sep i j a (ownW h1).1 (ownW h2).1⟩
  · obtain ⟨h1, h2⟩ := wipeD_some e
    obtain ⟨v, q1, q2⟩ := R.val i d h1
    exact ⟨v, by rw [wipe_other h2]; exact q1, RD.mono sub d q2⟩
  · obtain ⟨h1, h2⟩ := wipeD_some e
    obtain ⟨a, ws, q1, q2, q3, q4⟩ := R.own i ds h1
    exact ⟨a, ws, by rw [wipe_other h2]; exact q1, q2, q3, RDs.mono sub ds q4⟩
  · obtain ⟨h1, h2⟩ := wipeD_some e
    obtain ⟨a, o, q1, q2⟩ := R.dct i x h1 hx
    exact ⟨a, o, by rw [wipe_other h2]; exact q1, q2⟩
theorem restore_len : ∀ vs : List Nat, (restore st st1 vs).length = st1.length
  | [] => rfl
  | v :: vs => by
    unfold restore
    split
    · rw [List.length_set, restore_len vs]
    · exact restore_len vs
theorem restore_other {i : Nat} : ∀ {vs : List Nat}, i ∉ vs → (restore st st1 vs)[i]? = st1[i]?
  | [], _ => rfl
  | v :: vs, h => by
    simp only [List.mem_cons, not_or] at h
    unfold restore
    split
    · rw [set_other h.1, restore_other h.2]
    · exact restore_other h.2
theorem restore_in (hl : st1.length = st.length) {i : Nat} : ∀ {vs : List Nat}, i ∈ vs → (restore st st1 vs)[i]? = st[i]?
  | v :: vs, h => by
    unfold restore
    split
    · rename_i x e
      by_cases hv : i = v
      · subst hv
        rw [List.getElem?_set_self (by rw [restore_len]; have := get_lt e; omega), e]
      · rw [set_other hv]
        rcases List.mem_cons.mp h with z | z
        · exact absurd z hv
        · exact restore_in hl z
    · rename_i e
      by_cases hv : i = v
      · subst hv
        rw [e]
        exact List.getElem?_eq_none (by rw [restore_len, hl]; exact List.getElem?_eq_none_iff.mp e)
      · rcases List.mem_cons.mp h with z | z
        · exact absurd z hv
        · exact restore_in hl z
theorem wipeD_in {i : Nat} : ∀ {vs : List Nat}, i ∈ vs → i < st.length → (wipeD st vs)[i]? = some none
  | v :: vs, h, hl => by
    unfold wipeD
    by_cases e : i = v
    · subst e
      exact List.getElem?_set_self (by rw [wipeD_len]; exact hl)
    · rw [set_other e]
      rcases List.mem_cons.mp h with z | z
      · exact absurd z e
      · exact wipeD_in z hl
theorem back_own (hl : st1.length = st.length) (n : noOwn st vs = true) {i : Nat} {b : Addr} (h : ownAt (restore st st1 vs) σ i b) : i ∉ vs ∧ ownAt st1 (L2.wipe σ vs) i b := by
  obtain ⟨⟨ds, e, hm⟩, e2⟩ := h
  by_cases hi : i ∈ vs
  · rw [restore_in hl hi] at e
    exact (noOwn_at n hi (σ := σ) ⟨⟨ds, e, hm⟩, e2⟩).elim
  · rw [restore_other hi] at e
    exact ⟨hi, ⟨ds, e, hm⟩, by rw [wipe_other hi]; exact e2⟩
theorem Rep.back {Out2 : Addr → Prop} (R : Rep K Out st σ H) (n : noOwn st vs = true) (h2 : ∀ b, Out2 b → Out b ∨ H b = none) (R1 : Rep K Out2 st1 (L2.wipe σ vs) H1) (stay : Stay (Ow (wipeD st vs) (L2.wipe σ vs) ch) H H1)
    (psub : ∀ (i : Nat) b, ownAt st1 (L2.wipe σ vs) i b → ownAt (wipeD st vs) (L2.wipe σ vs) i b) : Rep K Out2 (restore st st1 vs) σ H1 := by
  have hl : st1.length = st.length := by rw [R1.len, wipe_length, R.len]
  have ow : ∀ (i : Nat) b, ownAt (restore st st1 vs) σ i b → i ∉ vs ∧ ownAt st1 (L2.wipe σ vs) i b := fun i b h => back_own hl n h
  have ow' : ∀ (i : Nat) b, ownAt st1 (L2.wipe σ vs) i b → ownAt st σ i b ∧ i ∉ vs := fun i b h => ownW (psub i b h)
  have sub : ∀ b, Ob Out2 (restore st st1 vs) σ [] b → Ob Out2 st1 (L2.wipe σ vs) [] b := fun b z => by
    rcases z with z | ⟨i, m, z⟩
    · exact .inl z
    · exact .inr ⟨i, m, (ow i b z).2⟩
  have sub2 : ∀ b, Ob Out2 st1 (L2.wipe σ vs) [] b → Ob Out st σ [] b ∨ H b = none := fun b z => by
    rcases z with z | ⟨i, m, z⟩
    · exact (h2 b z).imp .inl id
    · exact .inl (.inr ⟨i, m, (ow' i b z).1⟩)
  have stay : Stay (Ow st σ ch) H H1 := stay.mono fun b ⟨i, m, z⟩ => ⟨i, m, (ownW z).1⟩
  refine ⟨by rw [restore_len, hl]; exact R.len, R1.out, fun i d e => ?_, fun i ds e => ?_, fun i x e hx => ?_, fun i j a h1 h2 => R1.sep i j a (ow i a h1).2 (ow j a h2).2⟩
  · by_cases hi : i ∈ vs
    · rw [restore_in hl hi] at e
      obtain ⟨v, q1, q2⟩ := R.val i d e
      refine ⟨v, q1, RD.mono (fun b z => .inl z) d (RD.keep stay (fun b ⟨j, _, z⟩ => .inr (.inr ⟨j, by simp, z⟩)) d (RD.freshO (O' := fun b => Ob Out2 (restore st st1 vs) σ [] b ∨ Ob Out st σ [] b) (fun b z => ?_) d q2))⟩
      rcases z with z | z
      · exact sub2 b (sub b z)
      · exact .inl z
    · rw [restore_other hi] at e
      obtain ⟨v, q1, q2⟩ := R1.val i d e
      exact ⟨v, by rw [← q1, wipe_other hi], RD.mono sub d q2⟩
  · by_cases hi : i ∈ vs
    · rw [restore_in hl hi] at e
      obtain ⟨a, _, q1, _⟩ := R.own i ds e
      exact (noOwn_at n hi (σ := σ) ⟨⟨_, e, rfl⟩, q1⟩).elim
    · rw [restore_other hi] at e
      obtain ⟨a, ws, q1, q2, q3, q4⟩ := R1.own i ds e
      exact ⟨a, ws, by rw [← q1, wipe_other hi], q2, q3, RDs.mono sub ds q4⟩
  · by_cases hi : i ∈ vs
    · rw [restore_in hl hi] at e
      obtain ⟨a, _, q1, _⟩ := R.dct i x e hx
      exact (noOwn_at n hi (σ := σ) ⟨⟨_, e, Sl.isD_mine hx⟩, q1⟩).elim
    · rw [restore_other hi] at e
      obtain ⟨a, o, q1, q2⟩ := R1.dct i x e hx
      exact ⟨a, o, by rw [← q1, wipe_other hi], q2⟩
/-- back in the def: the block's end -/
theorem EPost.back (R : Rep K Out st σ H) (n : noOwn st vs = true) (p : EPost K T Out (L2.wipe σ vs) (wipeD st vs) H ch st1 H1) : EPost K T Out σ st H ch (restore st st1 vs) H1 := by
  have hl : st1.length = st.length := by rw [p.rep.len, wipe_length, R.len]
  refine ⟨p.th, R.back n (fun b z => .inl z) p.rep p.stay p.sub, p.stay.mono fun b ⟨i, m, z⟩ => ⟨i, m, (ownW z).1⟩, fun i m => ?_, fun i b h => (ownW (p.sub i b (back_own hl n h).2)).1⟩
  by_cases hi : i ∈ vs
  · exact restore_in hl hi
  · rw [restore_other hi, p.same i m, wipeD_other hi]
theorem Stay.newWrite {O : Addr → Prop} {D : Addr} {H3 : Hp} (a : Stay O H H1) (hD : H D = none) (b : Stay (fun b => b = D) H1 H3) : Stay O H H3 :=
  ⟨fun c o e n t => b.keep c o (a.keep c o e n t) (fun z => by rw [z, hD] at e; cases e) t, fun c h => b.there c (a.there c h), fun c xs h => b.tups c xs (a.tups c xs h), fun c o u h => b.frzs c o u (a.frzs c o u h), fun c φ h => b.exts c φ (a.exts c φ h), fun n P h => b.tabs n P (a.tabs n P h)⟩
/-- a list that nothing leans on is written -/
theorem Rep.writeA {D : Addr} {xs ys : List V} (R : Rep K (OutA Out D) st σ H) (hD : H D = some (.lst xs)) : Rep K (OutA Out D) st σ (upd H D (.lst ys)) ∧ Stay (fun b => b = D) H (upd H D (.lst ys)) := by
  have s : Stay (fun b => b = D) H (upd H D (.lst ys)) := Stay.write hD rfl
  have sD : ∀ b, b = D → Ob (OutA Out D) st σ [] b := fun b z => .inl (.inr z)
  refine ⟨⟨R.len, fun b h => s.there b (R.out b h), fun i d e => ?_, fun i ds e => ?_, fun i x e hx => ?_, R.sep⟩, s⟩
  · obtain ⟨v, q1, q2⟩ := R.val i d e
    exact ⟨v, q1, RD.keep s sD d q2⟩
  · obtain ⟨a, ws, q1, q2, q3, q4⟩ := R.own i ds e
    exact ⟨a, ws, q1, q2, s.keep _ _ q3 (fun z => q2 (.inr z)) (fun ps z => by cases z), RDs.keep s sD ds q4⟩
  · obtain ⟨a, o, q1, q2, q3, q4⟩ := R.dct i x e hx
    exact ⟨a, o, q1, q2, s.keep _ _ q3 (fun z => q2 (.inr z)) q4.tbl, q4.keep s⟩
end

section
variable {X : Cx} {T : Tbs} {rs rc ch ch1 ch2 ch3 as1 : List Nat}
/-- a clause's tests -/
abbrev STs (X : Cx) (T : Tbs) (ch : List Nat) (ifs : List Expr) (c : M Bool) : Prop := PTs X ifs (tT X.K T ch c)
def yesM : M Bool := fun st => some (true, st)
theorem PTs.imp {X : Cx} {e : List Expr} {t t' : TT} (h : PTs X e t) (i : ∀ σ H Q, t' σ H Q → t σ H Q) : PTs X e t' := ⟨fun pins s σ H Q I q => h.run pins s σ H Q I (i σ H Q q)⟩
theorem sts_nil : STs X T [] [] yesM := PTs.imp pts_nil fun σ H Q ⟨Out, st, d, st', th, R, e, q⟩ => by
  cases e
  exact q H (.refl th R)
theorem sts_one {e : Expr} {c : M Bool} (h : ST X T ch e c) : STs X T ch [e] c := pts_one h
theorem lc_go {own : List (Str × Nat)} {it : M (List PyData)} {g : PyData → Dn → Option Dn} {c : M Bool} {f : M PyData} (has : ∀ i, i ∈ as1 → i ∈ own.map (·.2)) (dj : Dj rc (ch2 ++ ch3)) (dj2 : Dj rs (ch2 ++ ch3)) {σ : L2.St} {H : Hp} {Q : VK}
    (h : tF X.K T rs (ch1 ++ (ch2 ++ ch3)) (lcM (own.map (·.2)) it g c f) σ H Q) : tLc (tI X.K T rc ch1 it) (tG X.K as1 g) (tT X.K T ch2 c) (tE X.K T rs ch3 f) (own.map (·.2)) σ H Q := by
  obtain ⟨Out, st, res, st', th, R, e, q⟩ := h
  generalize hvs : own.map (·.2) = vs at e has ⊢
  unfold lcM at e
  split at e
  · cases e
  · rename_i ds st1 e1
    split at e
    · rename_i no
      split at e
      · cases e
      · rename_i r st2 e2
        split at e
        · rename_i hlen
          cases e
          refine ⟨Out, st, ds, st1, th, R, e1, fun J H1 p1 gv D hD => ?_⟩
          have Rw : Rep X.K Out (wipeD st1 vs) (L2.wipe σ vs) H1 := p1.rep.wipe fun i b m z => noOwn_at no m z
          -- the block's state at turn i: the items so far, what is to come
          refine ⟨fun i m Hi => m = ds.length - i ∧ i ≤ ds.length ∧ ∃ sti accV accD rest, lcGo vs g c f (ds.drop i) sti = some (rest, st2) ∧ accD ++ rest = res ∧ EPost X.K T (OutA Out D) (L2.wipe σ vs) (wipeD st1 vs) H1 (ch2 ++ ch3) sti Hi ∧
              Hi D = some (.lst accV) ∧ RDs X.K Hi (Ob (OutA Out D) sti (L2.wipe σ vs) rs) accV accD, ⟨ds.length, by simp, Nat.zero_le _, wipeD st1 vs, [], [], res, e2, rfl,
                ⟨p1.th.stay (Stay.new hD), Rw.new hD, (Stay.new hD).of0, fun _ _ => rfl, fun _ _ h => h⟩, upd_same, .nil⟩, ?_⟩
          rintro i m Hi ⟨rfl, hi, sti, accV, accD, rest, ei, er, pi, hDi, ra⟩
          have hlenV : accV.length = accD.length := ra.length
          -- the iterator stands
          have stO : Stay (Ob Out st1 σ rc) H1 Hi := pi.stay.mono fun b ⟨j, mj, z⟩ => .inr ⟨j, fun y => dj j y mj, (ownW z).1⟩
          obtain ⟨gs, gi⟩ := gv i Hi stO
          by_cases hlt : i < ds.length
          · refine .inr ?_
            obtain ⟨go, gy⟩ := gi ds[i] (List.getElem?_eq_getElem hlt)
            rw [List.drop_eq_getElem_cons hlt] at ei
            simp only [lcGo] at ei
            split at ei
            · cases ei
            · rename_i sa ea
              refine ⟨go, fun H' => ∃ m', m' < ds.length - i ∧ (m' = ds.length - (i + 1) ∧ i + 1 ≤ ds.length ∧ ∃ sti accV accD rest, lcGo vs g c f (ds.drop (i + 1)) sti = some (rest, st2) ∧ accD ++ rest = res ∧ EPost X.K T (OutA Out D) (L2.wipe σ vs) (wipeD st1 vs) H1 (ch2 ++ ch3) sti H' ∧
                H' D = some (.lst accV) ∧ RDs X.K H' (Ob (OutA Out D) sti (L2.wipe σ vs) rs) accV accD), fun H' ⟨m', h1, h2⟩ => ⟨m', h1, h2⟩, fun x H3 y => ?_⟩
              obtain ⟨s3, rx⟩ := gy x H3 y
              have p3 := pi.then s3
              have hD3 : H3 D = some (.lst accV) := s3.keep _ _ hDi (fun z => z) (fun ps z => by cases z)
              have ra3 : RDs X.K H3 (Ob (OutA Out D) sti (L2.wipe σ vs) rs) accV accD := RDs.keep s3 (fun _ z => z.elim) _ ra
              have rx3 : RD X.K H3 (Ob (OutA Out D) sti (L2.wipe σ vs) []) x ds[i] := rx _ fun b z => by
                rcases z with (z | z) | ⟨j, mj, z⟩
                · exact .inl (.inl z)
                · subst z; exact .inr hD
                · exact .inl (.inr ⟨j, mj, (ownW (pi.sub j b z)).1⟩)
              refine ⟨OutA Out D, sti, ds[i], sa, p3.rep, rx3, ea, fun σa ga => ?_⟩
              have wa : L2.wipe σa vs = L2.wipe σ vs := by
                have := wipe_eq (σ := L2.wipe σ vs) (σ1 := σa) (vs := vs) ga.len fun j nj => ga.sg j fun z => nj (has j z)
                rw [this, wipe_wipe]
              refine ⟨wa, ?_⟩
              -- what the turn's slots own was owned before the target was written
              have oa : ∀ (j : Nat) b, ownAt sa σa j b → ownAt sti (L2.wipe σ vs) j b ∧ j ∉ vs := fun j b z => by
                have z1 := ga.own j b z
                exact ⟨z1, (ownW (pi.sub j b z1)).2⟩
              -- the turn's end: the block's own names are forgotten
              have fin : ∀ {chx : List Nat} {s4 : Dn} {H4 : Hp}, (∀ j, j ∈ chx → j ∈ ch2 ++ ch3) → EPost X.K T (OutA Out D) σa sa H3 chx s4 H4 → EPost X.K T (OutA Out D) (L2.wipe σ vs) (wipeD st1 vs) H1 (ch2 ++ ch3) (wipeD s4 vs) H4 ∧
                  H4 D = some (.lst accV) ∧ RDs X.K H4 (Ob (OutA Out D) (wipeD s4 vs) (L2.wipe σ vs) rs) accV accD := fun {chx s4 H4} hch p4 => by
                have no4 : ∀ (j : Nat) b, j ∈ vs → ¬ ownAt s4 σa j b := fun j b mj z => (oa j b (p4.sub j b z)).2 mj
                have Rw4 := p4.rep.wipe no4
                rw [wa] at Rw4
                have ow4 : ∀ (j : Nat) b, ownAt (wipeD s4 vs) (L2.wipe σ vs) j b → ownAt sa σa j b ∧ ownAt sti (L2.wipe σ vs) j b := fun j b z => by
                  rw [← wa] at z
                  have z1 := p4.sub j b (ownW z).1
                  exact ⟨z1, (oa j b z1).1⟩
                have st4 : Stay (Ow sti (L2.wipe σ vs) (ch2 ++ ch3)) H3 H4 := p4.stay.mono fun b ⟨j, mj, z⟩ => ⟨j, hch j mj, (oa j b z).1⟩
                refine ⟨⟨p4.th, Rw4, ?_, fun j nj => ?_, fun j b z => pi.sub j b (ow4 j b z).2⟩, ?_, ?_⟩
                · exact p3.stay.trans (st4.mono fun b ⟨j, mj, z⟩ => ⟨j, mj, pi.sub j b z⟩)
                · by_cases hj : j ∈ vs
                  · have l1 : s4.length = st1.length := by rw [p4.rep.len, ga.len, wipe_length, p1.rep.len]
                    by_cases hjl : j < st1.length
                    · rw [wipeD_in hj (by omega), wipeD_in hj hjl]
                    · rw [List.getElem?_eq_none (by rw [wipeD_len]; omega), List.getElem?_eq_none (by rw [wipeD_len]; omega)]
                  · rw [wipeD_other hj, p4.same j fun z => nj (hch j z), ga.same j fun z => hj (has j z), pi.same j nj]
                · exact p4.stay.keep _ _ hD3 (fun ⟨j, _, z⟩ => by
                    obtain ⟨_, _, _, _, n, _⟩ := p3.rep.ownLst (oa j D z).1
                    exact n (.inr rfl)) (fun ps z => by cases z)
                · refine RDs.mono (fun b z => ?_) _ (RDs.keep st4 (fun b ⟨j, mj, z⟩ => .inr ⟨j, fun y => dj2 j y mj, z⟩) _ ra3)
                  rcases z with z | ⟨j, nj, z⟩
                  · exact .inl z
                  · exact .inr ⟨j, nj, (ow4 j b z).2⟩
              split at ei
              · cases ei
              · rename_i s2 e2c
                refine ⟨OutA Out D, sa, false, s2, p3.th, ga.rep, e2c, fun H4 p4 => iteF ?_⟩
                obtain ⟨f1, f2, f3⟩ := fin (fun j h => List.mem_append_left _ h) p4
                exact ⟨_, by omega, rfl, hlt, wipeD s2 vs, accV, accD, rest, ei, er, f1, f2, f3⟩
              · rename_i s2 e2c
                split at ei
                · cases ei
                · rename_i y s3' e3
                  split at ei
                  · cases ei
                  · rename_i r4 st4 e4
                    cases ei
                    refine ⟨OutA Out D, sa, true, s2, p3.th, ga.rep, e2c, fun H4 p4 => iteT ⟨OutA Out D, s2, y, s3', p4.th, p4.rep, e3, fun yv H5 p5 r5 => ?_⟩⟩
                    obtain ⟨f1, f2, f3⟩ := fin (fun j h => h) (p4.trans p5)
                    obtain ⟨w1, w2⟩ := f1.rep.writeA (ys := accV ++ [yv]) f2
                    have hl2 : accD.length < sizeLine := by
                      rw [← er, List.length_append, List.length_cons] at hlen
                      omega
                    have wD : ∀ b, b = D → Ob (OutA Out D) (wipeD s3' vs) (L2.wipe σ vs) rs b := fun b z => .inl (.inr z)
                    refine ⟨accV, f2, by rw [hlenV]; exact hl2, _, by omega, rfl, hlt, wipeD s3' vs, accV ++ [yv], accD ++ [y], r4, e4, by rw [← er]; simp, ⟨f1.th.stay w2, w1, f1.stay.newWrite hD w2, f1.same, f1.sub⟩, upd_same, (RDs.keep w2 wD _ f3).append (.one ?_)⟩
                    refine RD.keep w2 wD _ (RD.mono (fun b z => ?_) _ r5)
                    rcases z with z | ⟨j, nj, z⟩
                    · exact .inl z
                    · rw [← wa] at z
                      exact .inr ⟨j, nj, (ownW z).1⟩
          · have e2' : i = ds.length := by omega
            subst e2'
            rw [List.drop_length] at ei
            cases ei
            rw [List.append_nil] at er
            subst er
            refine .inl ⟨gs (Nat.le_refl _), ?_⟩
            have pB : EPost X.K T Out (L2.wipe σ vs) (wipeD st1 vs) H1 (ch2 ++ ch3) _ Hi := ⟨pi.th, pi.rep.unA, pi.stay, pi.same, pi.sub⟩
            have pC := pB.back p1.rep no
            have rA : Rep X.K (OutA Out D) (restore st1 _ vs) σ Hi := p1.rep.back no (fun b z => z.imp id fun y => by rw [y]; exact hD) pi.rep pi.stay pi.sub
            refine q D accV Hi (p1.trans pC) rA (hnone p1.stay hD) hDi (RDs.mono (fun b z => ?_) _ ra)
            rcases z with z | ⟨j, nj, z⟩
            · exact .inl z
            · exact .inr ⟨j, nj, (back_own (by rw [pi.rep.len, wipe_length, p1.rep.len]) no z).2⟩
        · cases e
    · cases e
theorem sf_lc {elt tg iter : Expr} {ifs : List Expr} {scope : Scope} {own : List (Str × Nat)} {pos : Pos} {it : M (List PyData)} {g : PyData → Dn → Option Dn} {c : M Bool} {f : M PyData} (hc : X.calm = true) (hN : X.N.Nodup)
    (hi : SI X T tg rc ch1 iter it) (ok : BlkOk X.N X.env.scope scope own) (has : ∀ i, i ∈ as1 → i ∈ own.map (·.2))
    (hg : ∀ (s : Shared) (H : Hp) (C : Addr) (cl : List (Str × Addr)) (fp : List Addr), SG (X.blk s H scope (compEnvC scope cl C X.env) fp) as1 tg g)
    (ht : ∀ (s : Shared) (H : Hp) (C : Addr) (cl : List (Str × Addr)) (fp : List Addr), STs (X.blk s H scope (compEnvC scope cl C X.env) fp) T ch2 ifs c)
    (he : ∀ (s : Shared) (H : Hp) (C : Addr) (cl : List (Str × Addr)) (fp : List Addr), SE (X.blk s H scope (compEnvC scope cl C X.env) fp) T rs ch3 elt f)
    (dj : Dj rc (ch2 ++ ch3)) (dj2 : Dj rs (ch2 ++ ch3)) (hs : ∀ x, foldedSetIterable iter X.env x = pure x := by intro _; rfl) :
    SF X T rs (ch1 ++ (ch2 ++ ch3)) (.ListComp elt [⟨tg, iter, ifs, 0⟩] scope pos) (lcM (own.map (·.2)) it g c f) :=
  PE.imp (pe_lc (g := tG X.K as1 g) (tt := tT X.K T ch2 c) (te := tE X.K T rs ch3 f) hc hN hi ok hg ht he hs) fun σ H Q h => lc_go has dj dj2 h
/-- name = [..] on one line: a value -/
theorem ss_setLc {i : Nat} {y : Str} {py spos : Pos} {elt tg iter : Expr} {ifs : List Expr} {scope : Scope} {own : List (Str × Nat)} {pos : Pos} {it : M (List PyData)} {g : PyData → Dn → Option Dn} {c : M Bool} {f : M PyData} (hc : X.calm = true) (hN : X.N.Nodup)
    (hy : X.N[i]? = some y) (hyl : X.env.scope.names.lookup y = some .local) (hk : X.env.scope.kind = .function) (hl : (py.line == pos.line) = true) (ha : (scope.names.any fun (n, k) => n == y && (k == .local || k == .cell)) = false)
    (hi : SI X T tg rc ch1 iter it) (ok : BlkOk X.N X.env.scope scope own) (has : ∀ i, i ∈ as1 → i ∈ own.map (·.2))
    (hg : ∀ (s : Shared) (H : Hp) (C : Addr) (cl : List (Str × Addr)) (fp : List Addr), SG (X.blk s H scope (compEnvC scope cl C X.env) fp) as1 tg g)
    (ht : ∀ (s : Shared) (H : Hp) (C : Addr) (cl : List (Str × Addr)) (fp : List Addr), STs (X.blk s H scope (compEnvC scope cl C X.env) fp) T ch2 ifs c)
    (he : ∀ (s : Shared) (H : Hp) (C : Addr) (cl : List (Str × Addr)) (fp : List Addr), SE (X.blk s H scope (compEnvC scope cl C X.env) fp) T rs ch3 elt f)
    (dj : Dj rc (ch2 ++ ch3)) (dj2 : Dj rs (ch2 ++ ch3)) (hs : ∀ x, foldedSetIterable iter X.env x = pure x := by intro _; rfl) :
    SS X T [i] ((ch1 ++ (ch2 ++ ch3)) ++ rs) (.Assign [.Name y py] (.ListComp elt [⟨tg, iter, ifs, 0⟩] scope pos) spos) (setM i rs (liD (lcM (own.map (·.2)) it g c f))) :=
  PS.imp (ps_setLc (g := tG X.K as1 g) (tt := tT X.K T ch2 c) (te := tE X.K T rs ch3 f) hc hN hy hyl (sw_true hk hyl hl ha) hi ok hg ht he hs) fun D σ H h => lc_go has dj dj2 (liD_go (setM_go h))
/-- .. a list of one's own -/
theorem ss_setLcO {i : Nat} {y : Str} {py spos : Pos} {elt tg iter : Expr} {ifs : List Expr} {scope : Scope} {own : List (Str × Nat)} {pos : Pos} {it : M (List PyData)} {g : PyData → Dn → Option Dn} {c : M Bool} {f : M PyData} (hc : X.calm = true) (hN : X.N.Nodup)
    (hy : X.N[i]? = some y) (hyl : X.env.scope.names.lookup y = some .local) (hk : X.env.scope.kind = .function) (hl : (py.line == pos.line) = true) (ha : (scope.names.any fun (n, k) => n == y && (k == .local || k == .cell)) = false)
    (hi : SI X T tg rc ch1 iter it) (ok : BlkOk X.N X.env.scope scope own) (has : ∀ i, i ∈ as1 → i ∈ own.map (·.2))
    (hg : ∀ (s : Shared) (H : Hp) (C : Addr) (cl : List (Str × Addr)) (fp : List Addr), SG (X.blk s H scope (compEnvC scope cl C X.env) fp) as1 tg g)
    (ht : ∀ (s : Shared) (H : Hp) (C : Addr) (cl : List (Str × Addr)) (fp : List Addr), STs (X.blk s H scope (compEnvC scope cl C X.env) fp) T ch2 ifs c)
    (he : ∀ (s : Shared) (H : Hp) (C : Addr) (cl : List (Str × Addr)) (fp : List Addr), SE (X.blk s H scope (compEnvC scope cl C X.env) fp) T rs ch3 elt f)
    (dj : Dj rc (ch2 ++ ch3)) (dj2 : Dj rs (ch2 ++ ch3)) (hs : ∀ x, foldedSetIterable iter X.env x = pure x := by intro _; rfl) :
    SS X T [i] ((ch1 ++ (ch2 ++ ch3)) ++ rs) (.Assign [.Name y py] (.ListComp elt [⟨tg, iter, ifs, 0⟩] scope pos) spos) (setO i rs (lcM (own.map (·.2)) it g c f)) :=
  PS.imp (ps_setLc (g := tG X.K as1 g) (tt := tT X.K T ch2 c) (te := tE X.K T rs ch3 f) hc hN hy hyl (sw_true hk hyl hl ha) hi ok hg ht he hs) fun D σ H h => lc_go has dj dj2 (setO_go h)
end
end LH

set_option Elab.async false
set_option linter.all false
set_option maxRecDepth 100000
set_option maxHeartbeats 2000000
/-! Lh8: a generator expression's code object, its context -/
namespace LH
open PySem PySem.Spec PyProof.Rows L2

theorem among_app2 {pos p' : Pos} {c cv : Value} (l : List Value) (h : TriplesOk l) (hc : codeAmong p' (l ++ [rawInt pos.line, rawInt pos.col, c]) = some cv) : codeAmong p' l = some cv ∨ (cv = c ∧ p'.line = pos.line ∧ p'.col = pos.col) := by
  fun_induction TriplesOk l with
  | case1 =>
    simp only [List.nil_append, rawInt, codeAmong] at hc
    split at hc
    · rename_i q
      simp at q
      exact .inr ⟨(Option.some.inj hc).symm, by omega, by omega⟩
    · cases hc
  | case2 a t b u x rest ih =>
    simp only [List.cons_append, codeAmong] at hc ⊢
    split at hc
    · rename_i q
      rw [if_pos q]
      exact .inl hc
    · rename_i q
      rw [if_neg q]
      exact ih h hc
  | case3 l h1 h2 => exact h.elim

/-- the tables behind a new code object -/
def codH (H : Hp) (P c' P' : Addr) (ps : Array Value) (q : Str) : Hp := upd (upd (upd H P (.tbl ps)) c' (CodeO c' P' q)) P' (.tbl #[])
theorem codeO_ne {c P : Addr} {q : Str} (ps : Array Value) : CodeO c P q ≠ .tbl ps := fun z => by
  unfold CodeO at z
  cases z
section
variable {X : Cx} {pins : List (Addr × Obj)} {σ : L2.St} {H : Hp} {s : Shared}
structure CodX (H : Hp) (P c' P' : Addr) (ps : Array Value) : Prop where
  hP : H P = some (.tbl ps)
  nC : H c' = none
  nP : H P' = none
  ne : c' ≠ P'
theorem CodX.at {P c' P' : Addr} {ps : Array Value} (C : CodX H P c' P' ps) (ps' : Array Value) (q : Str) : (∀ b, b ≠ P → b ≠ c' → b ≠ P' → codH H P c' P' ps' q b = H b) ∧ codH H P c' P' ps' q P = some (.tbl ps') ∧ codH H P c' P' ps' q c' = some (CodeO c' P' q) ∧ codH H P c' P' ps' q P' = some (.tbl #[]) ∧
    (∀ b u, H b = some u → (∀ z, u ≠ .tbl z) → codH H P c' P' ps' q b = some u) ∧ (∀ b z, H b = some (.tbl z) → b ≠ P → codH H P c' P' ps' q b = some (.tbl z)) := by
  have n1 : P ≠ c' := ne_of_none C.hP C.nC
  have n2 : P ≠ P' := ne_of_none C.hP C.nP
  have a : ∀ b, b ≠ P → b ≠ c' → b ≠ P' → codH H P c' P' ps' q b = H b := fun b h1 h2 h3 => by
    unfold codH
    rw [upd_ne h3, upd_ne h2, upd_ne h1]
  refine ⟨a, ?_, ?_, ?_, fun b u e n => ?_, fun b z e n => ?_⟩
  · unfold codH; rw [upd_ne n2, upd_ne n1, upd_same]
  · unfold codH; rw [upd_ne C.ne, upd_same]
  · unfold codH; rw [upd_same]
  · rw [a b (fun z => n ps (Option.some.inj (e.symm.trans (by rw [z]; exact C.hP)))) (ne_of_none e C.nC) (ne_of_none e C.nP)]
    exact e
  · rw [a b n (ne_of_none e C.nC) (ne_of_none e C.nP)]
    exact e
theorem CodX.tabs {P c' P' : Addr} {ps : Array Value} (C : CodX H P c' P' ps) (pos : Pos) (q : Str) (ht : TriplesOk ps.toList) (hν : nuG pos.line pos.col q) : ∀ n Q, TabD nuG n H Q → TabD nuG n (codH H P c' P' (ps ++ #[rawInt pos.line, rawInt pos.col, .ref c']) q) Q := by
  obtain ⟨_, a2, a3, a4, a5, a6⟩ := C.at (ps ++ #[rawInt pos.line, rawInt pos.col, .ref c']) q
  have eL : (ps ++ #[rawInt pos.line, rawInt pos.col, .ref c']).toList = ps.toList ++ [rawInt pos.line, rawInt pos.col, .ref c'] := by simp
  have ht2 : TriplesOk (ps ++ #[rawInt pos.line, rawInt pos.col, .ref c']).toList := by rw [eL]; exact PySem.TriplesOk_snoc _ _ _ _ ht
  intro n
  induction n with
  | zero =>
    rintro Q ⟨qs, h1, h2⟩
    by_cases e : Q = P
    · subst e
      exact ⟨_, a2, ht2⟩
    · exact ⟨qs, a6 Q qs h1 e, h2⟩
  | succ n ih =>
    rintro Q ⟨qs, h1, h2, h3⟩
    have old : ∀ (pos' : Pos) (cv : Value), codeAmong pos' qs.toList = some cv → ∃ c2 P2 q2, cv = .ref c2 ∧ nuG pos'.line pos'.col q2 ∧ codH H P c' P' (ps ++ #[rawInt pos.line, rawInt pos.col, .ref c']) q c2 = some (CodeO c2 P2 q2) ∧ TabD nuG n (codH H P c' P' (ps ++ #[rawInt pos.line, rawInt pos.col, .ref c']) q) P2 := fun pos' cv e => by
      obtain ⟨c2, P2, q2, e1, e2, e3, e4⟩ := h3 pos' cv e
      exact ⟨c2, P2, q2, e1, e2, a5 c2 _ e3 codeO_ne, ih P2 e4⟩
    by_cases e : Q = P
    · subst e
      rw [C.hP] at h1
      cases h1
      refine ⟨_, a2, ht2, fun pos' cv e => ?_⟩
      rw [eL] at e
      rcases among_app2 _ ht e with z | ⟨z, z1, z2⟩
      · exact old pos' cv z
      · exact ⟨c', P', q, z, by rw [z1, z2]; exact hν, a3, TabD.nil a4 n⟩
    · exact ⟨qs, a6 Q qs h1 e, h2, old⟩
theorem CodX.stay {P c' P' : Addr} {ps : Array Value} (C : CodX H P c' P' ps) (pos : Pos) (q : Str) (ht : TriplesOk ps.toList) (hν : nuG pos.line pos.col q) : Stay No H (codH H P c' P' (ps ++ #[rawInt pos.line, rawInt pos.col, .ref c']) q) := by
  obtain ⟨a1, a2, a3, a4, a5, a6⟩ := C.at (ps ++ #[rawInt pos.line, rawInt pos.col, .ref c']) q
  refine ⟨fun b o e _ n => a5 b o e n, fun b e => ?_, fun b xs e => a5 b _ e (fun z y => by cases y), fun b o u e => a5 b _ e (fun z y => by cases y), fun b φ e => a5 b _ e (fun z y => by cases y), C.tabs pos q ht hν⟩
  cases hb : H b with
  | none => exact absurd hb e
  | some u =>
    by_cases hP : b = P
    · subst hP; rw [a2]; intro z; cases z
    · rw [a1 b hP (ne_of_none hb C.nC) (ne_of_none hb C.nP), hb]; intro z; cases z
/-- a new code object, known from now on, and its table -/
theorem inv_code {P c' P' : Addr} {q : Str} {ps more : Array Value} {h' : Heap} {t' : Nat} (I : Inv X pins σ H s) (hP : H P = some (.tbl ps)) (k : ∀ b o, b ≠ P → s.heap.get? b = some o → h'.get? b = some o)
    (hm : h'.get? P = some { cls := .none, data := .fields (ps ++ more) }) (hc : s.heap.objs.size ≤ c') (hp : s.heap.objs.size ≤ P') (hne : c' ≠ P') (ho : PySem.W.CodeHd h' c' P' ∧ h'.CodeRec (.ref c') q) (hP' : h'.get? P' = some { cls := .none, data := .fields #[] }) :
    Inv X pins σ (codH H P c' P' (ps ++ more) q) { s with heap := h', toks := t' } := by
  have nC : H c' = none := I.hok.fresh hc
  have nP' : H P' = none := I.hok.fresh hp
  obtain ⟨a1, a2, a3, a4, a5, a6⟩ := CodX.at ⟨hP, nC, nP', hne⟩ (ps ++ more) q
  have nN : ∀ b, H b = none → b ≠ P := fun b e z => by
    rw [z, hP] at e
    cases e
  have lc : ∀ b o, s.heap.get? b = some o → b ≠ c' := fun b o e z => by
    rw [z] at e
    exact Nat.lt_irrefl _ (Nat.lt_of_lt_of_le (Heap.lt_size e) hc)
  have lp : ∀ b o, s.heap.get? b = some o → b ≠ P' := fun b o e z => by
    rw [z] at e
    exact Nat.lt_irrefl _ (Nat.lt_of_lt_of_le (Heap.lt_size e) hp)
  refine I.step (g' := s.gens) (d' := s.drawn) (ch := []) (fun b hb => absurd hb (by simp)) (fun b o _ _ _ e n => k b o (nN b n) e) (fun b o _ _ _ e n => ⟨o.slots, k b o (nN b n) e⟩)
    (fun b o _ e n => by rw [a1 b (nN b n) (lc b o e) (lp b o e)]; exact n) (fun b o _ e => ?_) (fun b xs e => a5 b _ e (fun z y => by cases y)) (fun b o u e => a5 b _ e (fun z y => by cases y)) (fun b qs e => ?_) (fun m hn => ?_) (fun b u e => ?_) I.bare
  · by_cases hb : b = P
    · rw [hb]
      exact ⟨_, hm⟩
    · exact ⟨o, k b o hb e⟩
  · by_cases hb : b = P
    · rw [hb, hP] at e
      cases e
      rw [hb, a2]
      exact ⟨more, rfl⟩
    · rw [a6 b qs e hb]
      exact ⟨#[], by simp⟩
  · obtain ⟨ob, es, ep, ho, r⟩ := hn
    exact ⟨ob, es, ep, k _ ob (nN _ I.free) ho, r⟩
  · by_cases hb : b = c'
    · rw [hb, a3] at e
      cases e
      rw [hb]
      obtain ⟨o, vs, file, tf, flags, tg, inF, text, tt, e1, e2⟩ := ho.1
      refine ⟨ho, ⟨o, e1⟩, fun h1 h2 ⟨⟨o, vs, file, tf, flags, tg, inF, text, tt, e1, e2⟩, ⟨c2, o2, vs2, t2, f1, f2, f3⟩⟩ st => ⟨⟨o, vs, file, tf, flags, tg, inF, text, tt, st _ e1, e2⟩, ?_⟩⟩
      cases f1
      exact ⟨_, o2, vs2, t2, rfl, st _ f2, f3⟩
    · by_cases hb2 : b = P'
      · rw [hb2, a4] at e
        cases e
        rw [hb2]
        exact hP'
      · by_cases hb3 : b = P
        · rw [hb3, a2] at e
          cases e
          rw [hb3]
          exact hm
        · rw [a1 b hb3 hb hb2] at e
          refine (I.hok b u e).stay (fun d v hd q => k d v ?_ q) (fun d q => a5 d _ q (fun z y => by cases y)) fun d xs q => a5 d _ q (fun z y => by cases y)
          rcases hd with z | z
          · rw [z]
            exact hb3
          · exact fun y => by rw [y, hP] at z; cases z

/-- the running def's code object at c, its table at P: known by what stays -/
structure CT (X : Cx) (T : Tbs) (n : Nat) (c P : Addr) : Prop where
  code : X.env.code = .ref c
  hd : ∀ (H : Hp) (h : Heap), HOk X.prog X.w H h → (∀ b o, X.base.get? b = some o → h.get? b = some o) → TH T H → PySem.W.CodeHd h c P
  tab : ∀ H, TH T H → TabD nuG n H P
  bm : ∃ P0, X.base.BuiltinsAt X.mg P0
/-- what is known of the code object that a generator expression runs -/
def CodK (n : Nat) (cv : Value) (H : Hp) : Prop := ∀ m, n = m + 1 → ∃ c' P' q, cv = .ref c' ∧ H c' = some (CodeO c' P' q) ∧ TabD nuG m H P'
theorem code_step {T : Tbs} {n : Nat} {c P : Addr} {gpos : Pos} {q : Str} {scope : Scope} {E : Value → Shared → Prop} {Q : Value → Shared → Prop} (ct : CT X T n c P) (I : Inv X pins σ H s) (th : TH T H) (hν : nuG gpos.line gpos.col q)
    (h : ∀ cv H1 s1, Inv X pins σ H1 s1 → Stay No H H1 → CodK n cv H1 → s.heap.objs.size ≤ s1.heap.objs.size → Q cv s1) : wpAny (model X.prog X.w) X.A (genexprCode X.env gpos q scope) Q E s := by
  obtain ⟨ps, hP, ht⟩ := (ct.tab H th).base
  have cd := ct.hd H s.heap I.hok I.bk th
  have hPs : s.heap.get? P = some { cls := .none, data := .fields ps } := I.hok P _ hP
  cases hf : codeAmong gpos ps.toList with
  | none =>
    refine wpAny_genexprCodeX ct.code (cd.code hPs ht) (cd.tab hPs) hf fun c' h' tk hx hge hlt hco' hrec htab' ⟨P', hgeP, hcP, htP⟩ => ?_
    have hne : c' ≠ P' := by
      obtain ⟨o1, vs, f1, tf, fl, tg, inF, tx, tt, op, _, _, _, _, _, _, _, _, _, _, hne⟩ := hcP
      exact hne
    have C : CodX H P c' P' ps := ⟨hP, I.hok.fresh hge, I.hok.fresh hgeP, hne⟩
    have I1 := inv_code (q := q) (more := #[rawInt gpos.line, rawInt gpos.col, .ref c']) (h' := h') (t' := tk) I hP hx htab'.2 hge hgeP hne ⟨.of hcP htP, hrec⟩ htP.2
    refine h _ _ _ I1 (C.stay gpos q ht hν) (fun m _ => ?_) (Nat.le_trans hge (Nat.le_of_lt hlt))
    obtain ⟨_, _, a3, a4, _⟩ := C.at (ps ++ #[rawInt gpos.line, rawInt gpos.col, .ref c']) q
    exact ⟨c', P', q, rfl, a3, TabD.nil a4 m⟩
  | some cv =>
    refine wpAny_genexprCode_hit ct.code (cd.code hPs ht) hf ?_
    refine h cv H s I (Stay.refl _ _) (fun m e => ?_) (Nat.le_refl _)
    subst e
    obtain ⟨qs, h1, h2, h3⟩ := ct.tab H th
    rw [hP] at h1
    cases h1
    obtain ⟨c', P', q', e1, _, e3, e4⟩ := h3 gpos cv hf
    exact ⟨c', P', q', e1, e3, e4⟩
end
end LH

set_option Elab.async false
set_option linter.all false
set_option maxRecDepth 100000
set_option maxHeartbeats 2000000
/-! Lh9: a generator expression's frame; its turns -/
namespace LH
open PySem PySem.Spec PyProof.Rows L2

abbrev genEnvC (X : Cx) (scope : Scope) (code : Value) (L : Addr) : Env :=
  newEnv scope L X.env.globals (cellsFrom (L + 1) scope.names (cloFrom X.env.cells scope.names [])) (X.env.qual ++ "<genexpr>.") none code none builtinsNs
/-- the context of a generator expression's code, made at s; A: where it is woken -/
abbrev genCx (X : Cx) (A : Around) (s : Shared) (H : Hp) (scope : Scope) (cenv : Env) (fp : List Addr) : Cx :=
  { X with A := A, s_0 := s, H_0 := H, env := cenv, outer := X.stack, stack := cenv :: X.stack, ex := fp, fn := fun x => scope.names.lookup x == some .cell, pn := [], xe := fun _ _ => False }
section
variable {X : Cx} {pins : List (Addr × Obj)} {σ : L2.St} {H : Hp} {s : Shared}
theorem gen_start {scope : Scope} {own : List (Str × Nat)} {fp : List Addr} {code itv : Value} {A : Around} {h' : Heap} {t' : Nat} (I : Inv X pins σ H s) (ok : BlkOk X.N X.env.scope scope own) (hN : X.N.Nodup) (hfp : ∀ b ∈ fp, FpOk X pins H b ∧ b < s.heap.objs.size)
    (hA : A.frames = some (genEnvC X scope code s.heap.objs.size :: X.stack)) (hh : X.calm = true → A.handled = none)
    (hn : h'.Ns s.heap.objs.size (fun y => if y = ".0" then some itv else none)) (hs : Heap.SameBut s.heap.objs.size (pushCells (s.heap.push { cls := .type "frame", data := .dict #[] }) scope.names) h') :
    Inv (genCx X A s H scope (genEnvC X scope code s.heap.objs.size) fp) [] (wipe σ (own.map (·.2))) H { s with heap := h', toks := t' } := by
  have hfree : ∀ y ∈ scope.names, y.2 = .free → ∃ c, X.env.cells.lookup y.1 = some c := fun y hy e => by
    rcases ok.free y hy e with k | k
    · exact I.ok.has _ (.inl k)
    · exact I.ok.has _ (.inr k)
  generalize hcenv : genEnvC X scope code s.heap.objs.size = cenv at hA ⊢
  have kp : ∀ b o, s.heap.get? b = some o → h'.get? b = some o := fun b o e => (hs.2 b (Nat.ne_of_lt (Heap.lt_size e))).trans (pushCells_keeps _ _ _ _ (Heap.get?_push_of_some _ e))
  have hL : cenv.locals = s.heap.objs.size := by rw [← hcenv]; rfl
  have hcl : cenv.cells = cellsFrom (s.heap.objs.size + 1) scope.names (cloFrom X.env.cells scope.names []) := by rw [← hcenv]; rfl
  have hsc : cenv.scope = scope := by rw [← hcenv]; rfl
  rw [← Heap.size_push s.heap { cls := .type "frame", data := .dict #[] }] at hcl
  have cm : ∀ {y c}, (y, c) ∈ cloFrom X.env.cells scope.names [] → X.env.cells.lookup y = some c ∧ c < s.heap.objs.size := fun {y c} hm => by
    rcases cloFrom_mem hm with hm | ⟨h1, rfl⟩
    · cases hm
    · obtain ⟨c, hc⟩ := hfree _ h1 rfl
      rw [hc]
      obtain ⟨w, z⟩ := I.cell _ _ hc
      exact ⟨rfl, z.lt⟩
  have mem : ∀ {y c}, cenv.cells.lookup y = some c → (X.env.cells.lookup y = some c ∧ c < s.heap.objs.size) ∨ (s.heap.objs.size + 1 ≤ c ∧ h'.IsCell c none) := fun {y c} e => by
    rw [hcl] at e
    rcases cells_mem (PySem.mem_of_lookup e) with hm | ⟨_, h2, h3⟩
    · exact .inl (cm hm)
    · rw [Heap.size_push] at h2
      exact .inr ⟨h2, h3.sameBut hs (fun z => by
        have h2 : s.heap.objs.size + 1 ≤ c := h2
        rw [z] at h2
        exact Nat.lt_irrefl _ h2)⟩
  have look : ∀ {y}, scope.names.lookup y = some .free → ∃ c, cenv.cells.lookup y = some c ∧ X.env.cells.lookup y = some c := fun {y} hl => by
    have hy : (y, NameKind.free) ∈ scope.names := PySem.mem_of_lookup hl
    obtain ⟨c', e'⟩ := mem_lookup (cells_acc (names := scope.names) (n := (s.heap.push { cls := .type "frame", data := .dict #[] }).objs.size) (cloFrom_has (cells := X.env.cells) (acc := []) hy))
    rw [← hcl] at e'
    refine ⟨c', e', ?_⟩
    rw [hcl] at e'
    rcases cells_mem (PySem.mem_of_lookup e') with hm | ⟨h1, _, _⟩
    · exact (cm hm).1
    · have := ok.uniq _ h1
      rw [hl] at this; cases this
  have okB : (genCx X A s H scope cenv fp).Ok := by
    refine ⟨I.ok.mod, by show cenv.scope.kind = _; rw [hsc]; exact ok.kind, by show cenv.globals = _; rw [← hcenv]; exact I.ok.glob, by show cenv.builtins = _; rw [← hcenv]; rfl, by show s.heap.objs.size ≤ cenv.locals; rw [hL]; exact Nat.le_refl _,
      fun y z c e1 e2 => ?_, fun y hy => ?_, fun y c z e => ?_, hh, hA, .inr ⟨rfl, by rw [← hcenv]; rfl⟩, fun b hb => ⟨?_, fun y c e z => ?_⟩, I.bs, Nat.le_trans I.ok.bsz I.sz, fun b o e hb => ?_, fun b hb z => ?_, I.stack, I.stkFree⟩
    · have e1 : cenv.cells.lookup y = some c := e1
      have e2 : cenv.cells.lookup z = some c := e2
      rw [hcl] at e1 e2
      refine cells_inj (fun p hp => ?_) (fun y z c a b => I.ok.inj y z c (cm a).1 (cm b).1) (PySem.mem_of_lookup e1) (PySem.mem_of_lookup e2)
      rw [Heap.size_push]
      exact Nat.lt_succ_of_lt (cm (y := p.1) (c := p.2) hp).2
    · show ∃ c, cenv.cells.lookup y = some c
      have key : ∀ k, cenv.kindOf y = some k → (k = .cell ∨ k = .free) → ∃ c, cenv.cells.lookup y = some c := fun k hk hk' => by
        unfold Env.kindOf at hk
        rw [hsc] at hk
        rcases hk' with rfl | rfl
        · obtain ⟨c, hm⟩ := cells_has (n := (s.heap.push { cls := .type "frame", data := .dict #[] }).objs.size) (acc := cloFrom X.env.cells scope.names []) (PySem.mem_of_lookup hk)
          obtain ⟨c', e'⟩ := mem_lookup hm
          exact ⟨c', by rw [hcl]; exact e'⟩
        · obtain ⟨c, h1, _⟩ := look hk
          exact ⟨c, h1⟩
      rcases hy with hy | hy
      · exact key _ hy (.inl rfl)
      · exact key _ hy (.inr rfl)
    · have z : (scope.names.lookup y == some NameKind.cell) = true := z
      have z : scope.names.lookup y = some .cell := by simpa using z
      have e : cenv.cells.lookup y = some c := e
      rw [hcl] at e
      rcases cells_mem (PySem.mem_of_lookup e) with hm | ⟨_, h2, _⟩
      · rcases cloFrom_mem hm with hm | ⟨h1, _⟩
        · cases hm
        · have q := ok.uniq _ h1
          rw [z] at q; cases q
      · rw [Heap.size_push] at h2
        exact Nat.le_of_succ_le h2
    · show b ≠ cenv.locals
      rw [hL]; exact Nat.ne_of_lt (hfp b hb).2
    · have e : cenv.cells.lookup y = some c := e
      rcases mem e with ⟨h1, _⟩ | ⟨h1, _⟩
      · exact (hfp b hb).1.2.2.2.2.1 y c h1 z
      · have h2 : s.heap.objs.size + 1 ≤ b := by rw [← z]; exact h1
        exact absurd (Nat.lt_of_lt_of_le (hfp b hb).2 (Nat.le_of_succ_le h2)) (Nat.lt_irrefl _)
    · rcases (hfp b hb).1.2.2.2.1 with z | z
      · exact I.ok.noex b o e z
      · exact absurd (Nat.lt_of_lt_of_le (Heap.lt_size e) (Nat.le_trans I.ok.bsz z)) (Nat.lt_irrefl _)
    · rcases List.mem_cons.mp (I.stkSub b z) with z | z
      · exact (hfp b hb).1.2.1 z
      · exact (hfp b hb).1.2.2.1 z
  refine ⟨okB, rfl, I.bare, Un.kept kp, ⟨_, by show Heap.Ns _ cenv.locals _; rw [hL]; exact hn, fun i y av e1 e2 e3 => ?_⟩, fun y c e => ?_, ?_, fun y c e => ?_, fun p hp => ?_, I.hok.kept kp, by rw [wipe_length]; exact I.len⟩
  · obtain ⟨e2, hne⟩ := wipe_some e2
    have hfr : scope.names.lookup y = some .free ∧ (cenv.kindOf y = some .cell ∨ cenv.kindOf y = some .free) := by
      have no : ∀ k', scope.names.lookup y = some k' → ¬ (k' = .local ∨ k' = .cell) := fun k' e hh => by
        rcases ok.own _ (PySem.mem_of_lookup e) hh with e' | e'
        · obtain ⟨p, hp, hpy⟩ := List.mem_map.mp e'
          have e3 := ok.ix p hp
          have : p.1 = y := hpy
          rw [this] at e3
          exact hne (List.mem_map.mpr ⟨p, hp, nodup_ix hN e3 e1⟩)
        · exact e' (List.mem_of_getElem? e1)
      have e3 : Vis cenv.scope y := e3
      unfold Vis at e3
      rw [hsc] at e3
      rcases e3 with e3 | e3 | e3
      · exact absurd (.inl rfl) (no _ e3)
      · exact absurd (.inr rfl) (no _ e3)
      · exact ⟨e3, .inr (by unfold Env.kindOf; rw [hsc]; exact e3)⟩
    obtain ⟨m, hn, hl⟩ := I.loc
    have hvis : Vis X.env.scope y := (ok.free _ (PySem.mem_of_lookup hfr.1) rfl).elim (fun k => .inr (.inl k)) (fun k => .inr (.inr k))
    obtain ⟨w, r, q⟩ := hl i y av e1 e2 hvis
    refine ⟨w, r, .inr ⟨hfr.2, ?_⟩⟩
    obtain ⟨c, h1, h2⟩ := look hfr.1
    rcases q with ⟨k, _⟩ | ⟨_, c', e', z⟩
    · have k : X.env.scope.names.lookup y = some .local := k
      rcases ok.free _ (PySem.mem_of_lookup hfr.1) rfl with k' | k' <;> rw [show X.env.scope.names.lookup y = _ from k'] at k <;> cases k
    · rw [h2] at e'; cases e'
      exact ⟨c, h1, z.keeps kp⟩
  · have e : cenv.cells.lookup y = some c := e
    rcases mem e with ⟨h1, _⟩ | ⟨_, z⟩
    · obtain ⟨w, z⟩ := I.cell y c h1
      exact ⟨w, z.keeps kp⟩
    · exact ⟨_, z⟩
  · show H cenv.locals = none
    rw [hL]; exact I.hok.fresh (Nat.le_refl _)
  · have e : cenv.cells.lookup y = some c := e
    rcases mem e with ⟨h1, _⟩ | ⟨h1, _⟩
    · exact I.freeC y c h1
    · exact I.hok.fresh (Nat.le_of_succ_le h1)
  · exact absurd (show p ∈ ([] : List (Addr × Obj)) ++ [] from hp) (by simp)
/-- the generator's frame made -/
theorem newEnv_gen {M : Model} {A : Around} {E : Value → Shared → Prop} {s : Shared} {scope : Scope} {globals : Addr} {closure : List (Str × Addr)} {qual : Str} {code : Value} {builtins : Addr} {itv : Value} {Q : Env → Shared → Prop} (hk : scope.kind = .function) (h0 : scope.names.lookup (".0" : Str) = some NameKind.local)
    (h : ∀ h', h'.Ns s.heap.objs.size (fun y => if y = ".0" then some itv else none) → Heap.SameBut s.heap.objs.size (pushCells (s.heap.push { cls := .type "frame", data := .dict #[] }) scope.names) h' →
      Q (newEnv scope s.heap.objs.size globals (cellsFrom (s.heap.objs.size + 1) scope.names closure) qual none code none builtins) { s with heap := h', toks := s.toks + 1 }) :
    wpAny M A (newFunctionEnv scope globals closure [(".0", itv)] qual none code none builtins) Q E s := by
  simp only [newFunctionEnv, Option.isSome_none, Bool.false_eq_true, if_false]
  refine wpAny_bind (wpAny_alloc ?_)
  refine wpAny_bind (wpAny_layCells _ (fun name kind cells => by cases hkc : kind == NameKind.cell <;> simp [hkc]) _ _ _ _ ?_)
  rw [show ({ s with heap := s.heap.push { cls := .type "frame", data := .dict #[] } } : Shared).heap.objs.size = s.heap.objs.size + 1 from Heap.size_push ..]
  rw [List.forIn_cons]
  refine wpAny_bind (wpAny_bind (wpAny_bind (wpAny_storeName_local h0 ((Heap.Ns.new s.heap (.type "frame")).keeps (pushCells_keeps _ _)) (fun h' hn' hs => ?_) ?_)))
  · refine wpAny_pure ?_
    show wpAny _ _ (forIn ([] : List (Str × Value)) PUnit.unit _) _ _ _
    rw [List.forIn_nil]
    exact wpAny_pure (wpAny_pure (h h' hn' hs))
  · show (scope.kind == .class || (scope.kind == .module && _)) = false
    rw [hk]; rfl
end
end LH

set_option Elab.async false
set_option linter.all false
set_option maxRecDepth 100000
set_option maxHeartbeats 2000000
/-! Lh10: the turns of a generator expression -/
namespace LH
open PySem PySem.Spec PyProof.Rows L2

theorem compTurn_genL {elt target iter : Expr} {ifs : List Expr} {gens : List Comprehension} {scope : Scope} {pos : Pos} {dp : Nat} {it acc : Value} {env : Env} (h : gens[dp]? = some ⟨target, iter, ifs, 0⟩) (h1 : gens[dp + 1]? = none) :
    compTurn (.GeneratorExp elt gens scope pos) dp it acc env = (do
      standAt iter.pos
      match ← pyNext it with
      | none => pure (.done .next)
      | some v =>
        letOwnedTupleGo target it v
        assign target env v
        let mut ok := true
        for c in ifs do
          if ok then ok ← isTrue c env (eval c env)
        if ok then
          (do (do let v ← eval elt env; standAt elt.pos; let _ ← yieldOut env v); again (.compLoop (.GeneratorExp elt gens scope pos) dp it acc env))
        else again (.compLoop (.GeneratorExp elt gens scope pos) dp it acc env)) := by
  unfold compTurn
  dsimp only
  rw [h]
  dsimp only
  rw [h1]
  rfl
theorem compTurn_genI {elt target iter t1 i1 : Expr} {ifs ifs1 : List Expr} {gens : List Comprehension} {scope : Scope} {pos : Pos} {dp : Nat} {it acc : Value} {env : Env} (h : gens[dp]? = some ⟨target, iter, ifs, 0⟩) (h1 : gens[dp + 1]? = some ⟨t1, i1, ifs1, 0⟩) :
    compTurn (.GeneratorExp elt gens scope pos) dp it acc env = (do
      standAt iter.pos
      match ← pyNext it with
      | none => pure (.done .next)
      | some v =>
        letOwnedTupleGo target it v
        assign target env v
        let mut ok := true
        for c in ifs do
          if ok then ok ← isTrue c env (eval c env)
        if ok then (do
          let x ← eval i1 env
          standAt i1.pos
          let x ← foldedSetIterable i1 env x
          let _ ← runOwn (.compStart (.GeneratorExp elt gens scope pos) (dp + 1) (← holding [x] (pyIter x)) acc env) env
          again (.compLoop (.GeneratorExp elt gens scope pos) dp it acc env))
        else again (.compLoop (.GeneratorExp elt gens scope pos) dp it acc env)) := by
  unfold compTurn
  dsimp only
  rw [h]
  dsimp only
  rw [h1]
  rfl

/-! ### what comes out -/
def genGo (g : PyData → Dn → Option Dn) (c : M Bool) (inner : Dn → List (Option PyData)) : List PyData → Dn → List (Option PyData)
  | [], _ => []
  | d :: ds, st => (match g d st with
    | none => [none]
    | some st1 => match c st1 with
      | none => [none]
      | some (false, _) => []
      | some (true, st2) => inner st2) ++ genGo g c inner ds st
def lastG (f : M PyData) : Dn → List (Option PyData) := fun st => match f st with
  | none => [none]
  | some (d, _) => [some d]
def nestG (it : M (List PyData)) (outs : List PyData → Dn → List (Option PyData)) : Dn → List (Option PyData) := fun st => match it st with
  | none => [none]
  | some (ds, st1) => outs ds st1
def Tail (Tt L : List (Option PyData)) : Prop := ∃ pre, Tt = pre ++ L
theorem Tail.more {Tt L1 L2 : List (Option PyData)} (h : Tail Tt (L1 ++ L2)) : Tail Tt L2 := by
  obtain ⟨pre, e⟩ := h
  exact ⟨pre ++ L1, by rw [e, List.append_assoc]⟩

/-! ### asleep -/
/-- while it sleeps its consumer writes to what stands in Ss alone -/
structure Woke (Ss : List Addr) (s s' : Shared) : Prop where
  os : s'.os = s.os
  bare : AllBare s'.gens
  keep : ∀ b o, b ∉ Ss → s.heap.get? b = some o → s'.heap.get? b = some o
  own : ∀ b ∈ Ss, ∃ o, s'.heap.get? b = some o ∧ ∀ v, o.data ≠ .cell v
def SOk (Ss : List Addr) (s : Shared) : Prop := ∀ b ∈ Ss, ∃ o, s.heap.get? b = some o ∧ ∀ v, o.data ≠ .cell v
/-- the consumer's things: none of the generator's -/
structure ApartS (X : Cx) (Ss : List Addr) : Prop where
  pn : X.pn = []
  sz : ∀ b ∈ Ss, X.s_0.heap.objs.size ≤ b
  loc : X.env.locals ∉ Ss
  cell : ∀ x c, X.env.cells.lookup x = some c → c ∉ Ss
theorem _root_.L2.Inv.sub {X : Cx} {pins pins' : List (Addr × Obj)} {σ : L2.St} {H : Hp} {s : Shared} (I : Inv X pins σ H s) (h : ∀ p ∈ pins', p ∈ pins) : Inv X pins' σ H s :=
  I.pins_of fun p hp => I.pin p (List.mem_append_right _ (h p hp))
theorem woken {X : Cx} {Ss : List Addr} {ip : List (Addr × Obj)} {σ : L2.St} {H : Hp} {s₀ s s' : Shared} (A : ApartS X Ss) (h0 : SOk Ss s₀) (hip : ∀ p ∈ ip, p.1 ∉ Ss) (I : Inv X (pinsAt Ss s₀.heap ++ ip) σ H s) (z : Woke Ss s s') :
    Inv X (pinsAt Ss s'.heap ++ ip) σ H s' := by
  have hS : ∀ b ∈ Ss, H b = none ∧ b ≠ X.env.locals ∧ b ∉ X.fs := fun b hb => by
    obtain ⟨o, e, _⟩ := h0 b hb
    obtain ⟨_, h2, h3, h4, _⟩ := I.pin (b, o) (List.mem_append_right _ (List.mem_append_left _ (mem_pinsAt hb e)))
    exact ⟨h2, h3, h4⟩
  have I0 : Inv X ip σ H s := I.sub fun p hp => List.mem_append_right _ hp
  have nt : ∀ b u, H b = some u → b ∉ Ss := fun b u q hb => by rw [(hS b hb).1] at q; cases q
  obtain ⟨z1, z2, z3, z4⟩ := z
  obtain ⟨hh, g, d, t, o⟩ := s'
  have ho : o = s.os := z1
  subst ho
  have J : Inv X ip σ H { s with heap := hh, gens := g, drawn := d, toks := t } := by
    refine I0.step (g' := g) (t' := t) (d' := d) (ch := Ss) (fun b hb => ?_)
      (fun b ob _ _ hc q _ => z3 b ob hc q) (fun b ob _ _ hc q _ => ⟨ob.slots, z3 b ob hc q⟩) (fun _ _ _ _ n => n) (fun b ob hc q => ⟨ob, z3 b ob hc q⟩)
      (fun _ _ q => q) (fun _ _ _ q => q) (fun b ps q => ⟨#[], by rw [q]; simp⟩) (fun m hm => ?_) (fun b u q => ?_) z2
    · refine ⟨.inr (A.sz b hb), (hS b hb).2.1, fun x c e y => A.cell x c e (by rw [y]; exact hb), fun p hp y => ?_⟩
      rw [A.pn] at hp
      exact hip p hp (by rw [y]; exact hb)
    · obtain ⟨ob, es, ep, ho, r⟩ := hm
      exact ⟨ob, es, ep, z3 _ ob A.loc ho, r⟩
    · refine (I0.hok b u q).stay (fun c v hc y => z3 c v ?_ y) (fun _ y => y) fun _ _ y => y
      rcases hc with y | y
      · rw [y]; exact nt b u q
      · exact nt c _ y
  refine J.pins_of fun p hp => ?_
  rcases List.mem_append.mp hp with hp | hp
  · obtain ⟨hb, e⟩ := of_pinsAt hp
    obtain ⟨h1, h2, h3⟩ := hS p.1 hb
    obtain ⟨o, e', n⟩ := z4 p.1 hb
    have e'' : some o = some p.2 := e'.symm.trans e
    cases e''
    exact ⟨e, h1, h2, h3, n⟩
  · exact J.pin p (List.mem_append_right _ hp)

/-! ### the protocol -/
structure Held (X : Cx) (T : Tbs) (Ss : List Addr) (CI : Nat → Heap → Hp → Prop) (ip : List (Addr × Obj)) (H0 : Hp) (n : Nat) (s₀ : Shared) (σ : L2.St) (H : Hp) (s : Shared) : Prop where
  inv : Inv X (pinsAt Ss s₀.heap ++ ip) σ H s
  th : TH T H
  stay : Stay No H0 H
  sok : SOk Ss s₀
  ci : CI n s₀.heap H
  ap : ∀ p ∈ ip, p.1 ∉ Ss
def GYp (X : Cx) (T : Tbs) (Ss : List Addr) (CI : Nat → Heap → Hp → Prop) (ip0 : List (Addr × Obj)) (Tt : List (Option PyData)) (O0 : Addr → Prop) (H0 : Hp) : Protocol := fun n s₀ v s kap =>
  ∃ x d L more σ H, Tail Tt (some d :: L) ∧ L.length + 1 = n ∧ Held X T Ss CI (ip0 ++ more) H0 n s₀ σ H s ∧ RelV x v ∧ RD X.K H O0 x d ∧ (L.head? ≠ some none → ∀ s'', Woke Ss s s'' → CI L.length s''.heap H → kap (.send .none) s'')
def GPp (X : Cx) (T : Tbs) (Ss : List Addr) (CI : Nat → Heap → Hp → Prop) (ip0 : List (Addr × Obj)) (H0 : Hp) : Nat → Shared → Shared → Prop := fun n s₀ s => n = 1 ∧ ∃ more σ H, Held X T Ss CI (ip0 ++ more) H0 0 s₀ σ H s
abbrev SegG (X : Cx) (T : Tbs) (A : Around) (Ss : List Addr) (CI : Nat → Heap → Hp → Prop) (ip0 : List (Addr × Obj)) (Tt : List (Option PyData)) (O0 : Addr → Prop) (H0 : Hp) (n : Nat) (s₀ : Shared) (c : Code) (t : Sem PySem.Fin) (fs : List Frame) (s : Shared) : Prop :=
  Seg (model X.prog X.w) A (fun n s₀ r s => r = .ok .next ∧ GPp X T Ss CI ip0 H0 n s₀ s) (GYp X T Ss CI ip0 Tt O0 H0) (n + 1) s₀ c t fs s
structure GAt (X : Cx) (A : Around) (c : Code) (fs : List Frame) : Prop where
  over : A.over c fs = X.A
  split : splitAtGen fs = none
  guard : fs.any Frame.guarded = false
/-- what a generator's context has -/
structure GOk (X : Cx) (Ss : List Addr) (CI : Nat → Heap → Hp → Prop) : Prop where
  cim : ∀ n s H H', CI n s H → Stay No H H' → CI n s H'
  apart : ApartS X Ss
  calm : X.calm = true
  xe : X.xe = fun _ _ => False
  co : X.env.scope.isCoroutine = false

theorem Gives.later {K : PySem.W.Frag} {O Oe : Addr → Prop} {H H' : Hp} {J : It} {ds : List PyData} (h : Gives K O Oe H J ds) (s : Stay No H H') : Gives K O Oe H' J ds := fun j H2 s2 => by
  obtain ⟨h1, h2⟩ := h j H2 (s.of0.trans s2)
  refine ⟨h1, fun d hd => ?_⟩
  obtain ⟨g1, g2⟩ := h2 d hd
  refine ⟨g1, fun x H3 y => ?_⟩
  obtain ⟨k1, k2⟩ := g2 x H3 y
  refine ⟨k1, fun O2 hO => k2 O2 fun b hb => ?_⟩
  rcases hO b hb with z | z
  · exact .inl z
  · refine .inr ?_
    cases e : H b with
    | none => rfl
    | some u => exact absurd z (s.there b (by rw [e]; intro y; cases y))

/-- the turns of the clause at depth dp: outs tells what comes out of the items; vsd: the names that it and those within it write -/
def LevOk (X : Cx) (T : Tbs) (A : Around) (Ss : List Addr) (CI : Nat → Heap → Hp → Prop) (ip0 : List (Addr × Obj)) (Tt : List (Option PyData)) (O0 : Addr → Prop) (H0 : Hp) (e : Expr) (dp : Nat) (tg : Expr) (vsd : List Nat) (outs : List PyData → Dn → List (Option PyData)) : Prop :=
  ∀ (it : Addr) (fp : List Addr) (tn : Nat → Heap → Prop) (J : It) (ds : List PyData) (Og Oe Out : Addr → Prop) (more : List (Addr × Obj)) (fs : List Frame) (σ : L2.St) (st : Dn) (L : List (Option PyData)) (Hb : Hp),
    GAt X A (.compLoop e dp (.ref it) .none X.env) fs → Turn X.prog X.w X.K tg J fp it tn → (∀ p ∈ ip0 ++ more, p.1 ∉ Ss) →
    (∀ b ∈ fp, (b ≠ X.env.locals ∧ b ∉ X.fs ∧ (b ∈ X.ex ∨ X.s_0.heap.objs.size ≤ b) ∧ (∀ x c, X.env.cells.lookup x = some c → c ≠ b) ∧ ∀ p ∈ ip0 ++ more, p.1 ≠ b) ∧ b ∉ Ss) →
    (∀ j ∈ vsd, ∀ v, σ[j]? ≠ some (some v)) → (∀ b, O0 b → Ob Out st σ [] b) →
    (∀ (n : Nat) (s₀ s : Shared) (H : Hp), Held X T Ss CI (ip0 ++ more) H0 n s₀ σ H s → Stay No Hb H → Tail Tt L → L.length = n → L.head? ≠ some none → SegG X T A Ss CI ip0 Tt O0 H0 n s₀ (.compLoop e dp (.ref it) .none X.env) (.pure (.done .next)) fs s) →
    ∀ (k i n : Nat) (s₀ s : Shared) (H : Hp), ds.length - i = k → i ≤ ds.length → Held X T Ss CI (ip0 ++ more) H0 n s₀ σ H s → Stay No Hb H → tn i s.heap → (∀ b ∈ fp, H b = none) → Rep X.K Out st σ H → Gives X.K Og Oe H J ds → (∀ b, Ob Out st σ [] b → Oe b ∨ H b = none) →
      Tail Tt (outs (ds.drop i) st ++ L) → (outs (ds.drop i) st ++ L).length = n → (outs (ds.drop i) st ++ L).head? ≠ some none →
      SegG X T A Ss CI ip0 Tt O0 H0 n s₀ (.compLoop e dp (.ref it) .none X.env) ((model X.prog X.w).den (.compLoop e dp (.ref it) .none X.env)) fs s

section
variable {X : Cx} {T : Tbs} {A : Around} {Ss : List Addr} {CI : Nat → Heap → Hp → Prop} {ip0 : List (Addr × Obj)} {Tt : List (Option PyData)} {O0 : Addr → Prop} {H0 : Hp}
theorem no_none {g : PyData → Dn → Option Dn} {c : M Bool} {inner : Dn → List (Option PyData)} {d : PyData} {ds : List PyData} {st : Dn} {L : List (Option PyData)} (h : (genGo g c inner (d :: ds) st ++ L).head? ≠ some none) :
    ∃ st1 b st2, g d st = some st1 ∧ c st1 = some (b, st2) ∧ genGo g c inner (d :: ds) st = (if b = true then inner st2 else []) ++ genGo g c inner ds st := by
  simp only [genGo] at h ⊢
  cases e1 : g d st with
  | none => rw [e1] at h; exact absurd rfl h
  | some st1 =>
    rw [e1] at h
    cases e2 : c st1 with
    | none => simp only [e2] at h; exact absurd rfl h
    | some p =>
      obtain ⟨b, st2⟩ := p
      refine ⟨st1, b, st2, rfl, e2, ?_⟩
      simp only [e2]
      cases b <;> rfl
theorem xF (hx : X.xe = fun _ _ => False) {α : Type} {t : Sem α} {Q : α → Shared → Prop} {E : Value → Shared → Prop} {M : Model} {A : Around} {s : Shared} (h : wpAny M A t Q X.xe s) : wpAny M A t Q E s := by
  rw [hx] at h
  exact wpAny_mono h (fun _ _ q => q) fun _ _ z => z.elim
/-- a turn of the loop, up to what follows the tests -/
theorem lev_turn {e tg iter : Expr} {ifs : List Expr} {dp : Nat} {as1 vsd : List Nat} {g : PyData → Dn → Option Dn} {c : M Bool} {inner : Dn → List (Option PyData)} {body : Addr → Sem PySem.Fin} (G : GOk X Ss CI)
    (hturn : ∀ it, compTurn e dp (.ref it) .none X.env = (do
      standAt iter.pos
      match ← pyNext (.ref it) with
      | none => pure (.done .next)
      | some v =>
        letOwnedTupleGo tg (.ref it) v
        assign tg X.env v
        let mut ok := true
        for c in ifs do
          if ok then ok ← isTrue c X.env (eval c X.env)
        if ok then body it else again (.compLoop e dp (.ref it) .none X.env)))
    (hden : ∀ it, ∃ hnd, (model X.prog X.w).den (.compLoop e dp (.ref it) .none X.env) = (compTurn e dp (.ref it) .none X.env).onRaise hnd)
    (has : ∀ i, i ∈ as1 → i ∈ vsd) (hq : ∀ it : Addr, Code.quiet (.compLoop e dp (.ref it) .none X.env) = true)
    (hg : SG X as1 tg g) (ht : STs X T [] ifs c)
    (hbody : ∀ (it : Addr) (fs : List Frame) (more : List (Addr × Obj)) (Out : Addr → Prop) (σ : L2.St) (st2 : Dn) (H : Hp) (s₀ s : Shared) (n : Nat) (L : List (Option PyData)) (hnd : Value → Sem Unit) (Hb : Hp),
      GAt X A (.compLoop e dp (.ref it) .none X.env) fs → (∀ p ∈ ip0 ++ more, p.1 ∉ Ss) → Held X T Ss CI (ip0 ++ more) H0 n s₀ σ H s → Stay No Hb H → Rep X.K Out st2 σ H → (∀ b, O0 b → Ob Out st2 σ [] b) → (∀ j ∈ vsd, j ∉ as1 → ∀ v, σ[j]? ≠ some (some v)) →
      Tail Tt (inner st2 ++ L) → (inner st2 ++ L).length = n → (inner st2 ++ L).head? ≠ some none →
      (∀ (n : Nat) (s₀ s : Shared) (H : Hp), Held X T Ss CI (ip0 ++ more) H0 n s₀ σ H s → Stay No Hb H → Tail Tt L → L.length = n → L.head? ≠ some none → SegG X T A Ss CI ip0 Tt O0 H0 n s₀ (.compLoop e dp (.ref it) .none X.env) (.pure (.again (.compLoop e dp (.ref it) .none X.env))) fs s) →
      SegG X T A Ss CI ip0 Tt O0 H0 n s₀ (.compLoop e dp (.ref it) .none X.env) ((body it).wrap .pure (fun e => (hnd e).bind fun _ => .raise e) id id) fs s) :
    LevOk X T A Ss CI ip0 Tt O0 H0 e dp tg vsd (genGo g c inner) := by
  intro it fp tn J ds Og Oe Out more fs σ st L Hb GA Tn hip hfp hσ hO cont k
  have stat : ∀ {s₀ : Shared} {H : Hp}, (∀ b ∈ fp, H b = none) → ∀ b ∈ fp, FpOk X (pinsAt Ss s₀.heap ++ (ip0 ++ more)) H b := fun {s₀ H} hn b hb => by
    obtain ⟨⟨h1, h2, h3, h4, h5⟩, h6⟩ := hfp b hb
    refine ⟨hn b hb, h1, h2, h3, h4, fun p hp => ?_⟩
    rw [G.apart.pn] at hp
    rcases List.mem_append.mp hp with hp | hp
    · cases hp
    · rcases List.mem_append.mp hp with hp | hp
      · obtain ⟨hb', _⟩ := of_pinsAt hp
        exact fun z => h6 (by rw [← z]; exact hb')
      · exact h5 p hp
  obtain ⟨hnd, hden⟩ := hden it
  induction k with
  | zero =>
    intro i n s₀ s H hk hi hld hsb htn hn R gv hOe hT hL hh
    have hin : i = ds.length := by omega
    subst hin
    rw [List.drop_length] at hT hL hh
    unfold SegG
    rw [hden, hturn, Sem.onRaise_eq_wrap]
    refine seg_bind_wrap (wpAny_standAt ?_)
    refine seg_bind_wrap ?_
    rw [GA.over]
    obtain ⟨gs, _⟩ := gv ds.length H (Stay.refl _ _)
    refine thnF (Tn.done X rfl rfl rfl G.calm _ _ s σ H (fun _ _ => False) hld.inv (stat hn) htn (gs (Nat.le_refl _))) fun r s1 ⟨hr, I1⟩ => ?_
    subst hr
    exact cont n s₀ s1 H ⟨I1, hld.th, hld.stay, hld.sok, hld.ci, hld.ap⟩ hsb hT hL hh
  | succ k ih =>
    intro i n s₀ s H hk hi hld hsb htn hn R gv hOe hT hL hh
    have hlt : i < ds.length := by omega
    rw [List.drop_eq_getElem_cons hlt] at hT hL hh
    obtain ⟨st1, b, st2, e1, e2, e3⟩ := no_none hh
    rw [e3] at hT hL hh
    unfold SegG
    rw [hden, hturn, Sem.onRaise_eq_wrap]
    refine seg_bind_wrap (wpAny_standAt ?_)
    refine seg_bind_wrap ?_
    rw [GA.over]
    obtain ⟨_, gi⟩ := gv i H (Stay.refl _ _)
    obtain ⟨go, gy⟩ := gi ds[i] (List.getElem?_eq_getElem hlt)
    refine thnF (Tn.item X rfl rfl rfl G.calm i _ s σ H (fun _ _ => False) hld.inv (stat hn) htn go) fun r s6 ⟨u, hr, h6⟩ => ?_
    subst hr
    refine seg_bind_wrap ?_
    rw [GA.over]
    refine thnF h6 fun _ s7 ⟨x, H7, I7, r7, y7, st7, n7⟩ => ?_
    obtain ⟨sy, rx⟩ := gy x H7 y7
    have R7 : Rep X.K Out st σ H7 := R.grow sy
    have I7' := I7.pinned (stat n7) (Tn.obj _ _ st7)
    refine seg_bind_wrap ?_
    rw [GA.over]
    refine xF G.xe (thn (hg.run _ s7 σ H7 x u (fun σ' H' => H' = H7 ∧ GPost X.K Out st σ H7 as1 st1 σ') I7' r7 ⟨Out, st, ds[i], st1, R7, rx _ hOe, e1, fun σ' ga => ⟨rfl, ga⟩⟩) fun _ s8 ⟨σ8, H8, I8, eH, ga⟩ => ?_)
    subst eH
    have th7 : TH T H8 := hld.th.stay sy
    refine seg_bind_wrap ?_
    rw [GA.over]
    refine xF G.xe (thn (ht.run _ s8 σ8 H8 (fun b' H' => b' = b ∧ EPost X.K T Out σ8 st1 H8 [] st2 H') I8 ⟨Out, st1, b, st2, th7, ga.rep, e2, fun H' p => ⟨rfl, p⟩⟩) fun b' s9 ⟨H9, I9, eb, p9⟩ => ?_)
    subst eb
    -- back to the turn's start
    have hl8 : σ.length = σ8.length := ga.len.symm
    have back : ∀ {n' : Nat} {s₀' s' : Shared} {H' : Hp}, Held X T Ss CI ((ip0 ++ more) ++ pinsAt fp s7.heap) H0 n' s₀' σ8 H' s' → Held X T Ss CI (ip0 ++ more) H0 n' s₀' σ H' s' ∧ tn (i + 1) s'.heap ∧ ∀ b ∈ fp, H' b = none := fun {n' s₀' s' H'} h' => by
      have pin' : ∀ b ∈ fp, ∀ o, s7.heap.get? b = some o → s'.heap.get? b = some o ∧ H' b = none := fun b hb o e =>
        let z := h'.inv.pin (b, o) (List.mem_append_right _ (List.mem_append_right _ (List.mem_append_right _ (mem_pinsAt hb e))))
        ⟨z.1, z.2.1⟩
      refine ⟨⟨((h'.inv.sub fun p hp => ?_).weak hl8 fun j v ej => ?_), h'.th, h'.stay, h'.sok, h'.ci, hip⟩, Tn.keep _ _ _ st7 fun b hb o e => (pin' b hb o e).1, fun b hb => ?_⟩
      · rcases List.mem_append.mp hp with z | z
        · exact List.mem_append_left _ z
        · exact List.mem_append_right _ (List.mem_append_left _ z)
      · by_cases hj : j ∈ as1
        · exact absurd ej (hσ j (has j hj) v)
        · rw [ga.sg j hj]; exact ej
      · obtain ⟨o, e, _⟩ := Tn.obj _ _ st7 b hb
        exact (pin' b hb o e).2
    have s09 : Stay No H H9 := sy.trans (p9.stay.mono fun b ⟨_, m, _⟩ => absurd m (by simp))
    have hip9 : ∀ p ∈ (ip0 ++ more) ++ pinsAt fp s7.heap, p.1 ∉ Ss := fun p hp => by
      rcases List.mem_append.mp hp with z | z
      · exact hip p z
      · exact (hfp p.1 (of_pinsAt z).1).2
    have hld9 : Held X T Ss CI ((ip0 ++ more) ++ pinsAt fp s7.heap) H0 n s₀ σ8 H9 s9 := ⟨by rw [← List.append_assoc]; exact I9, p9.th, hld.stay.trans s09, hld.sok, G.cim _ _ _ _ hld.ci s09, hip9⟩
    -- the next turn
    have next : ∀ (n' : Nat) (s₀' s' : Shared) (H' : Hp), Held X T Ss CI ((ip0 ++ more) ++ pinsAt fp s7.heap) H0 n' s₀' σ8 H' s' → Stay No H H' → Tail Tt (genGo g c inner (ds.drop (i + 1)) st ++ L) → (genGo g c inner (ds.drop (i + 1)) st ++ L).length = n' → (genGo g c inner (ds.drop (i + 1)) st ++ L).head? ≠ some none →
        SegG X T A Ss CI ip0 Tt O0 H0 n' s₀' (.compLoop e dp (.ref it) .none X.env) (.pure (.again (.compLoop e dp (.ref it) .none X.env))) fs s' := fun n' s₀' s' H' h' s0' t1 t2 t3 => by
      obtain ⟨b1, b2, b3⟩ := back h'
      refine seg_again (hq it) (ih (i + 1) n' s₀' s' H' (by omega) hlt b1 (hsb.trans s0') b2 b3 (R.grow s0') (gv.later s0') (fun b z => ?_) t1 t2 t3)
      rcases hOe b z with y | y
      · exact .inl y
      · exact absurd y (R.obThere b z)
    have s2e : ∀ (j : Nat), j ∉ as1 → st2[j]? = st[j]? := fun j hj => (p9.same j (by simp)).trans (ga.same j hj)
    have hO2 : ∀ b, O0 b → Ob Out st2 σ8 [] b := fun b z => by
      rcases hO b z with z | ⟨j, m, ⟨dd, q1⟩, q2⟩
      · exact .inl z
      · have hj : j ∉ as1 := fun y => hσ j (has j y) _ q2
        exact .inr ⟨j, m, ⟨dd, by rw [s2e j hj]; exact q1⟩, by rw [ga.sg j hj]; exact q2⟩
    cases b' with
    | false =>
      simp only [Bool.false_eq_true, if_false, List.nil_append] at hT hL hh ⊢
      exact next n s₀ s9 H9 hld9 s09 hT hL hh
    | true =>
      simp only [if_true, List.append_assoc] at hT hL hh ⊢
      refine hbody it fs (more ++ pinsAt fp s7.heap) Out σ8 st2 H9 s₀ s9 n _ hnd H9 GA (fun p hp => ?_) (by rw [← List.append_assoc]; exact hld9) (Stay.refl _ _) p9.rep hO2 (fun j hj nj v => by rw [ga.sg j nj]; exact hσ j hj v) hT hL hh
        fun n' s₀' s' H' h' s9' t1 t2 t3 => next n' s₀' s' H' (by rw [List.append_assoc]; exact h') (s09.trans s9') t1 t2 t3
      rw [← List.append_assoc] at hp
      rcases List.mem_append.mp hp with z | z
      · exact hip p z
      · exact (hfp p.1 (of_pinsAt z).1).2
theorem lev_last {elt target iter : Expr} {ifs : List Expr} {gens : List Comprehension} {scope : Scope} {pos : Pos} {dp : Nat} {as1 vsd : List Nat} {g : PyData → Dn → Option Dn} {c : M Bool} {f : M PyData} (G : GOk X Ss CI)
    (h : gens[dp]? = some ⟨target, iter, ifs, 0⟩) (h1 : gens[dp + 1]? = none)
    (hden : ∀ it, ∃ hnd, (model X.prog X.w).den (.compLoop (.GeneratorExp elt gens scope pos) dp (.ref it) .none X.env) = (compTurn (.GeneratorExp elt gens scope pos) dp (.ref it) .none X.env).onRaise hnd)
    (hq : ∀ it : Addr, Code.quiet (.compLoop (.GeneratorExp elt gens scope pos) dp (.ref it) .none X.env) = true) (has : ∀ i, i ∈ as1 → i ∈ vsd)
    (hg : SG X as1 target g) (ht : STs X T [] ifs c) (he : SE X T [] [] elt f) : LevOk X T A Ss CI ip0 Tt O0 H0 (.GeneratorExp elt gens scope pos) dp target vsd (genGo g c (lastG f)) := by
  refine lev_turn (iter := iter) G (fun it => compTurn_genL h h1) hden has hq hg ht ?_
  intro it fs more Out σ st2 H s₀ s n L hnd Hb GA hip hld hsb R hO hσ hT hL hh cont
  have hy : ∀ v, yieldOut X.env v = yieldValue v := fun v => by simp only [yieldOut, G.co, Bool.false_eq_true, if_false]
  simp only [hy]
  unfold lastG at hT hL hh
  cases ef : f st2 with
  | none => rw [ef] at hh; exact absurd rfl hh
  | some p =>
    obtain ⟨d, st3⟩ := p
    rw [ef] at hT hL hh
    simp only [List.cons_append, List.nil_append] at hT hL hh
    obtain ⟨m, rfl⟩ : ∃ m, n = m + 1 := ⟨L.length, by rw [← hL]; rfl⟩
    have hLm : L.length = m := by simpa using hL
    unfold SegG
    rw [Sem.bind_eq_wrap', Sem.bind_eq_wrap', Sem.wrap_wrap, Sem.wrap_wrap]
    refine seg_wrap ?_
    rw [GA.over]
    refine xF G.xe (thn (he.run _ s σ H (fun v H' => EPost X.K T Out σ st2 H [] st3 H' ∧ RD X.K H' (Ob Out st3 σ []) v d) hld.inv ⟨Out, st2, d, st3, hld.th, R, ef, fun v H' p r => ⟨p, r⟩⟩) fun u s1 ⟨v, H1, I1, rv, p1, rd⟩ => ?_)
    have s1' : Stay No H H1 := p1.stay.mono fun b ⟨_, m, _⟩ => absurd m (by simp)
    have hld1 : Held X T Ss CI (ip0 ++ more) H0 (m + 1) s₀ σ H1 s1 := ⟨I1, p1.th, hld.stay.trans s1', hld.sok, G.cim _ _ _ _ hld.ci s1', hip⟩
    refine seg_at (seg_yield GA.split rfl GA.guard ⟨v, d, L, more, σ, H1, hT, by omega, hld1, rv, RD.mono (fun b z => ?_) d rd, fun hh2 s'' w ci => ?_⟩)
    · rcases hO b z with y | ⟨j, mj, ⟨dd, q1⟩, q2⟩
      · exact .inl y
      · exact .inr ⟨j, mj, ⟨dd, by rw [p1.same j (by simp)]; exact q1⟩, q2⟩
    · exact cont m s'' s'' H1 ⟨woken G.apart hld.sok hip I1 w, p1.th, hld1.stay, w.own, by rw [← hLm]; exact ci, hip⟩ (hsb.trans s1') (Tail.more (L1 := [some d]) hT) hLm hh2
theorem start_tree {elt target iter : Expr} {ifs : List Expr} {gens : List Comprehension} {scope : Scope} {pos : Pos} {dp : Nat} {it acc : Value} {env : Env} (h : gens[dp]? = some ⟨target, iter, ifs, 0⟩) :
    compStart (.GeneratorExp elt gens scope pos) dp it acc env = (do
      if (← ask).params.followText "comprehension-iter-twice" then return ← again (.compLoop (.GeneratorExp elt gens scope pos) dp it acc env)
      rule "comprehension.iter-twice"
      standAt iter.pos
      again (.compLoop (.GeneratorExp elt gens scope pos) dp (← pyIter it) acc env)) := by
  unfold compStart
  rw [show clausesOf (.GeneratorExp elt gens scope pos) = gens from rfl, h]
  rfl
theorem gat_loop {c c' : Code} {fs : List Frame} {k : Result → Sem PySem.Fin} {l kp : List Value} {p : Pos} (g : GAt X A c fs) (hw : c'.weight = 0) (hu : c'.cUnits = 0) : GAt X A c' (.ret k none false l c p kp :: fs) where
  over := (GenW.over_loop hw hu).trans g.over
  split := by
    show (splitAtGen fs).map _ = none
    rw [g.split]; rfl
  guard := by
    show (false || fs.any Frame.guarded) = false
    rw [g.guard]; rfl
theorem lev_inner {elt target iter t1 i1 : Expr} {ifs ifs1 : List Expr} {gens : List Comprehension} {scope : Scope} {pos : Pos} {dp : Nat} {as1 vsd vs1 rc : List Nat} {g : PyData → Dn → Option Dn} {c : M Bool} {fi : M (List PyData)} {outs : List PyData → Dn → List (Option PyData)} (G : GOk X Ss CI)
    (h : gens[dp]? = some ⟨target, iter, ifs, 0⟩) (h1 : gens[dp + 1]? = some ⟨t1, i1, ifs1, 0⟩)
    (hden : ∀ it, ∃ hnd, (model X.prog X.w).den (.compLoop (.GeneratorExp elt gens scope pos) dp (.ref it) .none X.env) = (compTurn (.GeneratorExp elt gens scope pos) dp (.ref it) .none X.env).onRaise hnd)
    (hq : ∀ it : Addr, Code.quiet (.compLoop (.GeneratorExp elt gens scope pos) dp (.ref it) .none X.env) = true) (has : ∀ i, i ∈ as1 → i ∈ vsd)
    (hden1 : ∀ it, ∃ hnd, (model X.prog X.w).den (.compStart (.GeneratorExp elt gens scope pos) (dp + 1) (.ref it) .none X.env) = (compStart (.GeneratorExp elt gens scope pos) (dp + 1) (.ref it) .none X.env).onRaise hnd)
    (hq1 : ∀ it : Addr, Code.quiet (.compLoop (.GeneratorExp elt gens scope pos) (dp + 1) (.ref it) .none X.env) = true)
    (hw1 : ∀ it : Addr, Code.weight (.compLoop (.GeneratorExp elt gens scope pos) (dp + 1) (.ref it) .none X.env) = 0 ∧ Code.cUnits (.compLoop (.GeneratorExp elt gens scope pos) (dp + 1) (.ref it) .none X.env) = 0)
    (hw2 : ∀ it : Addr, Code.weight (.compStart (.GeneratorExp elt gens scope pos) (dp + 1) (.ref it) .none X.env) = 0 ∧ Code.cUnits (.compStart (.GeneratorExp elt gens scope pos) (dp + 1) (.ref it) .none X.env) = 0)
    (hvs : ∀ j, j ∈ vs1 → j ∈ vsd ∧ j ∉ as1)
    (hg : SG X as1 target g) (ht : STs X T [] ifs c) (hi : SI X T t1 rc [] i1 fi) (hin : LevOk X T A Ss CI ip0 Tt O0 H0 (.GeneratorExp elt gens scope pos) (dp + 1) t1 vs1 outs)
    (hs : ∀ x, foldedSetIterable i1 X.env x = pure x := by intro _; rfl) : LevOk X T A Ss CI ip0 Tt O0 H0 (.GeneratorExp elt gens scope pos) dp target vsd (genGo g c (nestG fi outs)) := by
  refine lev_turn (iter := iter) G (fun it => compTurn_genI h h1) hden has hq hg ht ?_
  intro it fs more Out σ st2 H s₀ s n L hnd Hb GA hip hld hsb R hO hσ hT hL hh cont
  unfold nestG at hT hL hh
  cases ef : fi st2 with
  | none => rw [ef] at hh; exact absurd rfl hh
  | some p =>
    obtain ⟨ds, st3⟩ := p
    rw [ef] at hT hL hh
    simp only at hT hL hh
    unfold SegG
    refine seg_bind_wrap ?_
    rw [GA.over]
    refine xF G.xe (thn (hi.run _ s σ H (fun J H' => EPost X.K T Out σ st2 H [] st3 H' ∧ Gives X.K (Ob Out st3 σ rc) (Ob Out st3 σ []) H' J ds) hld.inv ⟨Out, st2, ds, st3, hld.th, R, ef, fun J H' p gv => ⟨p, gv⟩⟩) fun v s1 hv => ?_)
    refine seg_bind_wrap (wpAny_standAt ?_)
    refine seg_bind_wrap (wpAny_of_eq (hs v) ?_)
    refine seg_bind_wrap (wpAny_holding ?_)
    rw [GA.over]
    refine xF G.xe (thn hv fun itv s2 h2 => ?_)
    obtain ⟨it2, fp, tn, J, H2, rfl, I2, Tn, st2', f2, p2, gv⟩ := h2
    have s12 : Stay No H H2 := p2.stay.mono fun b ⟨_, m, _⟩ => absurd m (by simp)
    have hld2 : Held X T Ss CI (ip0 ++ more) H0 n s₀ σ H2 s2 := ⟨I2, p2.th, hld.stay.trans s12, hld.sok, G.cim _ _ _ _ hld.ci s12, hip⟩
    have hO3 : ∀ b, O0 b → Ob Out st3 σ [] b := fun b z => by
      rcases hO b z with y | ⟨j, mj, ⟨dd, q1⟩, q2⟩
      · exact .inl y
      · exact .inr ⟨j, mj, ⟨dd, by rw [p2.same j (by simp)]; exact q1⟩, q2⟩
    have hfS : ∀ b ∈ fp, b ∉ Ss := fun b hb z => by
      obtain ⟨o, eo, _⟩ := hld.sok b z
      exact (f2 b hb).2.2.2.2.2 (b, o) (List.mem_append_right _ (List.mem_append_left _ (mem_pinsAt z eo))) rfl
    rw [Sem.bind_eq_wrap', Sem.wrap_wrap]
    unfold runOwn
    rw [Sem.onRaise_eq_wrap, Sem.wrap_wrap]
    unfold run
    refine seg_call fun p => ?_
    obtain ⟨hnd1, e1⟩ := hden1 it2
    rw [e1, start_tree h1, Sem.onRaise_eq_wrap]
    have loop : ∀ (kk : Result → Sem PySem.Fin) (ll kp : List Value), kk (.ok .next) = .pure (.again (.compLoop (.GeneratorExp elt gens scope pos) dp (.ref it) .none X.env)) →
        SegG X T A Ss CI ip0 Tt O0 H0 n s₀ (.compLoop (.GeneratorExp elt gens scope pos) (dp + 1) (.ref it2) .none X.env) ((model X.prog X.w).den (.compLoop (.GeneratorExp elt gens scope pos) (dp + 1) (.ref it2) .none X.env)) (.ret kk none false ll (.compLoop (.GeneratorExp elt gens scope pos) dp (.ref it) .none X.env) p kp :: fs) s2 := fun kk ll kp ek =>
      hin it2 fp tn J ds (Ob Out st3 σ rc) (Ob Out st3 σ []) Out more _ σ st3 L H2 (gat_loop GA (hw1 it2).1 (hw1 it2).2) Tn hip (fun b hb => ?_) (fun j hj v => hσ j (hvs j hj).1 (hvs j hj).2 v) hO3
        (fun n' s₀' s' H' h' sb' t1 t2 t3 => seg_leaf (.ok .next) (by rw [ek]; exact cont n' s₀' s' H' h' (hsb.trans (s12.trans sb')) t1 t2 t3)) ds.length 0 n s₀ s2 H2 (by omega) (Nat.zero_le _) hld2 (Stay.refl _ _) st2' (fun b hb => (f2 b hb).1) p2.rep gv (fun b z => .inl z) hT hL hh
    · refine seg_bind_wrap (wpAny_askSetting ?_)
      split
      · exact seg_again (hq1 it2) (loop _ _ _ rfl)
      · refine seg_bind_wrap (wpAny_rule (seg_bind_wrap (wpAny_standAt (seg_bind_wrap (Tn.self _ 0 s2 _ _ st2' (seg_again (hq1 it2) (loop _ _ _ rfl)))))))
    · obtain ⟨_, f3, f4, f5, f6, f7⟩ := f2 b hb
      exact ⟨⟨f3, f4, f5, f6, fun p hp => f7 p (List.mem_append_right _ (List.mem_append_right _ hp))⟩, hfS b hb⟩
end
end LH

set_option Elab.async false
set_option linter.all false
set_option maxRecDepth 100000
set_option maxHeartbeats 2000000
/-! Lh11: a generator as its consumer sees it; how it is made -/
namespace LH
open PySem PySem.Spec PyProof.Rows L2

theorem _root_.L2.Inv.gens {X : Cx} {pins : List (Addr × Obj)} {σ : L2.St} {H : Hp} {s : Shared} {g' : Array GenState} (I : Inv X pins σ H s) (h : AllBare g') : Inv X pins σ H { s with gens := g' } :=
  ⟨I.ok, I.os, h, I.base, I.loc, I.cell, I.free, I.freeC, I.pin, I.hok, I.len⟩
theorem AllBare.setG {s : Shared} {g : Nat} {x : GenState} (h : AllBare s.gens) (hx : x.bare = true) : AllBare (s.setGen g x).gens := fun y hy => by
  obtain ⟨i, hi⟩ := Array.mem_iff_getElem?.mp hy
  have hi : (s.gens.setIfInBounds g x)[i]? = some y := hi
  rw [Array.getElem?_setIfInBounds] at hi
  split at hi
  · split at hi
    · cases hi; exact hx
    · cases hi
  · exact h _ (Array.mem_of_getElem? hi)
theorem _root_.L2.Inv.setG {X : Cx} {pins : List (Addr × Obj)} {σ : L2.St} {H : Hp} {s : Shared} {g : Nat} {x : GenState} (I : Inv X pins σ H s) (hx : x.bare = true) : Inv X pins σ H (s.setGen g x) := I.gens (AllBare.setG I.bare hx)

/-- a generator expression's object: X made it; Y is its code's context -/
structure GenK where
  X : Cx
  T : Tbs
  pins : List (Addr × Obj)
  σ : L2.St
  A5 : Around
  Y : Cx
  H1 : Hp
  O0 : Addr → Prop
  Tt : List (Option PyData)
  a : Addr
  oa : Obj
  g : Nat
abbrev GenK.Go (k : GenK) (Ss : List Addr) (CI : Nat → Heap → Hp → Prop) (n : Nat) (gs : GenState) (s : Shared) : Prop :=
  gs.Goes (model k.Y.prog k.Y.w) k.A5 (fun n s₀ r s => r = .ok .next ∧ GPp k.Y k.T Ss CI [(k.a, k.oa)] k.H1 n s₀ s) (GYp k.Y k.T Ss CI [(k.a, k.oa)] k.Tt k.O0 k.H1) (n + 1) (.send .none) s
abbrev GenK.Hl (k : GenK) (Ss : List Addr) (CI : Nat → Heap → Hp → Prop) (n : Nat) (s₀ : Shared) (H : Hp) (s : Shared) : Prop :=
  ∃ more σ', Held k.Y k.T Ss CI ([(k.a, k.oa)] ++ more) k.H1 n s₀ σ' H s
/-- ready to be asked; L: what is to come -/
structure Src (k : GenK) (Ss : List Addr) (CI : Nat → Heap → Hp → Prop) (L : List (Option PyData)) (H : Hp) (s : Shared) : Prop where
  held : k.Hl Ss CI L.length s H s
  tail : Tail k.Tt L
  go : L.head? ≠ some none → ∃ gs, s.gens[k.g]? = some gs ∧ k.Go Ss CI L.length gs (s.setGen k.g .running)
/-- behind a yield: what the consumer held at s₀ stands -/
structure Slp (k : GenK) (Ss : List Addr) (CI : Nat → Heap → Hp → Prop) (L : List (Option PyData)) (s₀ : Shared) (H : Hp) (s : Shared) : Prop where
  held : k.Hl Ss CI (L.length + 1) s₀ H s
  tail : Tail k.Tt L
  go : L.head? ≠ some none → ∃ gs, s.gens[k.g]? = some gs ∧ ∀ s'', Woke Ss s s'' → CI L.length s''.heap H → k.Go Ss CI L.length gs s''
structure GenK.Ok (k : GenK) : Prop where
  cls : k.oa.cls = .type "generator"
  dat : ∃ nm qn, k.oa.data = .fields #[.int k.g 0, nm, qn]
  sl : k.oa.slots = #[]
  dp : k.A5.depth < recursionLimit
  hd : k.A5.handled = none
  calm : k.Y.calm = true
  back : ∀ pins' σ' H' s', Inv k.Y pins' σ' H' s' → Inv k.X k.pins k.σ H' s'
theorem GenK.Ok.isGen {k : GenK} (K : k.Ok) {s : Shared} (h : s.heap.get? k.a = some k.oa) : s.heap.IsGen k.a k.g := by
  obtain ⟨nm, qn, e⟩ := K.dat
  exact ⟨k.oa, nm, qn, h, K.cls, e, K.sl⟩
theorem GenK.at {k : GenK} {Ss : List Addr} {CI : Nat → Heap → Hp → Prop} {n : Nat} {s₀ s : Shared} {H : Hp} (h : k.Hl Ss CI n s₀ H s) : s.heap.get? k.a = some k.oa := by
  obtain ⟨more, σ', h⟩ := h
  exact (h.inv.pin (k.a, k.oa) (List.mem_append_right _ (List.mem_append_right _ (List.mem_append_left _ List.mem_cons_self)))).1
theorem GenK.objS {k : GenK} {Ss : List Addr} {CI : Nat → Heap → Hp → Prop} {n : Nat} {s₀ s : Shared} {H : Hp} (h : k.Hl Ss CI n s₀ H s) {b : Addr} (hb : b ∈ Ss) : ∃ o, s₀.heap.get? b = some o ∧ s.heap.get? b = some o ∧ H b = none ∧ ∀ v, o.data ≠ .cell v := by
  obtain ⟨more, σ', h⟩ := h
  obtain ⟨o, e, n⟩ := h.sok b hb
  obtain ⟨h1, h2, _⟩ := h.inv.pin (b, o) (List.mem_append_right _ (List.mem_append_left _ (mem_pinsAt hb e)))
  exact ⟨o, e, h1, h2, n⟩
/-- the consumer has written to what is its own -/
theorem Slp.wake {k : GenK} {Ss : List Addr} {CI : Nat → Heap → Hp → Prop} {L : List (Option PyData)} {s₀ s s' : Shared} {H : Hp} (ap : ApartS k.Y Ss) (h : Slp k Ss CI L s₀ H s) (w : Woke Ss s s') (hg : s'.gens = s.gens) (ci : CI L.length s'.heap H) : Src k Ss CI L H s' := by
  obtain ⟨more, σ', hl⟩ := h.held
  refine ⟨⟨more, σ', woken ap hl.sok hl.ap hl.inv w, hl.th, hl.stay, w.own, ci, hl.ap⟩, h.tail, fun hh => ?_⟩
  · obtain ⟨gs, e1, e2⟩ := h.go hh
    refine ⟨gs, by rw [hg]; exact e1, e2 _ ⟨w.os, AllBare.setG w.bare rfl, w.keep, w.own⟩ ci⟩
section
variable {k : GenK} {Ss : List Addr} {CI : Nat → Heap → Hp → Prop} {L : List (Option PyData)} {H : Hp} {s : Shared}
theorem next_item {d : PyData} {A : Around} {Q : Option Value → Shared → Prop} {E : Value → Shared → Prop} (K : k.Ok) (hA : A.in1 = k.A5) (h : Src k Ss CI (some d :: L) H s)
    (hQ : ∀ x v s' H', Slp k Ss CI L s H' s' → RelV x v → RD k.Y.K H' k.O0 x d → Q (some v) s') : wpAny (model k.Y.prog k.Y.w) A (pyNext (.ref k.a)) Q E s := by
  obtain ⟨gs, e1, e2⟩ := h.go (by simp)
  have hat := GenK.at h.held
  obtain ⟨more, σ', hl⟩ := h.held
  have hdp : A.depth < recursionLimit := by have := K.dp; rw [← hA] at this; exact this
  have hhd : A.handled = none := by have := K.hd; rw [← hA] at this; exact this
  have hgl : k.g < s.gens.size := (Array.getElem?_eq_some_iff.mp e1).1
  refine GenW.wpAny_gsz (n := k.g + 1) hgl (wpAny_pyNext_genexpQ (P := GPp k.Y k.T Ss CI [(k.a, k.oa)] k.H1) (Y := GYp k.Y k.T Ss CI [(k.a, k.oa)] k.Tt k.O0 k.H1) (n := (some d :: L).length + 1) hhd hl.inv.nolimit hdp (K.isGen hat) e1 (by rw [hA]; exact e2) (fun v s₁ gs' hb hv => ?_) (fun s₁ hp h' hk => ?_))
  · intro hsz
    obtain ⟨x, d', L', more', σ1, H1, ht, hl', h1, rv, rd, hk⟩ := hv
    have hlen : L'.length = L.length := by simpa using hl'
    obtain ⟨pre, e3⟩ := h.tail
    obtain ⟨pre', e4⟩ := ht
    have e5 : pre = pre' ∧ some d :: L = some d' :: L' := by
      have e6 : pre ++ (some d :: L) = pre' ++ (some d' :: L') := e3.symm.trans e4
      have : pre.length = pre'.length := by
        have := congrArg List.length e6
        simp only [List.length_append, List.length_cons] at this
        omega
      exact List.append_inj e6 this
    obtain ⟨rfl, e5⟩ := e5
    cases e5
    have hsz1 : k.g < s₁.gens.size := by
      have q : (s₁.setGen k.g gs').gens.size = s₁.gens.size := GenW.setGen_size _ _ _
      have hsz' : k.g + 1 ≤ (s₁.setGen k.g gs').gens.size := hsz
      omega
    refine hQ x v _ H1 ⟨⟨more', σ1, ⟨h1.inv.setG hb, h1.th, h1.stay, h1.sok, h1.ci, h1.ap⟩⟩, ⟨pre ++ [some d], by rw [e3]; simp⟩, fun hh => ⟨gs', L2.setGen_at hsz1, fun s'' w ci => ?_⟩⟩ rv rd
    have := hk hh s'' ⟨w.os, w.bare, w.keep, w.own⟩ ci
    simp only [List.length_cons] at this
    show GenState.Goes _ k.A5 _ _ _ _ _ _
    rw [← hA]
    exact this
  · exact absurd hp.1 (by simp)
theorem next_done {A : Around} {Q : Option Value → Shared → Prop} {E : Value → Shared → Prop} (K : k.Ok) (hA : A.in1 = k.A5) (h : Src k Ss CI [] H s)
    (hQ : ∀ s' H', k.Hl Ss CI 0 s H' s' → Q none s') : wpAny (model k.Y.prog k.Y.w) A (pyNext (.ref k.a)) Q E s := by
  obtain ⟨gs, e1, e2⟩ := h.go (by simp)
  have hat := GenK.at h.held
  obtain ⟨more, σ', hl⟩ := h.held
  have hdp : A.depth < recursionLimit := by have := K.dp; rw [← hA] at this; exact this
  have hhd : A.handled = none := by have := K.hd; rw [← hA] at this; exact this
  refine wpAny_pyNext_genexpQ (P := GPp k.Y k.T Ss CI [(k.a, k.oa)] k.H1) (Y := GYp k.Y k.T Ss CI [(k.a, k.oa)] k.Tt k.O0 k.H1) (n := 1) hhd hl.inv.nolimit hdp (K.isGen hat) e1 (by rw [hA]; exact e2) (fun v s₁ gs' hb hv => ?_) (fun s₁ hp h' hk => ?_)
  · obtain ⟨x, d', L', more', σ1, H1, ht, hl', _⟩ := hv
    exact absurd hl' (Nat.succ_ne_zero _)
  · obtain ⟨_, more', σ1, H1, h1⟩ := hp
    exact hQ _ H1 ⟨more', σ1, (h1.inv.setG (g := k.g) (x := .finished) rfl).kept (t' := s₁.toks) hk, h1.th, h1.stay, h1.sok, h1.ci, h1.ap⟩
end
end LH

set_option Elab.async false
set_option linter.all false
set_option maxRecDepth 100000
set_option maxHeartbeats 2000000
/-! Lh12: a generator expression is made -/
namespace LH
open PySem PySem.Spec PyProof.Rows L2

theorem eval_genN (elt target iter : Expr) (ifs : List Expr) (gens : List Comprehension) (scope : Scope) (pos : Pos) (env : Env) (hco : scope.isCoroutine = false) :
    eval (.GeneratorExp elt (⟨target, iter, ifs, 0⟩ :: gens) scope pos) env = (do
      let x ← eval iter env
      standAt iter.pos
      let x ← genFold iter env x
      let it ← holding [x] (pyIter x)
      enterFrame
      let cl ← closureFor scope env
      let code ← genexprCode env pos (env.qual ++ "<genexpr>") scope
      let bi ← builtinsFor env.globals env.builtins
      let cenv ← newFunctionEnv scope env.globals cl [(".0", it)] (env.qual ++ "<genexpr>.") none code none bi
      newGenerator (.compStart (.GeneratorExp elt (⟨target, iter, ifs, 0⟩ :: gens) scope pos) 0 it .none cenv) "<genexpr>" (env.qual ++ "<genexpr>")) := by
  rw [arm_eval_GeneratorExp]
  simp only [hco, Bool.false_eq_true, if_false]
  cases iter <;> rfl

theorem newGen_step {M : Model} {A : Around} {E : Value → Shared → Prop} {s : Shared} {e : Expr} {d : Nat} {it acc : Value} {env : Env} {nm qn : Str} {Q : Value → Shared → Prop}
    (h : ∀ (oa : Obj) (t' : Nat), oa.cls = .type "generator" → (∃ a b, oa.data = .fields #[.int s.gens.size 0, a, b]) → oa.slots = #[] → (s.heap.push oa).get? s.heap.objs.size = some oa →
      Q (.ref s.heap.objs.size) { s with gens := s.gens.push (.fresh (.compStart e d it acc env)), heap := s.heap.push oa, toks := t' }) : wpAny M A (newGenerator (.compStart e d it acc env) nm qn) Q E s := by
  simp only [newGenerator, newFields]
  refine wpAny_bind (wpAny_newGen (wpAny_bind (wpAny_mkText (wpAny_bind (wpAny_mkText (wpAny_newObj_type ?_ (by size_fits)))))))
  exact h _ _ rfl ⟨_, _, rfl⟩ rfl (Heap.get?_push_size _ rfl)

structure Made (k : GenK) (s : Shared) : Prop where
  ok : k.Ok
  th : TH k.T k.H1
  inv : Inv k.X k.pins k.σ k.H1 s
  src : ∀ (Ss : List Addr) (CI : Nat → Heap → Hp → Prop) (h' : Heap) (t' : Nat), (∀ n s H H', CI n s H → Stay No H H' → CI n s H') → (∀ b ∈ Ss, s.heap.objs.size ≤ b) → (∀ b o, s.heap.get? b = some o → h'.get? b = some o) →
    (∀ b ∈ Ss, ∃ o, h'.get? b = some o ∧ ∀ v, o.data ≠ .cell v) → CI k.Tt.length h' k.H1 → Src k Ss CI k.Tt k.H1 { s with heap := h', toks := t' } ∧ ApartS k.Y Ss

def genM (vs : List Nat) (it : M (List PyData)) (outs : List PyData → Dn → List (Option PyData)) : M (List (Option PyData)) := fun st => match it st with
  | none => none
  | some (ds, st1) => if noOwn st1 vs then some (outs ds (wipeD st1 vs), st1) else none
/-- nested generator expressions: what their contexts know -/
def TbsAnd (T : Tbs) (c' P' : Addr) (q : Str) (m : Nat) : Tbs := ⟨fun H => T.p H ∧ H c' = some (CodeO c' P' q) ∧ TabD nuG m H P', fun s ⟨a, b, c⟩ => ⟨T.mono s a, s.exts _ _ b, s.tabs _ _ c⟩⟩

section
variable {X : Cx} {T : Tbs}
/-- the clauses, in the generator's context -/
def GLev (X : Cx) (T : Tbs) (k n : Nat) (scope : Scope) (e : Expr) (tg : Expr) (vs : List Nat) (outs : List PyData → Dn → List (Option PyData)) : Prop :=
  ∀ (A A5 : Around) (s : Shared) (H : Hp) (code : Value) (fp : List Addr) (T' : Tbs) (Ss : List Addr) (CI : Nat → Heap → Hp → Prop) (ip0 : List (Addr × Obj)) (Tt : List (Option PyData)) (O0 : Addr → Prop) (H0 : Hp),
    Room k A → (∀ H, TH T' H → TH T H) → (∀ m, n = m + 1 → ∃ c' P', CT (genCx X A s H scope (genEnvC X scope code s.heap.objs.size) fp) T' m c' P') → GOk (genCx X A s H scope (genEnvC X scope code s.heap.objs.size) fp) Ss CI →
      LevOk (genCx X A s H scope (genEnvC X scope code s.heap.objs.size) fp) T' A5 Ss CI ip0 Tt O0 H0 e 0 tg vs outs
theorem gen_make {elt tg iter : Expr} {ifs : List Expr} {more : List Comprehension} {scope : Scope} {gpos : Pos} {own : List (Str × Nat)} {rc ch : List Nat} {it : M (List PyData)} {outs : List PyData → Dn → List (Option PyData)} {k n : Nat} {c P : Addr} {pins : List (Addr × Obj)} {σ : L2.St} {H : Hp} {s : Shared} {Out : Addr → Prop} {st st1 : Dn} {Tt : List (Option PyData)} {Q : Value → Shared → Prop}
    (hr : Room (k + 1) X.A) (hc : X.calm = true) (ct : CT X T n c P) (hν : nuG gpos.line gpos.col (X.env.qual ++ "<genexpr>")) (hN : X.N.Nodup) (ok : BlkOk X.N X.env.scope scope own) (hco : scope.isCoroutine = false) (h0 : scope.names.lookup (".0" : Str) = some NameKind.local)
    (hs : ∀ v, genFold iter X.env v = pure v) (hi : SI X T tg rc ch iter it) (hlev : GLev X T k n scope (.GeneratorExp elt (⟨tg, iter, ifs, 0⟩ :: more) scope gpos) tg (own.map (·.2)) outs)
    (I : Inv X pins σ H s) (th : TH T H) (R : Rep X.K Out st σ H) (e : genM (own.map (·.2)) it outs st = some (Tt, st1))
    (hQ : ∀ (kit : GenK) (s5 : Shared), kit.X = X → kit.Y.prog = X.prog → kit.Y.w = X.w → kit.Y.K = X.K → kit.pins = pins → kit.σ = σ → kit.O0 = Ob Out st1 σ [] → kit.Tt = Tt → kit.A5 = X.A.in4.in1 → (∀ H, TH kit.T H → TH T H) → EPost X.K T Out σ st H ch st1 kit.H1 → Made kit s5 → Q (.ref kit.a) s5) :
    wpAny (model X.prog X.w) X.A (eval (.GeneratorExp elt (⟨tg, iter, ifs, 0⟩ :: more) scope gpos) X.env) Q X.xe s := by
  unfold genM at e
  cases ei : it st with
  | none => rw [ei] at e; cases e
  | some p =>
  obtain ⟨ds, st1'⟩ := p
  rw [ei] at e
  simp only at e
  split at e
  case isFalse => cases e
  rename_i no
  cases e
  have hfree : ∀ y ∈ scope.names, y.2 = .free → ∃ c, X.env.cells.lookup y.1 = some c := fun y hy e => by
    rcases ok.free y hy e with k | k
    · exact I.ok.has _ (.inl k)
    · exact I.ok.has _ (.inr k)
  rw [eval_genN _ _ _ _ _ _ _ _ hco]
  refine wpAny_bind (thn (hi.run pins s σ H (fun J H' => EPost X.K T Out σ st H ch st1 H' ∧ Gives X.K (Ob Out st1 σ rc) (Ob Out st1 σ []) H' J ds) I ⟨Out, st, ds, st1, th, R, ei, fun J H' p gv => ⟨p, gv⟩⟩) fun xv s1 hx => ?_)
  refine wpAny_bind (wpAny_standAt ?_)
  refine wpAny_bind (wpAny_of_eq (hs xv) ?_)
  refine wpAny_bind (wpAny_holding (thn hx fun itv s2 h2 => ?_))
  obtain ⟨ita, fp, tn, J, H2, rfl, I2, Tn, st2, f2, p2, gv⟩ := h2
  refine wpAny_bind (wpAny_enterFrame I2.nolimit hr.depth ?_)
  refine wpAny_bind (wpAny_of_eq (closure_ok hfree) ?_)
  refine wpAny_bind (code_step ct (I2.pinned f2 (Tn.obj _ _ st2)) p2.th hν fun cv H3 s3 I3p s23 ck hsz => ?_)
  have I3 : Inv X pins σ H3 s3 := I3p.unpinned
  have pin3 : ∀ b ∈ fp, ∀ o, s2.heap.get? b = some o → s3.heap.get? b = some o ∧ H3 b = none := fun b hb o e =>
    let z := I3p.pin (b, o) (List.mem_append_right _ (List.mem_append_right _ (mem_pinsAt hb e)))
    ⟨z.1, z.2.1⟩
  have st3 : tn 0 s3.heap := Tn.keep _ _ _ st2 fun b hb o e => (pin3 b hb o e).1
  have n3 : ∀ b ∈ fp, H3 b = none := fun b hb => by
    obtain ⟨o, e, _⟩ := Tn.obj _ _ st2 b hb
    exact (pin3 b hb o e).2
  have f3 : ∀ b ∈ fp, FpOk X pins H3 b ∧ b < s3.heap.objs.size := fun b hb => by
    obtain ⟨o, e, _⟩ := Tn.obj _ _ st2 b hb
    exact ⟨⟨n3 b hb, (f2 b hb).2⟩, Heap.lt_size (pin3 b hb o e).1⟩
  have th3 : TH T H3 := p2.th.stay s23
  obtain ⟨P0, bm, ob, e1, e2, e3, e4, e5, e6, e7, e8⟩ := ct.bm
  refine wpAny_bind (wpAny_builtinsFor (m := X.mg) (by rw [I3.ok.glob]; exact I3.mod.glob.keeps I3.bk) e1 e2 (I3.bk _ _ e5) e6 e7 e8 ?_)
  refine wpAny_bind (newEnv_gen ok.kind h0 fun h4 hn4 hs4 => ?_)
  show wpAny _ _ (newGenerator (.compStart _ 0 (.ref ita) .none (genEnvC X scope cv s3.heap.objs.size)) _ _) _ _ _
  generalize hS4 : ({ s3 with heap := h4, toks := s3.toks + 1 } : Shared) = s4
  generalize hcv : genEnvC X scope cv s3.heap.objs.size = cenv
  generalize hE : Expr.GeneratorExp elt (⟨tg, iter, ifs, 0⟩ :: more) scope gpos = ge at hlev ⊢
  have hsc : cenv.scope = scope := by rw [← hcv]; rfl
  have hAf : (X.A.in4.in1.over (.compLoop ge 0 (.ref ita) .none cenv) []).frames = some (cenv :: X.stack) := by
    rw [← hE]
    show pushEnvs [cenv] (pushEnvs [] X.A.frames) = _
    rw [I3.ok.frames]; rfl
  have hAr : Room k (X.A.in4.in1.over (.compLoop ge 0 (.ref ita) .none cenv) []) := by
    rw [← hE]
    refine ⟨hr.hd, ?_, ?_⟩
    · have := hr.dp
      show X.A.depth + 0 + 1 + 3 * k + 5 < _
      omega
    · have := hr.un
      show X.A.units + 1 + 1 + 1 + 1 + 1 + 0 + 3 + 16 * k + 200 < _
      omega
  have Iy4 : Inv (genCx X (X.A.in4.in1.over (.compLoop ge 0 (.ref ita) .none cenv) []) s3 H3 scope cenv fp) [] (wipe σ (own.map (·.2))) H3 s4 := by
    rw [← hS4, ← hcv]
    rw [← hcv] at hAf
    exact gen_start I3 ok hN f3 hAf (fun _ => hr.hd) hn4 hs4
  obtain ⟨T', hT', hT3, hct⟩ : ∃ T' : Tbs, (∀ H, TH T' H → TH T H) ∧ TH T' H3 ∧ ∀ m, n = m + 1 → ∃ c' P', CT (genCx X (X.A.in4.in1.over (.compLoop ge 0 (.ref ita) .none cenv) []) s3 H3 scope cenv fp) T' m c' P' := by
    cases n with
    | zero => exact ⟨T, fun _ h => h, th3, fun m e => by cases e⟩
    | succ m =>
      obtain ⟨c', P', q', k1, k2, k3⟩ := ck m rfl
      refine ⟨TbsAnd T c' P' q' m, fun H h => h.1, ⟨th3, k2, k3⟩, fun m' em => ?_⟩
      cases em
      refine ⟨c', P', by show cenv.code = _; rw [← hcv]; exact k1, fun H h hok _ th => (hok c' _ th.2.1).1.1, fun H th => th.2.2, ct.bm⟩
  refine newGen_step fun oa t5 oa1 oa2 oa3 hat5 => ?_
  have oaf : oa.cls = .type "generator" ∧ (∃ nm qn, oa.data = .fields #[.int s4.gens.size 0, nm, qn]) ∧ oa.slots = #[] := ⟨oa1, oa2, oa3⟩
  generalize hg5 : s4.gens.push (.fresh (.compStart ge 0 (.ref ita) .none cenv)) = g5
  generalize hS5 : ({ s4 with heap := s4.heap.push oa, gens := g5, toks := t5 } : Shared) = s5
  have hh5 : s5.heap = s4.heap.push oa := by rw [← hS5]
  have hgn5 : s5.gens = g5 := by rw [← hS5]
  have Iy5 : Inv (genCx X (X.A.in4.in1.over (.compLoop ge 0 (.ref ita) .none cenv) []) s3 H3 scope cenv fp) [] (wipe σ (own.map (·.2))) H3 s5 := by
    rw [← hS5, ← hg5]
    exact (Iy4.gens (Iy4.bare.push (g := .fresh (.compStart ge 0 (.ref ita) .none cenv)) rfl)).kept fun b o e => Heap.get?_push_of_some _ e
  have back : ∀ pins' σ' H' s', Inv (genCx X (X.A.in4.in1.over (.compLoop ge 0 (.ref ita) .none cenv) []) s3 H3 scope cenv fp) pins' σ' H' s' → Inv X pins σ H' s' := fun pins' σ' H' s' I' =>
    I3.call' (ch := fp) I'.os I'.base I'.hok I'.bare fun b hb => ⟨(f3 b hb).1.2.2.2.1, (f3 b hb).1.2.1, (f3 b hb).1.2.2.2.2.1, (f3 b hb).1.2.2.2.2.2⟩
  rw [← hh5] at hat5
  have h45 : ∀ b o, s4.heap.get? b = some o → s5.heap.get? b = some o := fun b o e => by rw [hh5]; exact Heap.get?_push_of_some _ e
  have sz45 : s5.heap.objs.size = s4.heap.objs.size + 1 := by rw [hh5]; exact Heap.size_push ..
  have h34 : ∀ b o, s3.heap.get? b = some o → s4.heap.get? b = some o := fun b o e => by
    rw [← hS4]
    exact (hs4.2 b (Nat.ne_of_lt (Heap.lt_size e))).trans (pushCells_keeps _ _ _ _ (Heap.get?_push_of_some _ e))
  have sz34 : s3.heap.objs.size ≤ s4.heap.objs.size := Iy4.sz
  refine hQ ⟨X, T', pins, σ, X.A.in4.in1, genCx X (X.A.in4.in1.over (.compLoop ge 0 (.ref ita) .none cenv) []) s3 H3 scope cenv fp, H3, Ob Out st1 σ [], outs ds (wipeD st1 (own.map (·.2))), s4.heap.objs.size, oa, s4.gens.size⟩ s5 rfl rfl rfl rfl rfl rfl rfl rfl rfl hT' (p2.then s23)
    ⟨⟨oaf.1, oaf.2.1, oaf.2.2, by have := hr.dp; show X.A.depth < _; omega, hr.hd, hc, back⟩, hT3, back _ _ _ _ Iy5, fun Ss CI h' t' cim hS hk hSo ci => ?_⟩
  have ap : ApartS (genCx X (X.A.in4.in1.over (.compLoop ge 0 (.ref ita) .none cenv) []) s3 H3 scope cenv fp) Ss := by
    refine ⟨rfl, fun b hb => ?_, fun z => ?_, fun x c ec z => ?_⟩
    · have := hS b hb
      show s3.heap.objs.size ≤ b
      omega
    · have := hS _ z
      exact absurd (Nat.lt_of_lt_of_le Iy5.lt this) (Nat.lt_irrefl _)
    · obtain ⟨v, q⟩ := Iy5.cell x c ec
      exact absurd (Nat.lt_of_lt_of_le q.lt (hS _ z)) (Nat.lt_irrefl _)
  have I6 : Inv (genCx X (X.A.in4.in1.over (.compLoop ge 0 (.ref ita) .none cenv) []) s3 H3 scope cenv fp) [] (wipe σ (own.map (·.2))) H3 { s5 with heap := h', toks := t' } := Iy5.kept hk
  have fpo : ∀ b, s4.heap.objs.size ≤ b → H3 b = none ∧ b ≠ cenv.locals ∧ b ∉ frs X.stack := fun b hb => by
    have := Iy4.fpOk (H' := H3) hb (Iy4.hok.fresh hb)
    exact ⟨this.1, this.2.1, this.2.2.1⟩
  have aS : s4.heap.objs.size ∉ Ss := fun z => by have := hS _ z; omega
  have I7 : Inv (genCx X (X.A.in4.in1.over (.compLoop ge 0 (.ref ita) .none cenv) []) s3 H3 scope cenv fp) (pinsAt Ss h' ++ ([(s4.heap.objs.size, oa)] ++ [])) (wipe σ (own.map (·.2))) H3 { s5 with heap := h', toks := t' } := by
    refine I6.pins_of fun p hp => ?_
    rcases List.mem_append.mp hp with hp | hp
    · obtain ⟨hb, eb⟩ := of_pinsAt hp
      obtain ⟨o, e', n'⟩ := hSo p.1 hb
      rw [eb] at e'
      cases e'
      obtain ⟨g1, g2, g3⟩ := fpo p.1 (by have := hS _ hb; omega)
      exact ⟨eb, g1, g2, g3, n'⟩
    · rw [List.append_nil] at hp
      cases List.mem_singleton.mp hp
      obtain ⟨g1, g2, g3⟩ := fpo s4.heap.objs.size (Nat.le_refl _)
      refine ⟨hk _ _ hat5, g1, g2, g3, fun v z => ?_⟩
      obtain ⟨nm, qn, ed⟩ := oaf.2.1
      rw [ed] at z; cases z
  have ipS : ∀ p ∈ ([(s4.heap.objs.size, oa)] ++ [] : List (Addr × Obj)), p.1 ∉ Ss := fun p hp => by
    rw [List.append_nil] at hp
    cases List.mem_singleton.mp hp
    exact aS
  refine ⟨⟨⟨[], wipe σ (own.map (·.2)), I7, hT3, Stay.refl _ _, hSo, ci, ipS⟩, ⟨[], rfl⟩, fun hh => ?_⟩, ap⟩
  refine ⟨.fresh (.compStart ge 0 (.ref ita) .none cenv), by show s5.gens[_]? = _; rw [hgn5, ← hg5]; exact Array.getElem?_push_size .., rfl, ?_⟩
  have gok : GOk (genCx X (X.A.in4.in1.over (.compLoop ge 0 (.ref ita) .none cenv) []) s3 H3 scope cenv fp) Ss CI := ⟨cim, ap, hc, rfl, by show cenv.scope.isCoroutine = false; rw [hsc]; exact hco⟩
  have R3 : Rep X.K Out (wipeD st1 (own.map (·.2))) (wipe σ (own.map (·.2))) H3 := ((p2.then s23).rep).wipe fun i b m z => noOwn_at no m z
  have loop : ∀ (s₀ s6 : Shared), Held (genCx X (X.A.in4.in1.over (.compLoop ge 0 (.ref ita) .none cenv) []) s3 H3 scope cenv fp) T' Ss CI ([(s4.heap.objs.size, oa)] ++ []) H3 (outs ds (wipeD st1 (own.map (·.2)))).length s₀ (wipe σ (own.map (·.2))) H3 s6 → tn 0 s6.heap →
      SegG (genCx X (X.A.in4.in1.over (.compLoop ge 0 (.ref ita) .none cenv) []) s3 H3 scope cenv fp) T' X.A.in4.in1 Ss CI [(s4.heap.objs.size, oa)] (outs ds (wipeD st1 (own.map (·.2)))) (Ob Out st1 σ []) H3 (outs ds (wipeD st1 (own.map (·.2)))).length s₀ (.compLoop ge 0 (.ref ita) .none cenv) ((model X.prog X.w).den (.compLoop ge 0 (.ref ita) .none cenv)) [] s6 := by
    intro s₀ s6 hld htn
    subst hcv
    refine hlev _ X.A.in4.in1 s3 H3 cv fp T' Ss CI [(s4.heap.objs.size, oa)] _ (Ob Out st1 σ []) H3 hAr hT' hct gok ita fp tn J ds (Ob Out st1 σ rc) (Ob Out st1 σ []) Out [] [] _ (wipeD st1 (own.map (·.2))) [] H3
      ⟨rfl, rfl, rfl⟩ Tn ipS (fun b hb => ?_) (fun j hj v z => (wipe_some z).2 hj) (fun b z => ?_) (fun n' s₀' s' H' h' sb t1 t2 t3 => ?_) ds.length 0 _ s₀ s6 H3 (by omega) (Nat.zero_le _) hld (Stay.refl _ _) htn n3 R3 (gv.later s23) (fun b z => ?_) ?_ ?_ ?_
    · have hlt := (f3 b hb).2
      refine ⟨⟨(Iy4.ok.exf b hb).1, Iy4.ok.exfs b hb, .inl hb, (Iy4.ok.exf b hb).2, fun p hp z => ?_⟩, fun z => ?_⟩
      · rw [List.append_nil] at hp
        cases List.mem_singleton.mp hp
        have z : s4.heap.objs.size = b := z
        have h1 : (b : Nat) < s4.heap.objs.size := Nat.lt_of_lt_of_le hlt sz34
        rw [z] at h1
        exact Nat.lt_irrefl _ h1
      · have h1 : (b : Nat) < s4.heap.objs.size := Nat.lt_of_lt_of_le hlt sz34
        have h2 : s4.heap.objs.size ≤ (b : Nat) := Nat.le_trans (by omega) (hS b z)
        exact absurd (Nat.lt_of_lt_of_le h1 h2) (Nat.lt_irrefl _)
    · rcases z with z | ⟨i, m, z⟩
      · exact .inl z
      · have hi : i ∉ own.map (·.2) := fun y => noOwn_at no y z
        obtain ⟨⟨dd, q1, hm⟩, q2⟩ := z
        exact .inr ⟨i, m, ⟨dd, by rw [wipeD_other hi]; exact q1, hm⟩, by rw [wipe_other hi]; exact q2⟩
    · have hn0 : n' = 0 := by simpa using t2.symm
      subst hn0
      exact seg_end (.ok .next) ⟨rfl, rfl, [], _, H', h'⟩
    · rcases z with z | ⟨i, m, z⟩
      · exact .inl (.inl z)
      · exact .inl (.inr ⟨i, m, (ownW z).1⟩)
    · rw [List.drop_zero, List.append_nil]; exact ⟨[], rfl⟩
    · rw [List.drop_zero, List.append_nil]
    · rw [List.drop_zero, List.append_nil]; exact hh
  have hldS : ∀ {x : GenState}, x.bare = true → Held (genCx X (X.A.in4.in1.over (.compLoop ge 0 (.ref ita) .none cenv) []) s3 H3 scope cenv fp) T' Ss CI ([(s4.heap.objs.size, oa)] ++ []) H3 (outs ds (wipeD st1 (own.map (·.2)))).length (Shared.setGen { s5 with heap := h', toks := t' } s4.gens.size x) (wipe σ (own.map (·.2))) H3 (Shared.setGen { s5 with heap := h', toks := t' } s4.gens.size x) := fun hx =>
    ⟨I7.setG hx, hT3, Stay.refl _ _, hSo, ci, ipS⟩
  have htn6 : tn 0 h' := Tn.keep _ _ _ st3 fun b hb o e => hk _ _ (h45 _ _ (h34 _ _ e))
  show Seg (model X.prog X.w) X.A.in4.in1 _ _ (_ + 1) _ (.compStart ge 0 (.ref ita) .none cenv) ((model X.prog X.w).den (.compStart ge 0 (.ref ita) .none cenv)) [] _
  have hst : (model X.prog X.w).den (.compStart ge 0 (.ref ita) .none cenv) = (compStart ge 0 (.ref ita) .none cenv).onRaise (leaving cenv) := by rw [← hE]; rfl
  have hq : Code.quiet (.compLoop ge 0 (.ref ita) .none cenv) = true := by rw [← hE]; rfl
  have hst2 : compStart ge 0 (.ref ita) .none cenv = (do
      if (← ask).params.followText "comprehension-iter-twice" then return ← again (.compLoop ge 0 (.ref ita) .none cenv)
      rule "comprehension.iter-twice"
      standAt iter.pos
      again (.compLoop ge 0 (← pyIter (.ref ita)) .none cenv)) := by rw [← hE]; exact start_tree (gens := ⟨tg, iter, ifs, 0⟩ :: more) rfl
  rw [hst, hst2, Sem.onRaise_eq_wrap]
  refine seg_bind_wrap (wpAny_askSetting ?_)
  split
  · exact seg_again hq (loop _ _ (hldS rfl) htn6)
  · exact seg_bind_wrap (wpAny_rule (seg_bind_wrap (wpAny_standAt (seg_bind_wrap (Tn.self _ 0 _ _ _ htn6 (seg_again hq (loop _ _ (hldS rfl) htn6)))))))
end
end LH

set_option Elab.async false
set_option linter.all false
set_option maxRecDepth 100000
set_option maxHeartbeats 2000000
/-! Lh13: all, any, tuple of a generator expression -/
namespace LH
open PySem PySem.Spec PyProof.Rows L2

/-- behind the last that was asked for -/
def GenK.Fin (k : GenK) (H : Hp) (s : Shared) : Prop := ∃ Ss CI n s₀, k.Hl Ss CI n s₀ H s
abbrev CI0 : Nat → Heap → Hp → Prop := fun _ _ _ => True
theorem woke0 {s : Shared} (h : AllBare s.gens) : Woke [] s s := ⟨rfl, h, fun _ _ _ e => e, fun _ h => nomatch h⟩
theorem Slp.bare {k : GenK} {Ss : List Addr} {CI : Nat → Heap → Hp → Prop} {L : List (Option PyData)} {s₀ s : Shared} {H : Hp} (h : Slp k Ss CI L s₀ H s) : AllBare s.gens := by
  obtain ⟨_, _, h⟩ := h.held
  exact h.inv.bare
theorem GenK.Fin.inv {k : GenK} {H : Hp} {s : Shared} (K : k.Ok) (h : k.Fin H s) : Inv k.X k.pins k.σ H s ∧ TH k.T H ∧ Stay No k.H1 H := by
  obtain ⟨Ss, CI, n, s₀, more, σ', h⟩ := h
  exact ⟨K.back _ _ _ _ h.inv, h.th, h.stay⟩
section
variable {k : GenK} {A : Around}
/-- a place from which the generator may be asked -/
structure Reach (k : GenK) (A : Around) : Prop where
  ex : ∃ A4 : Around, A4.in1 = k.A5 ∧ ∀ (Q : Option Value → Shared → Prop) (E : Value → Shared → Prop) (s : Shared), wpAny (model k.Y.prog k.Y.w) A4 (pyNext (.ref k.a)) Q E s → wpAny (model k.Y.prog k.Y.w) A (pyNext (.ref k.a)) Q E s
theorem Reach.of4 (h : k.A5 = A.in4.in1) : Reach k A.in4 := ⟨⟨_, h.symm, fun _ _ _ h => h⟩⟩
theorem Reach.less (r : Reach k A.in1) : Reach k A := let ⟨A4, h1, h2⟩ := r.ex; ⟨⟨A4, h1, fun Q E s h => wpAny_of_in1 (h2 Q E s h)⟩⟩
theorem Reach.r3 (h : k.A5 = A.in4.in1) : Reach k A.in1.in1.in1 := (Reach.of4 h).less (A := A.in1.in1.in1)
theorem Reach.r2 (h : k.A5 = A.in4.in1) : Reach k A.in1.in1 := (Reach.r3 h).less (A := A.in1.in1)
theorem Reach.r1 (h : k.A5 = A.in4.in1) : Reach k A.in1 := (Reach.r2 h).less (A := A.in1)
theorem next_item1 {Ss : List Addr} {CI : Nat → Heap → Hp → Prop} {L : List (Option PyData)} {H : Hp} {s : Shared} {d : PyData} {Q : Option Value → Shared → Prop} {E : Value → Shared → Prop} (K : k.Ok) (hA : Reach k A.in1) (h : Src k Ss CI (some d :: L) H s)
    (hQ : ∀ x v s' H', Slp k Ss CI L s H' s' → RelV x v → RD k.Y.K H' k.O0 x d → Q (some v) s') : wpAny (model k.Y.prog k.Y.w) A.in1 (pyNext (.ref k.a)) Q E s := by
  obtain ⟨A4, h1, h2⟩ := hA.ex
  exact h2 _ _ _ (next_item K h1 h hQ)
theorem next_done1 {Ss : List Addr} {CI : Nat → Heap → Hp → Prop} {H : Hp} {s : Shared} {Q : Option Value → Shared → Prop} {E : Value → Shared → Prop} (K : k.Ok) (hA : Reach k A.in1) (h : Src k Ss CI [] H s)
    (hQ : ∀ s' H', k.Hl Ss CI 0 s H' s' → Q none s') : wpAny (model k.Y.prog k.Y.w) A.in1 (pyNext (.ref k.a)) Q E s := by
  obtain ⟨A4, h1, h2⟩ := hA.ex
  exact h2 _ _ _ (next_done K h1 h hQ)

def allGo : List (Option PyData) → Option Bool
  | [] => some true
  | some (.bool true) :: L => allGo L
  | some (.bool false) :: _ => some false
  | some (.tuple xs) :: L => if xs.isEmpty then some false else allGo L
  | _ => none
def anyGo : List (Option PyData) → Option Bool
  | [] => some false
  | some (.bool false) :: L => anyGo L
  | some (.bool true) :: _ => some true
  | some (.tuple xs) :: L => if xs.isEmpty then anyGo L else some true
  | _ => none
theorem rd_bool {K : PySem.W.Frag} {H : Hp} {O : Addr → Prop} {x : V} {v : Value} {b : Bool} (r : RD K H O x (.bool b)) (rv : RelV x v) : v = .bool b := by
  cases r
  exact rv
theorem wokeT {s : Shared} {n : Tok} (h : AllBare s.gens) : Woke [] s { s with toks := n } := ⟨rfl, h, fun _ _ _ e => e, fun _ h => nomatch h⟩
theorem Slp.heldT {k : GenK} {Ss : List Addr} {CI : Nat → Heap → Hp → Prop} {L : List (Option PyData)} {s₀ s : Shared} {H : Hp} {n : Tok} (h : Slp k Ss CI L s₀ H s) : k.Hl Ss CI (L.length + 1) s₀ H { s with toks := n } := by
  obtain ⟨more, σ', hl⟩ := h.held
  exact ⟨more, σ', hl.inv.tok _, hl.th, hl.stay, hl.sok, hl.ci, hl.ap⟩
theorem Slp.tru {k : GenK} {Ss : List Addr} {CI : Nat → Heap → Hp → Prop} {L : List (Option PyData)} {s₀ s : Shared} {H : Hp} {x : V} {v : Value} {xs : List PyData} (h : Slp k Ss CI L s₀ H s) (r : RD k.Y.K H k.O0 x (.tuple xs)) (rv : RelV x v) :
    ∃ (a : Addr) (its : Array Value), (!its.isEmpty) = !xs.isEmpty ∧ IsTup s.heap a its ∧ v = .ref a ∧ (its.size : Int) < 2 ^ 63 := by
  obtain ⟨more, σ', hl⟩ := h.held
  cases r with
  | @tup a vs ds h1 rr =>
    cases rv
    obtain ⟨its, r, pl, hz⟩ := hl.inv.tuple h1.t
    have hlen := r.length
    have h2 := line63
    refine ⟨a, its.toArray, by rw [isEmpty_of r, rr.isEmpty], pl, rfl, by simp only [List.size_toArray]; omega⟩
theorem all_loop (K : k.Ok) (hA : Reach k A.in1) (ap : ApartS k.Y []) {R : Result → Shared → Prop} : ∀ (L : List (Option PyData)) (b : Bool) (H : Hp) (s : Shared), allGo L = some b → Src k [] CI0 L H s → (∀ s' H', k.Fin H' s' → R (.ok (.ret (.bool b))) s') →
    codeAny (model k.Y.prog k.Y.w) A (.builtin "all.loop" ⟨[.ref k.a], []⟩) R s
  | [], b, H, s, e, h, hR => by
    cases e
    refine codeAny_builtin F.entry_all_loop ?_
    rw [Around.under_plainId F.plain_all_loop _]
    show wpAny _ A.in1 (pyNext (.ref k.a) >>= _) _ _ s
    refine wpAny_bind (next_done1 K hA h fun s' H' hf => ?_)
    exact wpAny_bind (wpAny_rule (wpAny_pure (hR s' H' ⟨_, _, _, _, hf⟩)))
  | none :: L, b, H, s, e, h, hR => by cases e
  | some d :: L, b, H, s, e, h, hR => by
    refine codeAny_builtin F.entry_all_loop ?_
    rw [Around.under_plainId F.plain_all_loop _]
    show wpAny _ A.in1 (pyNext (.ref k.a) >>= _) _ _ s
    refine wpAny_bind (next_item1 K hA h fun x v s' H' hs rv rd => ?_)
    cases d with
    | bool c =>
      have ev := rd_bool rd rv
      subst ev
      refine wpAny_bind (wpAny_holding (wpAny_truthy_bool ?_))
      refine wpAny_bind (wpAny_letGo ?_)
      cases c with
      | true =>
        simp only [if_true]
        exact wpAny_pure ⟨plainId_quiet F.plain_all_loop _, all_loop K hA ap L b H' s' e (hs.wake ap (woke0 hs.bare) rfl True.intro) hR⟩
      | false =>
        cases e
        simp only [Bool.false_eq_true, if_false]
        exact wpAny_bind (wpAny_rule (wpAny_pure (hR s' H' ⟨_, _, _, _, hs.held⟩)))
    | tuple xs =>
      obtain ⟨vs, its, hem, pl, hv, hz⟩ := hs.tru rd rv
      subst hv
      refine wpAny_bind (wpAny_holding (truthy_tuple pl hz ?_))
      refine wpAny_bind (wpAny_letGo ?_)
      rw [hem]
      have e : (if xs.isEmpty then some false else allGo L) = some b := e
      cases hxe : xs.isEmpty with
      | false =>
        rw [hxe] at e
        simp only [Bool.not_false, if_true]
        exact wpAny_pure ⟨plainId_quiet F.plain_all_loop _, all_loop K hA ap L b H' _ e (hs.wake ap (wokeT hs.bare) rfl True.intro) hR⟩
      | true =>
        rw [hxe] at e
        cases e
        simp only [Bool.not_true, Bool.false_eq_true, if_false]
        exact wpAny_bind (wpAny_rule (wpAny_pure (hR _ H' ⟨_, _, _, _, hs.heldT⟩)))
    | _ => cases e
theorem any_loop (K : k.Ok) (hA : Reach k A.in1) (ap : ApartS k.Y []) {R : Result → Shared → Prop} : ∀ (L : List (Option PyData)) (b : Bool) (H : Hp) (s : Shared), anyGo L = some b → Src k [] CI0 L H s → (∀ s' H', k.Fin H' s' → R (.ok (.ret (.bool b))) s') →
    codeAny (model k.Y.prog k.Y.w) A (.builtin "any.loop" ⟨[.ref k.a], []⟩) R s
  | [], b, H, s, e, h, hR => by
    cases e
    refine codeAny_builtin F.entry_any_loop ?_
    rw [Around.under_plainId F.plain_any_loop _]
    show wpAny _ A.in1 (pyNext (.ref k.a) >>= _) _ _ s
    refine wpAny_bind (next_done1 K hA h fun s' H' hf => ?_)
    exact wpAny_bind (wpAny_rule (wpAny_pure (hR s' H' ⟨_, _, _, _, hf⟩)))
  | none :: L, b, H, s, e, h, hR => by cases e
  | some d :: L, b, H, s, e, h, hR => by
    refine codeAny_builtin F.entry_any_loop ?_
    rw [Around.under_plainId F.plain_any_loop _]
    show wpAny _ A.in1 (pyNext (.ref k.a) >>= _) _ _ s
    refine wpAny_bind (next_item1 K hA h fun x v s' H' hs rv rd => ?_)
    cases d with
    | bool c =>
      have ev := rd_bool rd rv
      subst ev
      refine wpAny_bind (wpAny_holding (wpAny_truthy_bool ?_))
      refine wpAny_bind (wpAny_letGo ?_)
      cases c with
      | false =>
        simp only [Bool.false_eq_true, if_false]
        exact wpAny_pure ⟨plainId_quiet F.plain_any_loop _, any_loop K hA ap L b H' s' e (hs.wake ap (woke0 hs.bare) rfl True.intro) hR⟩
      | true =>
        cases e
        simp only [if_true]
        exact wpAny_bind (wpAny_rule (wpAny_pure (hR s' H' ⟨_, _, _, _, hs.held⟩)))
    | tuple xs =>
      obtain ⟨vs, its, hem, pl, hv, hz⟩ := hs.tru rd rv
      subst hv
      refine wpAny_bind (wpAny_holding (truthy_tuple pl hz ?_))
      refine wpAny_bind (wpAny_letGo ?_)
      rw [hem]
      have e : (if xs.isEmpty then anyGo L else some true) = some b := e
      cases hxe : xs.isEmpty with
      | true =>
        rw [hxe] at e
        simp only [Bool.not_true, Bool.false_eq_true, if_false]
        exact wpAny_pure ⟨plainId_quiet F.plain_any_loop _, any_loop K hA ap L b H' _ e (hs.wake ap (wokeT hs.bare) rfl True.intro) hR⟩
      | false =>
        rw [hxe] at e
        cases e
        simp only [Bool.not_false, if_true]
        exact wpAny_bind (wpAny_rule (wpAny_pure (hR _ H' ⟨_, _, _, _, hs.heldT⟩)))
    | _ => cases e
theorem Made.src0 {s : Shared} (m : Made k s) : Src k [] CI0 k.Tt k.H1 s ∧ ApartS k.Y [] := by
  have := m.src [] CI0 s.heap s.toks (fun _ _ _ _ _ _ => True.intro) (fun _ h => nomatch h) (fun _ _ e => e) (fun _ h => nomatch h) True.intro
  exact this
theorem call_all_made {s : Shared} {b : Bool} {Q : Value → Shared → Prop} {E : Value → Shared → Prop} (m : Made k s) (hA : Reach k A.in1) (e : allGo k.Tt = some b) (hQ : ∀ s' H', k.Fin H' s' → Q (.bool b) s') : wpAny (model k.Y.prog k.Y.w) A (call (.builtin "all") [.ref k.a]) Q E s := by
  refine call_function_tree F.kind_all F.plain_all F.entry_all (F.args_all1 _) ?_
  unfold Builtin.«all»
  refine wpAny_bind (m := oneArg "all" _) (wpAny_pure ?_)
  refine wpAny_bind (wpAny_pyIter_gen (m.ok.isGen (GenK.at m.src0.1.held)) ?_)
  exact wpAny_pure ⟨plainId_quiet F.plain_all_loop _, all_loop m.ok hA m.src0.2 k.Tt b k.H1 s e m.src0.1 hQ⟩
theorem call_any_made {s : Shared} {b : Bool} {Q : Value → Shared → Prop} {E : Value → Shared → Prop} (m : Made k s) (hA : Reach k A.in1) (e : anyGo k.Tt = some b) (hQ : ∀ s' H', k.Fin H' s' → Q (.bool b) s') : wpAny (model k.Y.prog k.Y.w) A (call (.builtin "any") [.ref k.a]) Q E s := by
  refine call_function_tree F.kind_any F.plain_any F.entry_any (F.args_any1 _) ?_
  unfold Builtin.«any»
  refine wpAny_bind (m := oneArg "any" _) (wpAny_pure ?_)
  refine wpAny_bind (wpAny_pyIter_gen (m.ok.isGen (GenK.at m.src0.1.held)) ?_)
  exact wpAny_pure ⟨plainId_quiet F.plain_any_loop _, any_loop m.ok hA m.src0.2 k.Tt b k.H1 s e m.src0.1 hQ⟩
end
end LH

set_option Elab.async false
set_option linter.all false
set_option maxRecDepth 100000
set_option maxHeartbeats 2000000
/-! Lh14: what takes all of a generator expression: tuple, and others that collect -/
namespace LH
open PySem PySem.Spec PyProof.Rows L2
open AutoSeq1 (wpAny_loadPart')

/-- what the collecting list holds -/
def CIc (K : PySem.W.Frag) (O : Addr → Prop) (S : Addr) (ds : List PyData) : Nat → Heap → Hp → Prop := fun n h H =>
  ∃ acc c xs, h.get? S = some (lstObj acc c) ∧ Vals xs acc.toList ∧ RDs K H O xs (ds.take (ds.length - n))
section
variable {k : GenK} {A : Around}
theorem ext_loop {S : Addr} {ds : List PyData} {res : Value} (K : k.Ok) (hA : Reach k A.in1) (ap : ApartS k.Y [S]) (hds : ds.length ≤ sizeLine) {R : Result → Shared → Prop}
    (hR : ∀ s' H' acc c xs, k.Fin H' s' → s'.heap.get? S = some (lstObj acc c) → Vals xs acc.toList → RDs k.Y.K H' k.O0 xs ds → R (.ok (.ret res)) s') :
    ∀ (L : List PyData) (H : Hp) (s : Shared), (∃ pre, ds = pre ++ L) → Src k [S] (CIc k.Y.K k.O0 S ds) (L.map some) H s → codeAny (model k.Y.prog k.Y.w) A (.builtin "list.extend.loop" ⟨[.ref S, .ref k.a, res], []⟩) R s
  | [], H, s, hp, h => by
    refine codeAny_builtin F.entry_extend_loop ?_
    rw [Around.under_plainId F.plain_extend_loop _]
    show wpAny _ A.in1 (pyNext (.ref k.a) >>= _) _ _ s
    refine wpAny_bind (next_done1 K hA h fun s' H' hf => ?_)
    obtain ⟨o, e1, e2, e3, e4⟩ := GenK.objS hf (b := S) List.mem_cons_self
    obtain ⟨more, σ', hl⟩ := id hf
    obtain ⟨acc, c, xs, h1, h2, h3⟩ := hl.ci
    rw [e1] at h1
    cases h1
    rw [Nat.sub_zero, List.take_length] at h3
    exact wpAny_pure (hR s' H' acc c xs ⟨_, _, _, _, hf⟩ e2 h2 h3)
  | d :: L, H, s, ⟨pre, hp⟩, h => by
    refine codeAny_builtin F.entry_extend_loop ?_
    rw [Around.under_plainId F.plain_extend_loop _]
    show wpAny _ A.in1 (pyNext (.ref k.a) >>= _) _ _ s
    refine wpAny_bind (next_item1 (L := L.map some) K hA h fun x v s' H' hs rv rd => ?_)
    obtain ⟨o, e1, e2, e3, e4⟩ := GenK.objS hs.held (b := S) List.mem_cons_self
    obtain ⟨more, σ', hl⟩ := id hs.held
    obtain ⟨acc, c, xs, h1, h2, h3⟩ := hl.ci
    rw [e1] at h1
    cases h1
    have hlen : ds.length = pre.length + (L.length + 1) := by rw [hp, List.length_append, List.length_cons]
    have ht : ds.take (ds.length - ((L.map some).length + 1)) = pre := by
      rw [List.length_map, hlen, Nat.add_sub_cancel, hp]
      simp
    rw [ht] at h3
    have hal : acc.size = pre.length := by
      have e1 := h2.length
      have e2 := h3.length
      simpa [e2] using e1.symm
    show wpAny _ A.in1 (updateSeq S (·.push v) >>= _) _ _ _
    refine wpAny_bind ?_
    refine wpAny_updateSeq e2 rfl (wpAny_pure ⟨plainId_quiet F.plain_extend_loop _, ext_loop K hA ap hds hR L H' _ ⟨pre ++ [d], by rw [hp]; simp⟩ (hs.wake ap ⟨rfl, hs.bare, fun b ob hb e => ?_, fun b hb => ?_⟩ rfl ?_)⟩) (by omega) (by show (acc.push v).size ≤ sizeLine + 1; rw [Array.size_push]; omega)
    · exact (Heap.get?_update_other _ _ (fun y : S = b => hb (by rw [y]; exact List.mem_cons_self))).trans e
    · cases List.mem_singleton.mp hb
      exact ⟨_, Heap.get?_update_self _ e2 rfl, fun v z => by cases z⟩
    · refine ⟨_, _, xs ++ [x], Heap.get?_update_self _ e2 rfl, ?_, ?_⟩
      · show Vals _ (acc.push v).toList
        rw [Array.toList_push]
        exact h2.append (.cons rv .nil)
      · have ht2 : ds.take (ds.length - (L.map some).length) = pre ++ [d] := by
          rw [List.length_map, hlen, show pre.length + (L.length + 1) - L.length = pre.length + 1 by omega, hp, List.take_append]
          simp [List.take_of_length_le (Nat.le_succ pre.length)]
        rw [ht2]
        exact h3.append (.one rd)
theorem cic_mono {K : PySem.W.Frag} {O : Addr → Prop} {S : Addr} {ds : List PyData} : ∀ n s H H', CIc K O S ds n s H → Stay No H H' → CIc K O S ds n s H' := fun n s H H' ⟨acc, c, xs, h1, h2, h3⟩ st =>
  ⟨acc, c, xs, h1, h2, RDs.keep st (fun _ z => z.elim) _ h3⟩
theorem collect_made {s : Shared} {ds : List PyData} {Q : List Value → Shared → Prop} {E : Value → Shared → Prop} (m : Made k s) (hA : Reach k A.in1) (hds : ds.length ≤ sizeLine) (e : k.Tt = ds.map some)
    (hQ : ∀ s' H' acc xs, k.Fin H' s' → Vals xs acc → RDs k.Y.K H' k.O0 xs ds → Q acc s') : wpAny (model k.Y.prog k.Y.w) A (collect (.ref k.a)) Q E s := by
  have hga := GenK.at m.src0.1.held
  have hig := m.ok.isGen hga
  have hSI : s.heap.objs.size ≠ k.a := Nat.ne_of_gt (Heap.lt_size hga)
  unfold collect
  refine wpAny_bind (wpAny_runValue (codeAny_builtin F.entry_proto_collect ?_))
  rw [Around.under_plainId F.plain_proto_collect _]
  show wpAny _ A.in1 (newList [] >>= fun l => again (.builtin "list.__iadd__" ⟨[l, .ref k.a], []⟩)) _ _ s
  refine wpAny_bind (wpAny_newObj_type ?_)
  refine wpAny_pure ⟨plainId_quiet F.plain_list_iadd _, codeAny_builtin F.entry_list_iadd ?_⟩
  rw [Around.under_plainId F.plain_list_iadd _]
  have hig1 : (s.heap.push { cls := .type "list", data := .seq ([] : List Value).toArray }).IsGen k.a k.g := hig.push _
  show wpAny _ A.in1 (Builtin.List.listExtendWith (.ref s.heap.objs.size) (.ref k.a) (.ref s.heap.objs.size)) _ _ _
  unfold Builtin.List.listExtendWith
  refine wpAny_bind (wpAny_typeOf (T := "generator") hig1.typeIs ?_)
  have h1 : Builtin.List.listSameRef (.ref s.heap.objs.size) (.ref k.a) = false := by simp [Builtin.List.listSameRef, hSI]
  have h2 : (Value.type "generator" == Value.type "list") = false := by decide
  have h3 : (Value.type "generator" == Value.type "tuple") = false := by decide
  simp only [h1, h2, h3, Bool.or_false, Bool.false_eq_true, if_false]
  refine wpAny_bind (wpAny_pyIter_gen hig1 ?_)
  refine wpAny_bind (wpAny_holding ?_)
  unfold Builtin.List.listLengthHint
  refine wpAny_bind (wpAny_specialOf (T := "generator") hig1.typeIs F.gen_no_len ?_)
  show wpAny _ A.in1 (specialOf (Value.ref k.a) (Str.ofString "__length_hint__") >>= _) _ _ _
  refine wpAny_bind (wpAny_specialOf (T := "generator") hig1.typeIs F.gen_no_hint ?_)
  refine wpAny_pure ?_
  show wpAny _ A.in1 (rule "list.extend.makes-room" >>= fun _ => Builtin.List.listTouch (.ref s.heap.objs.size) >>= fun _ =>
    again (.builtin "list.extend.loop" ⟨[.ref s.heap.objs.size, .ref k.a, .ref s.heap.objs.size], []⟩)) _ _ _
  refine wpAny_bind (wpAny_rule ?_)
  have hS₁ : (s.heap.push { cls := .type "list", data := .seq ([] : List Value).toArray }).get? s.heap.objs.size = some { cls := .type "list", data := .seq ([] : List Value).toArray } := Heap.get?_push_size _ rfl
  refine wpAny_bind ?_
  show wpAny _ A.in1 (updateSeq s.heap.objs.size (·.push .none) >>= fun _ => updateSeq s.heap.objs.size (·.pop)) _ _ _
  refine wpAny_bind (wpAny_updateSeq hS₁ rfl ?_)
  have hS₂ := Heap.get?_update_self (Obj.mapSeq (·.push Value.none)) hS₁ rfl
  refine wpAny_updateSeq hS₂ rfl ?_
  have hS₃ := Heap.get?_update_self (Obj.mapSeq (·.pop)) hS₂ rfl
  have oth : ∀ b o, s.heap.get? b = some o →
      (((s.heap.push { cls := .type "list", data := .seq ([] : List Value).toArray }).update s.heap.objs.size (Obj.mapSeq (·.push Value.none))).update s.heap.objs.size (Obj.mapSeq (·.pop))).get? b = some o :=
    fun b o e => have hb : b ≠ s.heap.objs.size := Nat.ne_of_lt (Heap.lt_size e)
      (Heap.get?_update_other _ _ (Ne.symm hb)).trans ((Heap.get?_update_other _ _ (Ne.symm hb)).trans (Heap.get?_push_of_some _ e))
  obtain ⟨src, ap⟩ := m.src [s.heap.objs.size] (CIc k.Y.K k.O0 s.heap.objs.size ds) _ s.toks cic_mono (fun b hb => by cases List.mem_singleton.mp hb; exact Nat.le_refl _) oth
    (fun b hb => by cases List.mem_singleton.mp hb; exact ⟨_, hS₃, fun v z => by cases z⟩) ⟨_, _, [], hS₃, .nil, by rw [e, List.length_map, Nat.sub_self]; exact .nil⟩
  rw [e] at src
  refine wpAny_pure ⟨plainId_quiet F.plain_extend_loop _, ext_loop m.ok hA ap hds (fun s' H' acc c xs hf hS hv hr => ?_) ds k.H1 _ ⟨[], rfl⟩ src⟩
  show wpAny _ A (load s.heap.objs.size >>= _) _ _ s'
  refine wpAny_bind (wpAny_load hS ?_)
  exact wpAny_pure (hQ s' H' acc.toList xs hf hv hr)
theorem code_tuple_made {s : Shared} {ds : List PyData} {Q₁ : Value → Shared → Prop} {E : Value → Shared → Prop} (m : Made k s) (hA : Reach k A.in1.in1) (hds : ds.length ≤ sizeLine) (e : k.Tt = ds.map some)
    (h : ∀ s' H' acc xs, k.Fin H' s' → Vals xs acc → RDs k.Y.K H' k.O0 xs ds → Q₁ (.ref s'.heap.objs.size) { s' with heap := s'.heap.push { cls := .type "tuple", data := .seq acc.toArray } }) :
    codeAny (model k.Y.prog k.Y.w) A (.call (.builtin "tuple.__new__") ⟨[.type "tuple", .ref k.a], []⟩) (wants Q₁ E) s := by
  have hig := m.ok.isGen (GenK.at m.src0.1.held)
  refine codeAny_of_tree ?_
  show wpAny _ A.in1 (do checkBuiltinCall "tuple.__new__" ⟨[.type "tuple", .ref k.a], []⟩; again (.builtin "tuple.__new__" ⟨[.type "tuple", .ref k.a], []⟩)) _ _ s
  refine wpAny_bind (wpAny_of_eq (F.newCall_tuple_1 _) (wpAny_pure ⟨plainId_quiet F.plain_tuple_new _, codeAny_builtin F.entry_tuple_new ?_⟩))
  rw [Around.under_plainId F.plain_tuple_new _]
  have hsub := sub_tuple_self
  have hinit := init_tuple_lookup
  have hmh := madeHere_tuple
  have hTI : s.TypeIs (.ref k.a) "generator" := hig.typeIs
  wp_walk using wpAny_typeOf hTI, collect_made m hA hds e
  intro s' H' acc xs hf hv hr
  have hl : acc.length ≤ sizeLine := by rw [← hv.length, hr.length]; exact hds
  show wpAny _ _ (Builtin.Tuple.tupleExact acc.toArray >>= fun v => ret v) _ _ _
  unfold Builtin.Tuple.tupleExact
  refine wpAny_bind (wpAny_newObj_type ?_ (by show acc.toArray.size ≤ sizeLine; simpa using hl))
  exact wpAny_pure (h s' H' acc xs hf hv hr)
theorem call_tuple_made {s : Shared} {ds : List PyData} {Q : Value → Shared → Prop} {E : Value → Shared → Prop} (m : Made k s) (hA : Reach k A.in1.in1.in1) (hds : ds.length ≤ sizeLine) (e : k.Tt = ds.map some)
    (hQ : ∀ s' H' acc xs, k.Fin H' s' → Vals xs acc → RDs k.Y.K H' k.O0 xs ds → Q (.ref s'.heap.objs.size) { s' with heap := s'.heap.push { cls := .type "tuple", data := .seq acc.toArray } }) :
    wpAny (model k.Y.prog k.Y.w) A (call (.type "tuple") [.ref k.a]) Q E s := by
  refine callType_codes (Q₁ := fun obj s₁ => s₁.TypeIs obj "tuple" ∧ Q obj s₁) F.called_tuple (F.typeCall_tuple_1 _) F.entry_object_init
    (code_tuple_made m hA hds e fun s' H' acc xs hf hv hr => ⟨⟨_, Heap.get?_push_size _ rfl, rfl⟩, hQ s' H' acc xs hf hv hr⟩) fun obj s₁ h₁ => ?_
  exact ⟨h₁.1, F.args_object_init_2 obj _, object_init_meets F.called_tuple.init.lookup F.called_tuple.made (by decide) k.Y.prog k.Y.w A.in1 _ s₁ ⟨h₁.1, rfl, h₁.2⟩⟩
end

/-! ### as expressions -/
structure GE (X : Cx) (T : Tbs) (ch : List Nat) (e : Expr) (f : M (List (Option PyData))) : Prop where
  run : ∀ (pins : List (Addr × Obj)) (σ : L2.St) (H : Hp) (s : Shared) (Out : Addr → Prop) (st st1 : Dn) (Tt : List (Option PyData)) (Q : Value → Shared → Prop), Inv X pins σ H s → TH T H → Rep X.K Out st σ H → f st = some (Tt, st1) →
    (∀ (kit : GenK) (s5 : Shared), kit.X = X → kit.Y.prog = X.prog → kit.Y.w = X.w → kit.Y.K = X.K → kit.pins = pins → kit.σ = σ → kit.O0 = Ob Out st1 σ [] → kit.Tt = Tt → kit.A5 = X.A.in4.in1 → (∀ H, TH kit.T H → TH T H) → EPost X.K T Out σ st H ch st1 kit.H1 → Made kit s5 → Q (.ref kit.a) s5) →
    wpAny (model X.prog X.w) X.A (eval e X.env) Q X.xe s
section
variable {X : Cx} {T : Tbs} {ch : List Nat}
theorem ge_of {elt tg iter : Expr} {ifs : List Expr} {more : List Comprehension} {scope : Scope} {gpos : Pos} {own : List (Str × Nat)} {rc : List Nat} {it : M (List PyData)} {outs : List PyData → Dn → List (Option PyData)} {k n : Nat} {c P : Addr}
    (hr : Room (k + 1) X.A) (hc : X.calm = true) (ct : CT X T n c P) (hν : nuG gpos.line gpos.col (X.env.qual ++ "<genexpr>")) (hN : X.N.Nodup) (ok : BlkOk X.N X.env.scope scope own) (hco : scope.isCoroutine = false) (h0 : scope.names.lookup (".0" : Str) = some NameKind.local)
    (hs : ∀ v, genFold iter X.env v = pure v) (hi : SI X T tg rc ch iter it) (hlev : GLev X T k n scope (.GeneratorExp elt (⟨tg, iter, ifs, 0⟩ :: more) scope gpos) tg (own.map (·.2)) outs) :
    GE X T ch (.GeneratorExp elt (⟨tg, iter, ifs, 0⟩ :: more) scope gpos) (genM (own.map (·.2)) it outs) :=
  ⟨fun pins σ H s Out st st1 Tt Q I th R e hQ => gen_make hr hc ct hν hN ok hco h0 hs hi hlev I th R e hQ⟩
def useM {α : Type} (g : List (Option PyData) → Option α) (r : α → PyData) (f : M (List (Option PyData))) : M PyData := fun st => match f st with
  | some (Tt, st1) => (match g Tt with
    | some b => some (r b, st1)
    | none => none)
  | none => none
theorem useM_some {α : Type} {g : List (Option PyData) → Option α} {r : α → PyData} {f : M (List (Option PyData))} {st st1 : Dn} {d : PyData} (h : useM g r f st = some (d, st1)) : ∃ Tt b, f st = some (Tt, st1) ∧ g Tt = some b ∧ d = r b := by
  unfold useM at h
  split at h
  · rename_i Tt st2 e
    split at h
    · rename_i b e2
      cases h
      exact ⟨Tt, b, e, e2, rfl⟩
    · cases h
  · cases h
def allSome : List (Option PyData) → Option (List PyData)
  | [] => some []
  | some d :: L => (allSome L).map (d :: ·)
  | none :: _ => none
theorem allSome_eq : ∀ {L : List (Option PyData)} {ds : List PyData}, allSome L = some ds → L = ds.map some
  | [], ds, h => by cases h; rfl
  | none :: L, ds, h => by cases h
  | some d :: L, ds, h => by
    unfold allSome at h
    cases e : allSome L with
    | none => rw [e] at h; cases h
    | some r => rw [e] at h; cases h; rw [allSome_eq e]; rfl
/-- the consumer's end -/
theorem fin_go {kit : GenK} {σ : L2.St} {H : Hp} {st st1 : Dn} {Out : Addr → Prop} {pins : List (Addr × Obj)} {s' : Shared} {H' : Hp} (e1 : kit.X = X) (e5 : kit.pins = pins) (e6 : kit.σ = σ) (hT : ∀ H, TH kit.T H → TH T H) (p : EPost X.K T Out σ st H ch st1 kit.H1) (K : kit.Ok) (h : kit.Fin H' s') :
    Inv X pins σ H' s' ∧ EPost X.K T Out σ st H ch st1 H' := by
  obtain ⟨h1, h2, h3⟩ := h.inv K
  rw [e1, e5, e6] at h1
  exact ⟨h1, p.then h3⟩
theorem se_all {p pos : Pos} {e : Expr} {f : M (List (Option PyData))} (ge : GE X T ch e f) (hg : Gl X "all") (hm : X.mg "all" = none) (hb : bootBuiltins "all" = some (.builtin "all"))
    (he : starEach [e] X.env = (false, eval e X.env) :: starEach [] X.env := by rfl) : SE X T [] ch (.Call (.Name "all" p) [e] [] pos) (useM allGo .bool f) := by
  refine ⟨fun pins s σ H Q I ⟨Out, st, d, st1, th, R, ed, q⟩ => ?_⟩
  obtain ⟨Tt, b, ef, eg, rfl⟩ := useM_some ed
  refine wpAny_Call_Name_kw (ld_blt I hg hm hb ?_)
  refine PyProof.Rows.callWith_builtin1 ?_ he (by rfl)
  rw [he]
  show wpAny _ _ (spliced ((false, eval e X.env) :: backTo pos (starEach [] X.env))) _ _ s
  refine Calls.spliced_cons (ge.run pins σ H s Out st st1 Tt _ I th R ef fun kit s5 k1 k2 k3 k4 k5 k6 k7 k8 k9 k10 p1 m => ?_)
  refine Calls.spliced_nil ?_
  rw [← k2, ← k3]
  refine call_all_made m (Reach.r1 k9) (by rw [k8]; exact eg) fun s' H' hf => ?_
  obtain ⟨I', p'⟩ := fin_go k1 k5 k6 k10 p1 m.ok hf
  exact ⟨.bl b, H', I', rfl, q _ H' p' (.bl b)⟩
theorem se_any {p pos : Pos} {e : Expr} {f : M (List (Option PyData))} (ge : GE X T ch e f) (hg : Gl X "any") (hm : X.mg "any" = none)
    (he : starEach [e] X.env = (false, eval e X.env) :: starEach [] X.env := by rfl) : SE X T [] ch (.Call (.Name "any" p) [e] [] pos) (useM anyGo .bool f) := by
  refine ⟨fun pins s σ H Q I ⟨Out, st, d, st1, th, R, ed, q⟩ => ?_⟩
  obtain ⟨Tt, b, ef, eg, rfl⟩ := useM_some ed
  refine wpAny_Call_Name_kw (ld_blt I hg hm boot_any ?_)
  refine PyProof.Rows.callWith_builtin1 ?_ he (by rfl)
  rw [he]
  show wpAny _ _ (spliced ((false, eval e X.env) :: backTo pos (starEach [] X.env))) _ _ s
  refine Calls.spliced_cons (ge.run pins σ H s Out st st1 Tt _ I th R ef fun kit s5 k1 k2 k3 k4 k5 k6 k7 k8 k9 k10 p1 m => ?_)
  refine Calls.spliced_nil ?_
  rw [← k2, ← k3]
  refine call_any_made m (Reach.r1 k9) (by rw [k8]; exact eg) fun s' H' hf => ?_
  obtain ⟨I', p'⟩ := fin_go k1 k5 k6 k10 p1 m.ok hf
  exact ⟨.bl b, H', I', rfl, q _ H' p' (.bl b)⟩
def tupGo (L : List (Option PyData)) : Option (List PyData) := match allSome L with
  | some ds => if ds.length ≤ sizeLine then some ds else none
  | none => none
theorem tupGo_some {L : List (Option PyData)} {ds : List PyData} (h : tupGo L = some ds) : L = ds.map some ∧ ds.length ≤ sizeLine := by
  unfold tupGo at h
  split at h
  · rename_i ds' e
    split at h
    · rename_i hl
      cases h
      exact ⟨allSome_eq e, hl⟩
    · cases h
  · cases h
theorem se_tupG {p pos : Pos} {e : Expr} {f : M (List (Option PyData))} (ge : GE X T ch e f) (hg : Gl X "tuple") (hm : X.mg "tuple" = none) (hb : bootBuiltins "tuple" = some (.type "tuple"))
    (he : starEach [e] X.env = (false, eval e X.env) :: starEach [] X.env := by rfl) (hpl : (backTo pos (starEach [] X.env)).any (·.1) = false := by rfl) : SE X T [] ch (.Call (.Name "tuple" p) [e] [] pos) (useM tupGo .tuple f) := by
  refine ⟨fun pins s σ H Q I ⟨Out, st, d, st1, th, R, ed, q⟩ => ?_⟩
  obtain ⟨Tt, ds, ef, eg, rfl⟩ := useM_some ed
  obtain ⟨e1, hl⟩ := tupGo_some eg
  refine Call_ (ld_blt I hg hm hb (PyProof.Rows.callWith_type1 ?_ he hpl))
  rw [he]
  show wpAny _ _ (spliced ((false, eval e X.env) :: backTo pos (starEach [] X.env))) _ _ s
  refine Calls.spliced_cons (ge.run pins σ H s Out st st1 Tt _ I th R ef fun kit s5 k1 k2 k3 k4 k5 k6 k7 k8 k9 k10 p1 m => ?_)
  refine Calls.spliced_nil ?_
  rw [← k2, ← k3]
  refine call_tuple_made m (Reach.r3 k9) hl (by rw [k8]; exact e1) fun s' H' acc xs hf hv hr => ?_
  obtain ⟨I', p'⟩ := fin_go k1 k5 k6 k10 p1 m.ok hf
  have hn : H' s'.heap.objs.size = none := I'.hok.fresh (Nat.le_refl _)
  rw [k4, k7] at hr
  have hxl : xs.length ≤ sizeLine := by rw [hr.length]; exact hl
  have I2 : Inv X pins σ (upd H' s'.heap.objs.size (.frz { cls := .type "tuple", data := .seq acc.toArray } (.tup xs))) { s' with heap := s'.heap.push { cls := .type "tuple", data := .seq acc.toArray } } :=
    I'.laid (t' := s'.toks) (fun b o e => Heap.get?_push_of_some _ e) (Nat.le_refl _) ⟨Heap.get?_push_size _ rfl, hxl, acc, hv, ⟨_, Heap.get?_push_size _ rfl, rfl, ⟨_, rfl⟩⟩⟩
  exact ⟨.ref _, _, I2, rfl, q _ _ (p'.then (Stay.new hn)) (rd_tup hn rfl hr)⟩
end
end LH

set_option Elab.async false
set_option linter.all false
set_option maxRecDepth 100000
set_option maxHeartbeats 2000000
/-! Lh15: defs as the text has them; isinstance, enumerate, sorted(set(..)) -/
namespace LH
open PySem PySem.Spec PyProof.Rows L2

theorem dj_by {rs ch : List Nat} (h : rs.all (fun i => !ch.contains i) = true) : Dj rs ch := fun i a b => by
  have := List.all_eq_true.mp h i a
  simp at this
  exact this b
theorem mem_by {as vs : List Nat} (h : as.all (fun i => vs.contains i) = true) : ∀ i, i ∈ as → i ∈ vs := fun i a => by
  have := List.all_eq_true.mp h i a
  simpa using this
theorem mem2_by {vs1 vsd as : List Nat} (h : vs1.all (fun i => vsd.contains i && !as.contains i) = true) : ∀ i, i ∈ vs1 → i ∈ vsd ∧ i ∉ as := fun i a => by
  have := List.all_eq_true.mp h i a
  simpa using this

/-! ### isinstance -/
def tyN : PyData → String
  | .none => "NoneType"
  | .bool _ => "bool"
  | .int _ => "int"
  | .str _ => "str"
  | .list _ => "list"
  | .tuple _ => "tuple"
  | .dict _ => "dict"
def isiD (T : String) (d : PyData) : Option PyData := if (tyN d == "dict") = true then none else some (.bool (tyN d == T || (tyN d == "bool" && T == "int")))
abbrev isiTs : List String := ["tuple", "bool", "int", "str", "list"]
theorem kit_tab : ∀ T ∈ isiTs, ∀ a ∈ ["NoneType", "bool", "int", "str", "list", "tuple"], kitB a T = some (a == T || (a == "bool" && T == "int")) := by decide +kernel
theorem isiD_some {T : String} {d e : PyData} (h : isiD T d = some e) : (tyN d == "dict") = false ∧ e = .bool (tyN d == T || (tyN d == "bool" && T == "int")) := by
  unfold isiD at h
  split at h
  · cases h
  · rename_i hn
    cases h
    exact ⟨by simpa using hn, rfl⟩
theorem ty_rd {K : PySem.W.Frag} {H : Hp} {O : Addr → Prop} {v : V} {d : PyData} (r : RD K H O v d) (hd : (tyN d == "dict") = false) : TyX K H v (.type (tyN d)) ∧ tyN d ∈ ["NoneType", "bool", "int", "str", "list", "tuple"] := by
  cases r with
  | non => exact ⟨.base .non, by decide⟩
  | bl b => exact ⟨.base (.bl b), by simp [tyN]⟩
  | int i => exact ⟨.base (.int i), by simp [tyN]⟩
  | str s => exact ⟨.base (.str s), by simp [tyN]⟩
  | lst h n rr =>
    refine ⟨?_, by simp [tyN]⟩
    rcases h with h | ⟨o, h⟩
    · exact .base (.lst h)
    · exact .base (.frz h)
  | tup h rr =>
    refine ⟨?_, by simp [tyN]⟩
    rcases h with ⟨o, h, _⟩ | ⟨d, us, n, ⟨h, hc, _⟩, _⟩
    · exact .fTuple h
    · exact .kTuple h hc
  | fn a => cases hd
section
variable {X : Cx} {T : Tbs} {rs ch : List Nat} {a : Expr} {fa : M PyData} {p p2 pos : Pos}
theorem pe_bty {tn : Str} {ty : String} (hg : Gl X tn) (hm : X.mg tn = none) (hv : bootBuiltins tn = some (.type ty)) (hn : tn ≠ "__name__" := by decide) (hd : (tn == ("__debug__" : Str)) = false := by decide) : PE X (.Name tn pos) (L2.tC (.ty ty)) :=
  ⟨fun pins s σ H Q I h => ld_blt I hg hm hv ⟨.ty ty, H, I, rfl, h⟩ hn hd⟩
theorem se_isi {tn : Str} {ty : String} (hg : Gl X "isinstance") (hm : X.mg "isinstance" = none) (hv : bootBuiltins "isinstance" = some (.builtin "isinstance")) (hgt : Gl X tn) (hmt : X.mg tn = none) (hvt : bootBuiltins tn = some (.type ty)) (hT : ty ∈ isiTs) (ha : SE X T rs ch a fa)
    (hn : tn ≠ "__name__" := by decide) (hd : (tn == ("__debug__" : Str)) = false := by decide)
    (hs : starEach [a, .Name tn p2] X.env = (false, eval a X.env) :: starEach [.Name tn p2] X.env := by rfl) (hs2 : starEach [.Name tn p2] X.env = (false, eval (.Name tn p2) X.env) :: starEach [] X.env := by rfl)
    (hpl : (backTo pos (starEach [.Name tn p2] X.env)).any (·.1) = false := by rfl) : SE X T [] ch (.Call (.Name "isinstance" p) [a, .Name tn p2] [] pos) (lift1 (isiD ty) fa) := by
  refine PE.imp (pe_callB call_isi hg hm hv (pa_cons ha (pa_cons (pe_bty hgt hmt hvt hn hd) pa_nil hs2) hs) (by decide) (by decide) hs hpl) fun σ H Q ⟨Out, st, d, st', th, R, e, q⟩ => ?_
  obtain ⟨da, e1, e2⟩ := lift1_some e
  obtain ⟨hd0, e2⟩ := isiD_some e2
  cases e2
  refine ⟨Out, st, da, st', th, R, e1, fun v H' p r => ?_⟩
  obtain ⟨t1, t2⟩ := ty_rd r hd0
  exact ⟨v, .ty ty, _, .type ty, _, rfl, .ty ty, t1, kit_ty (kit_tab ty hT _ t2), q _ H' p (.bl _)⟩

/-! ### enumerate -/
/-- the tuple at a, each item in a new pair that has no dict -/
def IteT (K : PySem.W.Frag) (a : Addr) : It :=
  ⟨fun i H => ∃ (xs : List V) (x : V), SqT K H a xs ∧ xs[i]? = some x, fun i H v H' => ∃ T o x, v = .ref T ∧ H T = none ∧ o.dict = none ∧ H' = upd H T (.frz o (.tup [.int (i : Nat), x])) ∧ ∀ xs, SqT K H a xs → xs[i]? = some x, fun i H => ∃ xs : List V, SqT K H a xs ∧ xs.length ≤ i⟩
/-- the same of the list at a -/
def IteN (K : PySem.W.Frag) (a : Addr) : It :=
  ⟨(Ite K a).go, fun i H v H' => ∃ T o x, v = .ref T ∧ H T = none ∧ o.dict = none ∧ H' = upd H T (.frz o (.tup [.int (i : Nat), x])) ∧ ∀ xs, SqL K H a xs → xs[i]? = some x, (Ite K a).stop⟩
def pairO (u v : Value) : Obj := { cls := .type "tuple", data := .seq #[u, v] }
theorem pair_ok {P : Program} {w : World} {H : Hp} {h : Heap} {T : Addr} {x y : V} {u v : Value} (hT : h.get? T = some (pairO u v)) (ru : RelV x u) (rv : RelV y v) : ObjOk P w H h T (.frz (pairO u v) (.tup [x, y])) :=
  ⟨hT, by show 2 ≤ sizeLine; decide, [u, v], .cons ru (.cons rv .nil), ⟨_, hT, rfl, _, rfl⟩⟩
theorem meets_enumT (l : Addr) (items : Array Value) (n : Nat) (dct : Option Addr) (sl : Array (Option Value)) :
    Meets (Builtin.«enumerate.__new__» ⟨[.type "enumerate", .ref l], []⟩) (fun _ R s => s.heap.get? l = some { cls := .type "tuple", dict := dct, data := .seq items n, slots := sl } ∧
      R (.ok (.ret (.ref (s.heap.push { cls := .type "tuple_iterator", data := .fields #[.ref l, .int 0 0] }).objs.size)))
        { s with heap := (s.heap.push { cls := .type "tuple_iterator", data := .fields #[.ref l, .int 0 0] }).push { cls := .type "enumerate", data := .fields #[.none, .bool false, .ref s.heap.objs.size, rawInt 0, .none, .none] } }) :=
  .of_wp fun prog w A R s h => by
    obtain ⟨hp, g, d, tk, os⟩ := s; obtain ⟨hl, h⟩ := h
    have hsub := sub_enumerate
    have hL : Heap.IsTuple (Shared.heap ⟨hp, g, d, tk, os⟩) l items := ⟨_, hl, rfl, n, rfl⟩
    wp_walk using AutoSeq1.wpAny_loadPart' hl
    refine wpAny_stack_any fun st => wpAny_pure ?_
    split
    · rename_i c _ _ _ _ _
      cases (c == Value.type "enumerate")
      · wp_walk using AutoSeq1.wpAny_loadPart' hl, wpAny_pyIter_tuple hL
        exact ⟨_, rfl, h⟩
      · wp_walk using AutoSeq1.wpAny_loadPart' hl, wpAny_pyIter_tuple hL
        exact ⟨_, rfl, h⟩
    · wp_walk using AutoSeq1.wpAny_loadPart' hl, wpAny_pyIter_tuple hL
      exact ⟨_, rfl, h⟩
end
section
variable {prog : Program} {w : World} {A : Around} {E : Value → Shared → Prop} {s : Shared}
theorem call_enumT {l : Addr} {items : Array Value} {Q : Value → Shared → Prop} (hL : s.heap.IsTuple l items)
    (h : ∀ h', IsEnum h' (s.heap.objs.size + 1) s.heap.objs.size 0 .none → h'.IsTupleIter s.heap.objs.size l 0 → h'.objs.size = s.heap.objs.size + 2 →
      (∀ b o, s.heap.get? b = some o → h'.get? b = some o) → Q (.ref (s.heap.objs.size + 1)) { s with heap := h' }) :
    wpAny (model prog w) A (call (.type "enumerate") [.ref l]) Q E s := by
  obtain ⟨⟨c, dct, dt, sl⟩, hl, hc, n, hd⟩ := hL
  replace hc : c = .type "tuple" := hc
  replace hd : dt = .seq items n := hd
  subst hc hd
  refine callType_new F.called_enumerate (by decide) (F.typeCall_enumerate_1 _) (F.newCall_enumerate_1 _) (fun obj => F.args_object_init_2 obj _) F.entry_enumerate_new
    (meets_enumT l items n dct sl) ⟨hl, ?_⟩
  have hz : (s.heap.push { cls := .type "tuple_iterator", data := .fields #[.ref l, .int 0 0] }).objs.size = s.heap.objs.size + 1 := Heap.size_push ..
  show _ ∧ _
  rw [hz]
  have he : IsEnum ((s.heap.push { cls := .type "tuple_iterator", data := .fields #[.ref l, .int 0 0] }).push
      { cls := .type "enumerate", data := .fields #[.none, .bool false, .ref s.heap.objs.size, rawInt 0, .none, .none] }) (s.heap.objs.size + 1) s.heap.objs.size 0 .none := by
    have := Heap.get?_push_size (s.heap.push { cls := .type "tuple_iterator", data := .fields #[.ref l, .int 0 0] })
      (o := { cls := .type "enumerate", data := .fields #[.none, .bool false, .ref s.heap.objs.size, rawInt 0, .none, .none] }) rfl
    rw [hz] at this; exact this
  refine ⟨⟨_, he, rfl⟩, h _ he ⟨_, Heap.get?_push_of_some _ (Heap.get?_push_size _ rfl), rfl, rfl⟩ (by rw [Heap.size_push, hz]) fun b o x => Heap.get?_push_of_some _ (Heap.get?_push_of_some _ x)⟩
end
section
variable {prog : Program} {w : World} {A : Around} {E : Value → Shared → Prop} {s : Shared}
theorem enum_endT {e it a : Addr} {i : Nat} {items : Array Value} {j : Int} {old : Value} {Q : Option Value → Shared → Prop} (hh : A.handled = none) (he : IsEnum s.heap e it j old) (hit : s.heap.IsTupleIter it a i) (hl : s.heap.IsTuple a items) (hx : items[i]? = none)
    (hQ : ∀ h', Heap.ExtBut it s.heap h' → Q none { s with heap := h' }) : wpAny (model prog w) A (pyNext (.ref e)) Q E s := by
  have hT : s.TypeIs (.ref e) "enumerate" := ⟨_, he, rfl⟩
  unfold pyNext
  refine wpAny_bind (wpAny_attempt (wpAny_callSpecial?_slot (name := Str.ofString "__next__") hT F.slot_enumerate_next (wpAny_call_entry F.slot_enumerate_next hT F.entry_enumerate_next ?_ (F.args_enumerate_next_1 _))))
  show wpAny _ _ (field (.ref e) 2 >>= _) _ _ _
  refine wpAny_bind (wpAny_field he rfl (x := .ref it) rfl ?_)
  refine wpAny_bind (wpAny_nextOf_tuple_end hh hit hl hx fun h' x he' hx' => ?_)
  obtain ⟨o, ho, hc⟩ := hx'
  exact wpAny_bind (wpAny_isInstance (T := "StopIteration") (b := true) ⟨o, ho, hc⟩ isSubtype_stop (wpAny_pure (hQ _ he')))
end
theorem turn_enumT {P : Program} {w : World} {K : PySem.W.Frag} {elts : List Expr} {kk : Nat} {tpos : Pos} (a e it : Addr) :
    Turn P w K (.Tuple elts kk tpos) (IteT K a) [e, it] e (fun i h => (∃ old, IsEnum h e it ((i : Nat) : Int) old) ∧ h.IsTupleIter it a i ∧ e ≠ it ∧ a ≠ it ∧ a ≠ e) where
  mem := by simp
  obj := fun i h st b hb => by
    obtain ⟨⟨old, he⟩, ⟨o, ho, hc, hd⟩, _⟩ := st
    have e' : b = e ∨ b = it := by simpa using hb
    rcases e' with z | z
    · rw [z]; exact ⟨_, he, fun v q => nomatch q⟩
    · rw [z]; exact ⟨o, ho, fun v q => by rw [hd] at q; cases q⟩
  keep := fun i h h' st k => let ⟨⟨old, he⟩, hi, hne⟩ := st; ⟨⟨old, k e (by simp) _ he⟩, hi.at fun o q => k it (by simp) o q, hne⟩
  item := by
    intro X hP hw hK hc i pins s σ H E I hf st hg
    subst hP hw hK
    obtain ⟨⟨old, he⟩, hit, hne, hai, hae⟩ := st
    obtain ⟨xs, x, hq, hx⟩ := hg
    obtain ⟨its, rv, p, hz⟩ := I.tuple hq
    obtain ⟨u, hu, ru⟩ := rv.get hx
    have hel : e < s.heap.objs.size := Heap.lt_size he
    have hil : it < s.heap.objs.size := by obtain ⟨_, q, _⟩ := hit; exact Heap.lt_size q
    have hl : i < its.toArray.size := by
      have := (List.getElem?_eq_some_iff.mp hu).1
      simpa using this
    refine wpAny_pyNext_enum_itemD (Draws.tuple (A := X.A.in1) (I.ok.hd hc) it a hai its.toArray) he ⟨hit, p⟩ hl hne (by simp [hne, Ne.symm hae]) fun y h' tk hy ho hit' hT hsz hk => ?_
    have hyu : y = u := by
      have : its.toArray[i]? = some u := by simpa using hu
      rw [this] at hy
      exact (Option.some.inj hy).symm
    subst hyu
    refine ⟨_, rfl, wpAny_letOwnedTupleGo_enum (s := { s with heap := h', toks := tk + 1 }) ho fun h'' he' sb => ?_⟩
    have hT2 : h''.get? s.heap.objs.size = some (pairO (.int i tk) y) := (sb.2 _ (Nat.ne_of_gt hel)).trans hT
    have I1 : Inv X pins σ (upd H s.heap.objs.size (.frz (pairO (.int i tk) y) (.tup [.int (i : Nat), x]))) { s with heap := h'', toks := tk + 1 } :=
      I.turnedNew (ch := [e, it]) (fun b ob hb q => (sb.2 b (fun z => hb (by simp [z]))).trans (hk b ob (fun z => hb (by simp [z])) (fun z => hb (by simp [z])) q)) hf (Nat.le_refl _) (pair_ok (x := V.int (i : Nat)) hT2 ⟨_, rfl⟩ ru)
    refine ⟨.ref s.heap.objs.size, _, I1, rfl, ⟨_, _, x, rfl, I.hok.fresh (Nat.le_refl _), rfl, rfl, fun ys hy => by rw [I.tuple_inj hy hq]; exact hx⟩, ⟨⟨y, ?_⟩, hit'.1.at fun o q => (sb.2 it (Ne.symm hne)).trans q, hne, hai, hae⟩, fun b hb => ?_⟩
    · have e1 : ((i + 1 : Nat) : Int) = (i : Int) + 1 := by omega
      rw [e1]; exact he'
    · have hb' : b < s.heap.objs.size := by
        have e' : b = e ∨ b = it := by simpa using hb
        rcases e' with z | z
        · rw [z]; exact hel
        · rw [z]; exact hil
      rw [upd_ne (Nat.ne_of_lt hb')]
      exact (hf b hb).1
  done := by
    intro X hP hw hK hc i pins s σ H E I hf st hg
    subst hP hw hK
    obtain ⟨⟨old, he⟩, hit, hne, hai, hae⟩ := st
    obtain ⟨xs, hq, hx⟩ := hg
    obtain ⟨its, rv, p, hz⟩ := I.tuple hq
    obtain ⟨f0, f1, f2, f3, f4, f5⟩ := hf it (by simp)
    have hl := rv.length
    refine enum_endT (I.ok.hd hc) he hit p (by simp; omega) fun h' eb => ⟨rfl, I.turned (t' := s.toks) (fun b o hb q => eb b o hb q) f0 f1 f3 f4 f5⟩
  self := fun A i s Q E st h => let ⟨⟨_, he⟩, _⟩ := st; wpAny_pyIter_enum he h
theorem turn_enumN {P : Program} {w : World} {K : PySem.W.Frag} {elts : List Expr} {kk : Nat} {tpos : Pos} (a e it : Addr) :
    Turn P w K (.Tuple elts kk tpos) (IteN K a) [e, it] e (fun i h => (∃ old, IsEnum h e it ((i : Nat) : Int) old) ∧ h.IsListIter it a i ∧ e ≠ it) :=
  { mem := (turn_enum (P := P) (w := w) (K := K) (elts := elts) (kk := kk) (tpos := tpos) a e it).mem
    obj := (turn_enum (P := P) (w := w) (K := K) (elts := elts) (kk := kk) (tpos := tpos) a e it).obj
    keep := (turn_enum (P := P) (w := w) (K := K) (elts := elts) (kk := kk) (tpos := tpos) a e it).keep
    done := (turn_enum (P := P) (w := w) (K := K) (elts := elts) (kk := kk) (tpos := tpos) a e it).done
    self := (turn_enum (P := P) (w := w) (K := K) (elts := elts) (kk := kk) (tpos := tpos) a e it).self
    item := by
      intro X hP hw hK hc i pins s σ H E I hf st hg
      subst hP hw hK
      obtain ⟨⟨old, he⟩, hit, hne⟩ := st
      obtain ⟨xs, x, hq, hx⟩ := hg
      obtain ⟨its, rv, p, hz⟩ := I.list hq
      obtain ⟨u, hu, ru⟩ := rv.get hx
      have hel : e < s.heap.objs.size := Heap.lt_size he
      have hil : it < s.heap.objs.size := by obtain ⟨_, q, _⟩ := hit; exact Heap.lt_size q
      refine wpAny_pyNext_enum_item he hit p.isList (x := u) (by simpa using hu) hne fun h' ho hit' hT hsz hk => ⟨_, rfl, wpAny_letOwnedTupleGo_enum (s := { s with heap := h', toks := s.toks + 1 }) ho fun h'' he' sb => ?_⟩
      have hT2 : h''.get? s.heap.objs.size = some (pairO (.int i s.toks) u) := (sb.2 _ (Nat.ne_of_gt hel)).trans hT
      have hn : H s.heap.objs.size = none := I.hok.fresh (Nat.le_refl _)
      refine ⟨.ref s.heap.objs.size, _, I.turnedNew (t' := s.toks + 1) (ch := [e, it]) (fun b ob hb q => (sb.2 b (fun z => hb (by simp [z]))).trans (hk b ob (fun z => hb (by simp [z])) (fun z => hb (by simp [z])) q)) hf (Nat.le_refl _) (pair_ok (x := V.int (i : Nat)) hT2 ⟨_, rfl⟩ ru), rfl, ⟨_, _, x, rfl, hn, rfl, rfl, fun ys hy => by rw [I.list_inj hy hq]; exact hx⟩, ⟨⟨u, ?_⟩, hit'.at fun o q => (sb.2 it (Ne.symm hne)).trans q, hne⟩, fun b hb => ?_⟩
      · rw [show ((i + 1 : Nat) : Int) = (i : Int) + 1 from by omega]; exact he'
      · have hb' : b < s.heap.objs.size := (show b = e ∨ b = it by simpa using hb).elim (fun z => by rw [z]; exact hel) fun z => by rw [z]; exact hil
        rw [upd_ne (Nat.ne_of_lt hb')]
        exact (hf b hb).1 }
/-- the places and the items -/
def enumL (ds : List PyData) : List PyData := ds.mapIdx fun i d => .tuple [.int (i : Nat), d]
def enumD (d : PyData) : Option (List PyData) := (seqOf d).map enumL
theorem enumL_at {ds : List PyData} {j : Nat} {d : PyData} (h : (enumL ds)[j]? = some d) : ∃ d0, ds[j]? = some d0 ∧ d = .tuple [.int (j : Nat), d0] := by
  unfold enumL at h
  rw [List.getElem?_mapIdx] at h
  cases e : ds[j]? with
  | none => rw [e] at h; cases h
  | some d0 => rw [e] at h; cases h; exact ⟨d0, rfl, rfl⟩
theorem enumL_len {ds : List PyData} : (enumL ds).length = ds.length := by unfold enumL; simp
section
variable {K : PySem.W.Frag} {O Oe : Addr → Prop} {H' : Hp} {a : Addr} {vs : List V} {ds : List PyData}
theorem pair_rd {H2 : Hp} {Tp : Addr} {o : Obj} {j : Nat} {x : V} {d0 : PyData} {O2 : Addr → Prop} (hT : H2 Tp = none) (hd : o.dict = none) (r : RD K H2 O2 x d0) : RD K (upd H2 Tp (.frz o (.tup [.int (j : Nat), x]))) O2 (.ref Tp) (.tuple [.int (j : Nat), d0]) :=
  rd_tup hT hd (.cons (.int _) (.cons r .nil))
theorem gives_enumL (h : Rd H' a (.lst vs)) (n : ¬ O a ∨ ∃ o, H' a = some (.frz o (.lst vs))) (r : RDs K H' Oe vs ds) (hO : ∀ b, O b → Oe b ∨ H' b = none) : Gives K O Oe H' (IteN K a) (enumL ds) := by
  intro j H2 s
  have h2 : SqL K H2 a vs := .inl (s.rdF (fun _ z => z) n h).1
  refine ⟨fun hj => ⟨vs, h2, by rw [r.length]; rw [enumL_len] at hj; exact hj⟩, fun d hd => ?_⟩
  obtain ⟨d0, hd0, rfl⟩ := enumL_at hd
  obtain ⟨v, e1, e2⟩ := r.get hd0
  refine ⟨⟨vs, v, h2, e1⟩, fun x H3 ⟨Tp, o, y, ex, hT, hod, eH, hy⟩ => ?_⟩
  subst ex eH
  have := hy vs h2
  rw [e1] at this
  cases this
  exact ⟨Stay.new hT, fun O2 h2 => pair_rd hT hod (RD.mono (fun b z => .inl z) d0 (RD.keep s (fun b z => .inr z) d0 (RD.freshO (O' := fun b => O2 b ∨ O b) (fun b z => z.elim (h2 b) (hO b)) d0 e2)))⟩
theorem gives_enumT (h : SqT K H' a vs) (r : RDs K H' Oe vs ds) (hO : ∀ b, O b → Oe b ∨ H' b = none) : Gives K O Oe H' (IteT K a) (enumL ds) := by
  intro j H2 s
  have h2 : SqT K H2 a vs := s.sqT h
  refine ⟨fun hj => ⟨vs, h2, by rw [r.length]; rw [enumL_len] at hj; exact hj⟩, fun d hd => ?_⟩
  obtain ⟨d0, hd0, rfl⟩ := enumL_at hd
  obtain ⟨v, e1, e2⟩ := r.get hd0
  refine ⟨⟨vs, v, h2, e1⟩, fun x H3 ⟨Tp, o, y, ex, hT, hod, eH, hy⟩ => ?_⟩
  subst ex eH
  have := hy vs h2
  rw [e1] at this
  cases this
  exact ⟨Stay.new hT, fun O2 h2 => pair_rd hT hod (RD.mono (fun b z => .inl z) d0 (RD.keep s (fun b z => .inr z) d0 (RD.freshO (O' := fun b => O2 b ∨ O b) (fun b z => z.elim (h2 b) (hO b)) d0 e2)))⟩
end
section
variable {X : Cx} {T : Tbs} {rs ch : List Nat} {a e : Expr} {fa : M PyData} {p pos tpos : Pos} {elts : List Expr} {kk : Nat}
def iEnumB (K : PySem.W.Frag) (ta : TA) : TI := fun σ H R => ta σ H fun vs H1 => ∃ a, vs = [.ref a] ∧ (((∃ xs, SqL K H1 a xs) ∧ R (IteN K a) H1) ∨ ((∃ xs, SqT K H1 a xs) ∧ R (IteT K a) H1))
theorem pi_enumB {ta : TA} (hg : Gl X "enumerate") (hm : X.mg "enumerate" = none) (ha : PA X [e] ta) (hs : starEach [e] X.env = [(false, eval e X.env)] := by rfl) :
    PI X (.Tuple elts kk tpos) (.Call (.Name "enumerate" p) [e] [] pos) (iEnumB X.K ta) := by
  refine ⟨fun pins s σ H R I h => ?_⟩
  refine Call_ (ld_blt I hg hm boot_enumerate (PyProof.Rows.callWith_type1 (thn (ha.run pos pins s σ H _ I h) fun us s1 ⟨vs, H1, I1, r1, q1⟩ => ?_) hs rfl))
  obtain ⟨a, ex, q⟩ := q1
  subst ex
  cases r1 with
  | cons r rr =>
    cases rr
    cases r
    have hle : ∀ b, (b = s1.heap.objs.size + 1 ∨ b = s1.heap.objs.size) → s1.heap.objs.size ≤ b := fun b e' => by
      rcases e' with z | z
      · rw [z]; exact Nat.le_add_right _ _
      · rw [z]; exact Nat.le_refl _
    rcases q with ⟨⟨xs, hq⟩, q⟩ | ⟨⟨xs, hq⟩, q⟩
    · obtain ⟨its, rv, p', hz⟩ := I1.list hq
      refine call_enumerate_list p'.isList fun h' he hit hsz hk => wpAny_pyIter_enum he ?_
      have I2 : Inv X pins σ H1 { s1 with heap := h' } := I1.kept (t' := s1.toks) hk
      refine ⟨s1.heap.objs.size + 1, [s1.heap.objs.size + 1, s1.heap.objs.size], _, _, H1, rfl, I2, turn_enumN a (s1.heap.objs.size + 1) s1.heap.objs.size, ⟨⟨.none, he⟩, hit, Nat.succ_ne_self _⟩, fun b hb => ?_, q⟩
      exact I1.fpOk (hle b (by simpa using hb)) (I1.hok.fresh (hle b (by simpa using hb)))
    · obtain ⟨its, rv, p', hz⟩ := I1.tuple hq
      have hal : a < s1.heap.objs.size := p'.lt
      refine call_enumT (show s1.heap.IsTuple a its.toArray from p') fun h' he hit hsz hk => wpAny_pyIter_enum he ?_
      have I2 : Inv X pins σ H1 { s1 with heap := h' } := I1.kept (t' := s1.toks) hk
      refine ⟨s1.heap.objs.size + 1, [s1.heap.objs.size + 1, s1.heap.objs.size], _, _, H1, rfl, I2, turn_enumT a (s1.heap.objs.size + 1) s1.heap.objs.size, ⟨⟨.none, he⟩, hit, Nat.succ_ne_self _, Nat.ne_of_lt hal, Nat.ne_of_lt (Nat.lt_succ_of_lt hal)⟩, fun b hb => ?_, q⟩
      exact I1.fpOk (hle b (by simpa using hb)) (I1.hok.fresh (hle b (by simpa using hb)))
theorem si_enum (hg : Gl X "enumerate") (hm : X.mg "enumerate" = none) (ha : SE X T [] ch a fa) (hs : starEach [a] X.env = (false, eval a X.env) :: starEach [] X.env := by rfl) (hs' : starEach [a] X.env = [(false, eval a X.env)] := by rfl) :
    SI X T (.Tuple elts kk tpos) [] ch (.Call (.Name "enumerate" p) [a] [] pos) (lift1 enumD fa) := by
  refine PI.imp (pi_enumB hg hm (pa_cons ha pa_nil hs) hs') fun σ H R ⟨Out, st, ds, st', th, Rp, e, q⟩ => ?_
  obtain ⟨da, e1, e2⟩ := lift1_some e
  refine ⟨Out, st, da, st', th, Rp, e1, fun v H' p r => ?_⟩
  unfold enumD at e2
  cases es : seqOf da with
  | none => rw [es] at e2; cases e2
  | some ds0 =>
    rw [es] at e2
    cases e2
    obtain ⟨b, vs, rfl, h1, h2⟩ := con_of r es
    refine ⟨b, rfl, ?_⟩
    rcases h1 with ⟨h1, n⟩ | h1
    · exact .inl ⟨⟨vs, .inl h1⟩, q _ H' p (gives_enumL h1 n h2 obSub)⟩
    · exact .inr ⟨⟨vs, h1⟩, q _ H' p (gives_enumT h1 h2 obSub)⟩

/-! ### sorted(set(a tuple of ints)) -/
def intsOf : List PyData → Option (List Int)
  | [] => some []
  | .int i :: r => (intsOf r).map (i :: ·)
  | _ => none
theorem intsOf_eq : ∀ {ds : List PyData} {ns : List Int}, intsOf ds = some ns → ds = ns.map .int
  | [], ns, h => by cases h; rfl
  | .int i :: r, ns, h => by
    unfold intsOf at h
    cases e : intsOf r with
    | none => rw [e] at h; cases h
    | some m => rw [e] at h; cases h; rw [intsOf_eq e]; rfl
  | .none :: _, _, h => by cases h
  | .bool _ :: _, _, h => by cases h
  | .str _ :: _, _, h => by cases h
  | .list _ :: _, _, h => by cases h
  | .tuple _ :: _, _, h => by cases h
  | .dict _ :: _, _, h => by cases h
theorem rds_ints {K : PySem.W.Frag} {H : Hp} {O : Addr → Prop} : ∀ {vs : List V} {ns : List Int}, RDs K H O vs (ns.map .int) → vs = ns.map .int
  | _, [], r => by cases r; rfl
  | _, n :: ns, r => by
    cases r with
    | cons a b => cases a; rw [rds_ints b]; rfl
theorem rds_of_ints {K : PySem.W.Frag} {H : Hp} {O : Addr → Prop} : ∀ (ns : List Int), RDs K H O (ns.map .int) (ns.map .int)
  | [] => .nil
  | n :: ns => .cons (.int n) (rds_of_ints ns)
/-- the members, rising -/
def insI (x : Int) : List Int → List Int
  | [] => [x]
  | y :: r => if x < y then x :: y :: r else if x = y then y :: r else y :: insI x r
def risI : List Int → List Int
  | [] => []
  | x :: r => insI x (risI r)
theorem mem_insI {x y : Int} : ∀ {l : List Int}, y ∈ insI x l ↔ y = x ∨ y ∈ l
  | [] => by simp [insI]
  | z :: r => by
    unfold insI
    split
    · simp
    · split
      · rename_i e; subst e; simp
      · simp only [List.mem_cons, mem_insI (l := r)]
        constructor
        · rintro (h | h | h) <;> simp [h]
        · rintro (h | h | h) <;> simp [h]
theorem mem_risI {y : Int} : ∀ {l : List Int}, y ∈ risI l ↔ y ∈ l
  | [] => by simp [risI]
  | x :: r => by simp [risI, mem_insI, mem_risI (l := r)]
theorem insI_lt {x : Int} : ∀ {l : List Int}, l.Pairwise (· < ·) → (insI x l).Pairwise (· < ·)
  | [], _ => by simp [insI]
  | z :: r, h => by
    obtain ⟨h1, h2⟩ := List.pairwise_cons.mp h
    unfold insI
    split
    · rename_i hx
      refine List.pairwise_cons.mpr ⟨fun y hy => ?_, h⟩
      rcases List.mem_cons.mp hy with rfl | hy
      · exact hx
      · exact Int.lt_trans hx (h1 y hy)
    · split
      · exact h
      · refine List.pairwise_cons.mpr ⟨fun y hy => ?_, insI_lt h2⟩
        rcases mem_insI.mp hy with rfl | hy
        · omega
        · exact h1 y hy
theorem risI_lt : ∀ l : List Int, (risI l).Pairwise (· < ·)
  | [] => .nil
  | x :: r => insI_lt (risI_lt r)
theorem ris_unique : ∀ {a b : List Int}, a.Pairwise (· < ·) → b.Pairwise (· < ·) → (∀ k, k ∈ a ↔ k ∈ b) → a = b
  | [], [], _, _, _ => rfl
  | [], y :: b, _, _, h => by have := (h y).mpr List.mem_cons_self; cases this
  | x :: a, [], _, _, h => by have := (h x).mp List.mem_cons_self; cases this
  | x :: a, y :: b, ha, hb, h => by
    obtain ⟨a1, a2⟩ := List.pairwise_cons.mp ha
    obtain ⟨b1, b2⟩ := List.pairwise_cons.mp hb
    have e : x = y := by
      rcases List.mem_cons.mp ((h x).mp List.mem_cons_self) with e | m
      · exact e
      · rcases List.mem_cons.mp ((h y).mpr List.mem_cons_self) with e | m'
        · exact e.symm
        · have := b1 x m; have := a1 y m'; omega
    subst e
    rw [ris_unique a2 b2 fun k => ?_]
    constructor
    · intro hk
      rcases List.mem_cons.mp ((h k).mp (List.mem_cons_of_mem _ hk)) with e | m
      · subst e; exact absurd (a1 k hk) (Int.lt_irrefl _)
      · exact m
    · intro hk
      rcases List.mem_cons.mp ((h k).mpr (List.mem_cons_of_mem _ hk)) with e | m
      · subst e; exact absurd (b1 k hk) (Int.lt_irrefl _)
      · exact m
def setI (d : PyData) : Option (List Int) := match d with
  | .tuple ds => (match intsOf ds with
    | some ns => if ns.length < 64 then some ns else none
    | none => none)
  | _ => none
def sortSetD (d : PyData) : Option (List PyData) := (setI d).map fun ns => (risI ns).map .int
def tSetI (K : PySem.W.Frag) (w : World) (T : Tbs) (ch : List Nat) (f : M PyData) : TE := fun σ H Q => ∃ Out st ns st', TH T H ∧ Rep K Out st σ H ∧ lift1 setI f st = some (ns, st') ∧
  ∀ a H' n, EPost K T Out σ st H ch st' H' → H' a = none → n ≤ ns.length → Q (.ref a) (upd H' a (SetO w a (fun j => decide (j ∈ ns)) n))
theorem vals_rel {ns : List Int} {its : List Value} (r : Vals (ns.map .int) its) : IntsAre its ns := ints_of_vals r
theorem setI_some {d : PyData} {ns : List Int} (h : setI d = some ns) : d = .tuple (ns.map .int) ∧ ns.length < 64 := by
  unfold setI at h
  split at h
  · split at h
    · rename_i ns' e
      split at h
      · rename_i hl
        cases h
        exact ⟨by rw [intsOf_eq e], hl⟩
      · cases h
    · cases h
  · cases h
theorem pe_setI (hc : X.calm = true) (hg : Gl X "set") (hm : X.mg "set" = none) (hv : bootBuiltins "set" = some (.type "set")) (ha : SE X T rs ch a fa) (hs : starEach [a] X.env = (false, eval a X.env) :: starEach [] X.env := by rfl)
    (hpl : (backTo pos (starEach [] X.env)).any (·.1) = false := by rfl) : PE X (.Call (.Name "set" p) [a] [] pos) (tSetI X.K X.w T ch fa) := by
  refine ⟨fun pins s σ H Q I ⟨Out, st, ns, st', th, R, e, q⟩ => ?_⟩
  obtain ⟨da, e1, e2⟩ := lift1_some e
  obtain ⟨rfl, h64⟩ := setI_some e2
  refine Call_ (ld_blt I hg hm hv (PyProof.Rows.callWith_type1 (thn ((pa_cons ha pa_nil hs).run pos pins s σ H (fun vs H' => ∃ v, vs = [v] ∧ EPost X.K T Out σ st H ch st' H' ∧ RD X.K H' (Ob Out st' σ rs) v (.tuple (ns.map .int))) I ⟨Out, st, _, st', th, R, e1, fun v H' p r => ⟨v, rfl, p, r⟩⟩) fun us s1 ⟨vs, H1, I1, r1, v, ev, p1, rd⟩ => ?_) hs hpl))
  subst ev
  obtain ⟨u, rfl, ru⟩ := vals1 r1
  cases rd with
  | @tup b xs _ ht rr =>
    obtain rfl : u = Value.ref b := ru
    have hx := rds_ints rr
    subst hx
    obtain ⟨its, rv, p', hz⟩ := I1.tuple ht.t
    have hb : (64 : Nat) < scanBound := by decide
    refine call_set_tupI ns (I1.ok.hd hc) (show s1.heap.IsTuple b its.toArray from p') (by simpa using ints_of_vals rv) (by omega) fun h' tk c hS hcl hk => ?_
    have hn : H1 s1.heap.objs.size = none := I1.hok.fresh (Nat.le_refl _)
    exact ⟨.ref _, _, I1.laid (t' := tk) hk (Nat.le_refl _) (setO_new hS), rfl, q _ H1 c p1 hn hcl⟩
def sortSetM (f : M PyData) : M (List PyData) := lift1 sortSetD f
theorem sf_sortSet {p1 pos1 : Pos} (hc : X.calm = true) (hg : Gl X "set") (hm : X.mg "set" = none) (hv : bootBuiltins "set" = some (.type "set")) (hg1 : Gl X "sorted") (hm1 : X.mg "sorted" = none) (hv1 : bootBuiltins "sorted" = some (.builtin "sorted")) (ha : SE X T rs ch a fa)
    (hs : starEach [a] X.env = (false, eval a X.env) :: starEach [] X.env := by rfl) (hpl : (backTo pos (starEach [] X.env)).any (·.1) = false := by rfl)
    (hs1 : starEach [.Call (.Name "set" p) [a] [] pos] X.env = (false, eval (.Call (.Name "set" p) [a] [] pos) X.env) :: starEach [] X.env := by rfl) (hpl1 : (backTo pos1 (starEach [] X.env)).any (·.1) = false := by rfl) :
    SF X T [] ch (.Call (.Name "sorted" p1) [.Call (.Name "set" p) [a] [] pos] [] pos1) (sortSetM fa) := by
  refine PE.imp (pe_callB (cr_sortedSet hc) hg1 hm1 hv1 (pa_cons (pe_setI hc hg hm hv ha hs hpl) pa_nil hs1) (by decide) (by decide) hs1 hpl1) fun σ H Q ⟨Out, st, ds, st', th, R, e, q⟩ => ?_
  obtain ⟨da, e1, e2⟩ := lift1_some e
  unfold sortSetD at e2
  cases ei : setI da with
  | none => rw [ei] at e2; cases e2
  | some ns =>
    rw [ei] at e2
    cases e2
    have h64 := (setI_some ei).2
    refine ⟨Out, st, ns, st', th, R, by unfold lift1; rw [e1]; simp [ei], fun b H' n p hn hle => ?_⟩
    refine ⟨b, _, n, rfl, upd_same, by omega, fun ms l h1 h2 h3 hl => ?_⟩
    have em : ms = risI ns := ris_unique h1 (risI_lt ns) fun k => by rw [h2 k, mem_risI]; simp
    subst em
    have p2 := p.then (Stay.new (o := SetO X.w b (fun j => decide (j ∈ ns)) n) hn)
    exact q l _ _ (p2.then (Stay.new hl)) (p2.rep.new hl) (hnone p2.stay hl) upd_same (rds_of_ints _)
end
end LH

set_option Elab.async false
set_option linter.all false
set_option maxRecDepth 100000
set_option maxHeartbeats 2000000
/-! Lh16: the text's defs keep their promises; the law's end -/
namespace LH
open PySem PySem.Spec PyProof.Rows L2
open LamX (TabB)

/-- the tables of the defs' code objects -/
def tabsT (cs : List Addr) (n : Nat) : Tbs := ⟨fun H => ∀ P ∈ cs, TabD nuG n H P, fun s h P hP => s.tabs _ _ (h P hP)⟩
section
variable {P : Program} {w : World} {K : PySem.W.Frag} {mg : Str → Option Value} {base : Heap} {cs : List Addr} {nd : Nat}
theorem ct_bx {N : List Str} {qual : Str} {st : Stmt} {f c Pt : Addr} {A : Around} {outer : List Env} {s : Shared} {H : Hp} {E : XK} (TB : TabB base mg c Pt) (hP : Pt ∈ cs) : CT (bx P w K mg base N qual st f c A outer s H E) (tabsT cs nd) nd c Pt :=
  ⟨rfl, fun _ _ _ k _ => TB.code.keeps k, fun _ th => th Pt hP, ⟨Pt, TB.bm⟩⟩
theorem ct_blk {X : Cx} {T : Tbs} {n : Nat} {c Pt : Addr} {s : Shared} {H : Hp} {scope : Scope} {cl : List (Str × Addr)} {C : Addr} {fp : List Addr} (ct : CT X T n c Pt) : CT (X.blk s H scope (compEnvC scope cl C X.env) fp) T n c Pt :=
  ⟨ct.code, ct.hd, ct.tab, ct.bm⟩
end
/-- a def of the text behind the top: its objects -/
structure DefAt (K : PySem.W.Frag) (mg : Str → Option Value) (base : Heap) (cs : List Addr) (x : Str) (st : Stmt) : Prop where
  ex : ∃ (f c Pt : Addr) (fd : FuncData), Fun2 K x x st f c fd ∧ mg x = some (.ref f) ∧ TabB base mg c Pt ∧ Pt ∈ cs
section
variable {P : Program} {w : World} {K : PySem.W.Frag} {mg : Str → Option Value} {base : Heap} {cs : List Addr} {nd : Nat} {x : Str} {st : Stmt} {N ps : List Str} {nn k : Nat} {body : M Fl} {asg ch : List Nat}
theorem fd_d {G : DF} (D : DefAt K mg base cs x st) (hS : C8.scC N ps (defScope st) = true) (hN : N.length = ps.length + nn)
    (hbd : ∀ (kV doc pm : Value) (an : Option Addr) (cdv ct : Value) (us : List Value), us.length = ps.length → bindArgs (PySem.W.fnOf x x (defArgs st) (defBody st) (defScope st) .none kV doc pm an cdv ct) ⟨us, []⟩ = pure (ps.zip us))
    (hG : ∀ ds, G ds = runD ps.length nn body ds)
    (hb : ∀ (f c Pt : Addr) (A : Around) (outer : List Env) (s : Shared) (H : Hp) (E : XK), Room k (bx P w K mg base N x st f c A outer s H E).A → CT (bx P w K mg base N x st f c A outer s H E) (tabsT cs nd) nd c Pt → SSs (bx P w K mg base N x st f c A outer s H E) (tabsT cs nd) asg ch (defBody st) body) :
    FD P w K mg base (k + 1) x (spD K (tabsT cs nd) G) := by
  obtain ⟨f, c, Pt, fd, F, hm, TB, hP⟩ := D.ex
  exact ⟨f, fd, ps, hm, F.kp, F.binds hbd, fn_d F (C8.fnScope_by hS) hN hG fun A outer s H E hr => hb f c Pt A outer s H E hr (ct_bx TB hP)⟩
theorem fd_l {G : LF} (D : DefAt K mg base cs x st) (hS : C8.scC N ps (defScope st) = true) (hN : N.length = ps.length + nn)
    (hbd : ∀ (kV doc pm : Value) (an : Option Addr) (cdv ct : Value) (us : List Value), us.length = ps.length → bindArgs (PySem.W.fnOf x x (defArgs st) (defBody st) (defScope st) .none kV doc pm an cdv ct) ⟨us, []⟩ = pure (ps.zip us))
    (hG : ∀ ds0 ds, G ds0 ds = runL ps.length nn body ds0 ds) (h0 : asg.contains 0 = false)
    (hb : ∀ (f c Pt : Addr) (A : Around) (outer : List Env) (s : Shared) (H : Hp) (E : XK), Room k (bx P w K mg base N x st f c A outer s H E).A → CT (bx P w K mg base N x st f c A outer s H E) (tabsT cs nd) nd c Pt → SSs (bx P w K mg base N x st f c A outer s H E) (tabsT cs nd) asg ch (defBody st) body) :
    FD P w K mg base (k + 1) x (spL K (tabsT cs nd) G) := by
  obtain ⟨f, c, Pt, fd, F, hm, TB, hP⟩ := D.ex
  exact ⟨f, fd, ps, hm, F.kp, F.binds hbd, fn_l F (C8.fnScope_by hS) hN (by simpa using h0) hG fun A outer s H E hr => hb f c Pt A outer s H E hr (ct_bx TB hP)⟩
theorem fd_zero (D : DefAt K mg base cs x st) (hS : C8.scC N ps (defScope st) = true)
    (hbd : ∀ (kV doc pm : Value) (an : Option Addr) (cdv ct : Value) (us : List Value), us.length = ps.length → bindArgs (PySem.W.fnOf x x (defArgs st) (defBody st) (defScope st) .none kV doc pm an cdv ct) ⟨us, []⟩ = pure (ps.zip us)) :
    FD P w K mg base k x (spD K (tabsT cs nd) fun _ => none) := by
  obtain ⟨f, c, Pt, fd, F, hm, TB, hP⟩ := D.ex
  refine ⟨f, fd, ps, hm, F.kp, F.binds hbd, fun vs H Q E ⟨_, _, _, _, _, _, e, _⟩ => ?_, fun A outer s H args us vs Q E hr e0 hb r ⟨_, _, _, _, _, _, e, _⟩ => ?_⟩
  · cases e
  · cases e
/-! ### a def that gives a new list -/
def spN (K : PySem.W.Frag) (T : Tbs) (F : NF) : Sp := fun vs H Q _ => ∃ Out ds d, TH T H ∧ (∀ b, Out b → H b ≠ none) ∧ RDs K H Out vs ds ∧ F ds = some d ∧
  ∀ a us H', TH T H' → Stay No H H' → H a = none → H' a = some (.lst us) → RDs K H' (OutA Out a) us d → Q (.ref a) H'
def runN (np nn : Nat) (f : M (List PyData)) : NF := fun ds => if ds.length = np then (match f (ds.map (fun d => some (.val d)) ++ List.replicate nn none) with
    | some (es, _) => some es
    | none => none) else none
theorem fd_n {G : NF} {rs ch : List Nat} {fl : M (List PyData)} {e : Expr} {rp : Pos} (D : DefAt K mg base cs x st) (hS : C8.scC N ps (defScope st) = true) (hN : N.length = ps.length + nn)
    (hbd : ∀ (kV doc pm : Value) (an : Option Addr) (cdv ct : Value) (us : List Value), us.length = ps.length → bindArgs (PySem.W.fnOf x x (defArgs st) (defBody st) (defScope st) .none kV doc pm an cdv ct) ⟨us, []⟩ = pure (ps.zip us))
    (hB : defBody st = [.Return (some e) rp]) (hG : ∀ ds, G ds = runN ps.length nn fl ds)
    (hb : ∀ (f c Pt : Addr) (A : Around) (outer : List Env) (s : Shared) (H : Hp) (E : XK), Room k (bx P w K mg base N x st f c A outer s H E).A → CT (bx P w K mg base N x st f c A outer s H E) (tabsT cs nd) nd c Pt → SF (bx P w K mg base N x st f c A outer s H E) (tabsT cs nd) rs ch e fl) :
    FD P w K mg base (k + 1) x (spN K (tabsT cs nd) G) := by
  obtain ⟨f, c, Pt, fd, F, hm, TB, hP⟩ := D.ex
  refine ⟨f, fd, ps, hm, F.kp, F.binds hbd, ?_⟩
  obtain ⟨oc, od, kV, doc, pm, an, ct, osl, rfl, lk, hcd⟩ := F.ex
  have hlen : ∀ vs H Q E, spN K (tabsT cs nd) G vs H Q E → vs.length = ps.length := fun vs H Q E ⟨Out, ds, d, _, _, r, e, _⟩ => by
    rw [hG] at e
    unfold runN at e
    split at e
    · rename_i h; rw [r.length, h]
    · cases e
  refine fn_of lk hcd (C8.fnScope_by hS) hlen fun A outer s H vs Q E hr hsp => ?_
  have hS2 : PSs (bx P w K mg base N x st f c A outer s H E) (defBody st) (tRet (tF K (tabsT cs nd) rs ch fl)) := by
    rw [hB]
    exact pss_one (ps_ret (hb f c Pt A outer s H E hr (ct_bx TB hP)))
  refine ⟨_, hS2.nox, ?_⟩
  have hl := hlen _ _ _ _ hsp
  obtain ⟨Out, ds, d, th, hO, r, e, q⟩ := hsp
  rw [hG] at e
  unfold runN at e
  have hds : ds.length = ps.length := by rw [← r.length]; exact hl
  rw [if_pos hds] at e
  have R := rep_start (nn := nn) (N := N) (ps := ps) hO r hds hN
  split at e
  · rename_i es st' e1
    cases e
    refine ⟨Out, _, _, _, th, R, e1, fun a us H' p ra ha ha' rr => ?_⟩
    refine q a us H' p.th (p.stay.mono fun b ⟨i, _, ⟨⟨es, z, hm⟩, _⟩⟩ => vals_noown (nn := nn) (ds := ds) i es hm z) ha ha' (RDs.mono (fun b z => ?_) _ rr)
    exact .inl z
  · cases e
theorem Rep.newG {K : PySem.W.Frag} {Out : Addr → Prop} {st : Dn} {σ : L2.St} {H H' : Hp} {a : Addr} (R : Rep K Out st σ H) (s : Stay No H H') (hn : H a = none) (ha : H' a ≠ none) : Rep K (OutA Out a) st σ H' := by
  have fr : ∀ b, Ob (OutA Out a) st σ [] b → Ob Out st σ [] b ∨ H b = none := fun b z => by
    rcases z with (z | z) | ⟨i, m, z⟩
    · exact .inl (.inl z)
    · exact .inr (by rw [z]; exact hn)
    · exact .inl (.inr ⟨i, m, z⟩)
  refine ⟨R.len, fun b z => ?_, fun i d e => ?_, fun i ds e => ?_, fun i x e hx => ?_, R.sep⟩
  · rcases z with z | z
    · exact s.there b (R.out b z)
    · rw [z]; exact ha
  · obtain ⟨v, q1, q2⟩ := R.val i d e
    exact ⟨v, q1, RD.keep s (fun _ z => z.elim) d (RD.freshO fr d q2)⟩
  · obtain ⟨b, vs, q1, q2, q3, q4⟩ := R.own i ds e
    refine ⟨b, vs, q1, fun z => ?_, s.keep _ _ q3 (fun z => z) (fun ps z => by cases z), RDs.keep s (fun _ z => z.elim) ds (RDs.freshO fr ds q4)⟩
    rcases z with z | z
    · exact q2 z
    · rw [z, hn] at q3; cases q3
  · obtain ⟨b, o, q1, q2, q3, q4⟩ := R.dct i x e hx
    refine ⟨b, o, q1, fun z => ?_, s.keep _ _ q3 (fun z => z) q4.tbl, q4.keep s⟩
    rcases z with z | z
    · exact q2 z
    · rw [z, hn] at q3; cases q3
theorem sf_call {X : Cx} {T T0 : Tbs} {rs ch : List Nat} {k : Nat} {GN : NF} {x : Str} {e : Expr} {es : List Expr} {p pos : Pos} {fs : M (List PyData)} (F : FD X.prog X.w X.K X.mg X.base k x (spN X.K T0 GN)) (hT : ∀ H, TH T H → TH T0 H) (hr : Room k X.A) (hg : Gl X x) (ha : SA X T rs ch (e :: es) fs) (hdb : (x == ("__debug__" : Str)) = false := by decide)
    (he : starEach (e :: es) X.env = (false, eval e X.env) :: starEach es X.env := by rfl) (hpl : (backTo pos (starEach es X.env)).any (·.1) = false := by rfl) : SF X T rs ch (.Call (.Name x p) (e :: es) [] pos) (liftL GN fs) := by
  obtain ⟨fa, fd, ps, h1, h2, h3, h4⟩ := F.ex
  refine PE.imp (pe_call h4 hr hg h1 h2 h3 .nil pass0 ha hdb he hpl) fun σ H Q ⟨Out, st, d, st', th, R, e, q⟩ => ?_
  obtain ⟨ds, e1, e2⟩ := liftL_some e
  refine ⟨Out, st, ds, st', th, R, e1, fun vs H1 p1 r1 => ?_⟩
  show spN X.K T0 GN (vs ++ []) H1 Q E0
  rw [List.append_nil]
  refine ⟨Ob Out st' σ rs, ds, d, hT _ p1.th, p1.rep.obThere, r1, e2, fun a us H' th' s hn ha' rr => ?_⟩
  have p2 := p1.then s
  refine q a us H' p2 (p1.rep.newG s hn (by rw [ha']; intro z; cases z)) (hnone p1.stay hn) ha' (RDs.mono (fun b z => ?_) _ rr)
  rcases z with (z | z) | z
  · exact .inl (.inl z)
  · exact .inr z
  · exact .inl (.inr z)
end
end LH

set_option Elab.async false
set_option linter.all false
set_option maxRecDepth 100000
set_option maxHeartbeats 2000000
/-! Lh17: the head's facts, the law's end -/
namespace LH
open PySem PySem.Spec PyProof.Rows L2
open LamX (TabB LawAtS)
open He

def isLst (o : Obj) : Bool := match o.cls with
  | .type T => T == "list"
  | _ => false
/-- a part of the heap without empty tables, without lists -/
def frL (g : Addr → Option Obj) (as : List Addr) : PySem.W.Frag := (frG g as).filter fun q => !emptyTab q.2 && !isLst q.2
theorem frL_mem {g : Addr → Option Obj} {as : List Addr} {a : Addr} {o : Obj} (h : (frL g as).lookup a = some o) : g a = some o ∧ emptyTab o = false ∧ isLst o = false := by
  obtain ⟨h1, h2⟩ := List.mem_filter.mp (lookup_mem h)
  simp only [Bool.and_eq_true, Bool.not_eq_true'] at h2
  exact ⟨frG_mem h1, h2⟩
theorem frL_none {g : Addr → Option Obj} {as : List Addr} {a : Addr} {o : Obj} (h : g a = some o) (ht : emptyTab o = true) : (frL g as).lookup a = none := by
  cases e : (frL g as).lookup a with
  | none => rfl
  | some u =>
    obtain ⟨h1, h2, _⟩ := frL_mem e
    rw [h] at h1
    rw [← Option.some.inj h1, ht] at h2
    cases h2
structure SaysL (fa : List Fa) (fn : List DefD) (tf : List Defn) (h : Heap) (K : PySem.W.Frag) : Prop where
  d : SaysD fa fn K
  hd : ∀ p ∈ tf, PySem.W.codeHdIn K (cT K p).1 (cT K p).2 = true
  out : ∀ p ∈ tf, K.lookup (cT K p).2 = none
  empty : ∀ p ∈ tf, h.get? (cT K p).2 = some { cls := .none, data := .fields #[] }
  nol : ∀ a o, K.lookup a = some o → isLst o = false
abbrev AlL : Type := AlD × Bool
def obsL (n : Nat) (fa : List Fa) (fn : List DefD) (tf : List Defn) (g : Addr → Option Obj) : AlL := (obsD fa fn (frL g (asD g n)), tabsB g tf (frL g (asD g n)))
def valL (fn : List DefD) : AlL := (valD fn, true)
theorem saysL_of {n : Nat} {fa : List Fa} {fn : List DefD} {tf : List Defn} {h : Heap} (e : obsL n fa fn tf h.get? = valL fn) : SaysL fa fn tf h (frL h.get? (asD h.get? n)) := by
  have e1 : obsD fa fn (frL h.get? (asD h.get? n)) = valD fn := congrArg (fun z : AlL => z.1) e
  have e2 : tabsB h.get? tf (frL h.get? (asD h.get? n)) = true := congrArg (fun z : AlL => z.2) e
  have key : ∀ p ∈ tf, PySem.W.codeHdIn (frL h.get? (asD h.get? n)) (cT (frL h.get? (asD h.get? n)) p).1 (cT (frL h.get? (asD h.get? n)) p).2 = true ∧ ∃ o, h.get? (cT (frL h.get? (asD h.get? n)) p).2 = some o ∧ emptyTab o = true := fun p hp => by
    have z := List.all_eq_true.mp e2 p hp
    simp only [Bool.and_eq_true] at z
    refine ⟨z.1, ?_⟩
    cases q : h.get? (cT (frL h.get? (asD h.get? n)) p).2 with
    | none => rw [q] at z; exact absurd z.2 (by simp)
    | some o => rw [q] at z; exact ⟨o, rfl, z.2⟩
  refine ⟨e1, fun p hp => (key p hp).1, fun p hp => ?_, fun p hp => ?_, fun a o l => (frL_mem l).2.2⟩
  · obtain ⟨_, o, q, z⟩ := key p hp
    exact frL_none q z
  · obtain ⟨_, o, q, z⟩ := key p hp
    rw [q, emptyTab_eq z]
def hookL (n : Nat) (fa : List Fa) (fn : List DefD) (tf : List Defn) : PySem.W.Hook where
  α := AlL
  obs := fun s => obsL n fa fn tf s.heap.get?
  val := fun _ => valL fn
  says := fun _ h => ∃ K : PySem.W.Frag, K.In h ∧ SaysL fa fn tf h K
  of := fun _ _ e => ⟨_, fun _ _ l => (frL_mem l).1, saysL_of e⟩
  keeps := fun _ _ _ ⟨K, hK, c⟩ k => ⟨K, PySem.W.Frag.In.keeps hK k, ⟨c.d, c.hd, c.out, fun p hp => k _ _ (c.empty p hp), c.nol⟩⟩
theorem obsL_eq {n : Nat} {fa : List Fa} {fn : List DefD} {tf : List Defn} {g : Addr → Option Obj} {s : Shared} (h : ∀ a, g a = s.heap.get? a) : obsL n fa fn tf g = (hookL n fa fn tf).obs s := by
  have e : g = s.heap.get? := funext h
  rw [e] <;> rfl

/-- a def's datum -/
abbrev dOf (x : Str) (st : Stmt) : DefD := ⟨(x, none), x, x, defArgs st, defBody st, defScope st, [], []⟩
section
variable {fa : List Fa} {fn : List DefD} {tf : List Defn} {h base : Heap} {K : PySem.W.Frag} {mg : Str → Option Value}
theorem defAt_of {x : Str} {st : Stmt} {i j : Nat} (c : SaysL fa fn tf h K) (X : K.In h) (G : h.Ns mainGlobals mg) (TB : ∀ p ∈ tf.map (cT K), TabB base mg p.1 p.2) (hi : fn[i]? = some (dOf x st)) (hj : fa[j]? = some (.glo x)) (ht : (x, none) ∈ tf) :
    DefAt K mg base ((tf.map (cT K)).map (·.2)) x st := by
  obtain ⟨fd, F⟩ := c.d.def_ i hi
  have hg := glo_ok X G (c.d.fact j hj)
  obtain ⟨oc, od, dV, kV, doc, pm, an, cdv, ct, osl, rfl, lk, hcd, hD, hK⟩ := F.ex
  obtain ⟨cc, rfl⟩ := codeIn_ref hcd
  have hcc : codeOf K (x, none) = cc := codeOf_eq lk rfl
  have hdV : dV = .none := by
    rcases hD with ⟨_, e⟩ | ⟨e, _⟩
    · exact e
    · exact absurd rfl e
  subst hdV
  refine ⟨fAd K (x, none), cc, tabOf K cc, _, fun2_mk lk hcd F.kp, hg, ?_, ?_⟩
  · have := TB (cT K (x, none)) (List.mem_map.mpr ⟨_, ht, rfl⟩)
    unfold cT at this
    rw [hcc] at this
    exact this
  · refine List.mem_map.mpr ⟨cT K (x, none), List.mem_map.mpr ⟨_, ht, rfl⟩, ?_⟩
    show tabOf K (codeOf K (x, none)) = _
    rw [hcc]
theorem rds_script {K : PySem.W.Frag} {H : Hp} {O : Addr → Prop} (ns : List Int) : RDs K H O (ns.map V.int) (ns.map PyData.int) := rds_of_ints ns
theorem lawAt_of {l : PySem.W.OpenLaw} {w : World} {fl : Addr} {st : Stmt} {i j nn k nd : Nat} {N : List Str} {body : M Fl} {asg ch : List Nat} {F : DF} (KX : K.In h) (c : SaysL fa fn tf h K) (G : h.Ns mainGlobals mg) (hfa : mg "law" = some (.ref fl))
    (hi : fn[i]? = some (dOf "law" st)) (hj : fa[j]? = some (.glo "law")) (ht : (("law" : Str), none) ∈ tf) (hS : C8.scC N ["script"] (defScope st) = true) (hN : N.length = 1 + nn)
    (hbd : ∀ (kV doc pm : Value) (an : Option Addr) (cdv ct : Value) (us : List Value), us.length = 1 → bindArgs (PySem.W.fnOf "law" "law" (defArgs st) (defBody st) (defScope st) .none kV doc pm an cdv ct) ⟨us, []⟩ = pure ((["script"] : List Str).zip us))
    (hG : ∀ ds, F ds = runD 1 nn body ds)
    (hb : ∀ base : Heap, K.In base → base.Ns mainGlobals mg → (∀ p ∈ tf.map (cT K), TabB base mg p.1 p.2) → ∀ (f c Pt : Addr) (A : Around) (outer : List Env) (s : Shared) (H : Hp) (E : XK), Room k (bx l.prog w K mg base N "law" st f c A outer s H E).A →
      CT (bx l.prog w K mg base N "law" st f c A outer s H E) (tabsT ((tf.map (cT K)).map (·.2)) nd) nd c Pt → SSs (bx l.prog w K mg base N "law" st f c A outer s H E) (tabsT ((tf.map (cT K)).map (·.2)) nd) asg ch (defBody st) body)
    (hlaw : ∀ ns : List Int, ns.length ≤ 63 → (∀ z ∈ ns, Builtin.Int.intBits z ≤ 1048576) → F [.list (ns.map .int)] = some (.bool true)) : LawAtS l w K CX0 (k + 1) 63 "script" mg fl h := by
  obtain ⟨fd, FD0⟩ := c.d.def_ i hi
  have hg := glo_ok KX G (c.d.fact j hj)
  have hfl : fl = fAd K (("law" : Str), none) := by
    rw [hg] at hfa
    cases hfa
    rfl
  subst hfl
  have hbA := FunD.bindsA (ps := ["script"]) FD0 fun kV doc pm an cdv ct us hl => hbd kV doc pm an cdv ct us hl
  obtain ⟨oc, od, dV, kV, doc, pm, an, cdv, ct, osl, rfl, lk, hcd, hD, hK⟩ := FD0.ex
  obtain ⟨cc, rfl⟩ := codeIn_ref hcd
  have hcc : codeOf K (("law" : Str), none) = cc := codeOf_eq lk rfl
  have hdV : dV = .none := by
    rcases hD with ⟨_, e⟩ | ⟨e, _⟩
    · exact e
    · exact absurd rfl e
  subst hdV
  have F2 : Fun2 K "law" "law" st (fAd K (("law" : Str), none)) cc _ := fun2_mk lk hcd FD0.kp
  refine ⟨_, tf.map (cT K), spD K (tabsT ((tf.map (cT K)).map (·.2)) nd) F, fun p hp => ?_, fun p hp => ?_, fun p hp => ?_, fun s v => hbA s [v] rfl, fun H a ns hl hbits hT hSq => ?_, fun base hKb hNs TB => ?_⟩
  · obtain ⟨q, hq, rfl⟩ := List.mem_map.mp hp
    exact c.empty q hq
  · obtain ⟨q, hq, rfl⟩ := List.mem_map.mp hp
    exact c.out q hq
  · obtain ⟨q, hq, rfl⟩ := List.mem_map.mp hp
    exact PySem.W.codeHd_of_K KX (c.hd q hq)
  · have hRd : Rd H a (.lst (ns.map V.int)) := by
      rcases hSq with z | ⟨o, its, n, lo, hc, _⟩
      · exact z
      · have := c.nol a o lo
        unfold isLst at this
        rw [hc] at this
        simp at this
    refine ⟨No, [.list (ns.map .int)], .bool true, fun P hP => ?_, fun b z => z.elim, .cons (.lst hRd (.inl fun z => z) (rds_of_ints ns)) .nil, hlaw ns hl hbits, fun v H' _ _ r => ?_⟩
    · obtain ⟨p, hp, rfl⟩ := List.mem_map.mp hP
      exact TabD.nil (hT p hp) nd
    · cases r; rfl
  · have TBl := TB (cT K (("law" : Str), none)) (List.mem_map.mpr ⟨_, ht, rfl⟩)
    have e1 : cT K (("law" : Str), none) = (cc, tabOf K cc) := by unfold cT; rw [hcc]
    rw [e1] at TBl
    have hPm : tabOf K cc ∈ (tf.map (cT K)).map (·.2) := List.mem_map.mpr ⟨_, List.mem_map.mpr ⟨_, ht, rfl⟩, by rw [e1]⟩
    exact fn_d F2 (C8.fnScope_by hS) hN hG fun A outer s H E hr => hb base hKb hNs TB _ cc _ A outer s H E hr (ct_bx TBl hPm)
end
end LH

set_option Elab.async false
set_option linter.all false
set_option maxRecDepth 100000
set_option maxHeartbeats 2000000
/-! Lh18: what the denotations give, in plain Lean: loops, ints, sameness -/
namespace LH
open PySem PySem.Spec PyProof.Rows L2

/-! ### small steps -/
theorem frzD_nil (d : PyData) (st : Dn) : frzD [] d st = st := by unfold frzD; split <;> rfl
theorem frzL_nil (ds : List PyData) (st : Dn) : frzL [] ds st = st := by unfold frzL; split <;> rfl
theorem sq_nx {f g : M Fl} {st st1 : Dn} (h : f st = some (.nx, st1)) : sq f g st = g st1 := by unfold sq; rw [h]
theorem sq_rt {f g : M Fl} {st st1 : Dn} {d : PyData} (h : f st = some (.rt d, st1)) : sq f g st = some (.rt d, st1) := by unfold sq; rw [h]
theorem setM_eq {f : M PyData} {st st1 : Dn} {d : PyData} {i : Nat} (h : f st = some (d, st1)) : setM i [] f st = some (.nx, st1.set i (some (.val d))) := by unfold setM; rw [h]; simp only [frzD_nil]
theorem setO_eq {f : M (List PyData)} {st st1 : Dn} {ds : List PyData} {i : Nat} (h : f st = some (ds, st1)) : setO i [] f st = some (.nx, st1.set i (some (.own ds))) := by unfold setO; rw [h]; simp only [frzL_nil]
theorem retM_eq {f : M PyData} {st st1 : Dn} {d : PyData} (h : f st = some (d, st1)) : retM [] f st = some (.rt d, st1) := by unfold retM; rw [h]; simp only [frzD_nil]
theorem iteM_t {α : Type} {c : M Bool} {f g : M α} {st st1 : Dn} (h : c st = some (true, st1)) : iteM c f g st = f st1 := by unfold iteM; rw [h]
theorem iteM_f {α : Type} {c : M Bool} {f g : M α} {st st1 : Dn} (h : c st = some (false, st1)) : iteM c f g st = g st1 := by unfold iteM; rw [h]
theorem lift1_eq {α : Type} {op : PyData → Option α} {f : M PyData} {st st1 : Dn} {a : PyData} {d : α} (h : f st = some (a, st1)) (h2 : op a = some d) : lift1 op f st = some (d, st1) := by unfold lift1; rw [h]; simp only; rw [h2]
theorem lift2_eq {α : Type} {op : PyData → PyData → Option α} {f g : M PyData} {st st1 st2 : Dn} {a b : PyData} {d : α} (h : f st = some (a, st1)) (h1 : g st1 = some (b, st2)) (h2 : op a b = some d) : lift2 op f g st = some (d, st2) := by
  unfold lift2; rw [h]; simp only; rw [h1]; simp only; rw [h2]
theorem cons_eq {f : M PyData} {g : M (List PyData)} {st st1 st2 : Dn} {a : PyData} {r : List PyData} (h : f st = some (a, st1)) (h1 : g st1 = some (r, st2)) : consM f g st = some (a :: r, st2) := by
  unfold consM; rw [h]; simp only; rw [h1]
theorem nil_eq {st : Dn} : nilM st = some ([], st) := rfl
theorem vr_eq {i : Nat} {st : Dn} {d : PyData} (h : st[i]? = some (some (.val d))) : vr i st = some (d, st) := by unfold vr; rw [h]
theorem vo_own {i : Nat} {st : Dn} {ds : List PyData} (h : st[i]? = some (some (.own ds))) : vo i st = some (.list ds, st) := by unfold vo; rw [h]
theorem seqV_eq {i : Nat} {st : Dn} {d : PyData} {ds : List PyData} (h : st[i]? = some (some (.val d))) (h2 : seqOf d = some ds) : seqV i st = some (ds, st) := by unfold seqV; rw [h]; simp only; rw [h2]
theorem cst_eq {d : PyData} {st : Dn} : cst d st = some (d, st) := rfl
theorem callD_eq {G : DF} {fs : M (List PyData)} {st st1 : Dn} {ds : List PyData} {d : PyData} (h : fs st = some (ds, st1)) (h2 : G ds = some d) : callD G fs st = some (d, st1) := by unfold callD; rw [h]; simp only; rw [h2]
theorem liftL_eq {α : Type} {op : List PyData → Option α} {f : M (List PyData)} {st st1 : Dn} {ds : List PyData} {d : α} (h : f st = some (ds, st1)) (h2 : op ds = some d) : liftL op f st = some (d, st1) := by unfold liftL; rw [h]; simp only; rw [h2]
theorem callL_eq {GL : LF} {i : Nat} {fs : M (List PyData)} {st st1 : Dn} {ds ds0 ds1 es : List PyData} {d : PyData} (h0 : st[i]? = some (some (.own ds1))) (h : fs st = some (ds, st1)) (h1 : st1[i]? = some (some (.own ds0))) (h2 : GL ds0 ds = some (d, es)) :
    callL GL i fs st = some (d, st1.set i (some (.own es))) := by unfold callL; rw [h0]; simp only; rw [h]; simp only; rw [h1]; simp only; rw [h2]
theorem notM_eq {f : M Bool} {st st1 : Dn} {b : Bool} (h : f st = some (b, st1)) : notM f st = some (!b, st1) := by unfold notM; rw [h]
theorem orM_f {f g : M Bool} {st st1 : Dn} (h : f st = some (false, st1)) : orM f g st = g st1 := by unfold orM; rw [h]
theorem orM_t {f g : M Bool} {st st1 : Dn} (h : f st = some (true, st1)) : orM f g st = some (true, st1) := by unfold orM; rw [h]
theorem andM_t {f g : M Bool} {st st1 : Dn} (h : f st = some (true, st1)) : andM f g st = g st1 := by unfold andM; rw [h]
theorem andM_f {f g : M Bool} {st st1 : Dn} (h : f st = some (false, st1)) : andM f g st = some (false, st1) := by unfold andM; rw [h]
theorem blM_eq {g : M Bool} {st st1 : Dn} {b : Bool} (h : g st = some (b, st1)) : blM g st = some (.bool b, st1) := by unfold blM; rw [h]
theorem tuM_eq {f : M (List PyData)} {st st1 : Dn} {ds : List PyData} (h : f st = some (ds, st1)) : tuM f st = some (.tuple ds, st1) := by unfold tuM; rw [h]
theorem tupM_eq {f : M (List PyData)} {st st1 : Dn} {ds : List PyData} (h : f st = some (ds, st1)) (hl : ds.length ≤ sizeLine) : tupM f st = some (.tuple ds, st1) := by unfold tupM; rw [h]; simp only; rw [if_pos hl]
theorem lstM_eq {f : M (List PyData)} {st st1 : Dn} {ds : List PyData} (h : f st = some (ds, st1)) (hl : ds.length ≤ sizeLine) : lstM f st = some (ds, st1) := by unfold lstM; rw [h]; simp only; rw [if_pos hl]
theorem forM_eq {it : M (List PyData)} {g : PyData → Dn → Option Dn} {body : M Fl} {st st1 : Dn} {ds : List PyData} (h : it st = some (ds, st1)) : forM it g body st = forGo g body ds st1 := by unfold forM; rw [h]
theorem runD_eq {np nn : Nat} {body : M Fl} {ds : List PyData} {st : Dn} {d : PyData} (hl : ds.length = np) (h : body (ds.map (fun d => some (.val d)) ++ List.replicate nn none) = some (.rt d, st)) : runD np nn body ds = some d := by unfold runD; rw [if_pos hl, h]
theorem runL_eq {np nn : Nat} {body : M Fl} {ds0 ds es : List PyData} {st : Dn} {d : PyData} (hl : ds.length + 1 = np) (h : body (some (.own ds0) :: ds.map (fun d => some (.val d)) ++ List.replicate nn none) = some (.rt d, st)) (ho : st[0]? = some (some (.own es))) : runL np nn body ds0 ds = some (d, es) := by
  unfold runL; rw [if_pos hl, h]; simp only [ownOf, ho]

/-! ### places -/
theorem atI_nat {α : Type} {xs : List α} {i : Int} {a : α} {j : Nat} (h : xs[j]? = some a) (e : i = j) : atI xs i = some a := by
  have hj : j < xs.length := get_lt h
  unfold atI ixN
  subst e
  rw [if_pos (by omega), if_pos (by omega)]
  simpa using h
theorem ixD_t {xs : List PyData} {i : Int} {a : PyData} {j : Nat} (h : xs[j]? = some a) (e : i = j) : ixD (.tuple xs) (.int i) = some a := atI_nat h e
theorem ixD_l {xs : List PyData} {i : Int} {a : PyData} {j : Nat} (h : xs[j]? = some a) (e : i = j) : ixD (.list xs) (.int i) = some a := atI_nat h e

/-! ### loops -/
inductive All2 (R : PyData → PyData → Prop) : List PyData → List PyData → Prop
  | nil : All2 R [] []
  | cons {a b : PyData} {as bs : List PyData} : R a b → All2 R as bs → All2 R (a :: as) (b :: bs)
theorem All2.eq : ∀ {as bs : List PyData}, All2 (fun d y => y = d) as bs → bs = as
  | _, _, .nil => rfl
  | _, _, .cons h t => by rw [h, All2.eq t]
theorem All2.len {R : PyData → PyData → Prop} : ∀ {as bs : List PyData}, All2 R as bs → bs.length = as.length
  | _, _, .nil => rfl
  | _, _, .cons _ t => by rw [List.length_cons, List.length_cons, All2.len t]
theorem All2.map {α : Type} {P : α → Prop} {f : α → PyData} : ∀ {as bs : List PyData}, All2 (fun _ y => ∃ x, y = f x ∧ P x) as bs → ∃ xs : List α, bs = xs.map f ∧ ∀ x ∈ xs, P x
  | _, _, .nil => ⟨[], rfl, by simp⟩
  | _, _, .cons ⟨x, e, hx⟩ t => by
    obtain ⟨xs, e2, h⟩ := All2.map t
    exact ⟨x :: xs, by rw [e, e2]; rfl, fun y hy => (List.mem_cons.mp hy).elim (fun z => z ▸ hx) (h y)⟩
theorem forGo_inv {g : PyData → Dn → Option Dn} {body : M Fl} {I : Nat → Dn → Prop} : ∀ (ds : List PyData) (n : Nat), (∀ j d, ds[j]? = some d → ∀ st, I (n + j) st → ∃ st1 st2, g d st = some st1 ∧ body st1 = some (.nx, st2) ∧ I (n + j + 1) st2) →
    ∀ st, I n st → ∃ st', forGo g body ds st = some (.nx, st') ∧ I (n + ds.length) st'
  | [], n, _, st, hi => ⟨st, rfl, hi⟩
  | d :: ds, n, h, st, hi => by
    obtain ⟨st1, st2, h1, h2, h3⟩ := h 0 d rfl st hi
    obtain ⟨st', e, k⟩ := forGo_inv ds (n + 1) (fun j d' hj st hI => by
      have := h (j + 1) d' (by simpa using hj) st (by rw [show n + (j + 1) = n + 1 + j from by omega]; exact hI)
      rw [show n + (j + 1) + 1 = n + 1 + j + 1 from by omega] at this
      exact this) st2 h3
    refine ⟨st', ?_, by rw [List.length_cons, show n + (ds.length + 1) = n + 1 + ds.length from by omega]; exact k⟩
    simp only [forGo, h1, h2, e]
theorem forM_inv {it : M (List PyData)} {g : PyData → Dn → Option Dn} {body : M Fl} {st st1 : Dn} {ds : List PyData} (I : Nat → Dn → Prop) (h : it st = some (ds, st1)) (h0 : I 0 st1)
    (hs : ∀ j d, ds[j]? = some d → ∀ st, I j st → ∃ st1 st2, g d st = some st1 ∧ body st1 = some (.nx, st2) ∧ I (j + 1) st2) : ∃ st', forM it g body st = some (.nx, st') ∧ I ds.length st' := by
  rw [forM_eq h]
  obtain ⟨st', e, k⟩ := forGo_inv (I := I) ds 0 (fun j d hj st hI => by
    rw [Nat.zero_add] at hI ⊢
    exact hs j d hj st hI) st1 h0
  exact ⟨st', e, by rw [Nat.zero_add] at k; exact k⟩
/-- a list comprehension whose parts leave the state -/
theorem lcGo_pure {vs : List Nat} {g : PyData → Dn → Option Dn} {c : M Bool} {elt : M PyData} {p : PyData → Bool} {f : PyData → PyData} {st : Dn} : ∀ (ds : List PyData),
    (∀ d ∈ ds, ∃ st1, g d st = some st1 ∧ c st1 = some (p d, st1) ∧ (p d = true → elt st1 = some (f d, st1)) ∧ wipeD st1 vs = st) → lcGo vs g c elt ds st = some ((ds.filter p).map f, st)
  | [], _ => rfl
  | d :: ds, h => by
    obtain ⟨st1, h1, h2, h3, h4⟩ := h d (List.mem_cons_self ..)
    have ih := lcGo_pure (vs := vs) (g := g) (c := c) (elt := elt) (p := p) (f := f) ds fun d hd => h d (List.mem_cons_of_mem _ hd)
    cases hp : p d with
    | false => rw [hp] at h2; simp only [lcGo, h1, h2, h4, ih, List.filter_cons, hp]; rfl
    | true => rw [hp] at h2; simp only [lcGo, h1, h2, h3 hp, h4, ih, List.filter_cons, hp]; rfl
theorem lcM_pure {vs : List Nat} {it : M (List PyData)} {g : PyData → Dn → Option Dn} {c : M Bool} {elt : M PyData} {p : PyData → Bool} {f : PyData → PyData} {st : Dn} {ds : List PyData} (h : it st = some (ds, st)) (hw : wipeD st vs = st) (hno : noOwn st vs = true) (hr : restore st st vs = st) (hl : ds.length ≤ sizeLine)
    (hs : ∀ d ∈ ds, ∃ st1, g d st = some st1 ∧ c st1 = some (p d, st1) ∧ (p d = true → elt st1 = some (f d, st1)) ∧ wipeD st1 vs = st) : lcM vs it g c elt st = some ((ds.filter p).map f, st) := by
  unfold lcM
  rw [h]
  simp only [hno, hw, lcGo_pure ds hs, hr, if_true]
  rw [if_pos]
  rw [List.length_map]
  exact Nat.le_trans (List.length_filter_le _ _) hl
/-- with a state carried on: J the state, R what has come out so far -/
theorem lcGo_inv {vs : List Nat} {g : PyData → Dn → Option Dn} {c : M Bool} {elt : M PyData} {J : Dn → Prop} {R : PyData → PyData → Prop} : ∀ (ds : List PyData),
    (∀ d ∈ ds, ∀ st, J st → ∃ st1 st2 b, g d st = some st1 ∧ c st1 = some (b, st2) ∧ (b = false → J (wipeD st2 vs)) ∧ (b = true → ∃ y st3, elt st2 = some (y, st3) ∧ R d y ∧ J (wipeD st3 vs))) →
    ∀ st, J st → ∃ es ys st', lcGo vs g c elt ds st = some (ys, st') ∧ J st' ∧ List.Sublist es ds ∧ All2 R es ys
  | [], _, st, hj => ⟨[], [], st, rfl, hj, .slnil, .nil⟩
  | d :: ds, h, st, hj => by
    obtain ⟨st1, st2, b, h1, h2, h3, h4⟩ := h d (List.mem_cons_self ..) st hj
    cases b with
    | false =>
      obtain ⟨es, ys, st', e, k, s, r⟩ := lcGo_inv ds (fun d hd => h d (List.mem_cons_of_mem _ hd)) _ (h3 rfl)
      exact ⟨es, ys, st', by simp only [lcGo, h1, h2, e], k, s.cons d, r⟩
    | true =>
      obtain ⟨y, st3, e3, hr, k3⟩ := h4 rfl
      obtain ⟨es, ys, st', e, k, s, r⟩ := lcGo_inv ds (fun d hd => h d (List.mem_cons_of_mem _ hd)) _ k3
      exact ⟨d :: es, y :: ys, st', by simp only [lcGo, h1, h2, e3, e], k, s.cons_cons d, .cons hr r⟩
theorem genGo_pure {g : PyData → Dn → Option Dn} {c : M Bool} {inner : Dn → List (Option PyData)} {p : PyData → Bool} {f : PyData → PyData} {st : Dn} : ∀ (ds : List PyData),
    (∀ d ∈ ds, ∃ st1 st2, g d st = some st1 ∧ c st1 = some (p d, st2) ∧ (p d = true → inner st2 = [some (f d)])) → genGo g c inner ds st = ((ds.filter p).map f).map some
  | [], _ => rfl
  | d :: ds, h => by
    obtain ⟨st1, st2, h1, h2, h3⟩ := h d (List.mem_cons_self ..)
    have ih := genGo_pure (g := g) (c := c) (inner := inner) (p := p) (f := f) ds fun d hd => h d (List.mem_cons_of_mem _ hd)
    cases hp : p d with
    | false => rw [hp] at h2; simp only [genGo, h1, h2, ih, List.filter_cons, hp]; rfl
    | true => rw [hp] at h2; simp only [genGo, h1, h2, h3 hp, ih, List.filter_cons, hp]; rfl
theorem allGo_bools : ∀ (bs : List Bool), allGo ((bs.map PyData.bool).map some) = some (bs.all id)
  | [] => rfl
  | true :: bs => by simpa [allGo] using allGo_bools bs
  | false :: bs => rfl
theorem anyGo_bools : ∀ (bs : List Bool), anyGo ((bs.map PyData.bool).map some) = some (bs.any id)
  | [] => rfl
  | false :: bs => by simpa [anyGo] using anyGo_bools bs
  | true :: bs => rfl
theorem allSome_some : ∀ (ds : List PyData), allSome (ds.map some) = some ds
  | [] => rfl
  | d :: ds => by simp only [List.map_cons, allSome, allSome_some ds]; rfl
theorem tupGo_eq {ds : List PyData} (h : ds.length ≤ sizeLine) : tupGo (ds.map some) = some ds := by
  unfold tupGo; rw [allSome_some]; simp only; rw [if_pos h]
theorem useM_eq {α : Type} {g : List (Option PyData) → Option α} {r : α → PyData} {f : M (List (Option PyData))} {st st1 : Dn} {Tt : List (Option PyData)} {b : α} (h : f st = some (Tt, st1)) (h2 : g Tt = some b) : useM g r f st = some (r b, st1) := by
  unfold useM; rw [h]; simp only; rw [h2]
theorem genM_eq {vs : List Nat} {it : M (List PyData)} {outs : List PyData → Dn → List (Option PyData)} {st st1 : Dn} {ds : List PyData} (h : it st = some (ds, st1)) (hno : noOwn st1 vs = true) : genM vs it outs st = some (outs ds (wipeD st1 vs), st1) := by
  unfold genM; rw [h]; simp only [hno, if_true]

/-! ### data of ints -/
/-- the tuple of ints -/
abbrev tuI (xs : List Int) : PyData := .tuple (xs.map .int)
theorem canLay_ints : ∀ xs : List Int, PyData.canLayAll0 (xs.map .int) = true
  | [] => rfl
  | x :: xs => by simp [PyData.canLayAll0, PyData.canLay0, canLay_ints xs]
theorem depth_ints : ∀ xs : List Int, PyData.depthAll (xs.map .int) = 0
  | [] => rfl
  | x :: xs => by simp [PyData.depthAll, PyData.depth, depth_ints xs]
theorem shaped_int (i : Int) : SeqAt.shaped (.int i) = true := rfl
theorem shaped_tuI (xs : List Int) : SeqAt.shaped (tuI xs) = true := by
  simp [SeqAt.shaped, PyData.canLay0, PyData.depth, canLay_ints, depth_ints]
theorem eqv_ints : ∀ (xs : List Int) (i : Int), ((xs.map PyData.int).any fun z => PyData.eqv z (.int i)) = decide (i ∈ xs)
  | [], i => by simp
  | x :: xs, i => by
    rw [List.map_cons, List.any_cons, eqv_ints xs i]
    simp only [PyData.eqv, List.mem_cons, Bool.decide_or]
    congr 1
    by_cases h : x = i
    · subst h; simp
    · simp [h, Ne.symm h]
theorem inD_tuI (i : Int) (xs : List Int) : inD (.int i) (tuI xs) = some (.bool (decide (i ∈ xs))) := by
  show (if SeqAt.shaped (.int i) && SeqAt.shaped (tuI xs) then some (PyData.bool ((xs.map PyData.int).any fun z => PyData.eqv z (.int i))) else none) = _
  rw [shaped_int, shaped_tuI, eqv_ints]; rfl
theorem ninD_tuI (i : Int) (xs : List Int) : ninD (.int i) (tuI xs) = some (.bool (!decide (i ∈ xs))) := by
  show (if SeqAt.shaped (.int i) && SeqAt.shaped (tuI xs) then some (PyData.bool (!(xs.map PyData.int).any fun z => PyData.eqv z (.int i))) else none) = _
  rw [shaped_int, shaped_tuI, eqv_ints]; rfl
theorem mem_rangeD {lo : Int} {n : Nat} {d : PyData} (h : d ∈ rangeD lo n) : ∃ j : Nat, j < n ∧ d = .int (lo + j) := by
  obtain ⟨j, hj, e⟩ := List.mem_map.mp h
  exact ⟨j, List.mem_range.mp hj, e.symm⟩
theorem rangeD_at {lo : Int} {n j : Nat} {d : PyData} (h : (rangeD lo n)[j]? = some d) : j < n ∧ d = .int (lo + j) := by
  unfold rangeD at h
  rw [List.getElem?_map] at h
  cases hr : (List.range n)[j]? with
  | none => rw [hr] at h; cases h
  | some m =>
    obtain ⟨hm, e⟩ := List.getElem?_eq_some_iff.mp hr
    rw [List.getElem_range] at e
    subst e
    rw [hr] at h
    cases h
    exact ⟨by simpa using hm, rfl⟩
/-- 0, 1, .. below n -/
def upto (n : Nat) : List Int := (List.range n).map fun (j : Nat) => (j : Int)
theorem mem_upto {n : Nat} {i : Int} : i ∈ upto n ↔ 0 ≤ i ∧ i < n := by
  unfold upto
  rw [List.mem_map]
  constructor
  · rintro ⟨j, hj, rfl⟩
    have := List.mem_range.mp hj
    omega
  · rintro ⟨h0, h1⟩
    exact ⟨i.toNat, List.mem_range.mpr (by omega), by omega⟩
theorem rangeD_upto (n : Nat) : rangeD 0 n = (upto n).map .int := by
  unfold rangeD upto
  rw [List.map_map]
  apply List.map_congr_left
  intro j _
  simp
theorem upto_len (n : Nat) : (upto n).length = n := by simp [upto]
theorem upto_lt (n : Nat) : (upto n).Pairwise (· < ·) := by
  unfold upto
  rw [List.pairwise_map]
  exact List.pairwise_lt_range.imp fun h => by omega
theorem range1_nat (n : Nat) (h : n < 2 ^ 62) : range1D (.int n) = some ((upto n).map .int) := by
  show (if small62 (n : Int) then some (rangeD 0 (n : Int).toNat) else none) = _
  have : small62 (n : Int) = true := by
    unfold small62; rw [decide_eq_true_iff]; constructor <;> omega
  rw [if_pos this, ← rangeD_upto]; rfl
/-- a sorted list of ints is the filter of a range by its members -/
theorem sorted_filter {xs ys : List Int} (hx : xs.Pairwise (· < ·)) (hy : ys.Pairwise (· < ·)) (h : ∀ i, i ∈ xs ↔ i ∈ ys) : xs = ys := by
  induction xs generalizing ys with
  | nil =>
    cases ys with
    | nil => rfl
    | cons y ys => exact absurd ((h y).mpr (List.mem_cons_self ..)) (by simp)
  | cons x xs ih =>
    cases ys with
    | nil => exact absurd ((h x).mp (List.mem_cons_self ..)) (by simp)
    | cons y ys =>
      rw [List.pairwise_cons] at hx hy
      have e : x = y := by
        rcases List.mem_cons.mp ((h x).mp (List.mem_cons_self ..)) with e | e
        · exact e
        · rcases List.mem_cons.mp ((h y).mpr (List.mem_cons_self ..)) with e2 | e2
          · exact e2.symm
          · have a := hx.1 y e2
            have b := hy.1 x e
            omega
      subst e
      congr 1
      refine ih hx.2 hy.2 fun i => ?_
      constructor
      · intro hi
        rcases List.mem_cons.mp ((h i).mp (List.mem_cons_of_mem _ hi)) with e | e
        · subst e; exact absurd (hx.1 _ hi) (Int.lt_irrefl _)
        · exact e
      · intro hi
        rcases List.mem_cons.mp ((h i).mpr (List.mem_cons_of_mem _ hi)) with e | e
        · subst e; exact absurd (hy.1 _ hi) (Int.lt_irrefl _)
        · exact e
theorem filter_map_int (xs : List Int) (p : PyData → Bool) (f : PyData → PyData) : ((xs.map PyData.int).filter p).map f = (xs.filter fun i => p (.int i)).map fun i => f (.int i) := by
  rw [List.filter_map, List.map_map]
  rfl
end LH

set_option Elab.async false
set_option linter.all false
set_option maxRecDepth 100000
set_option maxHeartbeats 2000000
/-! Lh19: sorting data that are alike, tuples without items among them -/
namespace LH
open PySem PySem.Spec PyProof.Rows L2

section
variable {prog : Program} {w : World} {A : Around} {E : Value → Shared → Prop} {s : Shared}
theorem call_tuple_lt0 {Q : Value → Shared → Prop} {l b : Addr} {i1 i2 : Array Value} {e r : Nat → Bool} (hl : s.heap.IsTuple l i1) (hb : s.heap.IsTuple b i2)
    (he : ∀ j (h1 : j < i1.size) (h2 : j < i2.size), SeqAt.EqAt A.in1 s i1[j] i2[j] (e j)) (hr : ∀ j (h1 : j < i1.size) (h2 : j < i2.size), e j = false → SeqAt.RcLt A.in1 s i1[j] i2[j] (r j))
    (h : Q (.bool (SeqAt.firstLt e r (decide (i1.size < i2.size)) (List.range (min i1.size i2.size)))) s) : wpAny (model prog w) A (call (.builtin "tuple.__lt__") [.ref l, .ref b]) Q E s := by
  obtain ⟨⟨c1, d1, t1, z1⟩, o1, k1, n1, q1⟩ := id hl
  obtain ⟨⟨c2, d2, t2, z2⟩, o2, k2, n2, q2⟩ := id hb
  simp only at k1 q1 k2 q2
  subst k1 q1 k2 q2
  exact PySem.call_meets F.slot_tuple_lt ⟨_, o1, rfl⟩ F.entry_tuple_lt (F.args_tuple_lt_2 _ _) (SeqAt.tuple_ltAt l b i1 i2 n1 n2 d1 d2 z1 z2 e r) ⟨o1, o2, he, hr, h⟩
theorem oneLt_tup {xs ys : List PyData} {a b : Value} {as bs : List Addr} {Q : Bool → Shared → Prop} (ra : Reads s.heap a (.tuple xs) as) (rb : Reads s.heap b (.tuple ys) bs) (hal : PySem.W.alikeAll xs ys = true)
    (hu : A.units + min (PyData.depth (.tuple xs)) (PyData.depth (.tuple ys)) < cLine) (hq : Q (PySem.W.dataLt (.tuple xs) (.tuple ys)) s) : wpAny (model prog w) A (oneLt' true a b) Q E s := by
  cases ra with
  | @tuple l o vs n _ as1 h1 h2 h3 h4 =>
    cases rb with
    | @tuple l' o' vs' n' _ bs1 k1 k2 k3 k4 =>
      have n1 : vs.size = xs.length := by simpa using SeqAt.ReadsAll.length _ _ _ h4
      have n2 : vs'.size = ys.length := by simpa using SeqAt.ReadsAll.length _ _ _ k4
      rw [PySem.W.dataLt_tuple, ← PySem.W.firstLt_toks xs ys hal, ← n1, ← n2] at hq
      rw [oneLt'_eq]
      simp only [if_true]
      refine wpAny_bind (wpAny_cRoomFor (SeqAt.room_here hu) ?_)
      refine wpAny_bind (wpAny_callSpecialIfBound?_slot (T := "tuple") ⟨_, h1, h2⟩ F.slot_tuple_lt (call_tuple_lt0 (e := SeqAt.pairEq xs ys) (r := fun j => PySem.W.dataLt (xs.getD j .none) (ys.getD j .none)) ⟨_, h1, h2, _, h3⟩ ⟨_, k1, k2, _, k3⟩ (fun j j1 j2 => ?_) (fun j j1 j2 hj => ?_) ?_))
      · have := PySem.W.eqAt_alikeAll xs ys A.in1 s vs.toList vs'.toList _ _ h4 k4 hal (SeqAt.room_in hu) j (by simpa using j1) (by simpa using j2)
        simpa using this
      · have := PySem.W.rcLt_alikeAll xs ys A.in1 s vs.toList vs'.toList _ _ h4 k4 hal (SeqAt.room_in hu) j (by simpa using j1) (by simpa using j2) hj
        simpa using this
      · exact wpAny_truthy_bool hq
theorem keyLt_gen (x y : Value) : keyLt' general' x y = oneLt' false x y := rfl
/-- the first items, where there are any -/
theorem firsts_any {M : Model} : ∀ {vs : List Value} {ds : List PyData} {Q : List (Option Value) → Shared → Prop}, PySem.W.EachIs (fun v d => ∃ as, Reads s.heap v d as) vs ds → (∀ d ∈ ds, ∃ xs, d = .tuple xs) →
    (∀ fs : List (Option Value), fs.map Option.isSome = ds.map (fun d => match d with | .tuple (_ :: _) => true | _ => false) → Q fs s) → wpAny M A (vs.mapM firstOfTuple') Q E s
  | _, _, Q, .nil, _, h => by rw [List.mapM_nil]; exact wpAny_pure (h [] rfl)
  | _, _, Q, .cons (a := v) (as := vs) (b := d) (bs := ds) ⟨as, r⟩ t, ht, h => by
    obtain ⟨xs, rfl⟩ := ht d (List.mem_cons_self ..)
    rw [List.mapM_cons]
    refine wpAny_bind ?_
    rw [PySem.W.kas_first_eq]
    cases r with
    | @tuple a o us n _ _ ho hc hd hr =>
      refine wpAny_bind (PySem.W.Looks.here (show PySem.W.Looks M s.heap (typeOf (.ref a)) o.cls from (PySem.W.Looks.ld ho).andThen .now) ?_)
      rw [hc, if_neg (by first | decide | simp)]
      refine wpAny_bind (listItems_at ho hd (wpAny_pure ?_))
      refine wpAny_bind (firsts_any (Q := fun bs s' => wpAny M A (pure (us[0]? :: bs)) Q E s') t (fun d hd => ht d (List.mem_cons_of_mem _ hd)) fun fs hf => wpAny_pure (h _ ?_))
      rw [List.map_cons, List.map_cons, hf]
      congr 1
      have hl : us.size = xs.length := by simpa using SeqAt.ReadsAll.length _ _ _ hr
      cases xs with
      | nil =>
        have : us.size = 0 := hl
        simp [this]
      | cons x r =>
        have : 0 < us.size := by rw [hl]; simp
        simp [this]
open PySem.W (EachIs AllAlike SortsAt dataKind Sortable alike alikeAll dataLt dataType) in
theorem all_tups {ds : List PyData} (hal : AllAlike ds) (hn : ∀ d ∈ ds, d ≠ .none) (hk : ¬ Sortable ds) : (∀ d ∈ ds, ∃ xs, d = .tuple xs) ∧ .tuple [] ∈ ds := by
  have h1 : ∃ d ∈ ds, ∃ xs, d = .tuple xs := Classical.byContradiction fun q => hk (.inr fun d hd => ⟨hn d hd, fun xs e => q ⟨d, hd, xs, e⟩⟩)
  obtain ⟨d0, m0, x0, rfl⟩ := h1
  have h2 : ∀ d ∈ ds, ∃ xs, d = .tuple xs := fun d hd => by
    have q := hal d hd _ m0
    cases d <;> first | exact ⟨_, rfl⟩ | exact absurd q (by simp [alike])
  refine ⟨h2, Classical.byContradiction fun q => hk (.inl fun d hd => ?_)⟩
  obtain ⟨xs, rfl⟩ := h2 d hd
  cases xs with
  | nil => exact absurd hd q
  | cons x r => exact ⟨x, r, rfl⟩
def neT : PyData → Bool
  | .tuple (_ :: _) => true
  | _ => false
open PySem.W (EachIs AllAlike SortsAt dataKind Sortable alike alikeAll dataLt dataType) in
theorem kind_tups {vs : List Value} {ds : List PyData} {Q : SortKind → Shared → Prop} (e : EachIs (fun v d => ∃ as, Reads s.heap v d as) vs ds) (ht : ∀ d ∈ ds, ∃ xs, d = .tuple xs) (h0 : .tuple [] ∈ ds) (h : Q (if (ds.head?.map neT).getD false then general' else oneType') s) :
    wpAny (model prog w) A (keyKind' vs.toArray) Q E s := by
  rw [keyKind'_eq, List.mapM_toArray, map_eq_pure_bind]
  refine wpAny_bind (wpAny_bind (firsts_any e ht fun fs hf => wpAny_pure ?_))
  have hf' : fs.map Option.isSome = ds.map neT := hf
  have hall : ¬ (fs.toArray.all fun x => x.isSome) = true := by
    intro q
    rw [List.all_toArray] at q
    have : (fs.map Option.isSome).all id = true := by rw [List.all_map]; exact q
    rw [hf', List.all_map, List.all_eq_true] at this
    exact absurd (this _ h0) (by simp [neT])
  have hd : (fs.toArray[0]?.bind id).isSome = (ds.head?.map neT).getD false := by
    cases fs with
    | nil =>
      cases ds with
      | nil => rfl
      | cons d r => simp at hf'
    | cons f r =>
      cases ds with
      | nil => simp at hf'
      | cons d r' =>
        have := (List.cons.inj hf').1
        simpa using this
  rw [if_neg hall, hd]
  by_cases hb : (ds.head?.map neT).getD false = true
  · rw [if_pos hb] at h ⊢
    exact wpAny_pure h
  · rw [if_neg hb] at h ⊢
    rw [oneTypeOnly'_eq, List.mapM_toArray, map_eq_pure_bind]
    refine wpAny_bind (wpAny_bind (wpAny_bind (PySem.W.kas_mapM (r := Value.type "tuple") _ (fun v hv Q' hq => ?_) (wpAny_pure ?_))))
    · obtain ⟨d, hd, as, r⟩ := e.left v hv
      obtain ⟨xs, rfl⟩ := ht d hd
      exact (PySem.W.looks_reads r).here hq
    · have hne : vs ≠ [] := by
        rintro rfl
        cases e
        cases h0
      obtain ⟨v0, vr, rfl⟩ := List.exists_cons_of_ne_nil hne
      have a1 : ((List.map (fun _ => Value.type "tuple") (v0 :: vr)).toArray.all fun x => x == Value.type "tuple") = true := by
        rw [List.all_toArray, List.all_map, List.all_eq_true]
        intro _ _
        exact beq_self_eq_true _
      have a2 : (List.map (fun _ => Value.type "tuple") (v0 :: vr)).toArray[0]? = some (Value.type "tuple") := by simp
      rw [a2]
      simp only [a1, if_true]
      exact wpAny_pure (wpAny_pure h)
open PySem.W (EachIs AllAlike SortsAt dataKind Sortable alike alikeAll dataLt dataType) in
theorem sorts_any {vs : List Value} {ds : List PyData} (e : EachIs (fun v d => ∃ as, Reads s.heap v d as) vs ds) (hal : AllAlike ds) (hn : ∀ d ∈ ds, d ≠ .none) (hu : ∀ d ∈ ds, A.units + d.depth < cLine) : SortsAt prog w A s (dataKind s.heap ds) vs := by
  by_cases hk : Sortable ds
  · exact SortsAt.data e hal hk hu
  obtain ⟨ht, h0⟩ := all_tups hal hn hk
  refine ⟨fun v hv => ?_, if (ds.head?.map neT).getD false then general' else oneType', ?_, fun _ E Q hq => kind_tups e ht h0 hq⟩
  · obtain ⟨d, hd, as, r⟩ := e.left v hv
    exact ⟨_, PySem.W.dataKind_some hal hd r⟩
  · intro E x y a b Q ha hb hq
    obtain ⟨d, as, hd, ra, rfl⟩ := PySem.W.dataKind_inv ha
    obtain ⟨d', as', hd', rb, rfl⟩ := PySem.W.dataKind_inv hb
    have room : A.units + min d.depth d'.depth < cLine := Nat.lt_of_le_of_lt (Nat.add_le_add_left (Nat.min_le_left _ _) _) (hu d hd)
    have hdd := hal d hd d' hd'
    by_cases hb : (ds.head?.map neT).getD false = true
    · rw [if_pos hb, keyLt_gen]
      exact PySem.W.oneLt_alike (fun z => by cases z) ra rb hdd (hn d hd) room hq
    · rw [if_neg hb, keyLt'_oneType]
      obtain ⟨xs, rfl⟩ := ht d hd
      obtain ⟨ys, rfl⟩ := ht d' hd'
      exact oneLt_tup ra rb (by simpa [alike] using hdd) room hq
end
end LH

set_option Elab.async false
set_option linter.all false
set_option maxRecDepth 100000
set_option maxHeartbeats 2000000
/-! Lh20: sorted(container) -/
namespace LH
open PySem PySem.Spec PyProof.Rows L2

section
variable {prog : Program} {w : World} {A : Around} {E : Value → Shared → Prop} {s : Shared}
theorem coll_tup {l : Addr} {us : List Value} {Q : List Value → Shared → Prop} (hl : s.heap.IsTuple l us.toArray) (hz : us.length ≤ sizeLine)
    (h : Q us { s with heap := (s.heap.push (seqObj "list" #[] 0)).update s.heap.objs.size (Obj.mapSeq (· ++ us.toArray)) }) : wpAny (model prog w) A (collect (.ref l)) Q E s := by
  obtain ⟨o, ho, kc, m, kd⟩ := id hl
  have hp : (s.heap.push (seqObj "list" #[] 0)).get? l = some o := Heap.get?_push_of_some _ ho
  have hn : (s.heap.push (seqObj "list" #[] 0)).get? s.heap.objs.size = some (seqObj "list" #[] 0) := Heap.get?_push_size _ rfl
  have fin : wpAny (model prog w) A (do
      let z ← load s.heap.objs.size
      match z.data with
      | .seq ys _ => pure ys.toList
      | _ => unsupported "internal:collect") Q E { s with heap := (s.heap.push (seqObj "list" #[] 0)).update s.heap.objs.size (Obj.mapSeq (· ++ us.toArray)) } := by
    refine wpAny_bind (wpAny_load (get?_update_seq hn _) ?_)
    show wpAny _ _ (pure ((#[] : Array Value) ++ us.toArray).toList) Q E _
    exact wpAny_pure (by simpa using h)
  unfold collect; refine wpAny_bind (wpAny_runValue (codeAny_builtin entry_proto_collect' ?_))
  show wpAny _ _ (do again (.builtin "list.__iadd__" ⟨[← newList [], .ref l], []⟩)) _ _ s; refine wpAny_bind (wpAny_newList (wpAny_pure ⟨Code.quiet_builtin _ (by decide +kernel), codeAny_builtin entry_list_iadd' ?_⟩))
  show wpAny _ _ (Builtin.List.listExtendWith (.ref s.heap.objs.size) (.ref l) (.ref s.heap.objs.size)) _ _ { s with heap := s.heap.push (seqObj "list" #[] 0) }; unfold Builtin.List.listExtendWith
  refine wpAny_bind (wpAny_typeOf (T := "tuple") ⟨o, hp, kc⟩ ?_)
  have ht : (Value.type "tuple" == Value.type "tuple") = true := by rfl
  rw [if_pos (by rw [ht]; simp)]; refine wpAny_bind (listItems_at hp kd ?_)
  refine wpAny_bind (listItems_at (xs := #[]) (n := 0) hn rfl ?_)
  rw [if_neg (by simp)]; refine wpAny_bind (listUpdate_at (xs := #[]) (n := 0) hn rfl ?_ (Nat.zero_le _) (by show (#[] ++ us.toArray).size ≤ sizeLine + 1; simp only [Array.size_append, List.size_toArray, List.length_nil]; omega))
  exact wpAny_pure fin
theorem srt_of {l : Addr} {us : List Value} {Q : Value → Shared → Prop} (hl : s.heap.IsTuple l us.toArray) (hL : us.length ≤ sizeLine)
    (body : ∀ E' : Value → Shared → Prop, wpAny (model prog w) A.in1.in1 (Builtin.«list.sort» ⟨[.ref (s.heap.objs.size + 1)], []⟩) (fun f s' => f = .done (.ret .none) ∧ Q (.ref (s.heap.objs.size + 1)) s') E' { s with heap := PySem.W.copyHeap s.heap us }) :
    wpAny (model prog w) A (call (.builtin "sorted") [.ref l]) Q E s := by
  refine call_function_entry_kw kind_sorted plain_sorted entry_sorted (args_sorted1 _) ?_
  unfold Builtin.«sorted»; refine wpAny_bind (m := checkCount "sorted" 1 1 _) (wpAny_pure ?_)
  refine wpAny_bind (coll_tup hl hL ?_); refine wpAny_bind (wpAny_newList ?_ hL)
  have hz : ((s.heap.push (seqObj "list" #[] 0)).update s.heap.objs.size (Obj.mapSeq (· ++ us.toArray))).objs.size = s.heap.objs.size + 1 := by rw [Heap.size_update, size_push']
  show wpAny _ _ _ _ _ { s with heap := PySem.W.copyHeap s.heap us }; rw [hz]
  refine wpAny_bind (wpAny_holding (wpAny_call_entry_kw slot_list_sort ⟨_, PySem.W.copyHeap_at s.heap us, rfl⟩ entry_list_sort ?body (args_list_sort _)))
  case body =>
    show wpAny (model prog w) A.in1.in1 (Builtin.«list.sort» ⟨[.ref (s.heap.objs.size + 1)], []⟩) _ _ _; refine wpAny_mono (body _) (fun f s' hf => ?_) fun _ _ e => e
    obtain ⟨rfl, hq⟩ := hf
    exact ⟨_, rfl, wpAny_pure ⟨_, rfl, hq⟩⟩
theorem srt_seq {l : Addr} {us : List Value} {κ : KeyKind} {Q : Value → Shared → Prop} (hl : s.heap.IsList l us.toArray ∨ s.heap.IsTuple l us.toArray) (S : PySem.W.SortsAt prog w A.in1.in1 { s with heap := PySem.W.sortingHeap (PySem.W.copyHeap s.heap us) (s.heap.objs.size + 1) us } κ us) (hL : us.length ≤ sizeLine)
    (h : Q (.ref (s.heap.objs.size + 1)) { s with heap := sortedAll s.heap us (PySem.W.sortVals κ false us us).toArray }) : wpAny (model prog w) A (call (.builtin "sorted") [.ref l]) Q E s := by
  rcases hl with hl | hl
  · exact PySem.W.sorted_vals hl S hL h
  · exact srt_of hl hL fun _ => PySem.W.list_sort_vals (s := { s with heap := PySem.W.copyHeap s.heap us }) (PySem.W.copyHeap_at s.heap us) S hL ⟨rfl, h⟩
end

/-! ### sorted(container), in the layer -/
/-- what Python's < can order: alike data, no None, not too deep -/
def okSort (ds : List PyData) : Bool := ds.all (fun d => ds.all fun d' => PySem.W.alike d d') && ds.all fun d => !isNon d && decide (d.depth ≤ 60)
/-- by putting in one after another (this the kernel can reckon) -/
def insD (a : PyData) : List PyData → List PyData
  | [] => [a]
  | b :: r => if PySem.W.dataLe false id a b then a :: b :: r else b :: insD a r
def isrtD : List PyData → List PyData
  | [] => []
  | a :: r => insD a (isrtD r)
theorem dataLe_trans (a b c : PyData) (h1 : PySem.W.dataLe false id a b = true) (h2 : PySem.W.dataLe false id b c = true) : PySem.W.dataLe false id a c = true := (PySem.W.sortLe_total _ false _).trans a b c h1 h2
theorem dataLe_total (a b : PyData) : (PySem.W.dataLe false id a b || PySem.W.dataLe false id b a) = true := Bool.or_eq_true_iff.mpr ((PySem.W.sortLe_total _ false _).total a b)
theorem insD_at {a : PyData} : ∀ (l1 : List PyData) {l2 : List PyData}, (∀ b ∈ l1, PySem.W.dataLe false id a b = false) → (∀ b, l2.head? = some b → PySem.W.dataLe false id a b = true) → insD a (l1 ++ l2) = l1 ++ a :: l2
  | [], [], _, _ => rfl
  | [], b :: l2, _, h => by
    show (if PySem.W.dataLe false id a b then a :: b :: l2 else b :: insD a l2) = _
    rw [if_pos (h b rfl)]; rfl
  | b :: l1, l2, h1, h2 => by
    show (if PySem.W.dataLe false id a b then a :: b :: (l1 ++ l2) else b :: insD a (l1 ++ l2)) = _
    rw [if_neg (by rw [h1 b List.mem_cons_self]; exact Bool.false_ne_true), insD_at l1 (fun c hc => h1 c (List.mem_cons_of_mem _ hc)) h2]
    rfl
theorem isrt_eq : ∀ ds : List PyData, ds.mergeSort (PySem.W.dataLe false id) = isrtD ds
  | [] => by rw [List.mergeSort_nil]; rfl
  | a :: ds => by
    obtain ⟨l1, l2, e1, e2, h⟩ := List.mergeSort_cons (le := PySem.W.dataLe false id) dataLe_trans dataLe_total a ds
    show _ = insD a (isrtD ds)
    rw [← isrt_eq ds, e1, e2, insD_at l1 (fun b hb => by simpa using h b hb) (fun b hb => ?_)]
    have hs := List.pairwise_mergeSort (le := PySem.W.dataLe false id) dataLe_trans dataLe_total (a :: ds)
    rw [e1, List.pairwise_append] at hs
    cases l2 with
    | nil => cases hb
    | cons c l2 =>
      cases hb
      exact (List.pairwise_cons.mp hs.2.1).1 _ List.mem_cons_self
/-- ints, or tuples of ints: seen faster -/
def isIntB : PyData → Bool
  | .int _ => true
  | _ => false
def isRowB : PyData → Bool
  | .tuple xs => xs.all isIntB
  | _ => false
def fastOk (ds : List PyData) : Bool := ds.all isIntB || ds.all isRowB
theorem alike_rows : ∀ {xs ys : List PyData}, xs.all isIntB = true → ys.all isIntB = true → PySem.W.alikeAll xs ys = true
  | [], _, _, _ => by simp [PySem.W.alikeAll]
  | _ :: _, [], _, _ => by simp [PySem.W.alikeAll]
  | x :: xs, y :: ys, hx, hy => by
    rw [List.all_cons, Bool.and_eq_true] at hx hy
    have := alike_rows hx.2 hy.2
    cases x <;> simp [isIntB] at hx
    cases y <;> simp [isIntB] at hy
    simp [PySem.W.alikeAll, PySem.W.alike, this]
theorem depth_row : ∀ {xs : List PyData}, xs.all isIntB = true → PyData.depthAll xs = 0
  | [], _ => rfl
  | x :: xs, hx => by
    rw [List.all_cons, Bool.and_eq_true] at hx
    have := depth_row hx.2
    cases x <;> simp [isIntB] at hx
    simp [PyData.depthAll, PyData.depth, this]
theorem fastOk_ok {ds : List PyData} (h : fastOk ds = true) : okSort ds = true := by
  unfold fastOk at h
  rw [Bool.or_eq_true] at h
  unfold okSort
  rw [Bool.and_eq_true, List.all_eq_true, List.all_eq_true]
  rcases h with h | h
  · rw [List.all_eq_true] at h
    refine ⟨fun d hd => List.all_eq_true.mpr fun d' hd' => ?_, fun d hd => ?_⟩
    · have h1 := h d hd
      have h2 := h d' hd'
      cases d <;> simp [isIntB] at h1
      cases d' <;> simp [isIntB] at h2
      simp [PySem.W.alike]
    · have h1 := h d hd
      cases d <;> simp [isIntB] at h1
      simp [isNon, PyData.depth]
  · rw [List.all_eq_true] at h
    refine ⟨fun d hd => List.all_eq_true.mpr fun d' hd' => ?_, fun d hd => ?_⟩
    · have h1 := h d hd
      have h2 := h d' hd'
      cases d <;> simp only [isRowB, Bool.false_eq_true] at h1
      cases d' <;> simp only [isRowB, Bool.false_eq_true] at h2
      rw [PySem.W.alike]
      exact alike_rows h1 h2
    · have h1 := h d hd
      cases d <;> simp only [isRowB, Bool.false_eq_true] at h1
      rw [PyData.depth, depth_row h1]
      rfl
def srtD (ds : List PyData) : Option (List PyData) := if fastOk ds || okSort ds then some (isrtD ds) else none
theorem srtD_ok {ds es : List PyData} (h : srtD ds = some es) : okSort ds = true ∧ es = isrtD ds := by
  unfold srtD at h
  split at h
  · rename_i hc
    cases h
    rw [Bool.or_eq_true] at hc
    exact ⟨hc.elim fastOk_ok id, rfl⟩
  · cases h
theorem okSort_alike {ds : List PyData} (h : okSort ds = true) : PySem.W.AllAlike ds ∧ (∀ d ∈ ds, d ≠ .none) ∧ ∀ d ∈ ds, d.depth ≤ 60 := by
  unfold okSort at h
  rw [Bool.and_eq_true, List.all_eq_true, List.all_eq_true] at h
  refine ⟨fun d hd d' hd' => List.all_eq_true.mp (h.1 d hd) d' hd', fun d hd e => ?_, fun d hd => ?_⟩
  · have := h.2 d hd
    subst e
    simp [isNon] at this
  · have := h.2 d hd
    rw [Bool.and_eq_true] at this
    exact of_decide_eq_true this.2
section
variable {K : PySem.W.Frag} {H : Hp} {O : Addr → Prop}
theorem each_rd : ∀ {xs : List V} {us : List Value} {ds : List PyData}, Vals xs us → RDs K H O xs ds → PySem.W.EachIs (fun u d => ∃ v, RelV v u ∧ RD K H O v d) us ds
  | _, _, _, .nil, r => by cases r; exact .nil
  | _, _, _, .cons r0 rs, r => by
    cases r with
    | cons a b => exact .cons ⟨_, r0, a⟩ (each_rd rs b)
theorem rd_each : ∀ {us : List Value} {ds : List PyData}, PySem.W.EachIs (fun u d => ∃ v, RelV v u ∧ RD K H O v d) us ds → ∃ xs, Vals xs us ∧ RDs K H O xs ds
  | _, _, .nil => ⟨[], .nil, .nil⟩
  | _, _, .cons ⟨v, r0, a⟩ t => by
    obtain ⟨xs, h1, h2⟩ := rd_each t
    exact ⟨v :: xs, .cons r0 h1, .cons a h2⟩
theorem rds_len {xs : List V} {ds : List PyData} (r : RDs K H O xs ds) : xs.length = ds.length := r.length
end
def rSrt (K : PySem.W.Frag) : List V → Hp → VK → Prop := fun vs H Q => ∃ (a : Addr) (xs : List V) (ds es : List PyData) (O : Addr → Prop), vs = [V.ref a] ∧ (SqL K H a xs ∨ SqT K H a xs) ∧ RDs K H O xs ds ∧ srtD ds = some es ∧
  ∀ (ys : List V) (p : Addr), H p = none → RDs K H O ys es → Q (.ref p) (upd H p (.lst ys))
section
variable {X : Cx} {T : Tbs} {rs rc re ch : List Nat} {e : Expr} {fl : M (List PyData)}
theorem cr_srt (hu : X.A.units + 65 < cLine) : CallR X (.builtin "sorted") (rSrt X.K) := by
  intro pins s σ H vs us Q I r h
  obtain ⟨a, xs, ds, es, O, rfl, hs, rr, hsd, q⟩ := h
  obtain ⟨hok, he⟩ := srtD_ok hsd
  rw [← isrt_eq] at he
  subst he
  obtain ⟨k1, k2, k3⟩ := okSort_alike hok
  rw [Vals.ref1 r]
  have got : ∃ its : List Value, Vals xs its ∧ (s.heap.IsList a its.toArray ∨ s.heap.IsTuple a its.toArray) ∧ xs.length ≤ sizeLine := by
    rcases hs with hs | hs
    · obtain ⟨its, rv, hl, hz⟩ := I.list hs
      exact ⟨its, rv, .inl hl.isList, hz⟩
    · obtain ⟨its, rv, p', hz⟩ := I.tuple hs
      exact ⟨its, rv, .inr p', hz⟩
  obtain ⟨its, rv, hl, hz⟩ := got
  obtain ⟨as, hread⟩ := Dp.readsAll I ds xs its (RDs.dp ds (nds_of fun d hd => nd_alike d (k1 d hd d hd)) rr) rv
  have er : PySem.W.EachIs (fun v d => ∃ as, Reads s.heap v (id d) as) its ds := PySem.W.readsAll_each id (by rw [List.map_id]; exact hread)
  have er2 : PySem.W.EachIs (fun v d => ∃ as, Reads (PySem.W.sortingHeap (PySem.W.copyHeap s.heap its) (s.heap.objs.size + 1) its) v d as) its ds := er.mono fun _ _ ⟨as, r⟩ => ⟨as, PyProof.Rows.Reads.keeps (fun _ _ => PySem.W.sorting_copy_old) r⟩
  refine srt_seq hl (sorts_any (s := { s with heap := PySem.W.sortingHeap (PySem.W.copyHeap s.heap its) (s.heap.objs.size + 1) its }) er2 k1 k2 (fun d hd => ?_)) (by rw [← rv.length]; exact hz) ?_
  · show X.A.units + 2 + d.depth < cLine
    have := k3 d hd
    omega
  have eo : PySem.W.EachIs (fun u d => ∃ v, RelV v u ∧ RD X.K H O v d) _ _ := PySem.W.sortVals_data (h' := PySem.W.sortingHeap (PySem.W.copyHeap s.heap its) (s.heap.objs.size + 1) its) (enc := id) (bs := ds) false (each_rd rv rr) er2 (by rw [List.map_id]; exact k1)
  rw [List.map_id] at eo
  obtain ⟨ys, h1, h2⟩ := rd_each eo
  obtain ⟨ep, he'⟩ := PyProof.Rows.sortedAll_at s.heap its (PySem.W.sortVals (PySem.W.dataKind (PySem.W.sortingHeap (PySem.W.copyHeap s.heap its) (s.heap.objs.size + 1) its) ds) false its its).toArray
  have hlen : ys.length ≤ sizeLine := by
    rw [h2.length, List.length_mergeSort, ← rr.length]
    exact hz
  exact ⟨.ref _, upd H (s.heap.objs.size + 1) (.lst ys), I.laid (t' := s.toks) (fun _ _ => PyProof.Rows.sortedAll_old) (Nat.le_succ _) ⟨hlen, _, ep, h1, he'⟩, rfl, q _ _ (I.hok.fresh (Nat.le_succ _)) h2⟩
def srtM (f : M (List PyData)) : M (List PyData) := fun st => match f st with
  | some (ds, st1) => (match srtD ds with
    | some es => some (es, st1)
    | none => none)
  | none => none
theorem sf_sorted {k : Nat} {p pos : Pos} {n : Str} (hr : Room k X.A) (h : SC X T rc re ch e fl) (hg : Gl X n) (hm : X.mg n = none) (hv : bootBuiltins n = some (.builtin "sorted")) (hn : n ≠ "__name__" := by decide) (hdb : (n == ("__debug__" : Str)) = false := by decide)
    (hs : starEach [e] X.env = (false, eval e X.env) :: starEach [] X.env := by rfl) (hpl : (backTo pos (starEach [] X.env)).any (·.1) = false := by rfl) : SF X T re ch (.Call (.Name n p) [e] [] pos) (srtM fl) := by
  refine PE.imp (pe_callB (cr_srt (Room.u65 hr)) hg hm hv (sca h hs) hn hdb hs hpl) fun σ H Q ⟨Out, st, ds, st', th, R, e, q⟩ => ?_
  unfold srtM at e
  split at e
  · rename_i ds0 st1 e1
    split at e
    · rename_i es e2
      cases e
      refine ⟨Out, st, ds0, _, th, R, e1, fun v H' p ⟨a, vs, ev, h1, h2⟩ => ?_⟩
      subst ev
      refine ⟨a, vs, ds0, ds, _, rfl, h1.elim (fun z => .inl (.inl z.1)) (fun z => .inr z.t), h2, e2, fun ys l hl h3 => ?_⟩
      exact q l ys _ (p.then (Stay.new hl)) (p.rep.new hl) (hnone p.stay hl) upd_same (RDs.keep (Stay.new hl) (fun _ z => z.elim) _ (RDs.mono (fun b z => obA b z) _ (h3.fresh hl)))
    · cases e
  · cases e
end
end LH

set_option Elab.async false
set_option linter.all false
set_option maxRecDepth 100000
set_option maxHeartbeats 2000000
/-! Lh21: sorted(set(tuples of ints)) -/
namespace LH
open PySem PySem.Spec PyProof.Rows L2

/-! ### rows, rising -/
def insL (x : List Int) : List (List Int) → List (List Int)
  | [] => [x]
  | y :: r => if x < y then x :: y :: r else if x = y then y :: r else y :: insL x r
def risL : List (List Int) → List (List Int)
  | [] => []
  | x :: r => insL x (risL r)
theorem mem_insL {x y : List Int} : ∀ {l : List (List Int)}, y ∈ insL x l ↔ y = x ∨ y ∈ l
  | [] => by simp [insL]
  | z :: r => by
    unfold insL
    split
    · simp
    · split
      · rename_i e; subst e; simp
      · rw [List.mem_cons, mem_insL (l := r), List.mem_cons]
        constructor
        · rintro (h | h | h) <;> simp [h]
        · rintro (h | h | h) <;> simp [h]
theorem mem_risL {y : List Int} : ∀ {l : List (List Int)}, y ∈ risL l ↔ y ∈ l
  | [] => by simp [risL]
  | x :: r => by simp [risL, mem_insL, mem_risL (l := r)]
theorem ltL_of {x y : List Int} (h1 : ¬ x < y) (h2 : x ≠ y) : y < x := by
  rcases Classical.em (y < x) with h | h
  · exact h
  · exact absurd (List.le_antisymm (List.not_lt.mp h) (List.not_lt.mp h1)) h2
theorem insL_lt {x : List Int} : ∀ {l : List (List Int)}, l.Pairwise (· < ·) → (insL x l).Pairwise (· < ·)
  | [], _ => by simp [insL]
  | z :: r, h => by
    obtain ⟨h1, h2⟩ := List.pairwise_cons.mp h
    unfold insL
    split
    · rename_i hx
      refine List.pairwise_cons.mpr ⟨fun y hy => ?_, h⟩
      rcases List.mem_cons.mp hy with rfl | hy
      · exact hx
      · exact List.lt_trans hx (h1 y hy)
    · split
      · exact h
      · rename_i q1 q2
        refine List.pairwise_cons.mpr ⟨fun y hy => ?_, insL_lt h2⟩
        rcases mem_insL.mp hy with rfl | hy
        · exact ltL_of q1 q2
        · exact h1 y hy
theorem risL_lt : ∀ l : List (List Int), (risL l).Pairwise (· < ·)
  | [] => .nil
  | x :: r => insL_lt (risL_lt r)
theorem risL_unique : ∀ {a b : List (List Int)}, a.Pairwise (· < ·) → b.Pairwise (· < ·) → (∀ k, k ∈ a ↔ k ∈ b) → a = b
  | [], [], _, _, _ => rfl
  | [], y :: b, _, _, h => by have := (h y).mpr List.mem_cons_self; cases this
  | x :: a, [], _, _, h => by have := (h x).mp List.mem_cons_self; cases this
  | x :: a, y :: b, ha, hb, h => by
    obtain ⟨a1, a2⟩ := List.pairwise_cons.mp ha
    obtain ⟨b1, b2⟩ := List.pairwise_cons.mp hb
    have e : x = y := by
      rcases List.mem_cons.mp ((h x).mp List.mem_cons_self) with e | m
      · exact e
      · rcases List.mem_cons.mp ((h y).mpr List.mem_cons_self) with e | m'
        · exact e.symm
        · exact absurd (List.lt_trans (b1 x m) (a1 y m')) (List.lt_irrefl _)
    subst e
    rw [risL_unique a2 b2 fun k => ?_]
    constructor
    · intro hk
      rcases List.mem_cons.mp ((h k).mp (List.mem_cons_of_mem _ hk)) with e | m
      · subst e; exact absurd (a1 k hk) (List.lt_irrefl _)
      · exact m
    · intro hk
      rcases List.mem_cons.mp ((h k).mpr (List.mem_cons_of_mem _ hk)) with e | m
      · subst e; exact absurd (b1 k hk) (List.lt_irrefl _)
      · exact m
theorem leT (p q : List Int) : PySem.W.dataLe false (fun b : List Int => tuI b) p q = decide (p ≤ q) := by
  refine Eq.trans ?_ (congrFun (congrFun (PySem.W.dataLe_rows (β := List Int) id) p) q)
  show (!PySem.W.dataLt (tuI q) (tuI p)) = (!PySem.W.dataLt (.list (q.map .int)) (.list (p.map .int)))
  rw [PySem.W.dataLt_tuple, PySem.W.dataLt_list]
/-- rows without doubles, sorted: the rising list of the same members -/
theorem sorted_rows {L1 : List (List Int)} (hn : L1.Nodup) : L1.mergeSort (PySem.W.dataLe false fun b => tuI b) = risL L1 := by
  have e : (PySem.W.dataLe false fun b : List Int => tuI b) = fun p q => decide (p ≤ q) := by
    funext p q; exact leT p q
  rw [e]
  have hp := List.mergeSort_perm L1 fun p q => decide (p ≤ q)
  have hs : (L1.mergeSort fun p q => decide (p ≤ q)).Pairwise fun a b => decide (a ≤ b) = true := List.pairwise_mergeSort (fun a b c h1 h2 => by
      simp only [decide_eq_true_eq] at *; exact List.le_trans h1 h2) (fun a b => by
      simp only [Bool.or_eq_true, decide_eq_true_eq]; exact List.le_total a b) L1
  have hnd : (L1.mergeSort fun p q => decide (p ≤ q)).Nodup := hp.nodup_iff.mpr hn
  refine risL_unique ?_ (risL_lt L1) fun k => by rw [hp.mem_iff, mem_risL]
  refine (hs.and hnd).imp fun {a b} h => ?_
  have h1 : a ≤ b := of_decide_eq_true h.1
  rcases Classical.em (a < b) with z | z
  · exact z
  · exact absurd (List.le_antisymm h1 (List.not_lt.mp z)) h.2

/-! ### at the heap -/
theorem refs_in {L : List (Addr × List Int)} : ∀ vs : List Value, (∀ v ∈ vs, ∃ q ∈ L, v = Value.ref q.1) → ∃ L1 : List (Addr × List Int), vs = L1.map (fun q => Value.ref q.1) ∧ ∀ q ∈ L1, q ∈ L
  | [], _ => ⟨[], rfl, fun q hq => by cases hq⟩
  | v :: vs, h => by
    obtain ⟨q, hq, e⟩ := h v (List.mem_cons_self ..)
    obtain ⟨L1, e1, hs⟩ := refs_in vs fun u hu => h u (List.mem_cons_of_mem _ hu)
    exact ⟨q :: L1, by rw [e, e1]; rfl, fun r hr => (List.mem_cons.mp hr).elim (fun z => z ▸ hq) (hs r)⟩
theorem each_of {R : Value → List Int → Prop} : ∀ (L1 : List (Addr × List Int)), (∀ q ∈ L1, R (.ref q.1) q.2) → PySem.W.EachIs R (L1.map fun q => Value.ref q.1) (L1.map (·.2))
  | [], _ => .nil
  | q :: L1, h => .cons (h q (List.mem_cons_self ..)) (each_of L1 fun r hr => h r (List.mem_cons_of_mem _ hr))
theorem of_each {L : List (Addr × List Int)} : ∀ {vs : List Value} {ks : List (List Int)}, PySem.W.EachIs (fun u k => ∃ q ∈ L, u = Value.ref q.1 ∧ k = q.2) vs ks → ∃ L1 : List (Addr × List Int), vs = L1.map (fun q => Value.ref q.1) ∧ ks = L1.map (·.2) ∧ ∀ q ∈ L1, q ∈ L
  | _, _, .nil => ⟨[], rfl, rfl, fun q hq => by cases hq⟩
  | _, _, .cons ⟨q, hq, e1, e2⟩ t => by
    obtain ⟨L1, h1, h2, h3⟩ := of_each t
    exact ⟨q :: L1, by rw [e1, h1]; rfl, by rw [e2, h2]; rfl, fun r hr => (List.mem_cons.mp hr).elim (fun z => z ▸ hq) (h3 r)⟩
section
variable {P : Program} {w : World} {A : Around} {E : Value → Shared → Prop} {s : Shared}
theorem readsAll_ints {h : Heap} : ∀ {vs : List Value} {k : List Int}, ItemsAre (intKind P w) k vs → ReadsAll h vs (k.map .int) []
  | _, _, .nil => .nil
  | _, _, .cons h1 t => by
    obtain ⟨tk, rfl⟩ := Value.isInt_shape h1
    exact .cons (.int _ _) (readsAll_ints t)
theorem reads_isT {h : Heap} {k : List Int} {b : Addr} (x : IsT P w h k b) : ∃ as, Reads h (.ref b) (tuI k) as := by
  obtain ⟨o, items, n, ho, hc, hd, hi⟩ := x
  exact ⟨_, .tuple ho hc hd (readsAll_ints hi)⟩
theorem srt_set {a : Addr} {L : List (Addr × List Int)} {es : Array (Int × Value)} {ep : Nat} {t : SetTable} {Q : Value → Shared → Prop} (R : SetTR P w s.heap a L es ep t) (hh : A.handled = none) (hu : A.units + 65 < cLine)
    (hQ : ∀ s' p (c : Nat) (L' : List (Addr × List Int)), (∀ b o, s.heap.get? b = some o → s'.heap.get? b = some o) → s'.gens = s.gens → s'.os = s.os → s.heap.objs.size ≤ p →
      s'.heap.get? p = some (seqObj "list" (L'.map fun q => Value.ref q.1).toArray c) → (∀ q ∈ L', q ∈ L) → L'.map (·.2) = risL (L.map (·.2)) → Q (.ref p) s') :
    wpAny (model P w) A (call (.builtin "sorted") [.ref a]) Q E s := by
  obtain ⟨o, ho, hex, hd⟩ := R.ob
  have hsz := R.size
  have hfew := R.few
  refine Calls.call_function_entry kind_sorted plain_sorted entry_sorted (args_sorted1 _) ?_
  unfold Builtin.«sorted»; refine wpAny_bind (m := checkCount "sorted" 1 1 _) (wpAny_pure ?_)
  refine wpAny_bind (collect_set (A := A.in1) hh ⟨o, ho, hex.1, hd⟩ R.fits (by unfold scanBound; omega) R.tab.ris R.led fun s1 vs k1 hz g1 o1 pm => ?_)
  have hes : es.toList.map (·.2) = L.map fun q => Value.ref q.1 := by rw [R.rows]; unfold rowsOf; rw [List.map_map]; rfl
  rw [hes] at pm
  obtain ⟨L1, rfl, h1⟩ := refs_in vs fun v hv => by
    obtain ⟨q, hq, e⟩ := List.mem_map.mp (pm.mem_iff.mp hv)
    exact ⟨q, hq, e.symm⟩
  have one : ∀ q ∈ L, ∀ r ∈ L, q.1 = r.1 → q = r := fun q hq r hr e => by
    have a1 := R.tup q hq
    rw [e] at a1
    exact Prod.ext e (a1.inj (R.tup r hr))
  have nL : L.Nodup := nodup_of_map R.nd
  have nref : (L.map fun q => Value.ref q.1).Nodup := List.pairwise_map.mpr (List.Pairwise.imp_of_mem (fun {q r} hq hr hne e => by injection e with e; exact hne (one q hq r hr e)) nL)
  have n1 : L1.Nodup := nodup_of_map (pm.nodup_iff.mpr nref)
  have pL : L1.Perm L := (List.perm_ext_iff_of_nodup n1 nL).mpr fun q => ⟨h1 q, fun hq => by
    obtain ⟨r, hr, e⟩ := List.mem_map.mp (pm.mem_iff.mpr (List.mem_map.mpr ⟨q, hq, rfl⟩))
    injection e with e
    rw [← one r (h1 r hr) q hq e]
    exact hr⟩
  have hvl : (L1.map fun q => Value.ref q.1).length < 64 := by rw [pm.length_eq, List.length_map]; exact hfew
  have hL : (L1.map fun q => Value.ref q.1).length ≤ sizeLine := by rw [sizeLine_eq]; omega
  refine wpAny_bind (wpAny_newList ?_ hL)
  have hoL : (s1.heap.push (seqObj "list" (L1.map fun q => Value.ref q.1).toArray 0)).get? s1.heap.objs.size = some (seqObj "list" (L1.map fun q => Value.ref q.1).toArray 0) := Heap.get?_push_size _ rfl
  have keep2 : ∀ b u, s.heap.get? b = some u → (PySem.W.sortingHeap (s1.heap.push (seqObj "list" (L1.map fun q => Value.ref q.1).toArray 0)) s1.heap.objs.size (L1.map fun q => Value.ref q.1)).get? b = some u := fun b u e => by
    have q := k1 b u e
    exact PySem.W.sortingHeap_old (Nat.ne_of_lt (Heap.lt_size q)) (Heap.get?_push_of_some _ q)
  have er : PySem.W.EachIs (fun v k => ∃ as, Reads (PySem.W.sortingHeap (s1.heap.push (seqObj "list" (L1.map fun q => Value.ref q.1).toArray 0)) s1.heap.objs.size (L1.map fun q => Value.ref q.1)) v (tuI k) as) (L1.map fun q => Value.ref q.1) (L1.map (·.2)) :=
    each_of L1 fun q hq => reads_isT (isT_keep (R.tup q (h1 q hq)) keep2)
  have al : PySem.W.AllAlike ((L1.map (·.2)).map tuI) := PySem.W.AllAlike.of fun b b' => by
    have := PySem.W.alike_ints b b'
    simpa [PySem.W.alike] using this
  have S := sorts_any (prog := P) (w := w) (A := A.in1.in1) (s := { s1 with heap := PySem.W.sortingHeap (s1.heap.push (seqObj "list" (L1.map fun q => Value.ref q.1).toArray 0)) s1.heap.objs.size (L1.map fun q => Value.ref q.1) }) (PySem.W.each_map tuI er) al (fun d hd => by
      obtain ⟨k, _, rfl⟩ := List.mem_map.mp hd
      intro z; cases z) (fun d hd => by
      obtain ⟨k, _, rfl⟩ := List.mem_map.mp hd
      show A.units + 2 + PyData.depth (tuI k) < cLine
      simp only [PyData.depth, depth_ints]
      omega)
  have eo := PySem.W.sortVals_data (h' := PySem.W.sortingHeap (s1.heap.push (seqObj "list" (L1.map fun q => Value.ref q.1).toArray 0)) s1.heap.objs.size (L1.map fun q => Value.ref q.1)) (enc := tuI) (bs := L1.map (·.2)) (R := fun u k => ∃ q ∈ L, u = Value.ref q.1 ∧ k = q.2) false (each_of L1 fun q hq => ⟨q, h1 q hq, rfl, rfl⟩) er al
  obtain ⟨L', e1, e2, h2⟩ := of_each eo
  have nk : (L1.map (·.2)).Nodup := (pL.map (·.2)).nodup_iff.mpr R.nd
  have e3 : L'.map (·.2) = risL (L.map (·.2)) := by
    rw [← e2, sorted_rows nk]
    exact risL_unique (risL_lt _) (risL_lt _) fun k => by rw [mem_risL, mem_risL, (pL.map (·.2)).mem_iff]
  obtain ⟨c, hc⟩ := sortedHeap_at (vs := L1.map fun q => Value.ref q.1) (out := (L'.map fun q => Value.ref q.1).toArray) hoL
  refine wpAny_bind (wpAny_holding (wpAny_call_entry_kw slot_list_sort ⟨_, hoL, rfl⟩ entry_list_sort ?body (args_list_sort _)))
  case body =>
    refine PySem.W.list_sort_vals (s := { s1 with heap := s1.heap.push (seqObj "list" (L1.map fun q => Value.ref q.1).toArray 0) }) hoL S hL ?_
    rw [e1]
    refine ⟨_, rfl, wpAny_pure ⟨_, rfl, hQ _ s1.heap.objs.size c L' (fun b u e => ?_) g1 o1 hz hc h2 e3⟩⟩
    have q := k1 b u e
    have hlt := Heap.lt_size q
    show (sortedHeap (s1.heap.push (seqObj "list" (L1.map fun q => Value.ref q.1).toArray 0)) s1.heap.objs.size (L1.map fun q => Value.ref q.1) (L'.map fun q => Value.ref q.1).toArray).get? b = some u
    rw [sortedHeap_old (Nat.ne_of_lt hlt) (by rw [size_push']; exact Nat.lt_succ_of_lt hlt)]
    exact Heap.get?_push_of_some _ q
end
end LH

set_option Elab.async false
set_option linter.all false
set_option maxRecDepth 100000
set_option maxHeartbeats 4000000
/-! Lh22: set(a tuple of tuples of ints); sorted(set(..)) in the layer -/
namespace LH
open PySem PySem.Spec PyProof.Rows L2

section
variable {P : Program} {w : World} {A : Around} {E : Value → Shared → Prop} {s : Shared}
abbrev eS (w : World) : Obj := { cls := .type "set", dict := none, data := .set #[] 0 (.fresh 0 0 (!w.params.followText "set-order")) }
theorem set_of_tup {l : Addr} {its : Array Value} (ks : List (Addr × List Int)) {Q : Value → Shared → Prop} (hh : A.handled = none) (hl : s.heap.IsTuple l its) (hit : its.toList = ks.map fun p => Value.ref p.1)
    (hk : ∀ p ∈ ks, IsT P w s.heap p.2 p.1) (hfew : ks.length < 64) (hu : A.units + 3 < cLine)
    (fin : ∀ (h' : Heap) (tk : Nat) L es ep t, SetTR P w h' s.heap.objs.size L es ep t → Got ks ks.length L → (∀ b o, s.heap.get? b = some o → h'.get? b = some o) → Q (.ref s.heap.objs.size) { s with heap := h', toks := tk }) :
    wpAny (model P w) A (call (.type "set") [.ref l]) Q E s := by
  have hn : its.size = ks.length := by
    have := congrArg List.length hit
    simpa using this
  obtain ⟨c, tl, hmro⟩ := F.called_set.mro; have hmade := F.called_set.made; have hsub := F.called_set.sub
  refine wpAny_call (codeAny_of_tree ?_); show wpAny _ _ (callAny (.type "set") _) _ _ _
  refine wpAny_pure ⟨Code.quiet_builtin _ (by decide +kernel), codeAny_builtin F.entry_type_call ?_⟩; rw [Around.under_plain (weight_type_call_type "set" [.ref l] []) rfl]
  have k1 := F.called_set.notType; have k2 := F.called_set.canCreate; have kt := F.typeCall_set_1 (.ref l)
  repeat (any_goals (first | assumption | wp_step))
  refine codeAny_mono (code_set_led1 (.ref l) (E := E) (Q₁ := fun obj s₁ => obj = .ref s.heap.objs.size ∧ s₁ = { s with heap := s.heap.push (eS w) }) ⟨rfl, rfl⟩) fun r z hr => ?_
  cases r with
  | error e => exact hr
  | ok fl =>
    cases fl with
    | ret obj =>
      obtain ⟨rfl, rfl⟩ := hr
      have oS : (s.heap.push (eS w)).get? s.heap.objs.size = some (eS w) := Heap.get?_push_size _ rfl
      have tS : Shared.TypeIs { s with heap := s.heap.push (eS w) } (.ref s.heap.objs.size) "set" := ⟨_, oS, rfl⟩
      have li := F.called_set.init.lookup; have bi := F.called_set.init.bind (.ref s.heap.objs.size)
      repeat (any_goals (first | assumption | wp_step))
      refine codeAny_mono (codeAny_call_builtin (R := wants (fun r y => r = .none ∧ ∃ h' tk L es ep t, y = { s with heap := h', toks := tk } ∧ SetTR P w h' s.heap.objs.size L es ep t ∧ Got ks ks.length L ∧ (∀ b o, s.heap.get? b = some o → h'.get? b = some o)) E) F.called_set.init.plain F.entry_set_init (check_set_init_1 tS ?_)) fun ry y hy => ?_
      · obtain ⟨ol, hol, cl, nl, dl⟩ := hl
        obtain ⟨oc, od, odata, osl⟩ := ol
        simp only at cl dl; subst cl; subst dl
        have hol' : (s.heap.push (eS w)).get? l = some { cls := .type "tuple", dict := od, data := .seq its nl, slots := osl } := Heap.get?_push_of_some _ hol
        have q1 := F.sub_tuple_set; have q2 := F.sub_tuple_frozenset
        have q3 : (Value.type "tuple" == Value.type "dict") = false := by decide
        have hl1 : (s.heap.push (eS w)).IsTuple l its := ⟨_, hol', rfl, nl, rfl⟩
        unfold Builtin.«set.__init__» noKeywords Builtin.Frozenset.updateFrom; generalize hPI : pyIter = PI
        wp_walk
        subst hPI
        refine wpAny_pyIter_tuple hl1 ?_; refine wpAny_bind (wpAny_runValue ?_)
        have hlS : l < s.heap.objs.size := Heap.lt_size hol; have hh3 : A.in1.in1.in1.handled = none := by simp [hh]
        have hz1 : (s.heap.push (eS w)).objs.size = s.heap.objs.size + 1 := Heap.size_push ..
        have hneI : l ≠ (s.heap.push (eS w)).objs.size := by intro e; rw [hz1] at e; exact absurd hlS (by rw [e]; exact Nat.not_lt.mpr (Nat.le_succ _))
        have hSf : s.heap.objs.size ∉ [(s.heap.push (eS w)).objs.size, l] := by
          rw [hz1]; simp only [List.mem_cons, List.not_mem_nil, or_false, not_or]; exact ⟨fun e => Nat.succ_ne_self _ e.symm, fun e => absurd hlS (by rw [← e]; exact Nat.lt_irrefl _)⟩
        have hval : ∀ (i : Nat) (v : Value), its[i]? = some v → ∃ p, ks[i]? = some p ∧ v = .ref p.1 := fun i v hv => by
          have q : its.toList[i]? = some v := by rw [Array.getElem?_toList]; exact hv
          rw [hit, List.getElem?_map] at q
          cases hq : ks[i]? with
          | none => rw [hq] at q; cases q
          | some p => rw [hq] at q; exact ⟨p, rfl, (Option.some.inj q).symm⟩
        have none_of : ∀ b, s.heap.objs.size ≤ b → s.heap.get? b = none := fun b hb => by
          cases q : s.heap.get? b with
          | none => rfl
          | some o => exact absurd (Heap.lt_size q) (Nat.not_lt.mpr hb)
        refine set_update_tups ((Walks.tuple hh3 _ l hneI its).toS) s.heap.objs.size hSf ks hn hfew hval s.heap hk (none_of _ (Nat.le_refl _)) (fun b hb => none_of b (by rw [List.mem_singleton.mp hb, hz1]; exact Nat.le_succ _)) hu (its.size - 0) 0 _ (by omega) (Nat.zero_le _)
          ⟨⟨_, Heap.get?_push_size _ rfl, rfl, rfl⟩, (hl1.push _)⟩ (fun b o e => Heap.get?_push_of_some _ (Heap.get?_push_of_some _ e)) ?hA ?hB
        case hA =>
          have hget : ((s.heap.push (eS w)).push { cls := .type "tuple_iterator", data := .fields #[.ref l, .int 0 0] }).get? s.heap.objs.size = some (eS w) := Heap.get?_push_of_some _ oS
          exact ⟨[], #[], 0, _, setTR_fresh hget, Got.zero ks⟩
        case hB =>
          intro s' L es ep t hm hS' g' hkp
          obtain ⟨h', g2, d', tk', os'⟩ := s'
          obtain rfl : g2 = s.gens := hm.gens
          obtain rfl : d' = s.drawn := hm.drawn
          obtain rfl : os' = s.os := hm.os
          show wpAny _ _ _ _ _ _; refine wpAny_pure ?_
          show wpAny _ _ (ret Value.none) _ _ _; rw [hn] at g'
          exact wpAny_pure ⟨rfl, h', tk', L, es, ep, t, rfl, hS', g', hkp⟩
      · cases ry with
        | error e => exact hy
        | ok f2 =>
          cases f2 with
          | ret r =>
            obtain ⟨rfl, h', tk, L, es, ep, t, rfl, hS', g', hk'⟩ := hy
            repeat (any_goals (first | assumption | wp_step))
            exact fin _ _ _ _ _ _ hS' g' hk'
          | _ => exact hy.elim
    | _ => exact hr.elim
theorem set_of_lst_i {l : Addr} {its : Array Value} (ns : List Int) {Q : Value → Shared → Prop} (hh : A.handled = none) (hl : s.heap.IsList l its) (hit : IntsAre its.toList ns)
    (hb : ns.length + 1 < scanBound)
    (fin : ∀ (h' : Heap) (tk c : Nat), SetR w h' s.heap.objs.size (fun j => decide (j ∈ ns)) c → c ≤ ns.length → (∀ b o, s.heap.get? b = some o → h'.get? b = some o) → Q (.ref s.heap.objs.size) { s with heap := h', toks := tk }) :
    wpAny (model P w) A (call (.type "set") [.ref l]) Q E s := by
  have hn : its.size = ns.length := by
    have := IntsAre.length hit
    simpa using this
  obtain ⟨c, tl, hmro⟩ := F.called_set.mro; have hmade := F.called_set.made; have hsub := F.called_set.sub
  refine wpAny_call (codeAny_of_tree ?_); show wpAny _ _ (callAny (.type "set") _) _ _ _
  refine wpAny_pure ⟨Code.quiet_builtin _ (by decide +kernel), codeAny_builtin F.entry_type_call ?_⟩; rw [Around.under_plain (weight_type_call_type "set" [.ref l] []) rfl]
  have k1 := F.called_set.notType; have k2 := F.called_set.canCreate; have kt := F.typeCall_set_1 (.ref l)
  repeat (any_goals (first | assumption | wp_step))
  refine codeAny_mono (code_set_led1 (.ref l) (E := E) (Q₁ := fun obj s₁ => obj = .ref s.heap.objs.size ∧ s₁ = { s with heap := s.heap.push (eS w) }) ⟨rfl, rfl⟩) fun r z hr => ?_
  cases r with
  | error e => exact hr
  | ok fl =>
    cases fl with
    | ret obj =>
      obtain ⟨rfl, rfl⟩ := hr
      have oS : (s.heap.push (eS w)).get? s.heap.objs.size = some (eS w) := Heap.get?_push_size _ rfl
      have tS : Shared.TypeIs { s with heap := s.heap.push (eS w) } (.ref s.heap.objs.size) "set" := ⟨_, oS, rfl⟩
      have li := F.called_set.init.lookup; have bi := F.called_set.init.bind (.ref s.heap.objs.size)
      repeat (any_goals (first | assumption | wp_step))
      refine codeAny_mono (codeAny_call_builtin (R := wants (fun r y => r = .none ∧ ∃ h' tk c, y = { s with heap := h', toks := tk } ∧ SetR w h' s.heap.objs.size (fun j => decide (j ∈ ns)) c ∧ c ≤ ns.length ∧ (∀ b o, s.heap.get? b = some o → h'.get? b = some o)) E) F.called_set.init.plain F.entry_set_init (check_set_init_1 tS ?_)) fun ry y hy => ?_
      · obtain ⟨ol, hol, cl, nl, dl⟩ := hl
        obtain ⟨oc, od, odata, osl⟩ := ol
        simp only at cl dl; subst cl; subst dl
        have hol' : (s.heap.push (eS w)).get? l = some { cls := .type "list", dict := od, data := .seq its nl, slots := osl } := Heap.get?_push_of_some _ hol
        have q1 := F.sub_list_set; have q2 := F.sub_list_frozenset
        have q3 : (Value.type "list" == Value.type "dict") = false := by decide
        have hl1 : (s.heap.push (eS w)).IsList l its := ⟨_, hol', rfl, nl, rfl⟩
        unfold Builtin.«set.__init__» noKeywords Builtin.Frozenset.updateFrom; generalize hPI : pyIter = PI
        wp_walk
        subst hPI
        refine wpAny_pyIter_list hl1 ?_; refine wpAny_bind (wpAny_runValue ?_)
        have hlS : l < s.heap.objs.size := Heap.lt_size hol; have hh3 : A.in1.in1.in1.handled = none := by simp [hh]
        have hz1 : (s.heap.push (eS w)).objs.size = s.heap.objs.size + 1 := Heap.size_push ..
        have hneI : l ≠ (s.heap.push (eS w)).objs.size := by intro e; rw [hz1] at e; exact absurd hlS (by rw [e]; exact Nat.not_lt.mpr (Nat.le_succ _))
        have hSf : s.heap.objs.size ∉ [(s.heap.push (eS w)).objs.size, l] := by
          rw [hz1]; simp only [List.mem_cons, List.not_mem_nil, or_false, not_or]; exact ⟨fun e => Nat.succ_ne_self _ e.symm, fun e => absurd hlS (by rw [← e]; exact Nat.lt_irrefl _)⟩
        have hval : ∀ (i : Nat) (v : Value), its[i]? = some v → ∃ k t, ns[i]? = some k ∧ v = .int k t := fun i v hv => by
          have hi : i < ns.length := by rw [← hn]; exact (Array.getElem?_eq_some_iff.mp hv).1
          obtain ⟨t, e⟩ := IntsAre.int_at hit i v (by rw [Array.getElem?_toList]; exact hv)
          exact ⟨ns[i], t, List.getElem?_eq_getElem hi, by rw [e, List.getD_eq_getElem?_getD, List.getElem?_eq_getElem hi]; rfl⟩
        refine set_update_ints ((Walks.list hh3 _ l hneI its).toS) s.heap.objs.size hSf ns hn hb hval (its.size - 0) 0 _ (by omega) (Nat.zero_le _) ⟨⟨_, Heap.get?_push_size _ rfl, rfl, rfl⟩, (hl1.push _)⟩ ?hA ?hB
        case hA =>
          have hget : ((s.heap.push (eS w)).push { cls := .type "list_iterator", data := .fields #[.ref l, .int 0 0] }).get? s.heap.objs.size = some (eS w) := Heap.get?_push_of_some _ oS
          exact ⟨0, Nat.le_refl 0, setR_new_at hget⟩
        case hB =>
          intro s' c' hm hc' hS'
          obtain ⟨h', g2, d', tk', os'⟩ := s'
          obtain rfl : g2 = s.gens := hm.gens
          obtain rfl : d' = s.drawn := hm.drawn
          obtain rfl : os' = s.os := hm.os
          show wpAny _ _ _ _ _ _; refine wpAny_pure ?_
          show wpAny _ _ (ret Value.none) _ _ _; rw [hn] at hc'
          refine wpAny_pure ⟨rfl, h', tk', c', rfl, hS', hc', fun b o e => ?_⟩
          have h0 := Heap.lt_size e
          exact hm.heap b o (by rw [hz1]; simp only [List.mem_cons, List.not_mem_nil, or_false, not_or]; exact ⟨Nat.ne_of_lt h0, Nat.ne_of_lt (Nat.lt_succ_of_lt h0)⟩) (Heap.get?_push_of_some _ (Heap.get?_push_of_some _ e))
      · cases ry with
        | error e => exact hy
        | ok f2 =>
          cases f2 with
          | ret r =>
            obtain ⟨rfl, h', tk, c2, rfl, hS', g', hk'⟩ := hy
            repeat (any_goals (first | assumption | wp_step))
            exact fin _ _ _ hS' g' hk'
          | _ => exact hy.elim
    | _ => exact hr.elim
end
end LH

set_option Elab.async false
set_option linter.all false
set_option maxRecDepth 100000
set_option maxHeartbeats 2000000
/-! Lh23: sorted(set(container)) in the layer -/
namespace LH
open PySem PySem.Spec PyProof.Rows L2

def rowsD : List PyData → Option (List (List Int))
  | [] => some []
  | .tuple xs :: r => (match intsOf xs, rowsD r with
    | some k, some ks => some (k :: ks)
    | _, _ => none)
  | _ => none
theorem rowsD_eq : ∀ {ds : List PyData} {ks : List (List Int)}, rowsD ds = some ks → ds = ks.map tuI
  | [], ks, h => by cases h; rfl
  | .tuple xs :: r, ks, h => by
    unfold rowsD at h
    split at h
    · rename_i k ks' e1 e2
      cases h
      rw [rowsD_eq e2, intsOf_eq e1]; rfl
    · cases h
  | .none :: _, _, h => by cases h
  | .bool _ :: _, _, h => by cases h
  | .int _ :: _, _, h => by cases h
  | .str _ :: _, _, h => by cases h
  | .list _ :: _, _, h => by cases h
  | .dict _ :: _, _, h => by cases h
/-- sorted(set(..)): ints, or tuples of ints -/
def sortSetL (ds : List PyData) : Option (List PyData) := match intsOf ds with
  | some ns => if ds.length < 4000 && decide ((risI ns).length < 64) then some ((risI ns).map .int) else none
  | none => (match rowsD ds with
    | some ks => if ds.length < 64 then some ((risL ks).map tuI) else none
    | none => none)
theorem setR_len {w : World} {h : Heap} {a : Addr} {ns : List Int} {c : Nat} (R : SetR w h a (fun j => decide (j ∈ ns)) c) : c = (risI ns).length := by
  obtain ⟨o, es, ep, t, _, _, _, _, nd, hm, _, _, hn, _⟩ := R
  have nr : (risI ns).Nodup := (risI_lt ns).imp fun h => by omega
  have pp : (es.toList.map keyOf).Perm (risI ns) := (List.perm_ext_iff_of_nodup nd nr).mpr fun k => by rw [← hm k, decide_eq_true_eq, mem_risI]
  have := pp.length_eq
  rw [List.length_map, Array.length_toList] at this
  omega
def sortSetLM (f : M (List PyData)) : M (List PyData) := fun st => match f st with
  | some (ds, st1) => (match sortSetL ds with
    | some es => some (es, st1)
    | none => none)
  | none => none
section
variable {K : PySem.W.Frag} {H : Hp} {O : Addr → Prop}
/-- the addresses of tuples of ints -/
theorem rds_rows : ∀ {xs : List V} {ks : List (List Int)}, RDs K H O xs (ks.map tuI) → ∃ L : List (Addr × List Int), xs = L.map (fun p => V.ref p.1) ∧ L.map (·.2) = ks ∧ ∀ p ∈ L, SqN K H p.1 (p.2.map V.int)
  | _, [], r => by cases r; exact ⟨[], rfl, rfl, fun p hp => by cases hp⟩
  | _, k :: ks, r => by
    cases r with
    | cons a b =>
      obtain ⟨L, h1, h2, h3⟩ := rds_rows b
      cases a with
      | @tup b' ys _ ht rr =>
        have := rds_ints rr
        subst this
        exact ⟨(b', k) :: L, by rw [h1]; rfl, by rw [← h2]; rfl, fun p hp => (List.mem_cons.mp hp).elim (fun z => by rw [z]; exact ht) (h3 p)⟩
theorem rows_rds : ∀ (L : List (Addr × List Int)), (∀ p ∈ L, SqN K H p.1 (p.2.map V.int)) → RDs K H O (L.map fun p => V.ref p.1) ((L.map (·.2)).map tuI)
  | [], _ => .nil
  | p :: L, h => .cons (.tup (h p (List.mem_cons_self ..)) (rds_of_ints p.2)) (rows_rds L fun q hq => h q (List.mem_cons_of_mem _ hq))
end
/-- set(container): the two kinds -/
def rSetC (K : PySem.W.Frag) (P : Program) (w : World) : List V → Hp → VK → Prop := fun vs H Q => ∃ (l : Addr) (xs : List V), vs = [V.ref l] ∧ (SqL K H l xs ∨ SqT K H l xs) ∧
  ((∃ ns : List Int, xs = ns.map .int ∧ xs.length < 4000 ∧ ∀ a n, H a = none → n = (risI ns).length → Q (.ref a) (upd H a (SetO w a (fun j => decide (j ∈ ns)) n))) ∨
   ∃ ks : List (Addr × List Int), xs = ks.map (fun p => V.ref p.1) ∧ xs.length < 64 ∧ (∀ p ∈ ks, SqN K H p.1 (p.2.map V.int)) ∧ ∀ a L, H a = none → (∀ p ∈ L, p ∈ ks) → (∀ p ∈ ks, p.2 ∈ L.map (·.2)) → Q (.ref a) (upd H a (SetTO P w a L)))
section
variable {X : Cx} {T : Tbs} {rs rc re ch : List Nat} {e : Expr} {fl : M (List PyData)}
theorem cr_setC (hc : X.calm = true) (hu : X.A.units + 65 < cLine) : CallR X (.type "set") (rSetC X.K X.prog X.w) := by
  intro pins s σ H vs us Q I r h
  obtain ⟨l, xs, rfl, hs, hq⟩ := h
  rw [Vals.ref1 r]
  have hn : H s.heap.objs.size = none := I.hok.fresh (Nat.le_refl _)
  rcases hq with ⟨ns, rfl, hf, q⟩ | ⟨ks, rfl, hf, hk, q⟩
  · rw [List.length_map] at hf
    have fin : ∀ (h' : Heap) (tk c : Nat), SetR X.w h' s.heap.objs.size (fun j => decide (j ∈ ns)) c → c ≤ ns.length → (∀ b o, s.heap.get? b = some o → h'.get? b = some o) → EP X pins σ Q (.ref s.heap.objs.size) { s with heap := h', toks := tk } := fun h' tk c R hcl k =>
      ⟨.ref s.heap.objs.size, _, I.laid (t' := tk) k (Nat.le_refl _) (setO_new R), rfl, q _ c hn (setR_len R)⟩
    have hb : ns.length + 1 < scanBound := by have : (4001 : Nat) < scanBound := by decide
                                              omega
    rcases hs with hs | hs
    · obtain ⟨its, rv, hl, hz⟩ := I.list hs
      exact set_of_lst_i ns (I.ok.hd hc) hl.isList (by simpa using ints_of_vals rv) hb fin
    · obtain ⟨its, rv, hl, hz⟩ := I.tuple hs
      exact call_set_tupI ns (I.ok.hd hc) (show s.heap.IsTuple l its.toArray from hl) (by simpa using ints_of_vals rv) hb fin
  · rw [List.length_map] at hf
    have fin : ∀ (h' : Heap) (tk : Nat) L es ep t, SetTR X.prog X.w h' s.heap.objs.size L es ep t → Got ks ks.length L → (∀ b o, s.heap.get? b = some o → h'.get? b = some o) → EP X pins σ Q (.ref s.heap.objs.size) { s with heap := h', toks := tk } := fun h' tk L es ep t R g k =>
      ⟨.ref s.heap.objs.size, _, I.laid (t' := tk) k (Nat.le_refl _) (setTO_new R.t0), rfl, q _ L hn (fun p hp => List.mem_of_mem_take (g.sub p hp)) fun p hp => g.all p (by rw [List.take_length]; exact hp)⟩
    rcases hs with hs | hs
    · obtain ⟨its, rv, hl, hz⟩ := I.list hs
      exact call_set_tups (P := X.prog) (w := X.w) ks (I.ok.hd hc) hl.isList (by simpa using refs_of_vals rv) (fun p hp => I.isT (hk p hp).t) hf (by omega) fin
    · obtain ⟨its, rv, hl, hz⟩ := I.tuple hs
      exact set_of_tup (P := X.prog) (w := X.w) ks (I.ok.hd hc) (show s.heap.IsTuple l its.toArray from hl) (by simpa using refs_of_vals rv) (fun p hp => I.isT (hk p hp).t) hf (by omega) fin
/-- sorted(a set of tuples of ints) -/
def rSrtT (K : PySem.W.Frag) (P : Program) (w : World) : List V → Hp → VK → Prop := fun vs H Q => ∃ (a : Addr) (L : List (Addr × List Int)), vs = [V.ref a] ∧ H a = some (SetTO P w a L) ∧ (∀ p ∈ L, SqN K H p.1 (p.2.map V.int)) ∧
  ∀ (L' : List (Addr × List Int)) (p : Addr), (∀ q ∈ L', q ∈ L) → L'.map (·.2) = risL (L.map (·.2)) → L'.length < 64 → H p = none → Q (.ref p) (upd H p (.lst (L'.map fun q => V.ref q.1)))
theorem insL_len (x : List Int) : ∀ l : List (List Int), (insL x l).length ≤ l.length + 1
  | [] => Nat.le_refl _
  | y :: r => by
    unfold insL
    split
    · simp
    · split
      · simp
      · have := insL_len x r
        simp only [List.length_cons]
        omega
theorem risL_len : ∀ l : List (List Int), (risL l).length ≤ l.length
  | [] => Nat.le_refl _
  | x :: r => by
    have h1 := insL_len x (risL r)
    have h2 := risL_len r
    simp only [risL, List.length_cons]
    omega
theorem cr_srtT (hc : X.calm = true) (hu : X.A.units + 65 < cLine) : CallR X (.builtin "sorted") (rSrtT X.K X.prog X.w) := by
  intro pins s σ H vs us Q I r h
  obtain ⟨a, L, rfl, ha, hk, q⟩ := h
  have R0 : SetT0 X.prog X.w s.heap a L := (I.hok a _ ha).1
  obtain ⟨es, ep, t, R⟩ := R0.full fun p hp => I.isT (hk p hp).t
  rw [Vals.ref1 r]
  refine srt_set R (I.ok.hd hc) hu fun s' p c L' k g o hp hg hsub e => ?_
  have hfew : L'.length < 64 := by
    have h1 := congrArg List.length e
    have h2 := risL_len (L.map (·.2))
    have h3 := R.few
    simp only [List.length_map] at h1 h2
    omega
  have hn : H p = none := I.hok.fresh hp
  have hlen : (L'.map fun q => V.ref q.1).length ≤ sizeLine := by rw [List.length_map, sizeLine_eq]; omega
  have J : Inv X pins σ (upd H p (.lst (L'.map fun q => V.ref q.1))) { s with heap := s'.heap, gens := s'.gens, drawn := s'.drawn, toks := s'.toks } :=
    I.call (ch := []) (Un.laid k hp hn) (I.hok.laid k hp ⟨hlen, L'.map (fun q => Value.ref q.1), c, vals_of_refs L', hg⟩) (by rw [g]; exact I.bare) (fun _ z => nomatch z)
  have e' : s' = { s with heap := s'.heap, gens := s'.gens, drawn := s'.drawn, toks := s'.toks } := by
    cases s'; cases s; cases o; rfl
  rw [e']
  exact ⟨.ref p, _, J, rfl, q L' p hsub e hfew hn⟩
def tSetC (K : PySem.W.Frag) (P : Program) (w : World) (T : Tbs) (ch : List Nat) (f : M (List PyData)) : TE := fun σ H Q => ∃ Out st ds st', TH T H ∧ Rep K Out st σ H ∧ f st = some (ds, st') ∧
  ((∃ ns : List Int, ds = ns.map .int ∧ ds.length < 4000 ∧ ∀ a H' n, EPost K T Out σ st H ch st' H' → H' a = none → n = (risI ns).length → Q (.ref a) (upd H' a (SetO w a (fun j => decide (j ∈ ns)) n))) ∨
   ∃ ks : List (List Int), ds = ks.map tuI ∧ ds.length < 64 ∧ ∀ a H' (L : List (Addr × List Int)), EPost K T Out σ st H ch st' H' → H' a = none → (∀ k, k ∈ L.map (·.2) ↔ k ∈ ks) → (∀ p ∈ L, SqN K H' p.1 (p.2.map V.int)) → Q (.ref a) (upd H' a (SetTO P w a L)))
theorem pe_setC {k : Nat} {p pos : Pos} (hr : Room k X.A) (hc : X.calm = true) (h : SC X T rc re ch e fl) (hg : Gl X "set") (hm : X.mg "set" = none) (hv : bootBuiltins "set" = some (.type "set"))
    (hs : starEach [e] X.env = (false, eval e X.env) :: starEach [] X.env := by rfl) (hpl : (backTo pos (starEach [] X.env)).any (·.1) = false := by rfl) : PE X (.Call (.Name "set" p) [e] [] pos) (tSetC X.K X.prog X.w T ch fl) := by
  refine PE.imp (pe_callTy (cr_setC hc (Room.u65 hr)) hg hm hv (sca h hs) (by decide) (by decide) hs hpl) fun σ H Q ⟨Out, st, ds, st', th, R, e1, q⟩ => ?_
  refine ⟨Out, st, ds, st', th, R, e1, fun v H' p ⟨a, vs, ev, h1, h2⟩ => ?_⟩
  subst ev
  refine ⟨a, vs, rfl, h1.elim (fun z => .inl (.inl z.1)) (fun z => .inr z.t), ?_⟩
  rcases q with ⟨ns, rfl, hf, q⟩ | ⟨ks, rfl, hf, q⟩
  · exact .inl ⟨ns, rds_ints h2, by rw [h2.length]; exact hf, fun b n hb hn => q b H' n p hb hn⟩
  · obtain ⟨L0, e2, e3, e4⟩ := rds_rows h2
    refine .inr ⟨L0, e2, by rw [h2.length]; exact hf, e4, fun b L hb g1 g2 => q b H' L p hb (fun k => ?_) fun r hr => e4 r (g1 r hr)⟩
    rw [← e3]
    constructor
    · intro hk
      obtain ⟨r, hr, rfl⟩ := List.mem_map.mp hk
      exact List.mem_map.mpr ⟨r, g1 r hr, rfl⟩
    · intro hk
      obtain ⟨r, hr, rfl⟩ := List.mem_map.mp hk
      exact g2 r hr
theorem sf_sortSetC {k : Nat} {p pos p1 pos1 : Pos} (hr : Room k X.A) (hc : X.calm = true) (hg : Gl X "set") (hm : X.mg "set" = none) (hv : bootBuiltins "set" = some (.type "set")) (hg1 : Gl X "sorted") (hm1 : X.mg "sorted" = none) (hv1 : bootBuiltins "sorted" = some (.builtin "sorted")) (h : SC X T rc re ch e fl)
    (hs : starEach [e] X.env = (false, eval e X.env) :: starEach [] X.env := by rfl) (hpl : (backTo pos (starEach [] X.env)).any (·.1) = false := by rfl)
    (hs1 : starEach [.Call (.Name "set" p) [e] [] pos] X.env = (false, eval (.Call (.Name "set" p) [e] [] pos) X.env) :: starEach [] X.env := by rfl) (hpl1 : (backTo pos1 (starEach [] X.env)).any (·.1) = false := by rfl) :
    SF X T [] ch (.Call (.Name "sorted" p1) [.Call (.Name "set" p) [e] [] pos] [] pos1) (sortSetLM fl) := by
  refine PE.imp (pe_callB ((cr_sortedSet hc).or (cr_srtT hc (Room.u65 hr))) hg1 hm1 hv1 (pa_cons (pe_setC hr hc h hg hm hv hs hpl) pa_nil hs1) (by decide) (by decide) hs1 hpl1) fun σ H Q ⟨Out, st, ds, st', th, R, e1, q⟩ => ?_
  unfold sortSetLM at e1
  split at e1
  · rename_i ds0 st1 e2
    split at e1
    · rename_i es e3
      cases e1
      unfold sortSetL at e3
      split at e3
      · rename_i ns ei
        split at e3
        · rename_i hf
          rw [Bool.and_eq_true, decide_eq_true_eq, decide_eq_true_eq] at hf
          cases e3
          refine ⟨Out, st, ds0, _, th, R, e2, .inl ⟨ns, intsOf_eq ei, hf.1, fun b H' n p hn hle => .inl ⟨b, _, n, rfl, upd_same, ?_, fun ms l h1 h2 h3 hl => ?_⟩⟩⟩
          · rw [hle]; exact hf.2
          · have em : ms = risI ns := ris_unique h1 (risI_lt ns) fun k => by rw [h2 k, mem_risI]; simp
            subst em
            have p2 := p.then (Stay.new (o := SetO X.w b (fun j => decide (j ∈ ns)) n) hn)
            exact q l _ _ (p2.then (Stay.new hl)) (p2.rep.new hl) (hnone p2.stay hl) upd_same (rds_of_ints _)
        · cases e3
      · split at e3
        · rename_i ks ek
          split at e3
          · rename_i hf
            cases e3
            refine ⟨Out, st, ds0, _, th, R, e2, .inr ⟨ks, rowsD_eq ek, hf, fun b H' L p hn hmem hsq => ?_⟩⟩
            have st1 : Stay No H' (upd H' b (SetTO X.prog X.w b L)) := Stay.new hn
            have hsq2 : ∀ r ∈ L, SqN X.K (upd H' b (SetTO X.prog X.w b L)) r.1 (r.2.map V.int) := fun r hr => st1.sqN (hsq r hr)
            refine .inr ⟨b, L, rfl, upd_same, hsq2, fun L' l hsub e4 hlen hl => ?_⟩
            have em : L'.map (·.2) = risL ks := by
              rw [e4]
              exact risL_unique (risL_lt _) (risL_lt _) fun k => by rw [mem_risL, mem_risL, hmem k]
            have p2 := p.then st1
            refine q l _ _ (p2.then (Stay.new hl)) (p2.rep.new hl) (hnone p2.stay hl) upd_same ?_
            rw [← em]
            exact rows_rds L' fun r hr => (Stay.new hl).sqN (hsq2 r (hsub r hr))
          · cases e3
        · cases e3
    · cases e1
  · cases e1
end
end LH

set_option Elab.async false
set_option linter.all false
set_option maxRecDepth 100000
set_option maxHeartbeats 2000000
/-! Lh24: the list comprehension of two clauses -/
namespace LH
open PySem PySem.Spec PyProof.Rows L2

def lc2Go (vs : List Nat) (g : PyData → Dn → Option Dn) (c : M Bool) (it1 : M (List PyData)) (vs1 : List Nat) (g1 : PyData → Dn → Option Dn) (c1 : M Bool) (elt : M PyData) : List PyData → M (List PyData)
  | [], st => some ([], st)
  | d :: ds, st => match g d st with
    | none => none
    | some st1 => match c st1 with
      | none => none
      | some (false, st2) => lc2Go vs g c it1 vs1 g1 c1 elt ds (wipeD st2 vs)
      | some (true, st2) => match it1 st2 with
        | none => none
        | some (es, st3) => if noOwn st3 vs1 then (match lcGo vs1 g1 c1 elt es (wipeD st3 vs1) with
          | none => none
          | some (ys, st4) => match lc2Go vs g c it1 vs1 g1 c1 elt ds (wipeD st4 vs) with
            | none => none
            | some (r, st5) => some (ys ++ r, st5)) else none
def lc2M (vs : List Nat) (it : M (List PyData)) (g : PyData → Dn → Option Dn) (c : M Bool) (it1 : M (List PyData)) (vs1 : List Nat) (g1 : PyData → Dn → Option Dn) (c1 : M Bool) (elt : M PyData) : M (List PyData) := fun st => match it st with
  | none => none
  | some (ds, st1) => if noOwn st1 vs then (match lc2Go vs g c it1 vs1 g1 c1 elt ds (wipeD st1 vs) with
    | none => none
    | some (r, st2) => if r.length ≤ sizeLine then some (r, restore st1 st2 vs) else none) else none
section
variable {K : PySem.W.Frag} {T : Tbs} {Out : Addr → Prop} {H H1 H2 H3 : Hp}
theorem Stay.newIn {O O' : Addr → Prop} {D : Addr} (a : Stay O H H1) (hD : H D = none) (b : Stay (fun b => b = D ∨ O' b) H1 H3) (h : ∀ b, O' b → O b) : Stay O H H3 :=
  ⟨fun c o e n t => b.keep c o (a.keep c o e n t) (fun z => z.elim (fun z => by rw [z, hD] at e; cases e) fun z => n (h c z)) t, fun c h => b.there c (a.there c h), fun c xs h => b.tups c xs (a.tups c xs h), fun c o u h => b.frzs c o u (a.frzs c o u h), fun c φ h => b.exts c φ (a.exts c φ h), fun n P h => b.tabs n P (a.tabs n P h)⟩
/-- what a block's loop keeps, the list at D growing -/
structure DPost (K : PySem.W.Frag) (T : Tbs) (Out : Addr → Prop) (D : Addr) (σ : L2.St) (st : Dn) (H : Hp) (ch : List Nat) (st' : Dn) (H' : Hp) : Prop where
  th : TH T H'
  rep : Rep K (OutA Out D) st' σ H'
  stay : Stay (fun b => b = D ∨ Ow st σ ch b) H H'
  same : ∀ i, i ∉ ch → st'[i]? = st[i]?
  sub : ∀ i b, ownAt st' σ i b → ownAt st σ i b
theorem DPost.refl {D : Addr} {σ : L2.St} {st : Dn} {ch : List Nat} (th : TH T H) (R : Rep K (OutA Out D) st σ H) : DPost K T Out D σ st H ch st H := ⟨th, R, .refl _ _, fun _ _ => rfl, fun _ _ h => h⟩
theorem EPost.thenD {D : Addr} {σ : L2.St} {st st1 st2 : Dn} {ch : List Nat} (p : EPost K T (OutA Out D) σ st H ch st1 H1) (q : DPost K T Out D σ st1 H1 ch st2 H2) : DPost K T Out D σ st H ch st2 H2 :=
  ⟨q.th, q.rep, (p.stay.mono fun b z => .inr z).trans (q.stay.mono fun b z => z.imp id fun ⟨i, m, z⟩ => ⟨i, m, p.sub i b z⟩), fun i h => (q.same i h).trans (p.same i h), fun i b h => p.sub i b (q.sub i b h)⟩
theorem DPost.then {D : Addr} {σ : L2.St} {st st1 : Dn} {ch : List Nat} (p : DPost K T Out D σ st H ch st1 H1) (s : Stay No H1 H2) : DPost K T Out D σ st H ch st1 H2 :=
  ⟨p.th.stay s, p.rep.grow s, p.stay.trans s.of0, p.same, p.sub⟩
variable {rs rc ch2 ch3 as1 vs : List Nat}
theorem lc_in {g : PyData → Dn → Option Dn} {c : M Bool} {f : M PyData} (has : ∀ i, i ∈ as1 → i ∈ vs) (dj : Dj rc (ch2 ++ ch3)) (dj2 : Dj rs (ch2 ++ ch3)) {D : Addr} {σ : L2.St} {s3 s4 : Dn} {es ys accD : List PyData} {accV : List V} {J : It} {Nx : Hp → Prop}
    (th : TH T H) (R : Rep K (OutA Out D) s3 σ H) (no : noOwn s3 vs = true) (gv : Gives K (Ob (OutA Out D) s3 σ rc) (Ob (OutA Out D) s3 σ []) H J es) (e : lcGo vs g c f es (wipeD s3 vs) = some (ys, s4)) (hD : H D = some (.lst accV)) (ra : RDs K H (Ob (OutA Out D) s3 σ rs) accV accD)
    (hlen : (accD ++ ys).length ≤ sizeLine) (hNx : ∀ H' accV', DPost K T Out D (L2.wipe σ vs) (wipeD s3 vs) H (ch2 ++ ch3) s4 H' → H' D = some (.lst accV') → RDs K H' (Ob (OutA Out D) s4 (L2.wipe σ vs) rs) accV' (accD ++ ys) → Nx H') :
    ∃ W : Nat → Nat → Hp → Prop, (∃ m, W 0 m H) ∧ ∀ j k H', W j k H' → (J.stop j H' ∧ Nx H') ∨ (J.go j H' ∧ ∃ Nx1 : Hp → Prop, (∀ H', Nx1 H' → ∃ k', k' < k ∧ W (j + 1) k' H') ∧ ∀ x H2, J.yld j H' x H2 → tG K as1 g x (L2.wipe σ vs) H2 fun σ3 H5 => L2.wipe σ3 vs = L2.wipe σ vs ∧ tT K T ch2 c σ3 H5 fun b H6 =>
      if b = true then tE K T rs ch3 f σ3 H6 fun y H7 => ∃ acc, H7 D = some (.lst acc) ∧ acc.length < sizeLine ∧ Nx1 (upd H7 D (.lst (acc ++ [y]))) else Nx1 H6) := by
  have Rw : Rep K (OutA Out D) (wipeD s3 vs) (L2.wipe σ vs) H := R.wipe fun i b m z => noOwn_at no m z
  have ra0 : RDs K H (Ob (OutA Out D) (wipeD s3 vs) (L2.wipe σ vs) rs) accV accD := RDs.mono (fun b z => by
    rcases z with z | ⟨j, nj, z⟩
    · exact .inl z
    · exact .inr ⟨j, nj, (ownW z).1⟩) _ ra
  refine ⟨fun i m Hi => m = es.length - i ∧ i ≤ es.length ∧ ∃ sti aV aD rest, lcGo vs g c f (es.drop i) sti = some (rest, s4) ∧ aD ++ rest = accD ++ ys ∧ DPost K T Out D (L2.wipe σ vs) (wipeD s3 vs) H (ch2 ++ ch3) sti Hi ∧
      Hi D = some (.lst aV) ∧ RDs K Hi (Ob (OutA Out D) sti (L2.wipe σ vs) rs) aV aD, ⟨es.length, by simp, Nat.zero_le _, wipeD s3 vs, accV, accD, ys, e, rfl, .refl th Rw, hD, ra0⟩, ?_⟩
  rintro i m Hi ⟨rfl, hi, sti, aV, aD, rest, ei, er, pi, hDi, rai⟩
  have hlenV : aV.length = aD.length := rai.length
  have stO : Stay (Ob (OutA Out D) s3 σ rc) H Hi := pi.stay.mono fun b z => z.elim (fun z => .inl (.inr z)) fun ⟨j, mj, z⟩ => .inr ⟨j, fun y => dj j y mj, (ownW z).1⟩
  obtain ⟨gs, gi⟩ := gv i Hi stO
  by_cases hlt : i < es.length
  · refine .inr ?_
    obtain ⟨go, gy⟩ := gi es[i] (List.getElem?_eq_getElem hlt)
    rw [List.drop_eq_getElem_cons hlt] at ei
    simp only [lcGo] at ei
    split at ei
    · cases ei
    · rename_i sa ea
      refine ⟨go, fun H' => ∃ m', m' < es.length - i ∧ (m' = es.length - (i + 1) ∧ i + 1 ≤ es.length ∧ ∃ sti aV aD rest, lcGo vs g c f (es.drop (i + 1)) sti = some (rest, s4) ∧ aD ++ rest = accD ++ ys ∧ DPost K T Out D (L2.wipe σ vs) (wipeD s3 vs) H (ch2 ++ ch3) sti H' ∧
        H' D = some (.lst aV) ∧ RDs K H' (Ob (OutA Out D) sti (L2.wipe σ vs) rs) aV aD), fun H' ⟨m', h1, h2⟩ => ⟨m', h1, h2⟩, fun x H3 y => ?_⟩
      obtain ⟨st3, rx⟩ := gy x H3 y
      have p3 := pi.then st3
      have hD3 : H3 D = some (.lst aV) := st3.keep _ _ hDi (fun z => z) (fun ps z => by cases z)
      have ra3 : RDs K H3 (Ob (OutA Out D) sti (L2.wipe σ vs) rs) aV aD := RDs.keep st3 (fun _ z => z.elim) _ rai
      have rx3 : RD K H3 (Ob (OutA Out D) sti (L2.wipe σ vs) []) x es[i] := rx _ fun b z => by
        rcases z with z | ⟨j, mj, z⟩
        · exact .inl (.inl z)
        · exact .inl (.inr ⟨j, mj, (ownW (pi.sub j b z)).1⟩)
      refine ⟨OutA Out D, sti, es[i], sa, p3.rep, rx3, ea, fun σa ga => ?_⟩
      have wa : L2.wipe σa vs = L2.wipe σ vs := by
        have := wipe_eq (σ := L2.wipe σ vs) (σ1 := σa) (vs := vs) ga.len fun j nj => ga.sg j fun z => nj (has j z)
        rw [this, wipe_wipe]
      refine ⟨wa, ?_⟩
      have oa : ∀ (j : Nat) b, ownAt sa σa j b → ownAt sti (L2.wipe σ vs) j b ∧ j ∉ vs := fun j b z => by
        have z1 := ga.own j b z
        exact ⟨z1, (ownW (pi.sub j b z1)).2⟩
      have fin : ∀ {chx : List Nat} {s5 : Dn} {H4 : Hp}, (∀ j, j ∈ chx → j ∈ ch2 ++ ch3) → EPost K T (OutA Out D) σa sa H3 chx s5 H4 → DPost K T Out D (L2.wipe σ vs) (wipeD s3 vs) H (ch2 ++ ch3) (wipeD s5 vs) H4 ∧
          H4 D = some (.lst aV) ∧ RDs K H4 (Ob (OutA Out D) (wipeD s5 vs) (L2.wipe σ vs) rs) aV aD := fun {chx s5 H4} hch p4 => by
        have no4 : ∀ (j : Nat) b, j ∈ vs → ¬ ownAt s5 σa j b := fun j b mj z => (oa j b (p4.sub j b z)).2 mj
        have Rw4 := p4.rep.wipe no4
        rw [wa] at Rw4
        have ow4 : ∀ (j : Nat) b, ownAt (wipeD s5 vs) (L2.wipe σ vs) j b → ownAt sa σa j b ∧ ownAt sti (L2.wipe σ vs) j b := fun j b z => by
          rw [← wa] at z
          have z1 := p4.sub j b (ownW z).1
          exact ⟨z1, (oa j b z1).1⟩
        have st4 : Stay (Ow sti (L2.wipe σ vs) (ch2 ++ ch3)) H3 H4 := p4.stay.mono fun b ⟨j, mj, z⟩ => ⟨j, hch j mj, (oa j b z).1⟩
        refine ⟨⟨p4.th, Rw4, ?_, fun j nj => ?_, fun j b z => pi.sub j b (ow4 j b z).2⟩, ?_, ?_⟩
        · exact p3.stay.trans (st4.mono fun b ⟨j, mj, z⟩ => .inr ⟨j, mj, pi.sub j b z⟩)
        · by_cases hj : j ∈ vs
          · have l1 : s5.length = s3.length := by rw [p4.rep.len, ga.len, wipe_length, R.len]
            by_cases hjl : j < s3.length
            · rw [wipeD_in hj (by omega), wipeD_in hj hjl]
            · rw [List.getElem?_eq_none (by rw [wipeD_len]; omega), List.getElem?_eq_none (by rw [wipeD_len]; omega)]
          · rw [wipeD_other hj, p4.same j fun z => nj (hch j z), ga.same j fun z => hj (has j z), pi.same j nj]
        · exact p4.stay.keep _ _ hD3 (fun ⟨j, _, z⟩ => by
            obtain ⟨_, _, _, _, n, _⟩ := p3.rep.ownLst (oa j D z).1
            exact n (.inr rfl)) (fun ps z => by cases z)
        · refine RDs.mono (fun b z => ?_) _ (RDs.keep st4 (fun b ⟨j, mj, z⟩ => .inr ⟨j, fun y => dj2 j y mj, z⟩) _ ra3)
          rcases z with z | ⟨j, nj, z⟩
          · exact .inl z
          · exact .inr ⟨j, nj, (ow4 j b z).2⟩
      split at ei
      · cases ei
      · rename_i s2 e2c
        refine ⟨OutA Out D, sa, false, s2, p3.th, ga.rep, e2c, fun H4 p4 => iteF ?_⟩
        obtain ⟨f1, f2, f3⟩ := fin (fun j h => List.mem_append_left _ h) p4
        exact ⟨_, by omega, rfl, hlt, wipeD s2 vs, aV, aD, rest, ei, er, f1, f2, f3⟩
      · rename_i s2 e2c
        split at ei
        · cases ei
        · rename_i y s3' e3
          split at ei
          · cases ei
          · rename_i r4 st4 e4
            cases ei
            refine ⟨OutA Out D, sa, true, s2, p3.th, ga.rep, e2c, fun H4 p4 => iteT ⟨OutA Out D, s2, y, s3', p4.th, p4.rep, e3, fun yv H5 p5 r5 => ?_⟩⟩
            obtain ⟨f1, f2, f3⟩ := fin (fun j h => h) (p4.trans p5)
            obtain ⟨w1, w2⟩ := f1.rep.writeA (ys := aV ++ [yv]) f2
            have hl2 : aD.length < sizeLine := by
              rw [← er, List.length_append, List.length_cons] at hlen
              omega
            have wD : ∀ b, b = D → Ob (OutA Out D) (wipeD s3' vs) (L2.wipe σ vs) rs b := fun b z => .inl (.inr z)
            refine ⟨aV, f2, by rw [hlenV]; exact hl2, _, by omega, rfl, hlt, wipeD s3' vs, aV ++ [yv], aD ++ [y], r4, e4, by rw [← er]; simp, ⟨f1.th.stay w2, w1, f1.stay.trans (w2.mono fun b z => .inl z), f1.same, f1.sub⟩, upd_same, (RDs.keep w2 wD _ f3).append (.one ?_)⟩
            refine RD.keep w2 wD _ (RD.mono (fun b z => ?_) _ r5)
            rcases z with z | ⟨j, nj, z⟩
            · exact .inl z
            · rw [← wa] at z
              exact .inr ⟨j, nj, (ownW z).1⟩
  · have e2' : i = es.length := by omega
    subst e2'
    rw [List.drop_length] at ei
    cases ei
    rw [List.append_nil] at er
    subst er
    exact .inl ⟨gs (Nat.le_refl _), hNx Hi aV pi hDi rai⟩
end
section
variable {X : Cx} {T : Tbs} {rs rc rc1 ch ch1 ch2 ch3 ch4 ch5 ch6 as1 as2 : List Nat}
theorem lc2_go {own : List (Str × Nat)} {it it1 : M (List PyData)} {g g1 : PyData → Dn → Option Dn} {c c1 : M Bool} {f : M PyData} {vs1 : List Nat} (has : ∀ i, i ∈ as1 → i ∈ own.map (·.2)) (hv1 : ∀ i, i ∈ vs1 → i ∈ own.map (·.2)) (has2 : ∀ i, i ∈ as2 → i ∈ vs1) (dj : Dj rc (ch2 ++ ch3)) (dj2 : Dj rs (ch2 ++ ch3)) (hi4 : ∀ i, i ∈ ch4 → i ∈ ch2 ++ ch3) (hi5 : ∀ i, i ∈ ch5 ++ ch6 → i ∈ ch2 ++ ch3) (dj3 : Dj rc1 (ch5 ++ ch6)) {σ : L2.St} {H : Hp} {Q : VK}
    (h : tF X.K T rs (ch1 ++ (ch2 ++ ch3)) (lc2M (own.map (·.2)) it g c it1 vs1 g1 c1 f) σ H Q) : tLc2 (tI X.K T rc ch1 it) (tG X.K as1 g) (tT X.K T ch2 c) (tI X.K T rc1 ch4 it1) (tG X.K as2 g1) (tT X.K T ch5 c1) (tE X.K T rs ch6 f) (own.map (·.2)) vs1 σ H Q := by
  obtain ⟨Out, st, res, st', th, R, e, q⟩ := h
  generalize hvs : own.map (·.2) = vs at e has hv1 ⊢
  unfold lc2M at e
  split at e
  · cases e
  · rename_i ds st1 e1
    split at e
    · rename_i no
      split at e
      · cases e
      · rename_i r st2 e2
        split at e
        · rename_i hlen
          cases e
          refine ⟨Out, st, ds, st1, th, R, e1, fun J H1 p1 gv D hD => ?_⟩
          have Rw : Rep X.K Out (wipeD st1 vs) (L2.wipe σ vs) H1 := p1.rep.wipe fun i b m z => noOwn_at no m z
          -- the block's state at turn i: the items so far, what is to come
          refine ⟨fun i m Hi => m = ds.length - i ∧ i ≤ ds.length ∧ ∃ sti accV accD rest, lc2Go vs g c it1 vs1 g1 c1 f (ds.drop i) sti = some (rest, st2) ∧ accD ++ rest = res ∧ EPost X.K T (OutA Out D) (L2.wipe σ vs) (wipeD st1 vs) H1 (ch2 ++ ch3) sti Hi ∧
              Hi D = some (.lst accV) ∧ RDs X.K Hi (Ob (OutA Out D) sti (L2.wipe σ vs) rs) accV accD, ⟨ds.length, by simp, Nat.zero_le _, wipeD st1 vs, [], [], res, e2, rfl,
                ⟨p1.th.stay (Stay.new hD), Rw.new hD, (Stay.new hD).of0, fun _ _ => rfl, fun _ _ h => h⟩, upd_same, .nil⟩, ?_⟩
          rintro i m Hi ⟨rfl, hi, sti, accV, accD, rest, ei, er, pi, hDi, ra⟩
          have hlenV : accV.length = accD.length := ra.length
          -- the iterator stands
          have stO : Stay (Ob Out st1 σ rc) H1 Hi := pi.stay.mono fun b ⟨j, mj, z⟩ => .inr ⟨j, fun y => dj j y mj, (ownW z).1⟩
          obtain ⟨gs, gi⟩ := gv i Hi stO
          by_cases hlt : i < ds.length
          · refine .inr ?_
            obtain ⟨go, gy⟩ := gi ds[i] (List.getElem?_eq_getElem hlt)
            rw [List.drop_eq_getElem_cons hlt] at ei
            simp only [lc2Go] at ei
            split at ei
            · cases ei
            · rename_i sa ea
              refine ⟨go, fun H' => ∃ m', m' < ds.length - i ∧ (m' = ds.length - (i + 1) ∧ i + 1 ≤ ds.length ∧ ∃ sti accV accD rest, lc2Go vs g c it1 vs1 g1 c1 f (ds.drop (i + 1)) sti = some (rest, st2) ∧ accD ++ rest = res ∧ EPost X.K T (OutA Out D) (L2.wipe σ vs) (wipeD st1 vs) H1 (ch2 ++ ch3) sti H' ∧
                H' D = some (.lst accV) ∧ RDs X.K H' (Ob (OutA Out D) sti (L2.wipe σ vs) rs) accV accD), fun H' ⟨m', h1, h2⟩ => ⟨m', h1, h2⟩, fun x H3 y => ?_⟩
              obtain ⟨s3, rx⟩ := gy x H3 y
              have p3 := pi.then s3
              have hD3 : H3 D = some (.lst accV) := s3.keep _ _ hDi (fun z => z) (fun ps z => by cases z)
              have ra3 : RDs X.K H3 (Ob (OutA Out D) sti (L2.wipe σ vs) rs) accV accD := RDs.keep s3 (fun _ z => z.elim) _ ra
              have rx3 : RD X.K H3 (Ob (OutA Out D) sti (L2.wipe σ vs) []) x ds[i] := rx _ fun b z => by
                rcases z with (z | z) | ⟨j, mj, z⟩
                · exact .inl (.inl z)
                · subst z; exact .inr hD
                · exact .inl (.inr ⟨j, mj, (ownW (pi.sub j b z)).1⟩)
              refine ⟨OutA Out D, sti, ds[i], sa, p3.rep, rx3, ea, fun σa ga => ?_⟩
              have wa : L2.wipe σa vs = L2.wipe σ vs := by
                have := wipe_eq (σ := L2.wipe σ vs) (σ1 := σa) (vs := vs) ga.len fun j nj => ga.sg j fun z => nj (has j z)
                rw [this, wipe_wipe]
              refine ⟨wa, ?_⟩
              -- what the turn's slots own was owned before the target was written
              have oa : ∀ (j : Nat) b, ownAt sa σa j b → ownAt sti (L2.wipe σ vs) j b ∧ j ∉ vs := fun j b z => by
                have z1 := ga.own j b z
                exact ⟨z1, (ownW (pi.sub j b z1)).2⟩
              -- the turn's end: the block's own names are forgotten
              have fin : ∀ {chx : List Nat} {s4 : Dn} {H4 : Hp}, (∀ j, j ∈ chx → j ∈ ch2 ++ ch3) → EPost X.K T (OutA Out D) σa sa H3 chx s4 H4 → EPost X.K T (OutA Out D) (L2.wipe σ vs) (wipeD st1 vs) H1 (ch2 ++ ch3) (wipeD s4 vs) H4 ∧
                  H4 D = some (.lst accV) ∧ RDs X.K H4 (Ob (OutA Out D) (wipeD s4 vs) (L2.wipe σ vs) rs) accV accD := fun {chx s4 H4} hch p4 => by
                have no4 : ∀ (j : Nat) b, j ∈ vs → ¬ ownAt s4 σa j b := fun j b mj z => (oa j b (p4.sub j b z)).2 mj
                have Rw4 := p4.rep.wipe no4
                rw [wa] at Rw4
                have ow4 : ∀ (j : Nat) b, ownAt (wipeD s4 vs) (L2.wipe σ vs) j b → ownAt sa σa j b ∧ ownAt sti (L2.wipe σ vs) j b := fun j b z => by
                  rw [← wa] at z
                  have z1 := p4.sub j b (ownW z).1
                  exact ⟨z1, (oa j b z1).1⟩
                have st4 : Stay (Ow sti (L2.wipe σ vs) (ch2 ++ ch3)) H3 H4 := p4.stay.mono fun b ⟨j, mj, z⟩ => ⟨j, hch j mj, (oa j b z).1⟩
                refine ⟨⟨p4.th, Rw4, ?_, fun j nj => ?_, fun j b z => pi.sub j b (ow4 j b z).2⟩, ?_, ?_⟩
                · exact p3.stay.trans (st4.mono fun b ⟨j, mj, z⟩ => ⟨j, mj, pi.sub j b z⟩)
                · by_cases hj : j ∈ vs
                  · have l1 : s4.length = st1.length := by rw [p4.rep.len, ga.len, wipe_length, p1.rep.len]
                    by_cases hjl : j < st1.length
                    · rw [wipeD_in hj (by omega), wipeD_in hj hjl]
                    · rw [List.getElem?_eq_none (by rw [wipeD_len]; omega), List.getElem?_eq_none (by rw [wipeD_len]; omega)]
                  · rw [wipeD_other hj, p4.same j fun z => nj (hch j z), ga.same j fun z => hj (has j z), pi.same j nj]
                · exact p4.stay.keep _ _ hD3 (fun ⟨j, _, z⟩ => by
                    obtain ⟨_, _, _, _, n, _⟩ := p3.rep.ownLst (oa j D z).1
                    exact n (.inr rfl)) (fun ps z => by cases z)
                · refine RDs.mono (fun b z => ?_) _ (RDs.keep st4 (fun b ⟨j, mj, z⟩ => .inr ⟨j, fun y => dj2 j y mj, z⟩) _ ra3)
                  rcases z with z | ⟨j, nj, z⟩
                  · exact .inl z
                  · exact .inr ⟨j, nj, (ow4 j b z).2⟩
              split at ei
              · cases ei
              · rename_i s2 e2c
                refine ⟨OutA Out D, sa, false, s2, p3.th, ga.rep, e2c, fun H4 p4 => iteF ?_⟩
                obtain ⟨f1, f2, f3⟩ := fin (fun j h => List.mem_append_left _ h) p4
                exact ⟨_, by omega, rfl, hlt, wipeD s2 vs, accV, accD, rest, ei, er, f1, f2, f3⟩
              · rename_i s2 e2c
                split at ei
                · cases ei
                · rename_i es s3 e3
                  split at ei
                  · rename_i no3
                    split at ei
                    · cases ei
                    · rename_i ys s4 e4
                      split at ei
                      · cases ei
                      · rename_i r5 s5 e5
                        cases ei
                        refine ⟨OutA Out D, sa, true, s2, p3.th, ga.rep, e2c, fun H4 p4 => iteT ⟨OutA Out D, s2, es, s3, p4.th, p4.rep, e3, fun J1 H5 p5 gv1 => ?_⟩⟩
                        have hch4 : ∀ j, j ∈ ch2 ++ ch4 → j ∈ ch2 ++ ch3 := fun j h => (List.mem_append.mp h).elim (List.mem_append_left _) (hi4 j)
                        have p45 := p4.trans p5
                        obtain ⟨f1, f2, f3⟩ := fin hch4 p45
                        have ow3 : ∀ (j : Nat) b, ownAt s3 σa j b → j ∉ vs ∧ ownAt (wipeD s3 vs) (L2.wipe σ vs) j b := fun j b z => by
                          have hj := (oa j b (p45.sub j b z)).2
                          obtain ⟨⟨ds', q1⟩, q2⟩ := z
                          exact ⟨hj, ⟨ds', by rw [wipeD_other hj]; exact q1⟩, by rw [← wa, wipe_other hj]; exact q2⟩
                        have ra5 : RDs X.K H5 (Ob (OutA Out D) s3 σa rs) accV accD := RDs.mono (fun b z => by
                          rcases z with z | ⟨j, nj, z⟩
                          · exact .inl z
                          · exact .inr ⟨j, nj, (ow3 j b z).2⟩) _ f3
                        refine lc_in has2 dj3 (fun i a b => dj2 i a (hi5 i b)) p5.th p5.rep no3 gv1 e4 f2 ra5 (by rw [← er, ← List.append_assoc, List.length_append] at hlen; omega) fun H' accV' dp hD' ra' => ?_
                        have owB : ∀ (j : Nat) b, ownAt s4 (L2.wipe σa vs1) j b → j ∉ vs ∧ ownAt (wipeD s3 vs) (L2.wipe σ vs) j b := fun j b z => ow3 j b (ownW (dp.sub j b z)).1
                        have ww : L2.wipe (L2.wipe σa vs1) vs = L2.wipe σ vs := by
                          rw [← wa]
                          exact wipe_eq (wipe_length _ _) fun j hj => wipe_other fun z => hj (hv1 j z)
                        have Rw6 := dp.rep.wipe (vs := vs) fun j b mj z => (owB j b z).1 mj
                        rw [ww] at Rw6
                        have ow6 : ∀ (j : Nat) b, ownAt (wipeD s4 vs) (L2.wipe σ vs) j b → ownAt s4 (L2.wipe σa vs1) j b := fun j b z => by
                          rw [← ww] at z
                          exact (ownW z).1
                        refine ⟨_, by omega, rfl, hlt, wipeD s4 vs, accV', accD ++ ys, r5, e5, by rw [← er]; simp, ⟨dp.th, Rw6, f1.stay.newIn hD dp.stay (fun b ⟨j, mj, z⟩ => ⟨j, hi5 j mj, f1.sub j b (ow3 j b (ownW z).1).2⟩), fun j nj => ?_, fun j b z => f1.sub j b (owB j b (ow6 j b z)).2⟩, hD', RDs.mono (fun b z => ?_) _ ra'⟩
                        · by_cases hj : j ∈ vs
                          · have l1 : s4.length = st1.length := by rw [dp.rep.len, wipe_length, ← p5.rep.len, p5.rep.len, ga.len, wipe_length, p1.rep.len]
                            by_cases hjl : j < st1.length
                            · rw [wipeD_in hj (by omega), wipeD_in hj hjl]
                            · rw [List.getElem?_eq_none (by rw [wipeD_len]; omega), List.getElem?_eq_none (by rw [wipeD_len]; omega)]
                          · rw [wipeD_other hj, dp.same j fun z => nj (hi5 j z), wipeD_other fun z => hj (hv1 j z), ← f1.same j nj, wipeD_other hj]
                        · rcases z with z | ⟨j, nj, z⟩
                          · exact .inl z
                          · exact .inr ⟨j, nj, ow6 j b z⟩
                  · cases ei
          · have e2' : i = ds.length := by omega
            subst e2'
            rw [List.drop_length] at ei
            cases ei
            rw [List.append_nil] at er
            subst er
            refine .inl ⟨gs (Nat.le_refl _), ?_⟩
            have pB : EPost X.K T Out (L2.wipe σ vs) (wipeD st1 vs) H1 (ch2 ++ ch3) _ Hi := ⟨pi.th, pi.rep.unA, pi.stay, pi.same, pi.sub⟩
            have pC := pB.back p1.rep no
            have rA : Rep X.K (OutA Out D) (restore st1 _ vs) σ Hi := p1.rep.back no (fun b z => z.imp id fun y => by rw [y]; exact hD) pi.rep pi.stay pi.sub
            refine q D accV Hi (p1.trans pC) rA (hnone p1.stay hD) hDi (RDs.mono (fun b z => ?_) _ ra)
            rcases z with z | ⟨j, nj, z⟩
            · exact .inl z
            · exact .inr ⟨j, nj, (back_own (by rw [pi.rep.len, wipe_length, p1.rep.len]) no z).2⟩
        · cases e
    · cases e
theorem sf_lc2 {elt tg iter tg1 iter1 : Expr} {ifs ifs1 : List Expr} {scope : Scope} {own : List (Str × Nat)} {vs1 : List Nat} {pos : Pos} {it it1 : M (List PyData)} {g g1 : PyData → Dn → Option Dn} {c c1 : M Bool} {f : M PyData} (hc : X.calm = true) (hN : X.N.Nodup)
    (hi : SI X T tg rc ch1 iter it) (ok : BlkOk X.N X.env.scope scope own) (has : ∀ i, i ∈ as1 → i ∈ own.map (·.2)) (hv1 : ∀ i, i ∈ vs1 → i ∈ own.map (·.2)) (has2 : ∀ i, i ∈ as2 → i ∈ vs1)
    (hg : ∀ (s : Shared) (H : Hp) (C : Addr) (cl : List (Str × Addr)) (fp : List Addr), SG (X.blk s H scope (compEnvC scope cl C X.env) fp) as1 tg g) (ht : ∀ (s : Shared) (H : Hp) (C : Addr) (cl : List (Str × Addr)) (fp : List Addr), STs (X.blk s H scope (compEnvC scope cl C X.env) fp) T ch2 ifs c) (hi1 : ∀ (s : Shared) (H : Hp) (C : Addr) (cl : List (Str × Addr)) (fp : List Addr), SI (X.blk s H scope (compEnvC scope cl C X.env) fp) T tg1 rc1 ch4 iter1 it1)
    (hg1 : ∀ (s : Shared) (H : Hp) (C : Addr) (cl : List (Str × Addr)) (fp : List Addr), SG (X.blk s H scope (compEnvC scope cl C X.env) fp) as2 tg1 g1) (ht1 : ∀ (s : Shared) (H : Hp) (C : Addr) (cl : List (Str × Addr)) (fp : List Addr), STs (X.blk s H scope (compEnvC scope cl C X.env) fp) T ch5 ifs1 c1) (he : ∀ (s : Shared) (H : Hp) (C : Addr) (cl : List (Str × Addr)) (fp : List Addr), SE (X.blk s H scope (compEnvC scope cl C X.env) fp) T rs ch6 elt f)
    (dj : Dj rc (ch2 ++ (ch4 ++ (ch5 ++ ch6)))) (dj2 : Dj rs (ch2 ++ (ch4 ++ (ch5 ++ ch6)))) (dj3 : Dj rc1 (ch5 ++ ch6)) (hs : ∀ x, foldedSetIterable iter X.env x = pure x := by intro _; rfl) (hs1 : ∀ env x, foldedSetIterable iter1 env x = pure x := by intro _ _; rfl) :
    SF X T rs (ch1 ++ (ch2 ++ (ch4 ++ (ch5 ++ ch6)))) (.ListComp elt [⟨tg, iter, ifs, 0⟩, ⟨tg1, iter1, ifs1, 0⟩] scope pos) (lc2M (own.map (·.2)) it g c it1 vs1 g1 c1 f) :=
  PE.imp (pe_lc2 (g := tG X.K as1 g) (tt := tT X.K T ch2 c) (g1 := tG X.K as2 g1) (tt1 := tT X.K T ch5 c1) (te := tE X.K T rs ch6 f) hc hN hi ok hv1 hg ht hi1 hg1 ht1 he hs hs1) fun σ H Q h =>
    lc2_go has hv1 has2 dj dj2 (fun i h => List.mem_append_right _ (List.mem_append_left _ h)) (fun i h => List.mem_append_right _ (List.mem_append_right _ h)) dj3 h
theorem ss_setLc2 {i : Nat} {y : Str} {py spos : Pos} {elt tg iter tg1 iter1 : Expr} {ifs ifs1 : List Expr} {scope : Scope} {own : List (Str × Nat)} {vs1 : List Nat} {pos : Pos} {it it1 : M (List PyData)} {g g1 : PyData → Dn → Option Dn} {c c1 : M Bool} {f : M PyData} (hc : X.calm = true) (hN : X.N.Nodup)
    (hy : X.N[i]? = some y) (hyl : X.env.scope.names.lookup y = some .local) (hk : X.env.scope.kind = .function) (hl : (py.line == pos.line) = true) (ha : (scope.names.any fun (n, k) => n == y && (k == .local || k == .cell)) = false)
    (hi : SI X T tg rc ch1 iter it) (ok : BlkOk X.N X.env.scope scope own) (has : ∀ i, i ∈ as1 → i ∈ own.map (·.2)) (hv1 : ∀ i, i ∈ vs1 → i ∈ own.map (·.2)) (has2 : ∀ i, i ∈ as2 → i ∈ vs1)
    (hg : ∀ (s : Shared) (H : Hp) (C : Addr) (cl : List (Str × Addr)) (fp : List Addr), SG (X.blk s H scope (compEnvC scope cl C X.env) fp) as1 tg g) (ht : ∀ (s : Shared) (H : Hp) (C : Addr) (cl : List (Str × Addr)) (fp : List Addr), STs (X.blk s H scope (compEnvC scope cl C X.env) fp) T ch2 ifs c) (hi1 : ∀ (s : Shared) (H : Hp) (C : Addr) (cl : List (Str × Addr)) (fp : List Addr), SI (X.blk s H scope (compEnvC scope cl C X.env) fp) T tg1 rc1 ch4 iter1 it1)
    (hg1 : ∀ (s : Shared) (H : Hp) (C : Addr) (cl : List (Str × Addr)) (fp : List Addr), SG (X.blk s H scope (compEnvC scope cl C X.env) fp) as2 tg1 g1) (ht1 : ∀ (s : Shared) (H : Hp) (C : Addr) (cl : List (Str × Addr)) (fp : List Addr), STs (X.blk s H scope (compEnvC scope cl C X.env) fp) T ch5 ifs1 c1) (he : ∀ (s : Shared) (H : Hp) (C : Addr) (cl : List (Str × Addr)) (fp : List Addr), SE (X.blk s H scope (compEnvC scope cl C X.env) fp) T rs ch6 elt f)
    (dj : Dj rc (ch2 ++ (ch4 ++ (ch5 ++ ch6)))) (dj2 : Dj rs (ch2 ++ (ch4 ++ (ch5 ++ ch6)))) (dj3 : Dj rc1 (ch5 ++ ch6)) (hs : ∀ x, foldedSetIterable iter X.env x = pure x := by intro _; rfl) (hs1 : ∀ env x, foldedSetIterable iter1 env x = pure x := by intro _ _; rfl) :
    SS X T [i] ((ch1 ++ (ch2 ++ (ch4 ++ (ch5 ++ ch6)))) ++ rs) (.Assign [.Name y py] (.ListComp elt [⟨tg, iter, ifs, 0⟩, ⟨tg1, iter1, ifs1, 0⟩] scope pos) spos) (setM i rs (liD (lc2M (own.map (·.2)) it g c it1 vs1 g1 c1 f))) :=
  PS.imp (ps_setLc2 (g := tG X.K as1 g) (tt := tT X.K T ch2 c) (g1 := tG X.K as2 g1) (tt1 := tT X.K T ch5 c1) (te := tE X.K T rs ch6 f) hc hN hy hyl (sw_true hk hyl hl ha) hi ok hv1 hg ht hi1 hg1 ht1 he hs hs1) fun D σ H h =>
    lc2_go has hv1 has2 dj dj2 (fun i h => List.mem_append_right _ (List.mem_append_left _ h)) (fun i h => List.mem_append_right _ (List.mem_append_right _ h)) dj3 (liD_go (setM_go h))
theorem ss_setLc2O {i : Nat} {y : Str} {py spos : Pos} {elt tg iter tg1 iter1 : Expr} {ifs ifs1 : List Expr} {scope : Scope} {own : List (Str × Nat)} {vs1 : List Nat} {pos : Pos} {it it1 : M (List PyData)} {g g1 : PyData → Dn → Option Dn} {c c1 : M Bool} {f : M PyData} (hc : X.calm = true) (hN : X.N.Nodup)
    (hy : X.N[i]? = some y) (hyl : X.env.scope.names.lookup y = some .local) (hk : X.env.scope.kind = .function) (hl : (py.line == pos.line) = true) (ha : (scope.names.any fun (n, k) => n == y && (k == .local || k == .cell)) = false)
    (hi : SI X T tg rc ch1 iter it) (ok : BlkOk X.N X.env.scope scope own) (has : ∀ i, i ∈ as1 → i ∈ own.map (·.2)) (hv1 : ∀ i, i ∈ vs1 → i ∈ own.map (·.2)) (has2 : ∀ i, i ∈ as2 → i ∈ vs1)
    (hg : ∀ (s : Shared) (H : Hp) (C : Addr) (cl : List (Str × Addr)) (fp : List Addr), SG (X.blk s H scope (compEnvC scope cl C X.env) fp) as1 tg g) (ht : ∀ (s : Shared) (H : Hp) (C : Addr) (cl : List (Str × Addr)) (fp : List Addr), STs (X.blk s H scope (compEnvC scope cl C X.env) fp) T ch2 ifs c) (hi1 : ∀ (s : Shared) (H : Hp) (C : Addr) (cl : List (Str × Addr)) (fp : List Addr), SI (X.blk s H scope (compEnvC scope cl C X.env) fp) T tg1 rc1 ch4 iter1 it1)
    (hg1 : ∀ (s : Shared) (H : Hp) (C : Addr) (cl : List (Str × Addr)) (fp : List Addr), SG (X.blk s H scope (compEnvC scope cl C X.env) fp) as2 tg1 g1) (ht1 : ∀ (s : Shared) (H : Hp) (C : Addr) (cl : List (Str × Addr)) (fp : List Addr), STs (X.blk s H scope (compEnvC scope cl C X.env) fp) T ch5 ifs1 c1) (he : ∀ (s : Shared) (H : Hp) (C : Addr) (cl : List (Str × Addr)) (fp : List Addr), SE (X.blk s H scope (compEnvC scope cl C X.env) fp) T rs ch6 elt f)
    (dj : Dj rc (ch2 ++ (ch4 ++ (ch5 ++ ch6)))) (dj2 : Dj rs (ch2 ++ (ch4 ++ (ch5 ++ ch6)))) (dj3 : Dj rc1 (ch5 ++ ch6)) (hs : ∀ x, foldedSetIterable iter X.env x = pure x := by intro _; rfl) (hs1 : ∀ env x, foldedSetIterable iter1 env x = pure x := by intro _ _; rfl) :
    SS X T [i] ((ch1 ++ (ch2 ++ (ch4 ++ (ch5 ++ ch6)))) ++ rs) (.Assign [.Name y py] (.ListComp elt [⟨tg, iter, ifs, 0⟩, ⟨tg1, iter1, ifs1, 0⟩] scope pos) spos) (setO i rs (lc2M (own.map (·.2)) it g c it1 vs1 g1 c1 f)) :=
  PS.imp (ps_setLc2 (g := tG X.K as1 g) (tt := tT X.K T ch2 c) (g1 := tG X.K as2 g1) (tt1 := tT X.K T ch5 c1) (te := tE X.K T rs ch6 f) hc hN hy hyl (sw_true hk hyl hl ha) hi ok hv1 hg ht hi1 hg1 ht1 he hs hs1) fun D σ H h =>
    lc2_go has hv1 has2 dj dj2 (fun i h => List.mem_append_right _ (List.mem_append_left _ h)) (fun i h => List.mem_append_right _ (List.mem_append_right _ h)) dj3 (setO_go h)
end
end LH

set_option Elab.async false
set_option linter.all false
set_option maxRecDepth 100000
set_option maxHeartbeats 2000000
/-! Lh25: slices, chains of comparisons, join, a walk over items without lists -/
namespace LH
open PySem PySem.Spec PyProof.Rows L2

section
variable {X : Cx} {T : Tbs} {rs rs1 rs2 rs3 rc re ch ch1 ch2 ch3 : List Nat} {e a b c tg : Expr} {es : List Expr} {pos p1 p2 : Pos} {f fa fb fc : M PyData} {fl fs : M (List PyData)} {i : Nat} {x : Str}

/-! ### a walk over items that hold no list -/
def freeM (f : M (List PyData)) : M (List PyData) := fun st => match f st with
  | some (ds, st1) => if lfs ds then some (ds, st1) else none
  | none => none
theorem sc_free (h : SC X T rc re ch e fl) : SC X T rc [] ch e (freeM fl) := by
  refine PE.imp h fun σ H Q ⟨Out, st, ds, st', th, R, e, q⟩ => ?_
  unfold freeM at e
  split at e
  · rename_i ds' st1 e1
    split at e
    · rename_i hl
      cases e
      exact ⟨Out, st, ds, st', th, R, e1, fun v H' p ⟨a, vs, ev, h1, h2⟩ => q v H' p ⟨a, vs, ev, h1, RDs.free _ hl h2⟩⟩
    · cases e
  · cases e

/-! ### slices -/
abbrev SO (X : Cx) (T : Tbs) (ch : List Nat) (e : Option Expr) (f : M (Option Int)) : Prop :=
  PO X e (fun σ H Q => ∃ Out st o st', TH T H ∧ Rep X.K Out st σ H ∧ f st = some (o, st') ∧ ∀ H', EPost X.K T Out σ st H ch st' H' → Q o H')
def noP : M (Option Int) := fun st => some (none, st)
def isI : PyData → Option (Option Int)
  | .int i => some (some i)
  | _ => none
theorem PO.imp {X : Cx} {e : Option Expr} {t t' : TO} (h : PO X e t) (i : ∀ σ H Q, t' σ H Q → t σ H Q) : PO X e t' := ⟨fun pins s σ H Q I q => h.run pins s σ H Q I (i σ H Q q)⟩
theorem so_none : SO X T [] none noP := PO.imp po_none fun σ H Q ⟨Out, st, o, st', th, R, e, q⟩ => by
  cases e
  exact q H (.refl th R)
theorem so_some (h : SE X T rs ch e f) : SO X T ch (some e) (lift1 isI f) := PO.imp (po_some h) fun σ H Q ⟨Out, st, o, st', th, R, e, q⟩ => by
  obtain ⟨da, e1, e2⟩ := lift1_some e
  refine ⟨Out, st, da, st', th, R, e1, fun v H' p r => ?_⟩
  unfold isI at e2
  split at e2
  · cases e2
    cases r
    exact ⟨_, rfl, q H' p⟩
  · cases e2
def cutD (ds : List PyData) (lo hi : Option Int) : List PyData := (ds.drop (HT.sIx ds.length 0 lo)).take (HT.sIx ds.length ds.length hi - HT.sIx ds.length 0 lo)
def sliceD (d : PyData) (lo hi : Option Int) : Option PyData := match d with
  | .list ds => some (.list (cutD ds lo hi))
  | .tuple ds => some (.tuple (cutD ds lo hi))
  | .str z => if z.length ≤ sizeLine then some (.str (cutS z lo hi)) else none
  | _ => none
def slM (f : M PyData) (lo hi : M (Option Int)) : M PyData := fun st => match f st with
  | none => none
  | some (d, st1) => match lo st1 with
    | none => none
    | some (l, st2) => match hi st2 with
      | none => none
      | some (u, st3) => match sliceD d l u with
        | none => none
        | some r => some (r, st3)
theorem slM_some {f : M PyData} {lo hi : M (Option Int)} {st st3 : Dn} {r : PyData} (h : slM f lo hi st = some (r, st3)) : ∃ d st1 l st2 u, f st = some (d, st1) ∧ lo st1 = some (l, st2) ∧ hi st2 = some (u, st3) ∧ sliceD d l u = some r := by
  unfold slM at h
  split at h
  · cases h
  · rename_i d st1 e1
    split at h
    · cases h
    · rename_i l st2 e2
      split at h
      · cases h
      · rename_i u st3' e3
        split at h
        · cases h
        · rename_i r' e4
          cases h
          exact ⟨d, st1, l, st2, u, e1, e2, e3, e4⟩
theorem RDs.cut {K : PySem.W.Frag} {H : Hp} {O : Addr → Prop} {vs : List V} {ds : List PyData} {lo hi : Option Int} (r : RDs K H O vs ds) : RDs K H O (cutV vs lo hi) (cutD ds lo hi) := by
  unfold cutV cutD
  rw [r.length]
  exact RDs.take _ (RDs.drop _ r)
theorem cutV_whole {vs : List V} {ds : List PyData} {lo hi : Option Int} (hl : vs.length = ds.length) (h : HT.sIx vs.length 0 lo = 0 ∧ HT.sIx vs.length vs.length hi = vs.length) : cutD ds lo hi = ds := by
  unfold cutD
  rw [← hl, h.1, h.2]
  simp [hl]
/-- t[lo:hi]: the whole of it is t itself; a new one has no dict -/
def rSlN (K : PySem.W.Frag) : V → Option Int → Option Int → Hp → VK → Prop := fun x lo hi H Q => ∃ a xs, x = .ref a ∧ SqT K H a xs ∧
  (HT.sIx xs.length 0 lo = 0 ∧ HT.sIx xs.length xs.length hi = xs.length → Q (.ref a) H) ∧ (¬ (HT.sIx xs.length 0 lo = 0 ∧ HT.sIx xs.length xs.length hi = xs.length) → ∀ p o, H p = none → o.dict = none → Q (.ref p) (upd H p (.frz o (.tup (cutV xs lo hi)))))
theorem sl_tupN : SlR X (rSlN X.K) := by
  intro pins s σ H x v vl vu lo hi sl Q I rx hs pl pu h
  obtain ⟨a, xs, rfl, hx, q1, q2⟩ := h
  cases rx
  obtain ⟨its, r, ht, hz⟩ := I.tuple hx
  have hlen : its.toArray.size = xs.length := by rw [List.size_toArray]; exact r.length.symm
  refine ⟨"tuple", _, PyProof.Rows.slot_tuple_getitem.lookup, ht.typeIs, ?_⟩
  by_cases hw : HT.sIx xs.length 0 lo = 0 ∧ HT.sIx xs.length xs.length hi = xs.length
  · exact getItem_tuple_whole ht hs pl pu (by rw [hlen]; exact hw) ⟨.ref a, H, I, rfl, q1 hw⟩
  · refine HT.getItem_tuple_cut ht hs pl pu (by rw [hlen]; exact hw) ?_ (by rw [hlen]; exact hz)
    rw [hlen]
    exact ⟨.ref s.heap.objs.size, _, I.laid (t' := s.toks) (o := .frz _ (.tup (cutV xs lo hi))) (fun b ob q => Heap.get?_push_of_some _ q) (Nat.le_refl _) ⟨Heap.get?_push_size _ rfl, Nat.le_trans (cutV_length xs lo hi) hz, _, (r.drop (HT.sIx xs.length 0 lo)).take (HT.sIx xs.length xs.length hi - HT.sIx xs.length 0 lo), IsTup.new _ _⟩, rfl, q2 hw _ _ (I.hok.fresh (Nat.le_refl _)) rfl⟩
theorem se_slice {lo hi : Option Expr} {fo fh : M (Option Int)} (ha : SE X T rs ch1 a fa) (hl : SO X T ch2 lo fo) (hh : SO X T ch3 hi fh) (dj : Dj rs (ch2 ++ ch3)) :
    SE X T rs (ch1 ++ (ch2 ++ ch3)) (.Subscript a (.Slice lo hi none p2) pos) (slM fa fo fh) := by
  refine PE.imp (pe_slice (sl_list.or (sl_tupN.or sl_str)) ha hl hh) fun σ H Q ⟨Out, st, d, st', th, R, e, q⟩ => ?_
  obtain ⟨da, st1, l, st2, u, e1, e2, e3, e4⟩ := slM_some e
  refine ⟨Out, st, da, st1, th, R, e1, fun v H1 P1 r1 => ⟨Out, st1, l, st2, P1.th, P1.rep, e2, fun H2 P2 => ⟨Out, st2, u, st', P2.th, P2.rep, e3, fun H3 P3 => ?_⟩⟩⟩
  have r := (P2.trans P3).rd dj r1
  have PP := P1.trans (P2.trans P3)
  have hO := PP.rep.obThere (rs := rs)
  unfold sliceD at e4
  split at e4
  · cases e4
    cases r with
    | lst h1 n rr => exact .inl ⟨_, _, rfl, .inl h1, fun p hp => q _ _ (PP.then (Stay.new hp)) (rd_lst hO hp rr.cut)⟩
  · cases e4
    cases r with
    | tup h1 rr =>
      refine .inr (.inl ⟨_, _, rfl, h1.t, fun hw => ?_, fun _ p o hp hd => q _ _ (PP.then (Stay.new hp)) (rd_tup hp hd rr.cut)⟩)
      have := cutV_whole rr.length hw
      exact q _ _ PP (by rw [this]; exact .tup h1 rr)
  · split at e4
    · rename_i hz
      cases e4
      cases r
      exact .inr (.inr ⟨_, rfl, hz, q _ _ PP (.str _)⟩)
    · cases e4
  · cases e4

/-! ### a chain of two comparisons -/
def chainM (o o' : PyData → PyData → Option PyData) (fa fb fc : M PyData) : M PyData := fun st => match fa st with
  | none => none
  | some (da, st1) => match fb st1 with
    | none => none
    | some (db, st2) => match both o da db with
      | none => none
      | some false => some (.bool false, st2)
      | some true => match fc st2 with
        | none => none
        | some (dc, st3) => match both o' db dc with
          | none => none
          | some k => some (.bool k, st3)
theorem chain_go {g g' : Value → Value → Sem Value} {o o' : PyData → PyData → Option PyData} {r r' : R2} (dj1 : Dj rs1 ch2) (dj3 : Dj rs2 ch3)
    (h2 : ∀ x y dx dy d H O Q, (∀ b, O b → H b ≠ none) → RD X.K H O x dx → RD X.K H O y dy → o dx dy = some d → (∀ v H', Stay No H H' → RD X.K H' O v d → Q v H') → r x y H Q)
    (h2' : ∀ x y dx dy d H O Q, (∀ b, O b → H b ≠ none) → RD X.K H O x dx → RD X.K H O y dy → o' dx dy = some d → (∀ v H', Stay No H H' → RD X.K H' O v d → Q v H') → r' x y H Q)
    {σ : L2.St} {H : Hp} {Q : VK} (h : tE X.K T [] (ch1 ++ (ch2 ++ ch3)) (chainM o o' fa fb fc) σ H Q) : tChain r r' (tE X.K T rs1 ch1 fa) (tE X.K T rs2 ch2 fb) (tE X.K T rs3 ch3 fc) σ H Q := by
  obtain ⟨Out, st, d, st', th, R, e, q⟩ := h
  unfold chainM at e
  split at e
  · cases e
  · rename_i da st1 e1
    split at e
    · cases e
    · rename_i db st2 e2
      refine ⟨Out, st, da, st1, th, R, e1, fun x H1 P1 r1 => ⟨Out, st1, db, st2, P1.th, P1.rep, e2, fun y H2 P2 r2 => ?_⟩⟩
      have r1' := RD.mono (Ob.mono (rs' := rs1 ++ rs2) fun i h => List.mem_append_left _ h) _ (P2.rd dj1 r1)
      have r2' := RD.mono (Ob.mono (rs' := rs1 ++ rs2) fun i h => List.mem_append_right _ h) _ r2
      split at e
      · cases e
      · rename_i eo
        cases e
        refine h2 x y da db _ H2 (Ob Out st' σ (rs1 ++ rs2)) _ P2.rep.obThere r1' r2' (both_some eo) fun v H' s rv => ?_
        cases rv
        exact ⟨false, rfl, iteF <| q _ H' ((((P1.trans P2).mono fun i h => by
          rcases List.mem_append.mp h with h | h
          · exact List.mem_append_left _ h
          · exact List.mem_append_right _ (List.mem_append_left _ h))).then s) (.bl _)⟩
      · rename_i eo
        split at e
        · cases e
        · rename_i dc st3 e3
          split at e
          · cases e
          · rename_i k ek
            cases e
            refine h2 x y da db _ H2 (Ob Out st2 σ (rs1 ++ rs2)) _ P2.rep.obThere r1' r2' (both_some eo) fun v H' s rv => ?_
            cases rv
            refine ⟨true, rfl, iteT <| ⟨Out, st2, dc, st', P2.th.stay s, P2.rep.grow s, e3, fun z H3 P3 r3 => ?_⟩⟩
            have r2'' := P3.rd (rs := rs2) dj3 (RD.keep s (fun _ z => z.elim) _ r2)
            refine h2' y z db dc _ H3 (Ob Out st' σ (rs2 ++ rs3)) _ P3.rep.obThere (RD.mono (Ob.mono fun i h => List.mem_append_left _ h) _ r2'') (RD.mono (Ob.mono fun i h => List.mem_append_right _ h) _ r3) (both_some ek) fun v H4 s4 rv => ?_
            exact q v H4 (((P1.trans ((P2.then s).trans P3))).then s4) (by cases rv; exact .bl _)
theorem se_chain {op op' : CmpOp} {o o' : PyData → PyData → Option PyData} (ho : OpD X (compareOp op) o) (ho' : OpD X (compareOp op') o') (ha : SE X T rs1 ch1 a fa) (hb : SE X T rs2 ch2 b fb) (hc : SE X T rs3 ch3 c fc) (dj1 : Dj rs1 ch2) (dj3 : Dj rs2 ch3)
    (hm : lastMarks [op, op'] [b, c] = false := by with_unfolding_all rfl) : SE X T [] (ch1 ++ (ch2 ++ ch3)) (.Compare a [op, op'] [b, c] pos) (chainM o o' fa fb fc) := by
  obtain ⟨r, _, h2⟩ := ho.ex
  obtain ⟨r', _, h2'⟩ := ho'.ex
  have h1 : OpR X (compareOp op) r := by assumption
  have h1' : OpR X (compareOp op') r' := by assumption
  exact PE.imp (pe_chain h1 h1' ha hb hc hm) fun σ H Q h => chain_go (g := compareOp op) (g' := compareOp op') dj1 dj3 h2 h2' h
theorem st_chain {op op' : CmpOp} {o o' : PyData → PyData → Option PyData} (ho : OpD X (compareOp op) o) (ho' : OpD X (compareOp op') o') (ha : SE X T rs1 ch1 a fa) (hb : SE X T rs2 ch2 b fb) (hc : SE X T rs3 ch3 c fc) (dj1 : Dj rs1 ch2) (dj3 : Dj rs2 ch3)
    (hm : lastMarks [op, op'] [b, c] = false := by with_unfolding_all rfl) : ST X T (ch1 ++ (ch2 ++ ch3)) (.Compare a [op, op'] [b, c] pos) (lift1 isB (chainM o o' fa fb fc)) := by
  obtain ⟨r, _, h2⟩ := ho.ex
  obtain ⟨r', _, h2'⟩ := ho'.ex
  have h1 : OpR X (compareOp op) r := by assumption
  have h1' : OpR X (compareOp op') r' := by assumption
  refine PT.imp (pt_chain h1 h1' ha hb hc hm) fun σ H Q ⟨Out, st, d, st', th, R, e, q⟩ => ?_
  obtain ⟨da, e1, e2⟩ := lift1_some e
  obtain rfl := isB_some e2
  exact chain_go (g := compareOp op) (g' := compareOp op') dj1 dj3 h2 h2' ⟨Out, st, _, st', th, R, e1, fun v H' p r => by cases r; exact ⟨d, rfl, q H' p⟩⟩
theorem se_iteE {gc : M Bool} (hc : ST X T ch1 c gc) (ha : SE X T rs2 ch2 a fa) (hb : SE X T rs3 ch3 b fb) (e1 : rs2 ++ rs3 = rs := by rfl) (e2 : ch1 ++ (ch2 ++ ch3) = ch := by rfl) : SE X T rs ch (.IfExp c a b pos) (iteM gc fa fb) := by
  subst e1 e2; exact se_ite hc ha hb
theorem SE.q (h : SE X T rs1 ch1 e f) (e1 : rs1 = rs := by rfl) (e2 : ch1 = ch := by rfl) : SE X T rs ch e f := by subst e1 e2; exact h
theorem SA.q (h : SA X T rs1 ch1 es fl) (e1 : rs1 = rs := by rfl) (e2 : ch1 = ch := by rfl) : SA X T rs ch es fl := by subst e1 e2; exact h
theorem SF.q (h : SF X T rs1 ch1 e fl) (e1 : rs1 = rs := by rfl) (e2 : ch1 = ch := by rfl) : SF X T rs ch e fl := by subst e1 e2; exact h
end
end LH

set_option Elab.async false
set_option linter.all false
set_option maxRecDepth 100000
set_option maxHeartbeats 2000000
/-! Lh26: sep.join(..) -/
namespace LH
open PySem PySem.Spec PyProof.Rows L2
open PySem.Builtin PySem.Builtin.Str

def strsD : List PyData → Option (List Str)
  | [] => some []
  | .str x :: ds => (strsD ds).map (x :: ·)
  | _ :: _ => none
theorem strsD_eq : ∀ {ds : List PyData} {ys : List Str}, strsD ds = some ys → ds = ys.map .str
  | [], ys, h => by cases h; rfl
  | d :: ds, ys, h => by
    cases d <;> try (cases h)
    rename_i x
    unfold strsD at h
    cases e : strsD ds with
    | none => rw [e] at h; cases h
    | some r => rw [e] at h; cases h; rw [strsD_eq e]; rfl
def joinL (x : Str) (ds : List PyData) : Option PyData := match strsD ds with
  | some ys => if (ys.map (·.length)).sum + ys.length * x.length ≤ 16777216 then some (.str (Txt.join x ys)) else none
  | none => none
theorem joinL_some {x : Str} {ds : List PyData} {d : PyData} (h : joinL x ds = some d) : ∃ ys, ds = ys.map .str ∧ (ys.map (·.length)).sum + ys.length * x.length ≤ 16777216 ∧ d = .str (Txt.join x ys) := by
  unfold joinL at h
  split at h
  · rename_i ys e
    split at h
    · rename_i hl
      cases h
      exact ⟨ys, strsD_eq e, hl, rfl⟩
    · cases h
  · cases h
def joinM (fs : M PyData) (f : M (List PyData)) : M PyData := fun st => match fs st with
  | some (.str x, st1) => (match f st1 with
    | some (ds, st2) => (match joinL x ds with
      | some d => some (d, st2)
      | none => none)
    | none => none)
  | _ => none
theorem joinM_some {fs : M PyData} {f : M (List PyData)} {st st2 : Dn} {d : PyData} (h : joinM fs f st = some (d, st2)) : ∃ x st1 ds, fs st = some (.str x, st1) ∧ f st1 = some (ds, st2) ∧ joinL x ds = some d := by
  unfold joinM at h
  split at h
  · rename_i x st1 e1
    split at h
    · rename_i ds st2' e2
      split at h
      · rename_i d' e3
        cases h
        exact ⟨x, st1, ds, e1, e2, e3⟩
      · cases h
    · cases h
  · cases h
def allM (f : M (List (Option PyData))) : M (List PyData) := fun st => match f st with
  | some (Tt, st1) => (match tupGo Tt with
    | some ds => some (ds, st1)
    | none => none)
  | none => none
theorem allM_some {f : M (List (Option PyData))} {st st1 : Dn} {ds : List PyData} (h : allM f st = some (ds, st1)) : ∃ Tt, f st = some (Tt, st1) ∧ Tt = ds.map some ∧ ds.length ≤ sizeLine := by
  unfold allM at h
  split at h
  · rename_i Tt st1' e
    split at h
    · rename_i ds' e2
      cases h
      obtain ⟨a, b⟩ := tupGo_some e2
      exact ⟨Tt, e, a, b⟩
    · cases h
  · cases h
section
variable {X : Cx} {T : Tbs} {rs rc re ch ch1 ch2 : List Nat} {o e : Expr} {fs : M PyData} {fl : M (List PyData)} {f : M (List (Option PyData))} {apos pos : Pos}
theorem RDs.strs {K : PySem.W.Frag} {H : Hp} {O : Addr → Prop} : ∀ {vs : List V} (ys : List Str), RDs K H O vs (ys.map PyData.str) → vs = ys.map V.str
  | _, [], r => by cases r; rfl
  | _, n :: ns, r => by
    cases r with
    | cons a b =>
      cases a
      rw [RDs.strs ns b]
      rfl
theorem se_join (ho : SE X T rs ch1 o fs) (he : SC X T rc re ch2 e fl) (hs : starEach [e] X.env = [(false, eval e X.env)] := by rfl) (hs2 : starEach [e] X.env = (false, eval e X.env) :: starEach [] X.env := by rfl) (hbase : attributeBase o "join" X.env (eval o X.env) = eval o X.env := by rfl) (hline : (apos.endLine == pos.line) = true := by rfl) :
    SE X T [] (ch1 ++ ch2) (.Call (.Attribute o "join" apos) [e] [] pos) (joinM fs fl) := by
  refine PE.imp (pe_join ho he hs hbase hline) fun σ H Q ⟨Out, st, d, st', th, R, e, q⟩ => ?_
  obtain ⟨x, st1, ds, e1, e2, e3⟩ := joinM_some e
  obtain ⟨ys, rfl, hl, rfl⟩ := joinL_some e3
  refine ⟨Out, st, _, st1, th, R, e1, fun v H1 p1 r1 => ?_⟩
  cases r1
  refine ⟨⟨_, rfl⟩, Out, st1, _, st', p1.th, p1.rep, e2, fun u H2 p2 ⟨a, vs, ev, h1, h2⟩ => ?_⟩
  subst ev
  have hv := RDs.strs ys h2
  subst hv
  exact ⟨x, a, ys, rfl, rfl, h1.imp (fun z => .inl z.1) (fun z => z.t), hl, q _ H2 (p1.trans p2) (.str _)⟩
variable {k : GenK} {A : Around}
theorem vals_strs : ∀ {ys : List Str} {acc : List Value}, Vals (ys.map V.str) acc → ∃ l : List (Str × Tok), acc = strValues l ∧ l.map (·.1) = ys
  | [], _, h => by cases h; exact ⟨[], rfl, rfl⟩
  | y :: ys, _, h => by
    cases h with
    | cons r t =>
      obtain ⟨u, rfl⟩ := r
      obtain ⟨l, rfl, e⟩ := vals_strs t
      exact ⟨(y, u) :: l, rfl, by rw [List.map_cons, e]⟩
theorem call_join_made {s : Shared} {x : Str} {t : Tok} {ys : List Str} {Q : Value → Shared → Prop} {E : Value → Shared → Prop} (m : Made k s) (hA : Reach k A.in1.in1) (hds : ys.length ≤ sizeLine) (e : k.Tt = (ys.map PyData.str).map some)
    (hj : (ys.map (·.length)).sum + ys.length * x.length ≤ 16777216) (hQ : ∀ s' H' t' n, k.Fin H' s' → Q (.str (Txt.join x ys) t') { s' with toks := n }) : wpAny (model k.Y.prog k.Y.w) A (call (.builtin "str.join") [.str x t, .ref k.a]) Q E s := by
  have hig := m.ok.isGen (GenK.at m.src0.1.held)
  refine wpAny_call (codeAny_call_builtin F.slot_str_join.plain F.entry_str_join (F.slot_str_join.check _ _ _ _ _ _ _ _ (typeIs_str _ _ _) (F.args_str_join_2 _ _) ?_))
  rw [join_tree_other]
  refine wpAny_bind (wpAny_typeOf hig.typeIs ?_)
  show wpAny _ A.in1 ((pyIter (.ref k.a)).tryCatch _ >>= fun it => collect it >>= fun items => joinTail x items) _ _ s
  refine wpAny_bind (wpAny_tryCatch (wpAny_pyIter_gen hig ?_))
  refine wpAny_bind (collect_made m hA (by rw [List.length_map]; exact hds) e fun s' H' acc xs hf hv hr => ?_)
  have hx := RDs.strs ys hr
  subst hx
  obtain ⟨l, rfl, rfl⟩ := vals_strs hv
  have hok := joinOk_of hj
  unfold JoinOk at hok
  rw [Bool.not_eq_true'] at hok
  have g : PySem.Gives (joinTail x (strValues l)) (joinMade x l) := by
    have g0 := gives_joinTail x l hok
    cases l with
    | nil => exact g0
    | cons p r => cases r with
      | nil => exact g0
      | cons q r' => exact g0
  exact g k.Y.prog k.Y.w A (wants Q E) s' (post_join l ⟨joinFit_length hok, fun t' n => hQ s' H' t' n hf⟩)
theorem se_joinG (ho : SE X T rs ch1 o fs) (ge : GE X T ch2 e f) (hbase : attributeBase o "join" X.env (eval o X.env) = eval o X.env := by rfl)
    (hfew : ((backTo pos (starEach [e] X.env)).all (fun x => !x.1) && (backToKw pos (keywordEach [] X.env)).all (fun x => x.1.isSome)
      && decide (([e] : List Expr).length + ([] : List Keyword).length + (if ([] : List Keyword).isEmpty then 0 else 1) < 30)) = true := by rfl)
    (hline : (apos.endLine == pos.line) = true := by rfl) (hs : starEach [e] X.env = (false, eval e X.env) :: starEach [] X.env := by rfl) (hpl : (backTo pos (starEach [] X.env)).any (·.1) = false := by rfl) :
    SE X T [] (ch1 ++ ch2) (.Call (.Attribute o "join" apos) [e] [] pos) (joinM fs (allM f)) := by
  refine ⟨fun pins s σ H Q I ⟨Out, st, d, st2, th, R, ed, q⟩ => ?_⟩
  obtain ⟨x, st1, ds, e1, e2, e3⟩ := joinM_some ed
  obtain ⟨ys, rfl, hl, rfl⟩ := joinL_some e3
  obtain ⟨Tt, e4, e5, e6⟩ := allM_some e2
  refine wpAny_Call_method_late hbase hfew hline rfl (thn (ho.run pins s σ H (fun v H1 => EPost X.K T Out σ st H ch1 st1 H1 ∧ RD X.K H1 (Ob Out st1 σ rs) v (.str x)) I ⟨Out, st, _, st1, th, R, e1, fun v H1 p1 r1 => ⟨p1, r1⟩⟩) fun v s1 ⟨x', H1, I1, r1, p1, rd⟩ => ?_)
  cases rd
  obtain ⟨tk, rfl⟩ := (show ∃ t, v = Value.str x t from r1)
  refine ⟨"str", _, F.plainAttrs_str, F.slot_str_join, F.type_str_join, typeIs_str _ _ _, (fun _ e => nomatch e), ?_⟩
  rw [hs]
  refine Calls.callWith_builtin (by show (false || (backTo pos (starEach [] X.env)).any (·.1)) = false; rw [hpl] <;> rfl) (Calls.evalArgs_plain ?_)
  show wpAny _ _ (spliced ((false, eval e X.env) :: backTo pos (starEach [] X.env))) _ _ s1
  refine Calls.spliced_cons (ge.run pins σ H1 s1 Out st1 st2 Tt _ I1 p1.th p1.rep e4 fun kit s5 k1 k2 k3 k4 k5 k6 k7 k8 k9 k10 p2 m => ?_)
  refine Calls.spliced_nil ?_
  rw [← k2, ← k3]
  refine call_join_made m (Reach.r2 k9) (by rw [List.length_map] at e6; exact e6) (by rw [k8]; exact e5) hl fun s' H' t' n hf => ?_
  obtain ⟨I', p'⟩ := fin_go k1 k5 k6 k10 p2 m.ok hf
  exact ⟨.str _, H', I'.tok _, ⟨t', rfl⟩, q _ H' (p1.trans p') (.str _)⟩
end
end LH

set_option Elab.async false
set_option linter.all false
set_option maxRecDepth 100000
set_option maxHeartbeats 2000000
/-! Lh27: list(range), tuple(range), pop, extend, list * int, list + list as a new list -/
namespace LH
open PySem PySem.Spec PyProof.Rows L2

section
variable {X : Cx} {T : Tbs} {rs rs1 rs2 rc re ch ch1 ch2 : List Nat} {e a b : Expr} {es : List Expr} {pos p p1 p2 : Pos} {f fa fb fk : M PyData} {fl fl1 fl2 : M (List PyData)} {i : Nat} {x : Str}

/-! ### ranges laid -/
def rg2D : PyData → PyData → Option (List PyData)
  | .int i, .int j => if (small62 i && small62 j) && decide ((j - i).toNat ≤ 16777216) then some (rangeD i (j - i).toNat) else none
  | _, _ => none
def rg1D (d : PyData) : Option (List PyData) := rg2D (.int 0) d
theorem rds_range {K : PySem.W.Frag} {H : Hp} {O : Addr → Prop} (lo : Int) (n : Nat) : RDs K H O ((List.range n).map fun i => V.int (lo + (i : Nat))) (rangeD lo n) := by
  unfold rangeD
  generalize List.range n = l
  induction l with
  | nil => exact .nil
  | cons a l ih => exact .cons (.int _) ih
theorem rg2D_some {d d' : PyData} {ds : List PyData} (h : rg2D d d' = some ds) : ∃ i j, d = .int i ∧ d' = .int j ∧ RgOk i j ∧ ds = rangeD i (j - i).toNat := by
  unfold rg2D at h
  split at h
  · rename_i i j
    split at h
    · rename_i hc
      cases h
      rw [Bool.and_eq_true, Bool.and_eq_true] at hc
      have h1 := of_decide_eq_true hc.1.1
      have h2 := of_decide_eq_true hc.1.2
      have h3 := of_decide_eq_true hc.2
      exact ⟨i, j, rfl, rfl, ⟨h1.1, h1.2, h2.1, h2.2, h3⟩, rfl⟩
    · cases h
  · cases h
theorem rg_new {σ : L2.St} {H H1 : Hp} {Out : Addr → Prop} {st st' : Dn} {i j : Int} {Q : VK} (p1 : EPost X.K T Out σ st H ch st' H1)
    (q : ∀ a vs H', EPost X.K T Out σ st H ch st' H' → Rep X.K (OutA Out a) st' σ H' → H a = none → H' a = some (.lst vs) → RDs X.K H' (Ob (OutA Out a) st' σ []) vs (rangeD i (j - i).toNat) → Q (.ref a) H') (l : Addr) (hl : H1 l = none) : Q (.ref l) (upd H1 l (.lst (rgV i j))) :=
  q l _ _ (p1.then (Stay.new hl)) (p1.rep.new hl) (hnone p1.stay hl) upd_same (rds_range _ _)
theorem sf_rg1 (hc : X.calm = true) (hg : Gl X "list") (hm : X.mg "list" = none) (hg2 : Gl X "range") (hm2 : X.mg "range" = none) (ha : SE X T rs ch a fa)
    (hs2 : starEach [.Call (.Name "range" p1) [a] [] p2] X.env = (false, eval (.Call (.Name "range" p1) [a] [] p2) X.env) :: starEach [] X.env := by rfl) (hs : starEach [a] X.env = (false, eval a X.env) :: starEach [] X.env := by rfl) :
    SF X T [] ch (.Call (.Name "list" p) [.Call (.Name "range" p1) [a] [] p2] [] pos) (lift1 rg1D fa) := by
  refine PE.imp (pe_listRg hc hg hm (prg_1 hg2 hm2 ha hs) hs2) fun σ H Q ⟨Out, st, ds, st', th, R, e, q⟩ => ?_
  obtain ⟨da, e1, e2⟩ := lift1_some e
  obtain ⟨i, j, ei, rfl, ok, rfl⟩ := rg2D_some e2
  cases ei
  refine ⟨Out, st, _, st', th, R, e1, fun v H' p1 r => ?_⟩
  cases r
  exact ⟨j, rfl, ok, fun l hl => rg_new p1 q l hl⟩
theorem sf_rg2 (hc : X.calm = true) (hg : Gl X "list") (hm : X.mg "list" = none) (hg2 : Gl X "range") (hm2 : X.mg "range" = none) (ha : SE X T rs1 ch1 a fa) (hb : SE X T rs2 ch2 b fb) (dj : Dj rs1 ch2)
    (hs2 : starEach [.Call (.Name "range" p1) [a, b] [] p2] X.env = (false, eval (.Call (.Name "range" p1) [a, b] [] p2) X.env) :: starEach [] X.env := by rfl) (hs : starEach [a, b] X.env = (false, eval a X.env) :: starEach [b] X.env := by rfl) (hs1 : starEach [b] X.env = (false, eval b X.env) :: starEach [] X.env := by rfl) (hp : (backTo p2 (starEach [b] X.env)).any (·.1) = false := by rfl) :
    SF X T [] (ch1 ++ ch2) (.Call (.Name "list" p) [.Call (.Name "range" p1) [a, b] [] p2] [] pos) (lift2 rg2D fa fb) := by
  refine PE.imp (pe_listRg hc hg hm (prg_2 hg2 hm2 ha hb hs hs1 hp) hs2) fun σ H Q ⟨Out, st, ds, st', th, R, e, q⟩ => ?_
  obtain ⟨da, st1, db, e1, e2, e3⟩ := lift2_some e
  obtain ⟨i, j, rfl, rfl, ok, rfl⟩ := rg2D_some e3
  refine ⟨Out, st, _, st1, th, R, e1, fun v H1 p1 r => ⟨Out, st1, _, st', p1.th, p1.rep, e2, fun w H2 p2 r2 => ?_⟩⟩
  cases r; cases r2
  exact ⟨i, j, rfl, rfl, ok, fun l hl => rg_new (p1.trans p2) q l hl⟩
/-- tuple(range(..)): the new tuple has no dict -/
def tTupRgN (te : L2.St → Hp → (Int → Int → Hp → Prop) → Prop) : TE := fun σ H Q => te σ H fun a b H1 => RgOk a b ∧ ∀ q o, H1 q = none → o.dict = none → Q (.ref q) (upd H1 q (.frz o (.tup (rgV a b))))
theorem pe_tupRgN {e : Expr} {te : L2.St → Hp → (Int → Int → Hp → Prop) → Prop} {p pos : Pos} (hc : X.calm = true) (hg : Gl X "tuple") (hm : X.mg "tuple" = none) (he : PRg X e te) (na : starEach [e] X.env = (false, eval e X.env) :: starEach [] X.env := by rfl) : PE X (.Call (.Name "tuple" p) [e] [] pos) (tTupRgN te) := by
  refine ⟨fun pins s σ H Q I h => Call_ (ld_blt I hg hm boot_tuple (PyProof.Rows.callWith_type1 (args_cons (thn (he pins s σ H _ I h) fun x s1 ⟨r, a, b, t, u, v, H1, ex, hr, I1, ⟨b1, b2, b3, b4, b5⟩, q⟩ => args_nil ?_) na) na))⟩
  subst ex
  refine call_tuple_range (n := (b - a).toNat) (I1.ok.hd hc) hr (small_one b1 b2 b3 b4) (rangeSize_nat a b) b5 fun h' tk acc hk hi => ?_
  have I2 : Inv X pins σ H1 { s1 with heap := h', toks := tk } := I1.kept hk
  exact ⟨.ref h'.objs.size, _, I2.laid (t' := tk) (o := .frz _ (.tup (rgV a b))) (fun c o e => Heap.get?_push_of_some _ e) (Nat.le_refl _) ⟨Heap.get?_push_size _ rfl, by rw [rgV_length, sizeLine_eq]; omega, acc.toList, vals_rg hi, by rw [Array.toArray_toList]; exact IsTup.new _ _⟩, rfl, q _ _ (I2.hok.fresh (Nat.le_refl _)) rfl⟩
def tuL (f : M (List PyData)) : M PyData := tuM f
theorem se_tupRg1 (hc : X.calm = true) (hg : Gl X "tuple") (hm : X.mg "tuple" = none) (hg2 : Gl X "range") (hm2 : X.mg "range" = none) (ha : SE X T rs ch a fa)
    (hs2 : starEach [.Call (.Name "range" p1) [a] [] p2] X.env = (false, eval (.Call (.Name "range" p1) [a] [] p2) X.env) :: starEach [] X.env := by rfl) (hs : starEach [a] X.env = (false, eval a X.env) :: starEach [] X.env := by rfl) :
    SE X T [] ch (.Call (.Name "tuple" p) [.Call (.Name "range" p1) [a] [] p2] [] pos) (tuM (lift1 rg1D fa)) := by
  refine PE.imp (pe_tupRgN hc hg hm (prg_1 hg2 hm2 ha hs) hs2) fun σ H Q ⟨Out, st, d, st', th, R, e, q⟩ => ?_
  unfold tuM at e
  split at e
  · rename_i ds st1 e0
    cases e
    obtain ⟨da, e1, e2⟩ := lift1_some e0
    obtain ⟨i, j, ei, rfl, ok, rfl⟩ := rg2D_some e2
    cases ei
    refine ⟨Out, st, _, st', th, R, e1, fun v H' p1 r => ?_⟩
    cases r
    exact ⟨j, rfl, ok, fun l o hl hd => q _ _ (p1.then (Stay.new hl)) (rd_tup hl hd (rds_range _ _))⟩
  · cases e
theorem se_tupRg2 (hc : X.calm = true) (hg : Gl X "tuple") (hm : X.mg "tuple" = none) (hg2 : Gl X "range") (hm2 : X.mg "range" = none) (ha : SE X T rs1 ch1 a fa) (hb : SE X T rs2 ch2 b fb) (dj : Dj rs1 ch2)
    (hs2 : starEach [.Call (.Name "range" p1) [a, b] [] p2] X.env = (false, eval (.Call (.Name "range" p1) [a, b] [] p2) X.env) :: starEach [] X.env := by rfl) (hs : starEach [a, b] X.env = (false, eval a X.env) :: starEach [b] X.env := by rfl) (hs1 : starEach [b] X.env = (false, eval b X.env) :: starEach [] X.env := by rfl) (hp : (backTo p2 (starEach [b] X.env)).any (·.1) = false := by rfl) :
    SE X T [] (ch1 ++ ch2) (.Call (.Name "tuple" p) [.Call (.Name "range" p1) [a, b] [] p2] [] pos) (tuM (lift2 rg2D fa fb)) := by
  refine PE.imp (pe_tupRgN hc hg hm (prg_2 hg2 hm2 ha hb hs hs1 hp) hs2) fun σ H Q ⟨Out, st, d, st', th, R, e, q⟩ => ?_
  unfold tuM at e
  split at e
  · rename_i ds st1 e0
    cases e
    obtain ⟨da, st1, db, e1, e2, e3⟩ := lift2_some e0
    obtain ⟨i, j, rfl, rfl, ok, rfl⟩ := rg2D_some e3
    refine ⟨Out, st, _, st1, th, R, e1, fun v H1 p1 r => ⟨Out, st1, _, st', p1.th, p1.rep, e2, fun w H2 p2 r2 => ?_⟩⟩
    cases r; cases r2
    exact ⟨i, j, rfl, rfl, ok, fun l o hl hd => q _ _ ((p1.trans p2).then (Stay.new hl)) (rd_tup hl hd (rds_range _ _))⟩
  · cases e

/-! ### x.pop(k), x.pop() -/
def popG (i : Nat) (fk : M PyData) : M PyData := fun st => match st[i]? with
  | some (some (.own _)) => (match fk st with
    | some (.int k, st1) => (match st1[i]? with
      | some (some (.own ds)) => (match ixN ds.length k with
        | some j => (match ds[j]? with
          | some d => if lf d && small62 k then some (d, st1.set i (some (.own (ds.eraseIdx j)))) else none
          | none => none)
        | none => none)
      | _ => none)
    | _ => none)
  | _ => none
theorem popG_some {st st2 : Dn} {d : PyData} (h : popG i fk st = some (d, st2)) : ∃ ds0 k st1 ds j, st[i]? = some (some (.own ds0)) ∧ fk st = some (.int k, st1) ∧ st1[i]? = some (some (.own ds)) ∧ ixN ds.length k = some j ∧ ds[j]? = some d ∧ lf d = true ∧ small62 k = true ∧ st2 = st1.set i (some (.own (ds.eraseIdx j))) := by
  unfold popG at h
  split at h
  · rename_i ds0 e0
    split at h
    · rename_i k st1 e1
      split at h
      · rename_i ds e2
        split at h
        · rename_i j e3
          split at h
          · rename_i d' e4
            split at h
            · rename_i hl
              cases h
              rw [Bool.and_eq_true] at hl
              exact ⟨ds0, k, st1, ds, j, e0, e1, e2, e3, e4, hl.1, hl.2, rfl⟩
            · cases h
          · cases h
        · cases h
      · cases h
    · cases h
  · cases h
theorem RDs.eraseIdx {K : PySem.W.Frag} {H : Hp} {O : Addr → Prop} : ∀ (j : Nat) {vs : List V} {ds : List PyData}, RDs K H O vs ds → RDs K H O (vs.eraseIdx j) (ds.eraseIdx j)
  | _, _, _, .nil => .nil
  | 0, _, _, .cons _ t => t
  | j + 1, _, _, .cons r t => .cons r (RDs.eraseIdx j t)
theorem pop_go {σ : L2.St} {H1 : Hp} {Out : Addr → Prop} {st st1 : Dn} {H : Hp} {ds : List PyData} {j : Nat} {d : PyData} {k : Int} {a : Addr} {Q : VK} (p1 : EPost X.K T Out σ st H ch st1 H1) (e2 : st1[i]? = some (some (.own ds))) (e3 : ixN ds.length k = some j) (e4 : ds[j]? = some d) (hl : lf d = true)
    (hσ : σ[i]? = some (some (.ref a))) (q : ∀ v H', EPost X.K T Out σ st H (ch ++ [i]) (st1.set i (some (.own (ds.eraseIdx j)))) H' → RD X.K H' (Ob Out (st1.set i (some (.own (ds.eraseIdx j)))) σ []) v d → Q v H') :
    ∃ vs y, H1 a = some (.lst vs) ∧ seqIndex? k vs.length = some j ∧ vs[j]? = some y ∧ Q y (upd H1 a (.lst (vs.eraseIdx j))) := by
  obtain ⟨a', vs, q1, q2, q3, q4⟩ := p1.rep.own i ds e2
  rw [hσ] at q1
  cases q1
  obtain ⟨y, hy, ry⟩ := q4.get e4
  obtain ⟨R3, s3, o3⟩ := writeOwn_ok p1.rep e2 hσ q3 (RDs.eraseIdx j q4)
  refine ⟨vs, y, q3, by rw [q4.length]; exact (ixN_seq e3).1, hy, q y _ (p1.trans (ch2 := [i]) ⟨p1.th.stay s3, R3, s3, fun m n => set_other (by simpa using n), o3⟩) (RD.free d hl (RD.keep s3 (fun b ⟨m, _, z⟩ => .inr ⟨m, by simp, z⟩) d ry))⟩
theorem se_pop {apos cpos : Pos} {k : Expr} (n : Nm X i x) (hk : SE X T rs ch k fk) (hbase : attributeBase (.Name x p1) "pop" X.env (eval (.Name x p1) X.env) = eval (.Name x p1) X.env := by rfl)
    (hst : starEach [k] X.env = (false, eval k X.env) :: starEach [] X.env := by rfl)
    (hfew : ((backTo cpos (starEach [k] X.env)).all (fun x => !x.1) && (backToKw cpos (keywordEach [] X.env)).all (fun x => x.1.isSome)
      && decide (([k] : List Expr).length + ([] : List Keyword).length + (if ([] : List Keyword).isEmpty then 0 else 1) < 30)) = true := by rfl)
    (hline : (apos.endLine == cpos.line) = true := by rfl) :
    SE X T [] (ch ++ [i]) (.Call (.Attribute (.Name x p1) "pop" apos) [k] [] cpos) (popG i fk) := by
  refine PE.imp (pe_bm PySem.F.plainAttrs_list PySem.F.slot_list_pop PySem.F.type_list_pop mt_popAt (pe_var n.ix n.vis n.d n.c) (pa_cons hk pa_nil hst) hbase hfew hline hst) fun σ H Q ⟨Out, st, d, st', th, R, e, q⟩ => ?_
  obtain ⟨ds0, kk, st1, ds, j, e0, e1, e2, e3, e4, hl, hsm, rfl⟩ := popG_some e
  obtain ⟨a0, vs0, q1, _, q3, _⟩ := R.own i ds0 e0
  refine ⟨.ref a0, q1, ty_list q3, Out, st, _, st1, th, R, e1, fun v H1 P1 r1 => ?_⟩
  cases r1
  obtain ⟨vs, y, g1, g2, g3, g4⟩ := pop_go P1 e2 e3 e4 hl q1 q
  have hs := of_decide_eq_true hsm
  exact ⟨a0, vs, kk, j, y, rfl, rfl, g1, by omega, by omega, g2, g3, g4⟩

/-! ### x.extend(a new list) -/
def extM (i : Nat) (rs : List Nat) (f : M (List PyData)) : M Fl := chO i rs lfs f fun ds es => if ds.length + es.length ≤ sizeLine then some (ds ++ es) else none
theorem ss_ext {apos cpos : Pos} (n : Nm X i x) (he : SF X T rs ch e fl) (hbase : attributeBase (.Name x p1) "extend" X.env (eval (.Name x p1) X.env) = eval (.Name x p1) X.env := by rfl)
    (hst : starEach [e] X.env = (false, eval e X.env) :: starEach [] X.env := by rfl)
    (hfew : ((backTo cpos (starEach [e] X.env)).all (fun x => !x.1) && (backToKw cpos (keywordEach [] X.env)).all (fun x => x.1.isSome)
      && decide (([e] : List Expr).length + ([] : List Keyword).length + (if ([] : List Keyword).isEmpty then 0 else 1) < 30)) = true := by rfl)
    (hline : (apos.endLine == cpos.line) = true := by rfl) (hs : swapsWith (.Call (.Attribute (.Name x p1) "extend" apos) [e] [] cpos) none pos.line X.env = pure false := by rfl) :
    SS X T [] (ch ++ rs ++ [i]) (.Expr (.Call (.Attribute (.Name x p1) "extend" apos) [e] [] cpos) pos) (extM i rs fl) := by
  refine PS.imp (ps_expr (pe_bm PySem.F.plainAttrs_list PySem.F.slot_list_extend PySem.F.type_list_extend mt_extend (pe_var n.ix n.vis n.d n.c) (pa_cons he pa_nil hst) hbase hfew hline hst) hs) fun D σ H h => ?_
  obtain ⟨Out, st, d, st1, th, R, ⟨ds0, e0⟩, e1, q⟩ := chO_go h
  obtain ⟨a0, vs0, q1, _, q3, _⟩ := R.own i ds0 e0
  refine ⟨.ref a0, q1, ty_list q3, Out, st, d, st1, th, R, e1, fun l us H1 P1 RA hn hl r1 => ?_⟩
  obtain ⟨ds, es, a, vs, w, s1, ha, st2, R2, r2, sm, ob, go⟩ := q H1 P1
  rw [q1] at s1
  cases s1
  have r1' : RDs X.K H1 (Ob Out st1 σ rs) us d := RDs.mono obA' _ r1
  split at w
  · rename_i hz
    cases w
    refine ⟨_, l, vs, us, rfl, rfl, ha, hl, by rw [r2.length, r1.length]; exact hz, go _ (r2.append ?_)⟩
    cases hb : lfs d with
    | true => exact r1'.free d hb
    | false =>
      refine RDs.mono (fun b z => ?_) d r1'
      have := ob b z
      rw [hb] at this
      exact this
  · cases w
end
end LH

set_option Elab.async false
set_option linter.all false
set_option maxRecDepth 100000
set_option maxHeartbeats 2000000
/-! Lh31: x, y = a, b; x += e and its like -/
namespace LH
open PySem PySem.Spec PyProof.Rows L2

section
variable {X : Cx} {T : Tbs} {ch : List Nat} {pos : Pos} {fs : M (List PyData)}
def par2M (i j : Nat) (fs : M (List PyData)) : M Fl := fun st => match fs st with
  | some ([d1, d2], st1) => some (.nx, (st1.set i (some (.val d1))).set j (some (.val d2)))
  | _ => none
theorem gp_two {K : PySem.W.Frag} {Out : Addr → Prop} {st st1 : Dn} {σ σ1 : L2.St} {H : Hp} {asg : List Nat} {v : V} {d : PyData} (g : GPost K Out st σ H asg st1 σ1) (r : RD K H (Ob Out st σ []) v d) : RD K H (Ob Out st1 σ1 []) v d :=
  RD.mono (fun b z => z.elim .inl fun ⟨j, n, z⟩ => .inr ⟨j, n, g.own j b z⟩) d r
theorem ss_par2 {i j : Nat} {x y : Str} {a b : Expr} {px py pt : Pos} {kt k2 pt2} (hc : X.calm = true) (hN : X.N.Nodup) (hi : X.N[i]? = some x) (hj : X.N[j]? = some y) (hij : i ≠ j)
    (hx : X.env.scope.names.lookup x = some .local) (hy : X.env.scope.names.lookup y = some .local) (ha : SA X T [] ch [a, b] fs)
    (hw : swappedStores [.Tuple [.Name x px, .Name y py] kt pt] (.Tuple [a, b] k2 pt2) X.env = pure (some [x, y]))
    (hs : swapsWithSole [.Tuple [.Name x px, .Name y py] kt pt] (.Tuple [a, b] k2 pt2) pos.line X.env = pure false := by rfl) :
    SS X T [i, j] ch (.Assign [.Tuple [.Name x px, .Name y py] kt pt] (.Tuple [a, b] k2 pt2) pos) (par2M i j fs) := by
  refine PS.imp (ps_par hc hN hi hj hij hx hy ha hw hs) fun D σ H ⟨Out, st, fl, st', th, R, e, q⟩ => ?_
  unfold par2M at e
  split at e
  · rename_i d1 d2 st1 e1
    cases e
    refine ⟨Out, st, _, st1, th, R, e1, fun vs H1 p1 r1 => ?_⟩
    cases r1 with
    | cons ra r2 =>
      cases r2 with
      | cons rb r3 =>
        cases r3
        refine ⟨_, _, rfl, ?_⟩
        have g1 := setVal_ok (i := i) p1.rep ra
        have g2 := setVal_ok (i := j) g1.rep (gp_two g1 rb)
        exact q _ H1 (((p1.s).trans ((g1.s (ch := []) p1.th).trans (g2.s (ch := []) p1.th))).mono (fun i h => by simpa using h) fun i h => by simpa using h)
  · cases e
def iaddD : PyData → PyData → Option PyData
  | .int i, .int j => some (.int (i + j))
  | .str x, .str y => if x.length + y.length ≤ sizeLine then some (.str (x ++ y)) else none
  | _, _ => none
theorem iod_add : OpD X (inplaceOp .Add) iaddD := by
  refine ⟨_, iop_add.or iop_add_str, fun x y dx dy d H O Q hO rx ry e q => ?_⟩
  unfold iaddD at e
  split at e
  · cases rx; cases ry; cases e
    exact .inl ⟨_, _, rfl, rfl, q _ _ (Stay.refl _ _) (.int _)⟩
  · split at e
    · rename_i hl
      cases rx; cases ry; cases e
      exact .inr ⟨_, _, rfl, rfl, hl, q _ _ (Stay.refl _ _) (.str _)⟩
    · cases e
  · cases e
theorem iod_sub : OpD X (inplaceOp .Sub) subD := od_int0 iop_sub fun dx dy d e => by
  unfold subD at e
  split at e
  · cases e; exact ⟨_, _, rfl, rfl, fun _ _ => .int _⟩
  · cases e
theorem iod_mul : OpD X (inplaceOp .Mult) mulD := od_int iop_mul fun dx dy d e => by
  unfold mulD at e
  split at e
  · split at e
    · rename_i h
      cases e
      refine ⟨_, _, rfl, rfl, ?_, fun _ _ => .int _⟩
      rw [Bool.or_eq_true] at h
      rcases h with h | h
      · exact .inl (of_decide_eq_true h)
      · exact .inr (of_decide_eq_true h)
    · cases e
  · cases e
theorem iod_fdiv : OpD X (inplaceOp .FloorDiv) fdivD := od_int iop_fdiv fun dx dy d e => by
  unfold fdivD at e
  split at e
  · split at e
    · rename_i h
      cases e
      exact ⟨_, _, rfl, rfl, h, fun _ _ => .int _⟩
    · cases e
  · cases e
end
end LH

set_option Elab.async false
set_option linter.all false
set_option maxRecDepth 100000
set_option maxHeartbeats 2000000
/-! Lh32: zip of two, index, min and max of two ints -/
namespace LH
open PySem PySem.Spec PyProof.Rows L2 RZ

def zipL : List PyData → List PyData → List PyData
  | a :: as, b :: bs => .tuple [a, b] :: zipL as bs
  | _, _ => []
def zipD : PyData → PyData → Option (List PyData)
  | .list xs, .list ys => some (zipL xs ys)
  | .tuple xs, .tuple ys => some (zipL xs ys)
  | _, _ => none
theorem zipL_at : ∀ {xs ys : List PyData} {j : Nat} {d : PyData}, (zipL xs ys)[j]? = some d → ∃ a b, xs[j]? = some a ∧ ys[j]? = some b ∧ d = .tuple [a, b]
  | [], _, _, _, h => by simp [zipL] at h
  | _ :: _, [], _, _, h => by simp [zipL] at h
  | a :: as, b :: bs, 0, d, h => by simp [zipL] at h; exact ⟨a, b, rfl, rfl, h.symm⟩
  | a :: as, b :: bs, j + 1, d, h => by
    obtain ⟨x, y, h1, h2, h3⟩ := zipL_at (xs := as) (ys := bs) (j := j) (d := d) (by simpa [zipL] using h)
    exact ⟨x, y, by simpa using h1, by simpa using h2, h3⟩
theorem zipL_len : ∀ {xs ys : List PyData}, (zipL xs ys).length = min xs.length ys.length
  | [], _ => by simp [zipL]
  | _ :: _, [] => by simp [zipL]
  | a :: as, b :: bs => by simp only [zipL, List.length_cons, zipL_len (xs := as) (ys := bs)]; omega
/-- new pairs that have no dict -/
def ItzN (K : PySem.W.Frag) (a b : Addr) : It :=
  ⟨(Itz K a b).go, fun i H v H' => ∃ T o x y, v = .ref T ∧ H T = none ∧ o.dict = none ∧ H' = upd H T (.frz o (.tup [x, y])) ∧ (∀ xs, SqL K H a xs → xs[i]? = some x) ∧ ∀ ys, SqL K H b ys → ys[i]? = some y, (Itz K a b).stop⟩
theorem turn_ItzN {P : Program} {w : World} {K : PySem.W.Frag} {elts : List Expr} {kk : Nat} {tpos : Pos} {a b z TI TO i1 i2 : Addr} (D : ZipApart z TI TO i1 i2 a b) :
    Turn P w K (.Tuple elts kk tpos) (ItzN K a b) [z, TI, TO, i1, i2] z (fun i h => IsZip h z TI TO .none ∧ IsPair h TI (.ref i1) (.ref i2) ∧ (∃ x y, IsPair h TO x y) ∧ h.IsListIter i1 a i ∧ h.IsListIter i2 b i) :=
  { mem := (turn_zip (P := P) (w := w) (K := K) (elts := elts) (kk := kk) (tpos := tpos) D).mem
    obj := (turn_zip (P := P) (w := w) (K := K) (elts := elts) (kk := kk) (tpos := tpos) D).obj
    keep := (turn_zip (P := P) (w := w) (K := K) (elts := elts) (kk := kk) (tpos := tpos) D).keep
    done := (turn_zip (P := P) (w := w) (K := K) (elts := elts) (kk := kk) (tpos := tpos) D).done
    self := (turn_zip (P := P) (w := w) (K := K) (elts := elts) (kk := kk) (tpos := tpos) D).self
    item := by
      intro X hP hw hK hc i pins s σ H E I hf st hg
      subst hP hw hK
      obtain ⟨hz, hTI, ⟨x0, y0, hTO⟩, h1, h2⟩ := st
      obtain ⟨xs, ys, x, y, hqx, hqy, hx, hy⟩ := hg
      obtain ⟨its, rv, p, _⟩ := I.list hqx
      obtain ⟨its2, rv2, p2, _⟩ := I.list hqy
      obtain ⟨u, hu, ru⟩ := rv.get hx
      obtain ⟨u2, hu2, ru2⟩ := rv2.get hy
      have hzl : z < s.heap.objs.size := Heap.lt_size hz
      refine wpAny_pyNext_zip_item D hz hTI hTO h1 h2 p.isList p2.isList (x := u) (y := u2) (by simpa using hu) (by simpa using hu2) fun h' z' TO' h1' h2' hT hsz hk => ⟨_, rfl, wpAny_letOwnedTupleGo_zip (s := { s with heap := h' }) z' fun h'' z'' sb => ?_⟩
      have hT2 : h''.get? s.heap.objs.size = some (pairO u u2) := (sb.2 _ (Nat.ne_of_gt hzl)).trans hT
      refine ⟨.ref s.heap.objs.size, _, I.turnedNew (t' := s.toks) (ch := [z, TI, TO, i1, i2]) (fun c o hb q => (sb.2 c (fun q' => hb (by simp [q']))).trans (hk c o (fun q' => hb (by simp [q'])) (fun q' => hb (by simp [q'])) (fun q' => hb (by simp [q'])) (fun q' => hb (by simp [q'])) q)) hf (Nat.le_refl _) (pair_ok hT2 ru ru2), rfl,
        ⟨_, _, x, y, rfl, I.hok.fresh (Nat.le_refl _), rfl, rfl, fun l hl => by rw [I.list_inj hl hqx]; exact hx, fun l hl => by rw [I.list_inj hl hqy]; exact hy⟩, ⟨z'', (sb.2 _ D.TIz).trans (hk _ _ D.TIz D.TITO D.TIi1 D.TIi2 hTI), ⟨u, u2, (sb.2 _ D.TOz).trans TO'⟩, h1'.at fun o q => (sb.2 _ D.i1z).trans q, h2'.at fun o q => (sb.2 _ D.i2z).trans q⟩, fun c hcm => ?_⟩
      have hlt : c < s.heap.objs.size := by
        have e' : c = z ∨ c = TI ∨ c = TO ∨ c = i1 ∨ c = i2 := by simpa using hcm
        rcases e' with q | q | q | q | q
        · rw [q]; exact hzl
        · rw [q]; exact Heap.lt_size hTI
        · rw [q]; exact Heap.lt_size hTO
        · rw [q]; obtain ⟨_, e1, _⟩ := h1; exact Heap.lt_size e1
        · rw [q]; obtain ⟨_, e2, _⟩ := h2; exact Heap.lt_size e2
      rw [upd_ne (Nat.ne_of_lt hlt)]
      exact (hf c hcm).1 }
/-- new pairs that have no dict -/
def ItzTN (K : PySem.W.Frag) (a b : Addr) : It :=
  ⟨(ItzT K a b).go, fun i H v H' => ∃ T o x y, v = .ref T ∧ H T = none ∧ o.dict = none ∧ H' = upd H T (.frz o (.tup [x, y])) ∧ (∀ xs, SqT K H a xs → xs[i]? = some x) ∧ ∀ ys, SqT K H b ys → ys[i]? = some y, (ItzT K a b).stop⟩
theorem turn_ItzTN {P : Program} {w : World} {K : PySem.W.Frag} {elts : List Expr} {kk : Nat} {tpos : Pos} {a b z TI TO i1 i2 : Addr} (D : ZipApart z TI TO i1 i2 a b) :
    Turn P w K (.Tuple elts kk tpos) (ItzTN K a b) [z, TI, TO, i1, i2] z (fun i h => IsZip h z TI TO .none ∧ IsPair h TI (.ref i1) (.ref i2) ∧ (∃ x y, IsPair h TO x y) ∧ h.IsTupleIter i1 a i ∧ h.IsTupleIter i2 b i) :=
  { mem := (turn_zipT (P := P) (w := w) (K := K) (elts := elts) (kk := kk) (tpos := tpos) D).mem
    obj := (turn_zipT (P := P) (w := w) (K := K) (elts := elts) (kk := kk) (tpos := tpos) D).obj
    keep := (turn_zipT (P := P) (w := w) (K := K) (elts := elts) (kk := kk) (tpos := tpos) D).keep
    done := (turn_zipT (P := P) (w := w) (K := K) (elts := elts) (kk := kk) (tpos := tpos) D).done
    self := (turn_zipT (P := P) (w := w) (K := K) (elts := elts) (kk := kk) (tpos := tpos) D).self
    item := by
      intro X hP hw hK hc i pins s σ H E I hf st hg
      subst hP hw hK
      obtain ⟨hz, hTI, ⟨x0, y0, hTO⟩, h1, h2⟩ := st
      obtain ⟨xs, ys, x, y, hqx, hqy, hx, hy⟩ := hg
      obtain ⟨its, rv, p, _⟩ := I.tuple hqx
      obtain ⟨its2, rv2, p2, _⟩ := I.tuple hqy
      obtain ⟨u, hu, ru⟩ := rv.get hx
      obtain ⟨u2, hu2, ru2⟩ := rv2.get hy
      have hzl : z < s.heap.objs.size := Heap.lt_size hz
      refine pyNext_zipT_item D hz hTI hTO h1 h2 p p2 (x := u) (y := u2) (by simpa using hu) (by simpa using hu2) fun h' z' TO' h1' h2' hT hsz hk => ⟨_, rfl, wpAny_letOwnedTupleGo_zip (s := { s with heap := h' }) z' fun h'' z'' sb => ?_⟩
      have hT2 : h''.get? s.heap.objs.size = some (pairO u u2) := (sb.2 _ (Nat.ne_of_gt hzl)).trans hT
      refine ⟨.ref s.heap.objs.size, _, I.turnedNew (t' := s.toks) (ch := [z, TI, TO, i1, i2]) (fun c o hb q => (sb.2 c (fun q' => hb (by simp [q']))).trans (hk c o (fun q' => hb (by simp [q'])) (fun q' => hb (by simp [q'])) (fun q' => hb (by simp [q'])) (fun q' => hb (by simp [q'])) q)) hf (Nat.le_refl _) (pair_ok hT2 ru ru2), rfl,
        ⟨_, _, x, y, rfl, I.hok.fresh (Nat.le_refl _), rfl, rfl, fun l hl => by rw [I.tuple_inj hl hqx]; exact hx, fun l hl => by rw [I.tuple_inj hl hqy]; exact hy⟩, ⟨z'', (sb.2 _ D.TIz).trans (hk _ _ D.TIz D.TITO D.TIi1 D.TIi2 hTI), ⟨u, u2, (sb.2 _ D.TOz).trans TO'⟩, h1'.at fun o q => (sb.2 _ D.i1z).trans q, h2'.at fun o q => (sb.2 _ D.i2z).trans q⟩, fun c hcm => ?_⟩
      have hlt : c < s.heap.objs.size := by
        have e' : c = z ∨ c = TI ∨ c = TO ∨ c = i1 ∨ c = i2 := by simpa using hcm
        rcases e' with q | q | q | q | q
        · rw [q]; exact hzl
        · rw [q]; exact Heap.lt_size hTI
        · rw [q]; exact Heap.lt_size hTO
        · rw [q]; obtain ⟨_, e1, _⟩ := h1; exact Heap.lt_size e1
        · rw [q]; obtain ⟨_, e2, _⟩ := h2; exact Heap.lt_size e2
      rw [upd_ne (Nat.ne_of_lt hlt)]
      exact (hf c hcm).1 }
def iZipN (K : PySem.W.Frag) (ta : TA) : TI := fun σ H R => ta σ H fun vs H1 => ∃ a b xs ys, vs = [.ref a, .ref b] ∧ ((SqL K H1 a xs ∧ SqL K H1 b ys ∧ R (ItzN K a b) H1) ∨ (SqT K H1 a xs ∧ SqT K H1 b ys ∧ R (ItzTN K a b) H1))
theorem pi_zipN {X : Cx} {e e2 : Expr} {ta : TA} {p pos tpos : Pos} {elts : List Expr} {kk : Nat} (hg : Gl X "zip") (hm : X.mg "zip" = none) (ha : PA X [e, e2] ta)
    (hs : starEach [e, e2] X.env = (false, eval e X.env) :: starEach [e2] X.env := by rfl) (hpl : (backTo pos (starEach [e2] X.env)).any (·.1) = false := by rfl) :
    PI X (.Tuple elts kk tpos) (.Call (.Name "zip" p) [e, e2] [] pos) (iZipN X.K ta) := by
  refine ⟨fun pins s σ H R I h => Call_ (ld_blt I hg hm PyProof.Rows.boot_zip (PyProof.Rows.callWith_type1 (thn (ha.run pos pins s σ H _ I h) fun us s1 ⟨vs, H1, I1, r1, a, b, xs, ys, ex, q1⟩ => ?_) hs hpl))⟩
  subst ex
  cases r1 with
  | cons r rr =>
    cases rr with
    | cons r' rr =>
      cases rr
      cases r
      cases r'
      have fresh5 : ∀ c, c ∈ [s1.heap.objs.size + 4, s1.heap.objs.size + 2, s1.heap.objs.size + 3, s1.heap.objs.size, s1.heap.objs.size + 1] → FpOk X pins H1 c := fun c hcm => by
        have hle : s1.heap.objs.size ≤ c := by
          simp only [List.mem_cons, List.not_mem_nil, or_false] at hcm
          rcases hcm with z | z | z | z | z <;> rw [z] <;> first | exact Nat.le_add_right _ _ | exact Nat.le_refl _
        exact I1.fpOk hle (I1.hok.fresh hle)
      rcases q1 with ⟨hqx, hqy, q⟩ | ⟨hqx, hqy, q⟩
      · obtain ⟨its, rv, p1, _⟩ := I1.list hqx
        obtain ⟨its2, rv2, p2, _⟩ := I1.list hqy
        exact call_zip_2 p1.isList p2.isList fun h' hz hTI hTO h1 h2 hsz hk => wpAny_pyIter_zip hz
          ⟨_, _, _, _, H1, rfl, I1.kept (t' := s1.toks) hk, turn_ItzN (PySem.W.ktu_apart s1.heap.objs.size a b p1.lt p2.lt), ⟨hz, hTI, ⟨_, _, hTO⟩, h1, h2⟩, fresh5, q⟩
      · obtain ⟨its, rv, p1, _⟩ := I1.tuple hqx
        obtain ⟨its2, rv2, p2, _⟩ := I1.tuple hqy
        exact call_zipT (show s1.heap.IsTuple a its.toArray from p1) (show s1.heap.IsTuple b its2.toArray from p2) fun h' hz hTI hTO h1 h2 hsz hk => wpAny_pyIter_zip hz
          ⟨_, _, _, _, H1, rfl, I1.kept (t' := s1.toks) hk, turn_ItzTN (PySem.W.ktu_apart s1.heap.objs.size a b p1.lt p2.lt), ⟨hz, hTI, ⟨_, _, hTO⟩, h1, h2⟩, fresh5, q⟩
section
variable {K : PySem.W.Frag} {H' : Hp} {O Oe : Addr → Prop} {a b : Addr} {vs ws : List V} {ds es : List PyData}
theorem gives_zipL (h : Rd H' a (.lst vs)) (n : ¬ O a ∨ ∃ o, H' a = some (.frz o (.lst vs))) (r : RDs K H' Oe vs ds) (h' : Rd H' b (.lst ws)) (n' : ¬ O b ∨ ∃ o, H' b = some (.frz o (.lst ws))) (r' : RDs K H' Oe ws es) (hO : ∀ b, O b → Oe b ∨ H' b = none) : Gives K O Oe H' (ItzN K a b) (zipL ds es) := by
  intro j H2 s
  have h2 : SqL K H2 a vs := .inl (s.rdF (fun _ z => z) n h).1
  have h2' : SqL K H2 b ws := .inl (s.rdF (fun _ z => z) n' h').1
  have fr : ∀ {O2 : Addr → Prop} {v : V} (d : PyData), (∀ b, O2 b → Oe b ∨ H' b = none) → RD K H' Oe v d → RD K H2 O2 v d := fun {O2 v} d h2 e2 => RD.mono (fun b z => .inl z) d (RD.keep s (fun b z => .inr z) d (RD.freshO (O' := fun b => O2 b ∨ O b) (fun b z => z.elim (h2 b) (hO b)) d e2))
  refine ⟨fun hj => ⟨vs, ws, h2, h2', ?_⟩, fun d hd => ?_⟩
  · rw [zipL_len] at hj; rw [r.length, r'.length]; omega
  · obtain ⟨x, y, hx, hy, rfl⟩ := zipL_at hd
    obtain ⟨v, e1, e2⟩ := r.get hx
    obtain ⟨w, e1', e2'⟩ := r'.get hy
    refine ⟨⟨vs, ws, v, w, h2, h2', e1, e1'⟩, fun z H3 ⟨Tp, o, p, q, ez, hT, hod, eH, hp, hq⟩ => ?_⟩
    subst ez eH
    have g1 := hp vs h2
    have g2 := hq ws h2'
    rw [e1] at g1
    rw [e1'] at g2
    cases g1; cases g2
    exact ⟨Stay.new hT, fun O2 h2 => rd_tup hT hod (.cons (fr _ h2 e2) (.cons (fr _ h2 e2') .nil))⟩
theorem gives_zipT (h : SqT K H' a vs) (r : RDs K H' Oe vs ds) (h' : SqT K H' b ws) (r' : RDs K H' Oe ws es) (hO : ∀ b, O b → Oe b ∨ H' b = none) : Gives K O Oe H' (ItzTN K a b) (zipL ds es) := by
  intro j H2 s
  have h2 : SqT K H2 a vs := s.sqT h
  have h2' : SqT K H2 b ws := s.sqT h'
  have fr : ∀ {O2 : Addr → Prop} {v : V} (d : PyData), (∀ b, O2 b → Oe b ∨ H' b = none) → RD K H' Oe v d → RD K H2 O2 v d := fun {O2 v} d h2 e2 => RD.mono (fun b z => .inl z) d (RD.keep s (fun b z => .inr z) d (RD.freshO (O' := fun b => O2 b ∨ O b) (fun b z => z.elim (h2 b) (hO b)) d e2))
  refine ⟨fun hj => ⟨vs, ws, h2, h2', ?_⟩, fun d hd => ?_⟩
  · rw [zipL_len] at hj; rw [r.length, r'.length]; omega
  · obtain ⟨x, y, hx, hy, rfl⟩ := zipL_at hd
    obtain ⟨v, e1, e2⟩ := r.get hx
    obtain ⟨w, e1', e2'⟩ := r'.get hy
    refine ⟨⟨vs, ws, v, w, h2, h2', e1, e1'⟩, fun z H3 ⟨Tp, o, p, q, ez, hT, hod, eH, hp, hq⟩ => ?_⟩
    subst ez eH
    have g1 := hp vs h2
    have g2 := hq ws h2'
    rw [e1] at g1
    rw [e1'] at g2
    cases g1; cases g2
    exact ⟨Stay.new hT, fun O2 h2 => rd_tup hT hod (.cons (fr _ h2 e2) (.cons (fr _ h2 e2') .nil))⟩
end
section
variable {X : Cx} {T : Tbs} {rs rs1 rs2 rc re ch ch1 ch2 : List Nat} {e a b : Expr} {es elts : List Expr} {kk : Nat} {pos p p1 p2 tpos : Pos} {f fa fb fo : M PyData} {fl : M (List PyData)} {i : Nat} {x : Str}
theorem si_zip (hg : Gl X "zip") (hm : X.mg "zip" = none) (ha : SE X T [] ch1 a fa) (hb : SE X T [] ch2 b fb) (hs : starEach [a, b] X.env = (false, eval a X.env) :: starEach [b] X.env := by rfl) (hs1 : starEach [b] X.env = (false, eval b X.env) :: starEach [] X.env := by rfl) (hpl : (backTo pos (starEach [b] X.env)).any (·.1) = false := by rfl) :
    SI X T (.Tuple elts kk tpos) [] (ch1 ++ ch2) (.Call (.Name "zip" p) [a, b] [] pos) (lift2 zipD fa fb) := by
  refine PI.imp (pi_zipN hg hm (pa_cons ha (pa_cons hb pa_nil hs1) hs) hs hpl) fun σ H R ⟨Out, st, ds, st', th, Rp, e, q⟩ => ?_
  obtain ⟨da, st1, db, e1, e2, e3⟩ := lift2_some e
  refine ⟨Out, st, da, st1, th, Rp, e1, fun v H1 P1 r => ⟨Out, st1, db, st', P1.th, P1.rep, e2, fun w H2 P2 r2 => ?_⟩⟩
  have r1 := P2.rd (rs := []) Dj.nilL r
  unfold zipD at e3
  split at e3
  · cases e3
    cases r1 with
    | lst h1 n1 q1 =>
      cases r2 with
      | lst h2 n2 q2 => exact ⟨_, _, _, _, rfl, .inl ⟨.inl h1, .inl h2, q _ H2 (P1.trans P2) (gives_zipL h1 n1 q1 h2 n2 q2 obSub)⟩⟩
  · cases e3
    cases r1 with
    | tup h1 q1 =>
      cases r2 with
      | tup h2 q2 => exact ⟨_, _, _, _, rfl, .inr ⟨h1.t, h2.t, q _ H2 (P1.trans P2) (gives_zipT h1.t q1 h2.t q2 obSub)⟩⟩
  · cases e3

/-! ### min, max of two ints -/
def max2D : List PyData → Option PyData
  | [.int i, .int j] => some (.int (if j > i then j else i))
  | _ => none
def min2D : List PyData → Option PyData
  | [.int i, .int j] => some (.int (if j < i then j else i))
  | _ => none
theorem cd_max2 (hc : X.calm = true) : CallD X (.builtin "max") max2D := by
  refine ⟨_, call_max2 hc, fun xs ds d H O Q hO r e q => ?_⟩
  unfold max2D at e
  split at e
  · cases e
    cases r with
    | cons r1 r =>
      cases r with
      | cons r2 r =>
        cases r; cases r1; cases r2
        exact ⟨_, _, rfl, q _ _ (Stay.refl _ _) (.int _)⟩
  · cases e
theorem cd_min2 (hc : X.calm = true) : CallD X (.builtin "min") min2D := by
  refine ⟨_, call_min2 hc, fun xs ds d H O Q hO r e q => ?_⟩
  unfold min2D at e
  split at e
  · cases e
    cases r with
    | cons r1 r =>
      cases r with
      | cons r2 r =>
        cases r; cases r1; cases r2
        exact ⟨_, _, rfl, q _ _ (Stay.refl _ _) (.int _)⟩
  · cases e

/-! ### xs.index(x) -/
def idxGo (d : PyData) : List PyData → Nat → Option Nat
  | [], _ => none
  | z :: zs, j => if PyData.eqv z d then some j else idxGo d zs (j + 1)
theorem idxGo_some {d : PyData} : ∀ {zs : List PyData} {m j : Nat}, idxGo d zs m = some j → ∃ k z, j = m + k ∧ zs[k]? = some z ∧ PyData.eqv z d = true ∧ ∀ (l : Nat) (z' : PyData), l < k → zs[l]? = some z' → PyData.eqv z' d = false
  | [], _, _, h => by cases h
  | z :: zs, m, j, h => by
    unfold idxGo at h
    by_cases hz : PyData.eqv z d = true
    · rw [if_pos hz] at h
      cases h
      exact ⟨0, z, rfl, rfl, hz, fun l z' hl => absurd hl (Nat.not_lt_zero _)⟩
    · rw [if_neg hz] at h
      obtain ⟨k, y, h1, h2, h3, h4⟩ := idxGo_some h
      refine ⟨k + 1, y, by omega, by simpa using h2, h3, fun l z' hl hz' => ?_⟩
      cases l with
      | zero => simp only [List.getElem?_cons_zero, Option.some.injEq] at hz'; subst hz'; simpa using hz
      | succ l => exact h4 l z' (by omega) (by simpa using hz')
def indexD (x y : PyData) : Option PyData := match x with
  | .list ds => if SeqAt.shaped y && SeqAt.shaped (.list ds) then (idxGo y ds 0).map fun j => .int (j : Nat) else none
  | _ => none
/-- of a list (of a tuple the layer does not know that it has no dict: not covered) -/
theorem se_index {k : Nat} {o : Expr} {apos cpos : Pos} (hr : Room k X.A) (ho : SE X T rs1 ch1 o fo) (ha : SE X T rs2 ch2 a fa) (dj : Dj rs1 ch2) (hbase : attributeBase o "index" X.env (eval o X.env) = eval o X.env := by rfl)
    (hfew : ((backTo cpos (starEach [a] X.env)).all (fun x => !x.1) && (backToKw cpos (keywordEach [] X.env)).all (fun x => x.1.isSome)
      && decide (([a] : List Expr).length + ([] : List Keyword).length + (if ([] : List Keyword).isEmpty then 0 else 1) < 30)) = true := by rfl)
    (hline : (apos.endLine == cpos.line) = true := by rfl) (hs : starEach [a] X.env = (false, eval a X.env) :: starEach [] X.env := by rfl) :
    SE X T [] (ch1 ++ ch2) (.Call (.Attribute o "index" apos) [a] [] cpos) (lift2 indexD fo fa) := by
  refine PE.imp (pe_bm PySem.F.plainAttrs_list PySem.F.slot_list_index PySem.F.type_list_index (mt_indexD (Room.u65 hr)) ho (pa_cons ha pa_nil hs) hbase hfew hline hs) fun σ H Q ⟨Out, st, d, st', th, R, e, q⟩ => ?_
  obtain ⟨da, st1, db, e1, e2, e3⟩ := lift2_some e
  refine ⟨Out, st, da, st1, th, R, e1, fun v H1 P1 r => ?_⟩
  unfold indexD at e3
  split at e3
  · rename_i ds
    split at e3
    · rename_i hsh
      cases ei : idxGo db ds 0 with
      | none => rw [ei] at e3; cases e3
      | some j =>
        rw [ei] at e3
        cases e3
        obtain ⟨k', z, hj, hz, he, hno⟩ := idxGo_some ei
        have hj : j = k' := by omega
        subst hj
        have tyl : tyV X.K "list" v H1 := by
          cases r with
          | lst h1 n r1 => exact .inl ⟨rfl, _, .inl h1⟩
        refine ⟨tyl, Out, st1, db, st', P1.th, P1.rep, e2, fun w H2 P2 r2 => ?_⟩
        have r' := P2.rd dj r
        have hv : ∃ a0, v = .ref a0 := by cases r with | lst h1 n r1 => exact ⟨_, rfl⟩
        obtain ⟨a0, rfl⟩ := hv
        exact ⟨a0, w, db, ds, j, z, rfl, rfl, RD.dp _ (nd_shaped (and2 hsh).2) r', RD.dp _ (nd_shaped (and2 hsh).1) r2, (and2 hsh).2, (and2 hsh).1, hz, he, hno, q _ H2 (P1.trans P2) (.int _)⟩
    · cases e3
  · cases e3
end
end LH

set_option Elab.async false
set_option linter.all false
set_option maxRecDepth 100000
set_option maxHeartbeats 4000000
/-! Lh33: a tuple or a list so many times -/
namespace LH
open PySem PySem.Spec PyProof.Rows L2
theorem tuple_mul1 (l : Addr) (items : Array Value) (n : Nat) (dd : Option Addr) (sl : Array (Option Value)) (u : Tok) :
    Meets (Builtin.«tuple.__mul__» ⟨[.ref l, .int 1 u], []⟩) (fun _ R s => s.heap.get? l = some { cls := .type "tuple", dict := dd, data := .seq items n, slots := sl } ∧ R (.ok (.ret (Value.ref l))) s) :=
  .of_wp fun prog w A R s h => by
    obtain ⟨hp, g, d, tk, os⟩ := s
    obtain ⟨hl, h⟩ := h
    have f1 := AutoSeq1.idx_int
    wp_walk using wpAny_loadPart' hl
    exact ⟨_, rfl, h⟩
theorem tuple_mul0 (l : Addr) (items : Array Value) (n : Nat) (dd : Option Addr) (sl : Array (Option Value)) (x : Int) (u : Tok) (c0 : (decide (x < -(2 ^ 63)) || decide (x ≥ 2 ^ 63)) = false) (c1 : (items.isEmpty || x == 1) = false) (c2 : (decide (x ≤ 0) || items.isEmpty) = true) :
    Meets (Builtin.«tuple.__mul__» ⟨[.ref l, .int x u], []⟩) (fun _ R s => s.heap.get? l = some { cls := .type "tuple", dict := dd, data := .seq items n, slots := sl } ∧
      R (.ok (.ret (Value.ref s.heap.objs.size))) { s with heap := s.heap.push { cls := Value.type "tuple", data := Data.seq #[] }, toks := s.toks }) :=
  .of_wp fun prog w A R s h => by
    obtain ⟨hp, g, d, tk, os⟩ := s
    obtain ⟨hl, h⟩ := h
    have f1 := AutoSeq1.idx_int
    wp_walk using wpAny_loadPart' hl
    repeat (first
      | (refine wpAny_ite_false (decide_eq_false (by rw [c0]; exact Bool.false_ne_true)) ?_; wp_walk using wpAny_loadPart' hl)
      | (refine wpAny_ite_false (decide_eq_false (by rw [c1]; exact Bool.false_ne_true)) ?_; wp_walk using wpAny_loadPart' hl)
      | (refine wpAny_ite_true (decide_eq_true c2) ?_; wp_walk using wpAny_loadPart' hl))
    exact ⟨_, rfl, h⟩
theorem szl' : sizeLine = 16777216 := by decide
def rRepT0 (K : PySem.W.Frag) : R2 := fun x y H Q => ∃ l k xs, x = .ref l ∧ y = .int k ∧ SqT K H l xs ∧ ((k = 1 ∧ Q (.ref l) H) ∨ (xs ≠ [] ∧ -1000 ≤ k ∧ k ≤ 0 ∧ ∀ p o, H p = none → o.dict = none → Q (.ref p) (upd H p (.frz o (.tup [])))))
section
variable {X : Cx}
theorem op_repT0 : OpR X (binaryOp .Mult) (rRepT0 X.K) := by
  intro pins s σ H x y v u Q I rx ry h
  obtain ⟨l, k, xs, rfl, rfl, hT, h⟩ := h
  cases rx
  obtain ⟨t, rfl⟩ := ry
  obtain ⟨its, r, ⟨⟨cls, dd, data, sl⟩, ho, hc, n, hd⟩, hs⟩ := I.tuple hT
  simp only at hc hd
  subst hc hd
  rcases h with ⟨rfl, q⟩ | ⟨hne, k1, k0, q⟩
  · refine wpAny_binaryOp_repeat_ref (T := "tuple") (U := "int") (by decide) ⟨_, ho, rfl⟩ (fun s' => typeIs_int s' 1 t) noFill_tuple_mul F.fills_int_mul F.slot_int_rmul repeat_tuple F.slot_int_index.lookup
      (call_meets F.slot_int_rmul (typeIs_int s 1 t) F.entry_int_rmul (F.args_int_rmul_2 _ _) (int_rmul_tuple 1 t l its.toArray n dd sl)
        ⟨ho, rfl, ⟨_, ho, rfl⟩, call_meets F.slot_tuple_mul ⟨_, ho, rfl⟩ F.entry_tuple_mul (F.args_tuple_mul_2 _ _) (tuple_mul1 l its.toArray n dd sl t) ⟨ho, ?_⟩⟩)
    exact ⟨.ref l, _, I, rfl, q⟩
  · have hle : its.length = xs.length := r.length.symm
    have hn : its ≠ [] := fun e => hne (by
      rw [e] at hle
      exact List.eq_nil_of_length_eq_zero hle.symm)
    have hi : its.toArray.isEmpty = false := by
      cases its with
      | nil => exact absurd rfl hn
      | cons a b => rfl
    have c0 : (decide (k < -(2 ^ 63)) || decide (k ≥ 2 ^ 63)) = false := by
      rw [decide_eq_false (by omega), decide_eq_false (by omega)] <;> rfl
    have c1 : (its.toArray.isEmpty || k == 1) = false := by
      rw [hi, Bool.false_or]
      exact beq_eq_false_iff_ne.mpr (by omega)
    have c2 : (decide (k ≤ 0) || its.toArray.isEmpty) = true := by rw [decide_eq_true k0, Bool.true_or]
    refine wpAny_binaryOp_repeat_ref (T := "tuple") (U := "int") (by decide) ⟨_, ho, rfl⟩ (fun s' => typeIs_int s' k t) noFill_tuple_mul F.fills_int_mul F.slot_int_rmul repeat_tuple F.slot_int_index.lookup
      (call_meets F.slot_int_rmul (typeIs_int s k t) F.entry_int_rmul (F.args_int_rmul_2 _ _) (int_rmul_tuple k t l its.toArray n dd sl)
        ⟨ho, rfl, ⟨_, ho, rfl⟩, call_meets F.slot_tuple_mul ⟨_, ho, rfl⟩ F.entry_tuple_mul (F.args_tuple_mul_2 _ _) (tuple_mul0 l its.toArray n dd sl k t c0 c1 c2) ⟨ho, ?_⟩⟩)
    refine ⟨.ref s.heap.objs.size, _, I.laid (t' := s.toks) (o := .frz _ (.tup [])) (fun b ob q => Heap.get?_push_of_some _ q) (Nat.le_refl _) ⟨Heap.get?_push_size _ rfl, Nat.zero_le _, _, .nil, IsTup.new _ _⟩, rfl, q _ _ (I.hok.fresh (Nat.le_refl _)) rfl⟩
/-- t * k, 2 ≤ k: the new tuple has no dict -/
def rRepTN (K : PySem.W.Frag) : R2 := fun x y H Q => ∃ l k xs, x = .ref l ∧ y = .int k ∧ SqT K H l xs ∧ xs ≠ [] ∧ 2 ≤ k ∧ k ≤ 1000 ∧ xs.length ≤ 1000 ∧ ∀ p o, H p = none → o.dict = none → Q (.ref p) (upd H p (.frz o (.tup (List.replicate k.toNat xs).flatten)))
theorem op_repTN : OpR X (binaryOp .Mult) (rRepTN X.K) := by
  intro pins s σ H x y v u Q I rx ry h
  obtain ⟨l, k, xs, rfl, rfl, hT, hne, h1, h2, hz, q⟩ := h
  cases rx
  obtain ⟨t, rfl⟩ := ry
  obtain ⟨its, r, ⟨⟨cls, dd, data, sl⟩, ho, hc, n, hd⟩, hs⟩ := I.tuple hT
  simp only at hc hd
  subst hc hd
  have hle : its.length = xs.length := r.length.symm
  have hi : its.toArray.isEmpty = false := by
    cases its with
    | nil => exact absurd (List.eq_nil_of_length_eq_zero hle.symm) hne
    | cons a b => rfl
  have a1 : k.toNat * xs.length ≤ 1000 * 1000 := Nat.mul_le_mul (by omega) hz
  have hm : ((its.toArray.size : Nat) : Int) * k ≤ 1000000 := by
    rw [List.size_toArray, hle]
    have a1 : ((xs.length : Nat) : Int) * k ≤ 1000 * k := Int.mul_le_mul_of_nonneg_right (by omega) (by omega)
    omega
  have c0 : (decide (k < -(2 ^ 63)) || decide (k ≥ 2 ^ 63)) = false := by
    rw [decide_eq_false (by omega), decide_eq_false (by omega)] <;> rfl
  have c1 : (its.toArray.isEmpty || k == 1) = false := by
    rw [hi, Bool.false_or]
    exact beq_eq_false_iff_ne.mpr (by omega)
  have c2 : (decide (k ≤ 0) || its.toArray.isEmpty) = false := by
    rw [hi, Bool.or_false]
    exact decide_eq_false (by omega)
  have c4 : Builtin.Tuple.tupleTooMany (((its.toArray.size : Nat) : Int) * k) = false := by
    unfold Builtin.Tuple.tupleTooMany
    rw [sizeLine_eq]
    exact decide_eq_false (by omega)
  refine wpAny_binaryOp_repeat_ref (T := "tuple") (U := "int") (by decide) ⟨_, ho, rfl⟩ (fun s' => typeIs_int s' k t) noFill_tuple_mul F.fills_int_mul F.slot_int_rmul repeat_tuple F.slot_int_index.lookup
    (call_meets F.slot_int_rmul (typeIs_int s k t) F.entry_int_rmul (F.args_int_rmul_2 _ _) (int_rmul_tuple k t l its.toArray n dd sl)
      ⟨ho, rfl, ⟨_, ho, rfl⟩, call_meets F.slot_tuple_mul ⟨_, ho, rfl⟩ F.entry_tuple_mul (F.args_tuple_mul_2 _ _) (tuple_mulW l its.toArray n dd sl k t c0 c1 c2 (by omega) c4 (by rw [size_rep, List.size_toArray, PyProof.Rows.lm_len_rep_flat, hle, sizeLine_eq]; omega)) ⟨ho, ?_⟩⟩)
  rw [size_rep]
  exact ⟨.ref s.heap.objs.size, _, I.laid (t' := s.toks) (o := .frz _ (.tup (List.replicate k.toNat xs).flatten)) (fun b ob q => Heap.get?_push_of_some _ q) (Nat.le_refl _) ⟨Heap.get?_push_size _ rfl, by rw [PyProof.Rows.lm_len_rep_flat, sizeLine_eq]; omega, _, r.rep k.toNat, IsTup.new _ _⟩, rfl, q _ _ (I.hok.fresh (Nat.le_refl _)) rfl⟩
/-- a list that is only read, so many times -/
def rRepR : R2 := fun x y H Q => ∃ l k xs, x = .ref l ∧ y = .int k ∧ Rd H l (.lst xs) ∧ -(2 ^ 63) ≤ k ∧ k < 2 ^ 63 ∧ xs.length * k.toNat ≤ sizeLine ∧ ∀ p, H p = none → Q (.ref p) (upd H p (.lst (List.replicate k.toNat xs).flatten))
theorem op_repR : OpR X (binaryOp .Mult) rRepR := by
  intro pins s σ H x y v u Q I rx ry h
  obtain ⟨l, k, xs, rfl, rfl, hH, h1, h2, hz, q⟩ := h
  cases rx
  obtain ⟨t, rfl⟩ := ry
  obtain ⟨_, its, n, r, e⟩ := hH.ok I.hok
  have hl : xs.length = its.length := r.length
  have hlen : its.toArray.size * k.toNat ≤ sizeLine := by rw [List.size_toArray, ← hl]; exact hz
  have hcap : ¬ its.toArray.size * k.toNat > (2 ^ 63 - 1) / 8 := by
    have : (sizeLine : Nat) ≤ (2 ^ 63 - 1) / 8 := by decide
    omega
  have hfit : ¬ (!Builtin.List.listFitsIndex k) = true := by
    rw [fitsIndex_both h1 h2]
    exact Bool.false_ne_true
  have hlong : ¬ Builtin.List.listTooLong (its.toArray.size * k.toNat) = true := by
    rw [notLongL hlen]
    exact Bool.false_ne_true
  have hnew : List.foldl (fun x1 x2 => x1 ++ x2) #[] (List.replicate (if its.toArray.isEmpty = true then 0 else k.toNat) its.toArray) = (List.replicate k.toNat its).flatten.toArray := by
    rw [size_rep]
    cases its with
    | nil => simp
    | cons a r' => rw [if_neg (by simp)]
  refine wpAny_binaryOp_repeat_ref (T := "list") (U := "int") (by decide) ⟨_, e, rfl⟩ (fun s' => typeIs_int s' k t) noFill_list_mul F.fills_int_mul F.slot_int_rmul repeat_list F.slot_int_index.lookup
    (call_meets F.slot_int_rmul (typeIs_int s k t) F.entry_int_rmul (F.args_int_rmul_2 _ _) (int___rmul___int_list k t l its.toArray n)
      ⟨e, rfl, ⟨_, e, rfl⟩, call_meets F.slot_list_mul ⟨_, e, rfl⟩ F.entry_list_mul (F.args_list_mul_2 _ _) (AutoListH.list___mul___list_int_3 l its.toArray n k t hfit hcap hlong) ⟨e, ?_⟩⟩)
  rw [hnew]
  exact ⟨.ref _, _, I.lnew (t' := s.toks) (r.rep k.toNat) (by rw [PyProof.Rows.lm_len_rep_flat, Nat.mul_comm]; exact hz), rfl, q _ I.fresh⟩
theorem RDs.rep {K : PySem.W.Frag} {H : Hp} {O : Addr → Prop} {vs : List V} {ds : List PyData} (r : RDs K H O vs ds) : ∀ n : Nat, RDs K H O (List.replicate n vs).flatten (List.replicate n ds).flatten
  | 0 => .nil
  | n + 1 => by
    rw [List.replicate_succ, List.replicate_succ, List.flatten_cons, List.flatten_cons]
    exact r.append (RDs.rep r n)
/-- so many times -/
def repD : PyData → PyData → Option PyData
  | .list xs, .int k => if -1000 ≤ k ∧ k ≤ 1000 ∧ xs.length ≤ 1000 then some (.list (List.replicate k.toNat xs).flatten) else none
  | .tuple xs, .int k => if xs.length ≠ 0 ∧ -1000 ≤ k ∧ k ≤ 1000 ∧ xs.length ≤ 1000 then some (.tuple (List.replicate k.toNat xs).flatten) else none
  | _, _ => none
theorem od_rep : OpD X (binaryOp .Mult) repD := by
  refine ⟨_, op_repR.or (op_repTN.or op_repT0), fun x y dx dy d H O Q hO rx ry e q => ?_⟩
  unfold repD at e
  split at e
  · rename_i ys k
    split at e
    · rename_i h
      cases e
      cases rx with
      | lst h1 _ r1 =>
        cases ry
        refine .inl ⟨_, _, _, rfl, rfl, h1, by omega, by omega, ?_, fun p hp => q _ _ (Stay.new hp) (rd_lst hO hp (RDs.rep r1 _))⟩
        rw [r1.length, szl']
        exact Nat.le_trans (Nat.mul_le_mul h.2.2 (show _ ≤ 1000 by omega)) (by omega)
    · cases e
  · rename_i ys k
    split at e
    · rename_i h
      cases e
      cases rx with
      | tup h1 r1 =>
        cases ry
        have hne : ∀ {vs : List V}, vs.length ≠ 0 → vs ≠ [] := fun h e => h (by rw [e]; rfl)
        by_cases hk1 : k = 1
        · subst hk1
          refine .inr (.inr ⟨_, _, _, rfl, rfl, h1.t, .inl ⟨rfl, q _ _ (Stay.refl _ _) ?_⟩⟩)
          rw [show (List.replicate (Int.toNat 1) _).flatten = _ from by rw [show Int.toNat 1 = 1 from rfl, List.replicate_one, List.flatten_singleton]]
          exact .tup h1 r1
        · by_cases hk2 : 2 ≤ k
          · exact .inr (.inl ⟨_, _, _, rfl, rfl, h1.t, hne (by rw [r1.length]; exact h.1), hk2, by omega, by rw [r1.length]; exact h.2.2.2, fun p o hp hd => q _ _ (Stay.new hp) (rd_tup hp hd (RDs.rep r1 _))⟩)
          · refine .inr (.inr ⟨_, _, _, rfl, rfl, h1.t, .inr ⟨hne (by rw [r1.length]; exact h.1), by omega, by omega, fun p o hp hd => q _ _ (Stay.new hp) (rd_tup hp hd ?_)⟩⟩)
            rw [show k.toNat = 0 from by omega]
            exact .nil
    · cases e
  · cases e
end
end LH

set_option Elab.async false
set_option linter.all false
set_option maxRecDepth 100000
set_option maxHeartbeats 2000000
/-! Lh38: max and min of a container of ints, default= too -/
namespace LH
open PySem PySem.Spec PyProof.Rows L2

/-! ### the first item, if all are ints -/
def intsL : List PyData → Option (List Int)
  | [] => some []
  | .int i :: ds => match intsL ds with
    | some ns => some (i :: ns)
    | none => none
  | _ => none
theorem intsL_eq : ∀ {ds : List PyData} {ns : List Int}, intsL ds = some ns → ds = ns.map PyData.int
  | [], ns, h => by cases h; rfl
  | .int i :: ds, ns, h => by
    unfold intsL at h
    split at h
    · rename_i ms e
      cases h
      rw [intsL_eq e]
      rfl
    · cases h
  | .none :: ds, _, h => by simp [intsL] at h
  | .bool _ :: ds, _, h => by simp [intsL] at h
  | .str _ :: ds, _, h => by simp [intsL] at h
  | .list _ :: ds, _, h => by simp [intsL] at h
  | .tuple _ :: ds, _, h => by simp [intsL] at h
  | .dict _ :: ds, _, h => by simp [intsL] at h
theorem intsL_map : ∀ ns : List Int, intsL (ns.map PyData.int) = some ns
  | [] => rfl
  | n :: ns => by
    show (match intsL (ns.map PyData.int) with
      | some ns => some (n :: ns)
      | none => none) = _
    rw [intsL_map ns]
theorem reads_ints {h : Heap} : ∀ {us : List Value} {ns : List Int}, IntsAre us ns → ReadsAll h us (ns.map PyData.int) []
  | _, _, .nil => .nil
  | _, _, .cons n t r => .cons (.int n t) (reads_ints r)
theorem alike_ints' (ns : List Int) : PySem.W.AlikeAll (ns.map PyData.int) := by
  refine ⟨fun x hx y hy => ?_, fun x hx => ?_⟩
  · obtain ⟨i, _, rfl⟩ := List.mem_map.mp hx
    obtain ⟨j, _, rfl⟩ := List.mem_map.mp hy
    simp [PySem.W.alike]
  · obtain ⟨i, _, rfl⟩ := List.mem_map.mp hx
    intro z; cases z
/-- max, or min, of ints -/
def mxI (mx : Bool) (n : Int) (ns : List Int) : Int := if mx then ns.foldl max n else ns.foldl min n
def mxId (mx : Bool) : String := if mx then "max" else "min"
def mxV (mx : Bool) (x : V) : List Int → V
  | [] => x
  | n :: ns => .int (mxI mx n ns)
def rMx (K : PySem.W.Frag) (mx : Bool) : List V → Hp → VK → Prop := fun vs H Q => ∃ (a : Addr) (n : Int) (ns : List Int), vs = [V.ref a] ∧ (SqL K H a ((n :: ns).map V.int) ∨ SqT K H a ((n :: ns).map V.int)) ∧ Q (.int (mxI mx n ns)) H
def rMxK (K : PySem.W.Frag) (mx : Bool) : List V → List V → Hp → VK → Prop := fun vs zs H Q => ∃ (a : Addr) (x : V) (ns : List Int), vs = [V.ref a] ∧ zs = [x] ∧ (SqL K H a (ns.map V.int) ∨ SqT K H a (ns.map V.int)) ∧ Q (mxV mx x ns) H
section
variable {X : Cx} {T : Tbs} {rs rc re ch ch1 : List Nat} {e e2 : Expr} {fl : M (List PyData)} {f2 : M PyData} {k : Nat}
theorem got_ints {pins : List (Addr × Obj)} {σ : L2.St} {H : Hp} {s : Shared} {a : Addr} {ns : List Int} (I : Inv X pins σ H s) (hs : SqL X.K H a (ns.map V.int) ∨ SqT X.K H a (ns.map V.int)) :
    ∃ its : List Value, IntsAre its ns ∧ (s.heap.IsList a its.toArray ∨ s.heap.IsTuple a its.toArray) := by
  rcases hs with hs | hs
  · obtain ⟨its, rv, hl, _⟩ := I.list hs
    exact ⟨its, rv.ints, .inl hl.isList⟩
  · obtain ⟨its, rv, p', _⟩ := I.tuple hs
    exact ⟨its, rv.ints, .inr p'⟩
theorem cr_mx (mx : Bool) (hr : Room k X.A) : CallR X (.builtin (mxId mx)) (rMx X.K mx) := by
  intro pins s σ H vs us Q I r h
  obtain ⟨a, n, ns, rfl, hs, q⟩ := h
  rw [Vals.ref1 r]
  obtain ⟨its, hi, hl⟩ := got_ints I hs
  have hrd : ReadsAll s.heap its.toArray.toList ((n :: ns).map PyData.int) [] := reads_ints hi
  have hu : X.A.units + 1 + PyData.depthAll ((n :: ns).map PyData.int) < cLine := by
    rw [PySem.W.depth_ints]
    have := Room.u65 hr
    omega
  have fin : ∀ (v : Value) (h' : Heap) (tk : Nat) (bs : List Addr), Reads h' v (.int (mxI mx n ns)) bs → (∀ b o, s.heap.get? b = some o → h'.get? b = some o) → EP X pins σ Q v { s with heap := h', toks := tk } := fun v h' tk bs rd kp => by
    cases rd with
    | int _ t => exact ⟨.int (mxI mx n ns), H, I.kept kp, ⟨t, rfl⟩, q⟩
  cases mx with
  | true =>
    rcases hl with hl | hl
    · exact PySem.W.max_list_data hr.hd hl hrd (alike_ints' (n :: ns)) hu fun i v h' tk bs _ rd kp => fin v h' tk bs (by rw [PySem.W.maxD_ints] at rd; exact rd) kp
    · exact PySem.W.max_tuple_data hr.hd hl hrd (alike_ints' (n :: ns)) hu fun i v h' tk bs _ rd kp => fin v h' tk bs (by rw [PySem.W.maxD_ints] at rd; exact rd) kp
  | false =>
    rcases hl with hl | hl
    · exact PySem.W.min_list_data hr.hd hl hrd (alike_ints' (n :: ns)) hu fun i v h' tk bs _ rd kp => fin v h' tk bs (by rw [PySem.W.minD_ints] at rd; exact rd) kp
    · exact PySem.W.min_tuple_data hr.hd hl hrd (alike_ints' (n :: ns)) hu fun i v h' tk bs _ rd kp => fin v h' tk bs (by rw [PySem.W.minD_ints] at rd; exact rd) kp
theorem cr_mxK (mx : Bool) (hr : Room k X.A) : CallRK X (.builtin (mxId mx)) [Str.ofString "default"] (rMxK X.K mx) := by
  intro pins s σ H vs zs us ws Q I r rz h
  obtain ⟨a, x, ns, rfl, rfl, hs, q⟩ := h
  rw [Vals.ref1 r]
  obtain ⟨d, rfl, rx⟩ := Vals.one rz
  obtain ⟨its, hi, hl⟩ := got_ints I hs
  have hrd : ReadsAll s.heap its.toArray.toList (ns.map PyData.int) [] := reads_ints hi
  have hu : X.A.units + 1 + PyData.depthAll (ns.map PyData.int) < cLine := by
    rw [PySem.W.depth_ints]
    have := Room.u65 hr
    omega
  have f0 : ns.map PyData.int = [] → ∀ (h' : Heap) (tk : Nat), (∀ b o, s.heap.get? b = some o → h'.get? b = some o) → EP X pins σ Q d { s with heap := h', toks := tk } := fun e h' tk kp => by
    have e0 : ns = [] := List.map_eq_nil_iff.mp e
    subst e0
    exact ⟨x, H, I.kept kp, rx, q⟩
  have fin : ∀ (n : Int) (ms : List Int) (v : Value) (h' : Heap) (tk : Nat) (bs : List Addr), ns = n :: ms → Reads h' v (.int (mxI mx n ms)) bs → (∀ b o, s.heap.get? b = some o → h'.get? b = some o) → EP X pins σ Q v { s with heap := h', toks := tk } := fun n ms v h' tk bs e rd kp => by
    subst e
    cases rd with
    | int _ t => exact ⟨.int (mxI mx n ms), H, I.kept kp, ⟨t, rfl⟩, q⟩
  have cons : ∀ {y : PyData} {ys : List PyData}, ns.map PyData.int = y :: ys → ∃ n ms, ns = n :: ms ∧ y = .int n ∧ ys = ms.map PyData.int := fun {y ys} e => by
    cases ns with
    | nil => cases e
    | cons n ms =>
      cases e
      exact ⟨n, ms, rfl, rfl, rfl⟩
  show wpAny _ _ (call (.builtin (mxId mx)) [.ref a] [(Str.ofString "default", d)]) _ _ s
  cases mx with
  | true =>
    rcases hl with hl | hl
    · refine PySem.W.max_list_default hr.hd hl hrd (alike_ints' ns) hu f0 fun y ys i v h' tk bs e _ rd kp => ?_
      obtain ⟨n, ms, e0, rfl, rfl⟩ := cons e
      exact fin n ms v h' tk bs e0 (by rw [PySem.W.maxD_ints] at rd; exact rd) kp
    · refine PySem.W.max_tuple_default hr.hd hl hrd (alike_ints' ns) hu f0 fun y ys i v h' tk bs e _ rd kp => ?_
      obtain ⟨n, ms, e0, rfl, rfl⟩ := cons e
      exact fin n ms v h' tk bs e0 (by rw [PySem.W.maxD_ints] at rd; exact rd) kp
  | false =>
    rcases hl with hl | hl
    · refine PySem.W.min_list_default hr.hd hl hrd (alike_ints' ns) hu f0 fun y ys i v h' tk bs e _ rd kp => ?_
      obtain ⟨n, ms, e0, rfl, rfl⟩ := cons e
      exact fin n ms v h' tk bs e0 (by rw [PySem.W.minD_ints] at rd; exact rd) kp
    · refine PySem.W.min_tuple_default hr.hd hl hrd (alike_ints' ns) hu f0 fun y ys i v h' tk bs e _ rd kp => ?_
      obtain ⟨n, ms, e0, rfl, rfl⟩ := cons e
      exact fin n ms v h' tk bs e0 (by rw [PySem.W.minD_ints] at rd; exact rd) kp
/-- max(xs), min(xs) -/
def mxM (mx : Bool) (f : M (List PyData)) : M PyData := fun st => match f st with
  | some (ds, st1) => (match intsL ds with
    | some (n :: ns) => some (.int (mxI mx n ns), st1)
    | _ => none)
  | none => none
theorem se_mx {p pos : Pos} {x : Str} (mx : Bool) (hr : Room k X.A) (h : SC X T rc re ch e fl) (hg : Gl X x) (hm : X.mg x = none) (hv : bootBuiltins x = some (.builtin (mxId mx))) (hn : x ≠ "__name__" := by decide) (hdb : (x == ("__debug__" : Str)) = false := by decide)
    (hs : starEach [e] X.env = (false, eval e X.env) :: starEach [] X.env := by rfl) (hpl : (backTo pos (starEach [] X.env)).any (·.1) = false := by rfl) : SE X T [] ch (.Call (.Name x p) [e] [] pos) (mxM mx fl) := by
  refine PE.imp (pe_callB (cr_mx mx hr) hg hm hv (sca h hs) hn hdb hs hpl) fun σ H Q ⟨Out, st, d, st', th, R, e, q⟩ => ?_
  unfold mxM at e
  split at e
  · rename_i ds st1 e1
    split at e
    · rename_i n ns e2
      cases e
      have e3 := intsL_eq e2
      subst e3
      refine ⟨Out, st, _, _, th, R, e1, fun v H' p ⟨a, vs, ev, g1, g2⟩ => ?_⟩
      subst ev
      obtain rfl := RDs.ints (n :: ns) g2
      exact ⟨a, n, ns, rfl, g1.elim (fun z => .inl (.inl z.1)) (fun z => .inr z.t), q _ H' p (.int _)⟩
    · cases e
  · cases e
/-- max(xs, default=d), min(xs, default=d): d is leant on by nothing -/
def mxKM (mx : Bool) (f : M (List PyData)) (g : M PyData) : M PyData := fun st => match f st with
  | some (ds, st1) => (match intsL ds with
    | some ns => (match g st1 with
      | some (.int d, st2) => some (.int (match ns with
        | [] => d
        | n :: ms => mxI mx n ms), st2)
      | _ => none)
    | none => none)
  | none => none
theorem mxKM_some {mx : Bool} {f : M (List PyData)} {g : M PyData} {st st2 : Dn} {d : PyData} (h : mxKM mx f g st = some (d, st2)) : ∃ ns st1 i, f st = some (ns.map PyData.int, st1) ∧ g st1 = some (.int i, st2) ∧ d = .int (match ns with
        | [] => i
        | n :: ms => mxI mx n ms) := by
  unfold mxKM at h
  split at h
  · rename_i ds st1 e1
    split at h
    · rename_i ns e2
      split at h
      · rename_i i st2' e3
        cases h
        have e4 := intsL_eq e2
        subst e4
        exact ⟨ns, st1, i, e1, e3, rfl⟩
      · cases h
    · cases h
  · cases h
theorem rdL_keep {K : PySem.W.Frag} {H H1 : Hp} {O : Addr → Prop} {a : Addr} {vs : List V} (s : Stay O H H1) (h : Rd H a (.lst vs)) (n : ¬ O a) : Rd H1 a (.lst vs) := s.rdL n h
theorem se_mxK {p pos kpos : Pos} {x : Str} (mx : Bool) (hr : Room k X.A) (h : SC X T rc re ch e fl) (h2 : SE X T [] [] e2 f2) (hg : Gl X x) (hm : X.mg x = none) (hv : bootBuiltins x = some (.builtin (mxId mx))) (hn : x ≠ "__name__" := by decide) (hdb : (x == ("__debug__" : Str)) = false := by decide)
    (he : backTo pos (starEach [e] X.env) = (false, eval e X.env) :: backTo pos (starEach [] X.env) := by rfl) (hs : starEach [e] X.env = (false, eval e X.env) :: starEach [] X.env := by rfl) (hpl : (backTo pos (starEach [e] X.env)).any (·.1) = false := by rfl)
    (hall : (backToKw pos (keywordEach [⟨some "default", e2, kpos⟩] X.env)).all (·.1.isSome) = true := by rfl) (hnon : (backToKw pos (keywordEach [⟨some "default", e2, kpos⟩] X.env)).any (·.1.isNone) = false := by rfl)
    (hks : (backToKw pos (keywordEach [⟨some "default", e2, kpos⟩] X.env)).filterMap (·.1) = [Str.ofString "default"] := by rfl) : SE X T [] ch (.Call (.Name x p) [e] [⟨some "default", e2, kpos⟩] pos) (mxKM mx fl f2) := by
  refine PE.imp (pe_callBK (cr_mxK mx hr) hg hm hv (sca h hs) (pk_cons h2 pk_nil) hn hdb he hpl hall hnon hks) fun σ H Q ⟨Out, st, d, st', th, R, e, q⟩ => ?_
  obtain ⟨ns, st1, i, e1, e3, rfl⟩ := mxKM_some e
  refine ⟨Out, st, _, _, th, R, e1, fun v H' p ⟨a, vs, ev, g1, g2⟩ => ?_⟩
  subst ev
  obtain rfl := RDs.ints ns g2
  refine ⟨Out, st1, _, st', p.th, p.rep, e3, fun w H2 p2 rw => ?_⟩
  cases rw
  have st0 : Stay No H' H2 := p2.stay.mono fun b ⟨j, mj, _⟩ => by cases mj
  refine ⟨a, .int i, ns, rfl, rfl, g1.elim (fun z => .inl (.inl (st0.rdL (fun z => z) z.1))) (fun z => .inr (st0.sqT z)), ?_⟩
  have pp := p.trans p2
  rw [List.append_nil] at pp
  cases ns with
  | nil => exact q _ H2 pp (.int _)
  | cons n ms => exact q _ H2 pp (.int _)
end
/-! ### [x, ..] * n as a list of one's own -/
def repL (fa fb : M PyData) : M (List PyData) := fun st => match lift2 repD fa fb st with
  | some (.list ds, st1) => some (ds, st1)
  | _ => none
theorem repL_some {fa fb : M PyData} {st st1 : Dn} {ds : List PyData} (h : repL fa fb st = some (ds, st1)) : lift2 repD fa fb st = some (.list ds, st1) := by
  unfold repL at h
  split at h
  · rename_i e
    cases h
    exact e
  · cases h
section
variable {X : Cx} {T : Tbs} {rs ch1 ch2 : List Nat} {a b : Expr} {fa fb : M PyData} {pos : Pos}
theorem sf_rep (ha : SE X T rs ch1 a fa) (hb : SE X T [] ch2 b fb) (dj : Dj rs ch2) : SF X T rs (ch1 ++ ch2) (.BinOp a .Mult b pos) (repL fa fb) := by
  refine PE.imp (pe_op op_repR ha hb) fun σ H Q ⟨Out, st, ds, st', th, R, e, q⟩ => ?_
  obtain ⟨d0, st1, db, e1, e2, e3⟩ := lift2_some (repL_some e)
  refine ⟨Out, st, d0, st1, th, R, e1, fun v H1 P1 r1 => ⟨Out, st1, db, st', P1.th, P1.rep, e2, fun w H2 P2 r2 => ?_⟩⟩
  have r := P2.rd dj r1
  have PP := P1.trans P2
  unfold repD at e3
  split at e3
  · split at e3
    · rename_i h
      cases e3
      cases r with
      | lst h1 n rr =>
        cases r2
        refine ⟨_, _, _, rfl, rfl, h1, by omega, by omega, ?_, fun p hp => q p _ _ (PP.then (Stay.new hp)) (PP.rep.new hp) (hnone PP.stay hp) upd_same (RDs.keep (Stay.new hp) (fun _ z => z.elim) _ (RDs.mono (fun b z => obA b z) _ ((RDs.rep rr _).fresh hp)))⟩
        rw [rr.length, szl']
        exact Nat.le_trans (Nat.mul_le_mul h.2.2 (show _ ≤ 1000 by omega)) (by omega)
    · cases e3
  · split at e3 <;> cases e3
  · cases e3
end
/-! ### xs + ys as a list of one's own: the items hold no lists -/
def addL (fa fb : M PyData) : M (List PyData) := fun st => match lift2 addD fa fb st with
  | some (.list ds, st1) => if lfs ds then some (ds, st1) else none
  | _ => none
theorem addL_some {fa fb : M PyData} {st st1 : Dn} {ds : List PyData} (h : addL fa fb st = some (ds, st1)) : lift2 addD fa fb st = some (.list ds, st1) ∧ lfs ds = true := by
  unfold addL at h
  split at h
  · rename_i e
    split at h
    · rename_i hl
      cases h
      exact ⟨e, hl⟩
    · cases h
  · cases h
section
variable {X : Cx} {T : Tbs} {rs1 rs2 ch1 ch2 : List Nat} {a b : Expr} {fa fb : M PyData} {pos : Pos}
theorem sf_add (ha : SE X T rs1 ch1 a fa) (hb : SE X T rs2 ch2 b fb) (dj : Dj rs1 ch2) : SF X T [] (ch1 ++ ch2) (.BinOp a .Add b pos) (addL fa fb) := by
  refine PE.imp (pe_op op_catR ha hb) fun σ H Q ⟨Out, st, ds, st', th, R, e, q⟩ => ?_
  obtain ⟨e0, hfree⟩ := addL_some e
  obtain ⟨d0, st1, db, e1, e2, e3⟩ := lift2_some e0
  refine ⟨Out, st, d0, st1, th, R, e1, fun v H1 P1 r1 => ⟨Out, st1, db, st', P1.th, P1.rep, e2, fun w H2 P2 r2 => ?_⟩⟩
  have r := P2.rd dj r1
  have PP := P1.trans P2
  unfold addD at e3
  split at e3
  · cases e3
  · split at e3 <;> cases e3
  · split at e3 <;> cases e3
  · split at e3
    · rename_i xs ys hl
      cases e3
      have fr : ∀ {l1 l2 : List PyData}, lfs (l1 ++ l2) = true → lfs l1 = true ∧ lfs l2 = true := by
        intro l1
        induction l1 with
        | nil => intro l2 h; exact ⟨rfl, h⟩
        | cons d l ih =>
          intro l2 h
          simp only [List.cons_append, lfs, Bool.and_eq_true] at h ⊢
          exact ⟨⟨h.1, (ih h.2).1⟩, (ih h.2).2⟩
      obtain ⟨f1, f2⟩ := fr hfree
      cases r with
      | lst h1 _ rr1 =>
        cases r2 with
        | lst h2 _ rr2 =>
          refine ⟨_, _, _, _, rfl, rfl, h1, h2, by rw [rr1.length, rr2.length]; exact hl, fun p hp => q p _ _ (PP.then (Stay.new hp)) (PP.rep.new hp) (hnone PP.stay hp) upd_same (RDs.keep (Stay.new hp) (fun _ z => z.elim) _ ((rr1.free xs f1).append (rr2.free ys f2)))⟩
    · cases e3
  · cases e3
end
end LH

set_option Elab.async false
set_option linter.all false
set_option maxRecDepth 100000
set_option maxHeartbeats 2000000
/-! Lh39: min(a generator expression of tuples, key=len) -/
namespace LH
open PySem PySem.Spec PyProof.Rows L2

def minLenGo : PyData → List PyData → Option PyData
  | .tuple xs, [] => some (.tuple xs)
  | .tuple xs, .tuple ys :: L => minLenGo (if ys.length < xs.length then .tuple ys else .tuple xs) L
  | _, _ => none
def minLen : List PyData → Option PyData
  | [] => none
  | d :: L => minLenGo d L
/-- what min's own list holds while n are still to come -/
def CIm (K : PySem.W.Frag) (O : Addr → Prop) (S : Addr) (ds : List PyData) (res : PyData) : Nat → Heap → Hp → Prop := fun n h H =>
  (n = ds.length ∧ ∃ c, h.get? S = some (lstObj #[] c)) ∨
  (n < ds.length ∧ ∃ vb kn tb c x xs, h.get? S = some (lstObj #[vb, .int kn tb] c) ∧ kn = ((List.length xs : Nat) : Int) ∧ RelV x vb ∧ RD K H O x (.tuple xs) ∧ minLenGo (.tuple xs) (ds.drop (ds.length - n)) = some res)
theorem cim_mono {K : PySem.W.Frag} {O : Addr → Prop} {S : Addr} {ds : List PyData} {res : PyData} : ∀ n s H H', CIm K O S ds res n s H → Stay No H H' → CIm K O S ds res n s H' := fun n s H H' h st =>
  h.imp id fun ⟨a, vb, kn, tb, c, x, xs, h1, hk, h2, h3, h4⟩ => ⟨a, vb, kn, tb, c, x, xs, h1, hk, h2, RD.keep st (fun _ z => z.elim) _ h3, h4⟩
section
variable {k : GenK} {A : Around}
/-- the consumer wrote to its own list behind the last item -/
theorem fin_wake {Ss : List Addr} {CI : Nat → Heap → Hp → Prop} {n : Nat} {s₀ s s' : Shared} {H : Hp} (ap : ApartS k.Y Ss) (h : k.Hl Ss CI n s₀ H s) (w : Woke Ss s s') : k.Fin H s' := by
  obtain ⟨more, σ', hl⟩ := h
  exact ⟨Ss, CI0, 0, s', more, σ', ⟨woken ap hl.sok hl.ap hl.inv w, hl.th, hl.stay, w.own, True.intro, hl.ap⟩⟩
theorem Slp.len {Ss : List Addr} {CI : Nat → Heap → Hp → Prop} {L : List (Option PyData)} {s₀ s : Shared} {H : Hp} {x : V} {v : Value} {xs : List PyData} (h : Slp k Ss CI L s₀ H s) (r : RD k.Y.K H k.O0 x (.tuple xs)) (rv : RelV x v) :
    ∃ (a : Addr) (its : Array Value), its.size = xs.length ∧ IsTup s.heap a its ∧ v = .ref a ∧ (its.size : Int) < 2 ^ 63 := by
  obtain ⟨more, σ', hl⟩ := h.held
  cases r with
  | @tup a vs ds h1 rr =>
    cases rv
    obtain ⟨its, r, pl, hz⟩ := hl.inv.tuple h1.t
    have hlen := r.length
    have hlen2 := rr.length
    have h2 := line63
    refine ⟨a, its.toArray, by simp only [List.size_toArray]; omega, pl, rfl, by simp only [List.size_toArray]; omega⟩
theorem ml_loop {S : Addr} {ds : List PyData} {res : PyData} {kw : List (Str × Value)} (K : k.Ok) (hA : Reach k A.in1) (ap : ApartS k.Y [S]) {R : Result → Shared → Prop}
    (hR : ∀ s' H' x v, k.Fin H' s' → RelV x v → RD k.Y.K H' k.O0 x res → R (.ok (.ret v)) s') :
    ∀ (L : List PyData) (H : Hp) (s : Shared), (∃ pre, ds = pre ++ L ∧ pre ≠ []) → Src k [S] (CIm k.Y.K k.O0 S ds res) (L.map some) H s → codeAny (model k.Y.prog k.Y.w) A (.builtin "min.loop" ⟨[.ref k.a, .builtin "len", .ref S], kw⟩) R s
  | L, H, s, ⟨pre, hp, hpn⟩, h => by
    have hname : (toString "min" ++ toString ".loop" : String) = "min.loop" := by decide
    have hpl : 0 < pre.length := List.length_pos_iff.mpr hpn
    have hdl : ds.length = pre.length + L.length := by rw [hp, List.length_append]
    obtain ⟨vb, kn, tb, c, h1⟩ : ∃ vb kn tb c, s.heap.get? S = some (lstObj #[vb, .int kn tb] c) := by
      obtain ⟨more, σ', hl⟩ := id h.held
      rcases hl.ci with ⟨e, _⟩ | ⟨_, vb, kn, tb, c, x, xs, h1, _⟩
      · rw [List.length_map] at e; omega
      · exact ⟨vb, kn, tb, c, h1⟩
    refine codeAny_builtin F.entry_min_loop ?_
    rw [Around.under_plainId F.plain_min_loop _]
    show wpAny _ A.in1 (seqItems? (.ref S) >>= _) _ _ s
    refine wpAny_bind (wpAny_seqItems h1 rfl ?_)
    show wpAny _ A.in1 (tryCatch (pyNext (.ref k.a)) _ >>= _) _ _ s
    cases L with
    | nil =>
      refine wpAny_bind (wpAny_tryCatch (next_done1 K hA h fun s' H' hf => ?_))
      obtain ⟨o, e1, e2, e3, e4⟩ := GenK.objS hf (b := S) List.mem_cons_self
      rw [h1] at e1
      cases e1
      obtain ⟨more, σ', hl⟩ := id hf
      obtain ⟨x, rv, rd⟩ : ∃ x, RelV x vb ∧ RD k.Y.K H' k.O0 x res := by
        rcases hl.ci with ⟨e, _⟩ | ⟨_, vb', kn', tb', c', x, xs', h1', hk, h2, h3, h4⟩
        · rw [List.length_nil] at hdl; omega
        · rw [h1] at h1'
          cases h1'
          rw [Nat.sub_zero, List.drop_length] at h4
          cases h4
          exact ⟨x, h2, h3⟩
      show wpAny _ A.in1 (updateSeq S (fun _ => #[]) >>= _) _ _ _
      refine wpAny_bind ?_
      refine wpAny_updateSeq e2 rfl (wpAny_bind (wpAny_letGo (wpAny_pure ?_)))
      refine hR _ H' x vb (fin_wake ap hf ⟨rfl, hl.inv.bare, fun b ob hb e => ?_, fun b hb => ?_⟩) rv rd
      · exact (Heap.get?_update_other _ _ (fun y : S = b => hb (by rw [y]; exact List.mem_cons_self))).trans e
      · cases List.mem_singleton.mp hb
        exact ⟨_, Heap.get?_update_self _ e2 rfl, fun v z => by cases z⟩
    | cons d L =>
      refine wpAny_bind (wpAny_tryCatch (next_item1 (L := L.map some) K hA h fun x v s' H' hs rv rd => ?_))
      obtain ⟨o, e1, e2, e3, e4⟩ := GenK.objS hs.held (b := S) List.mem_cons_self
      rw [h1] at e1
      cases e1
      obtain ⟨more, σ', hl⟩ := id hs.held
      obtain ⟨x0, xs', rv0, rd0, rfl, h4⟩ : ∃ x0, ∃ xs' : List PyData, RelV x0 vb ∧ RD k.Y.K H' k.O0 x0 (.tuple xs') ∧ kn = ((xs'.length : Nat) : Int) ∧ minLenGo (.tuple xs') (d :: L) = some res := by
        rcases hl.ci with ⟨e, _⟩ | ⟨_, vb', kn', tb', c', x0, xs', h1', hk, h2, h3, h4⟩
        · rw [List.length_map] at e; rw [List.length_cons] at hdl; omega
        · rw [h1] at h1'
          cases h1'
          have hd : ds.drop (ds.length - ((L.map some).length + 1)) = d :: L := by
            rw [List.length_map, hdl, List.length_cons, Nat.add_sub_cancel, hp]
            simp
          rw [hd] at h4
          exact ⟨x0, xs', h2, h3, hk, h4⟩
      cases d with
      | tuple ys =>
        obtain ⟨a, its, hsz, pl, rfl, hfit⟩ := hs.len rd rv
        show wpAny _ A.in1 (tryCatch (holding [.ref a] (call (.builtin "len") [.ref a])) _ >>= _) _ _ _
        refine wpAny_bind (wpAny_tryCatch (wpAny_holding (len_tuple pl hfit ?_)))
        rw [hsz]
        show wpAny _ A.in1 (tryCatch (holding [.ref a, .int ((ys.length : Nat) : Int) (s'.toks + 1)] (richCompare .Lt (.int ((ys.length : Nat) : Int) (s'.toks + 1)) (.int ((xs'.length : Nat) : Int) tb) >>= _)) _ >>= _) _ _ _
        refine wpAny_bind (wpAny_tryCatch (wpAny_holding (wpAny_bind (CmpOf.ints_lt (prog := k.Y.prog) (w := k.Y.w) (A := A.in1) (P := fun i v => ∃ t, v = .int i t) (fun i => (i : Int)) (fun i v h => h) ys.length xs'.length _ _ _ _ _ ⟨_, rfl⟩ ⟨_, rfl⟩ ?_))))
        refine wpAny_bind (wpAny_holding (wpAny_truthy_bool ?_))
        refine wpAny_bind (wpAny_letGo (wpAny_pure ?_))
        have hW : Woke [S] s' { s' with toks := s'.toks + 1 + 1 } := ⟨rfl, hs.bare, fun _ _ _ e => e, fun b hb => by cases List.mem_singleton.mp hb; exact ⟨_, e2, fun v z => by cases z⟩⟩
        have hpre : ∃ pre', ds = pre' ++ L ∧ pre' ≠ [] := ⟨pre ++ [.tuple ys], by rw [hp]; simp, by simp⟩
        have hsn : ds.drop (ds.length - (L.map some).length) = L := by
          rw [List.length_map, hdl, List.length_cons, hp, show pre.length + (L.length + 1) - L.length = pre.length + 1 by omega, List.drop_append]
          simp
        have hlt : (L.map some).length < ds.length := by rw [List.length_map, hdl, List.length_cons]; omega
        have h4 : minLenGo (if ys.length < xs'.length then .tuple ys else .tuple xs') L = some res := h4
        by_cases hb : ys.length < xs'.length
        · rw [if_pos hb] at h4
          have hbi : decide (((ys.length : Nat) : Int) < ((xs'.length : Nat) : Int)) = true := decide_eq_true (by omega)
          simp only [hbi, if_true]
          refine wpAny_bind ?_
          refine wpAny_updateSeq e2 rfl (wpAny_bind (wpAny_letGo ?_))
          rw [hname]
          refine wpAny_pure ⟨plainId_quiet F.plain_min_loop _, ml_loop K hA ap hR L H' _ hpre (hs.wake ap ⟨rfl, hs.bare, fun b ob hb e => ?_, fun b hb => ?_⟩ rfl (.inr ⟨hlt, .ref a, _, s'.toks + 1, _, x, ys, Heap.get?_update_self _ e2 rfl, rfl, rv, rd, by rw [hsn]; exact h4⟩))⟩
          · exact (Heap.get?_update_other _ _ (fun y : S = b => hb (by rw [y]; exact List.mem_cons_self))).trans e
          · cases List.mem_singleton.mp hb
            exact ⟨_, Heap.get?_update_self _ e2 rfl, fun v z => by cases z⟩
        · rw [if_neg hb] at h4
          have hbi : decide (((ys.length : Nat) : Int) < ((xs'.length : Nat) : Int)) = false := decide_eq_false (by omega)
          simp only [hbi, Bool.false_eq_true, if_false]
          refine wpAny_bind (wpAny_letGo ?_)
          rw [hname]
          refine wpAny_pure ⟨plainId_quiet F.plain_min_loop _, ml_loop K hA ap hR L H' _ hpre (hs.wake ap hW rfl (.inr ⟨hlt, vb, _, tb, c, x0, xs', e2, rfl, rv0, rd0, by rw [hsn]; exact h4⟩))⟩
      | _ => cases h4
theorem ml_first {S : Addr} {d : PyData} {ds : List PyData} {res : PyData} {kw : List (Str × Value)} (K : k.Ok) (hA : Reach k A.in1) (ap : ApartS k.Y [S]) {R : Result → Shared → Prop} (hm : minLen (d :: ds) = some res)
    (hR : ∀ s' H' x v, k.Fin H' s' → RelV x v → RD k.Y.K H' k.O0 x res → R (.ok (.ret v)) s') {H : Hp} {s : Shared} {c : Nat} (h1 : s.heap.get? S = some (lstObj #[] c)) (h : Src k [S] (CIm k.Y.K k.O0 S (d :: ds) res) ((d :: ds).map some) H s) :
    codeAny (model k.Y.prog k.Y.w) A (.builtin "min.loop" ⟨[.ref k.a, .builtin "len", .ref S], kw⟩) R s := by
  have hname : (toString "min" ++ toString ".loop" : String) = "min.loop" := by decide
  refine codeAny_builtin F.entry_min_loop ?_
  rw [Around.under_plainId F.plain_min_loop _]
  show wpAny _ A.in1 (seqItems? (.ref S) >>= _) _ _ s
  refine wpAny_bind (wpAny_seqItems h1 rfl ?_)
  show wpAny _ A.in1 (tryCatch (pyNext (.ref k.a)) _ >>= _) _ _ s
  refine wpAny_bind (wpAny_tryCatch (next_item1 (L := ds.map some) K hA h fun x v s' H' hs rv rd => ?_))
  obtain ⟨o, e1, e2, e3, e4⟩ := GenK.objS hs.held (b := S) List.mem_cons_self
  rw [h1] at e1
  cases e1
  have hm : minLenGo d ds = some res := hm
  cases d with
  | tuple ys =>
    obtain ⟨a, its, hsz, pl, rfl, hfit⟩ := hs.len rd rv
    show wpAny _ A.in1 (tryCatch (holding [.ref a] (call (.builtin "len") [.ref a])) _ >>= _) _ _ _
    refine wpAny_bind (wpAny_tryCatch (wpAny_holding (len_tuple pl hfit ?_)))
    rw [hsz]
    show wpAny _ A.in1 (updateSeq S (fun _ => #[.ref a, .int ((ys.length : Nat) : Int) (s'.toks + 1)]) >>= _) _ _ _
    refine wpAny_bind ?_
    refine wpAny_updateSeq e2 rfl ?_
    rw [hname]
    refine wpAny_pure ⟨plainId_quiet F.plain_min_loop _, ml_loop K hA ap hR ds H' _ ⟨[.tuple ys], rfl, by simp⟩ (hs.wake ap ⟨rfl, hs.bare, fun b ob hb e => ?_, fun b hb => ?_⟩ rfl (.inr ⟨by rw [List.length_map]; show _ < ds.length + 1; omega, .ref a, _, s'.toks + 1, _, x, ys, Heap.get?_update_self _ e2 rfl, rfl, rv, rd, ?_⟩))⟩
    · exact (Heap.get?_update_other _ _ (fun y : S = b => hb (by rw [y]; exact List.mem_cons_self))).trans e
    · cases List.mem_singleton.mp hb
      exact ⟨_, Heap.get?_update_self _ e2 rfl, fun v z => by cases z⟩
    · rw [List.length_map]
      show minLenGo _ (List.drop (ds.length + 1 - ds.length) (PyData.tuple ys :: ds)) = _
      rw [Nat.add_sub_cancel_left]
      exact hm
  | _ => cases ds <;> cases hm
theorem call_minlen_made {s : Shared} {ds : List PyData} {res : PyData} {Q : Value → Shared → Prop} {E : Value → Shared → Prop} (m : Made k s) (hA : Reach k A.in1) (e : k.Tt = ds.map some) (hm : minLen ds = some res)
    (hQ : ∀ s' H' x v, k.Fin H' s' → RelV x v → RD k.Y.K H' k.O0 x res → Q v s') : wpAny (model k.Y.prog k.Y.w) A (call (.builtin "min") [.ref k.a] [(Str.ofString "key", .builtin "len")]) Q E s := by
  have hname : (toString "min" ++ toString ".loop" : String) = "min.loop" := by decide
  refine PyProof.Rows.kmk_tree F.kind_min F.plain_min F.entry_min (PyProof.Rows.kmk_min_key _ _) ?_
  show wpAny _ A.in1 (Builtin.Builtins.bindParams "min" ["key", "default"] 0 ⟨[], [(Str.ofString "key", .builtin "len")]⟩ >>= _) _ _ s
  refine wpAny_bind (wpAny_of_eq (show Builtin.Builtins.bindParams "min" ["key", "default"] 0 ⟨[], [(Str.ofString "key", .builtin "len")]⟩ = pure [some (.builtin "len"), none] from rfl) ?_)
  refine wpAny_bind (wpAny_pure ?_)
  refine wpAny_bind (wpAny_pyIter_gen (m.ok.isGen (GenK.at m.src0.1.held)) ?_)
  refine wpAny_bind (wpAny_newObj_type ?_)
  rw [hname]
  have hS₁ : (s.heap.push (lstObj #[] 0)).get? s.heap.objs.size = some (lstObj #[] 0) := Heap.get?_push_size _ rfl
  cases ds with
  | nil => cases hm
  | cons d ds =>
    obtain ⟨src, ap⟩ := m.src [s.heap.objs.size] (CIm k.Y.K k.O0 s.heap.objs.size (d :: ds) res) (s.heap.push (lstObj #[] 0)) s.toks cim_mono (fun b hb => by cases List.mem_singleton.mp hb; exact Nat.le_refl _) (fun b o e => Heap.get?_push_of_some _ e)
      (fun b hb => by cases List.mem_singleton.mp hb; exact ⟨_, hS₁, fun v z => by cases z⟩) (.inl ⟨by rw [e, List.length_map], 0, hS₁⟩)
    rw [e] at src
    exact wpAny_pure ⟨plainId_quiet F.plain_min_loop _, ml_first m.ok hA ap hm hQ hS₁ src⟩
end
def minLM (f : M (List PyData)) : M PyData := fun st => match f st with
  | some (ds, st1) => (match minLen ds with
    | some d => some (d, st1)
    | none => none)
  | none => none
theorem minLM_some {f : M (List PyData)} {st st1 : Dn} {d : PyData} (h : minLM f st = some (d, st1)) : ∃ ds, f st = some (ds, st1) ∧ minLen ds = some d := by
  unfold minLM at h
  split at h
  · rename_i ds st2 e
    split at h
    · rename_i d' e2
      cases h
      exact ⟨ds, e, e2⟩
    · cases h
  · cases h
section
variable {X : Cx} {T : Tbs} {ch : List Nat}
theorem se_minLen {p np kpos pos : Pos} {e : Expr} {f : M (List (Option PyData))} (ge : GE X T ch e f) (hg : Gl X "min") (hm : X.mg "min" = none) (hgl : Gl X "len") (hml : X.mg "len" = none) (hb : bootBuiltins "min" = some (.builtin "min")) (hbl : bootBuiltins "len" = some (.builtin "len"))
    (he : backTo pos (starEach [e] X.env) = (false, eval e X.env) :: backTo pos (starEach [] X.env) := by rfl) (hpl : (backTo pos (starEach [e] X.env)).any (·.1) = false := by rfl) : SE X T [] ch (.Call (.Name "min" p) [e] [⟨some "key", .Name "len" np, kpos⟩] pos) (minLM (allM f)) := by
  refine ⟨fun pins s σ H Q I ⟨Out, st, d, st1, th, R, ed, q⟩ => ?_⟩
  obtain ⟨ds, e1, hmin⟩ := minLM_some ed
  obtain ⟨Tt, ef, eg, hl⟩ := allM_some e1
  refine wpAny_Call_Name_kw (ld_blt I hg hm hb ?_)
  refine PyProof.Rows.callWith_kw ?_ he hpl
  rw [he]
  refine Calls.spliced_cons (ge.run pins σ H s Out st st1 Tt _ I th R ef fun kit s5 q1 q2 q3 q4 q5 q6 q7 q8 q9 q10 p1 m => ?_)
  refine Calls.spliced_nil ?_
  have I5 : Inv X pins σ kit.H1 s5 := by
    have := m.inv
    rw [q1, q5, q6] at this
    exact this
  show wpAny _ _ (evalAll [do let v ← eval (.Name "len" np) X.env; standAt pos; pure v]) _ _ s5
  refine wpAny_evalAll_cons (wpAny_bind (ld_blt I5 hgl hml hbl (wpAny_bind (wpAny_standAt (wpAny_pure (wpAny_evalAll_nil ?_))))))
  rw [← q2, ← q3]
  refine call_minlen_made m (Reach.r1 q9) (by rw [q8]; exact eg) hmin fun s' H' x v hf rv rd => ?_
  obtain ⟨I', p'⟩ := fin_go q1 q5 q6 q10 p1 m.ok hf
  rw [q4, q7] at rd
  exact ⟨x, H', I', rv, q x H' p' rd⟩
end
end LH

set_option Elab.async false
set_option linter.all false
set_option maxRecDepth 100000
set_option maxHeartbeats 2000000
/-! Lh42: max(a generator expression of ints, default=a constant int) -/
namespace LH
open PySem PySem.Spec PyProof.Rows L2

/-- what max's own list holds while n are still to come -/
def CIx (S : Addr) (ns : List Int) (res : Int) : Nat → Heap → Hp → Prop := fun n h H =>
  (n = ns.length ∧ ∃ c, h.get? S = some (lstObj #[] c)) ∨
  (n < ns.length ∧ ∃ m t c, h.get? S = some (lstObj #[.int m t, .int m t] c) ∧ (ns.drop (ns.length - n)).foldl max m = res)
theorem cix_mono {S : Addr} {ns : List Int} {res : Int} : ∀ n s H H', CIx S ns res n s H → Stay No H H' → CIx S ns res n s H' := fun n s H H' h st => h
theorem gt_int {prog : Program} {w : World} {A : Around} {x m : Int} {t u : Tok} {s : Shared} {Q : Value → Shared → Prop} {E : Value → Shared → Prop} (h : Q (.bool (decide (x > m))) s) : wpAny (model prog w) A (richCompare .Gt (.int x t) (.int m u)) Q E s :=
  richCompare_gives (op := .Gt) (typeIs_int s _ t) (typeIs_int s _ u) F.slot_int_gt F.entry_int_gt (F.args_int_gt_2 _ _) (gives_int_gt _ _ t u) (fun x => nomatch x) h
def items (ns : List Int) : List (Option PyData) := (ns.map PyData.int).map some
section
variable {k : GenK} {A : Around}
theorem mg_loop {S : Addr} {ns : List Int} {res : Int} {kw : List (Str × Value)} (K : k.Ok) (hA : Reach k A.in1) (ap : ApartS k.Y [S]) {R : Result → Shared → Prop}
    (hR : ∀ s' H' t, k.Fin H' s' → R (.ok (.ret (.int res t))) s') :
    ∀ (L : List Int) (H : Hp) (s : Shared), (∃ pre, ns = pre ++ L ∧ pre ≠ []) → Src k [S] (CIx S ns res) (items L) H s → codeAny (model k.Y.prog k.Y.w) A (.builtin "max.loop" ⟨[.ref k.a, .none, .ref S], kw⟩) R s
  | L, H, s, ⟨pre, hp, hpn⟩, h => by
    have hname : (toString "max" ++ toString ".loop" : String) = "max.loop" := by decide
    have hpl : 0 < pre.length := List.length_pos_iff.mpr hpn
    have hdl : ns.length = pre.length + L.length := by rw [hp, List.length_append]
    have hil : (items L).length = L.length := by unfold items; rw [List.length_map, List.length_map]
    obtain ⟨m, tb, c, h1⟩ : ∃ m tb c, s.heap.get? S = some (lstObj #[.int m tb, .int m tb] c) := by
      obtain ⟨more, σ', hl⟩ := id h.held
      rcases hl.ci with ⟨e, _⟩ | ⟨_, m, tb, c, h1, _⟩
      · rw [hil] at e; omega
      · exact ⟨m, tb, c, h1⟩
    refine codeAny_builtin F.entry_max_loop ?_
    rw [Around.under_plainId F.plain_max_loop _]
    show wpAny _ A.in1 (seqItems? (.ref S) >>= _) _ _ s
    refine wpAny_bind (wpAny_seqItems h1 rfl ?_)
    show wpAny _ A.in1 (tryCatch (pyNext (.ref k.a)) _ >>= _) _ _ s
    cases L with
    | nil =>
      refine wpAny_bind (wpAny_tryCatch (next_done1 K hA h fun s' H' hf => ?_))
      obtain ⟨o, e1, e2, e3, e4⟩ := GenK.objS hf (b := S) List.mem_cons_self
      rw [h1] at e1
      cases e1
      obtain ⟨more, σ', hl⟩ := id hf
      obtain rfl : m = res := by
        rcases hl.ci with ⟨e, _⟩ | ⟨_, m', tb', c', h1', h4⟩
        · rw [List.length_nil] at hdl; omega
        · rw [h1] at h1'
          cases h1'
          rw [Nat.sub_zero, List.drop_length] at h4
          exact h4
      show wpAny _ A.in1 (updateSeq S (fun _ => #[]) >>= _) _ _ _
      refine wpAny_bind ?_
      refine wpAny_updateSeq e2 rfl (wpAny_bind (wpAny_letGo (wpAny_pure ?_)))
      refine hR _ H' _ (fin_wake ap hf ⟨rfl, hl.inv.bare, fun b ob hb e => ?_, fun b hb => ?_⟩)
      · exact (Heap.get?_update_other _ _ (fun y : S = b => hb (by rw [y]; exact List.mem_cons_self))).trans e
      · cases List.mem_singleton.mp hb
        exact ⟨_, Heap.get?_update_self _ e2 rfl, fun v z => by cases z⟩
    | cons x L =>
      refine wpAny_bind (wpAny_tryCatch (next_item1 (L := items L) K hA h fun xv v s' H' hs rv rd => ?_))
      obtain ⟨o, e1, e2, e3, e4⟩ := GenK.objS hs.held (b := S) List.mem_cons_self
      rw [h1] at e1
      cases e1
      obtain ⟨more, σ', hl⟩ := id hs.held
      have hilL : (items L).length = L.length := by unfold items; rw [List.length_map, List.length_map]
      have h4 : (x :: L).foldl max m = res := by
        rcases hl.ci with ⟨e, _⟩ | ⟨_, m', tb', c', h1', h4⟩
        · rw [hilL] at e; rw [List.length_cons] at hdl; omega
        · rw [h1] at h1'
          cases h1'
          have hd : ns.drop (ns.length - ((items L).length + 1)) = x :: L := by
            rw [hilL, hdl, List.length_cons, Nat.add_sub_cancel, hp]
            simp
          rw [hd] at h4
          exact h4
      cases rd
      obtain ⟨t, rfl⟩ := rv
      show wpAny _ A.in1 (tryCatch (holding [.int x t, .int x t] (richCompare .Gt (.int x t) (.int m tb) >>= _)) _ >>= _) _ _ _
      refine wpAny_bind (wpAny_tryCatch (wpAny_holding (wpAny_bind (gt_int ?_))))
      refine wpAny_bind (wpAny_holding (wpAny_truthy_bool ?_))
      refine wpAny_bind (wpAny_letGo (wpAny_pure ?_))
      have hpre : ∃ pre', ns = pre' ++ L ∧ pre' ≠ [] := ⟨pre ++ [x], by rw [hp]; simp, by simp⟩
      have hsn : ns.drop (ns.length - (items L).length) = L := by
        rw [hilL, hdl, List.length_cons, hp, show pre.length + (L.length + 1) - L.length = pre.length + 1 by omega, List.drop_append]
        simp
      have hlt : (items L).length < ns.length := by rw [hilL, hdl, List.length_cons]; omega
      have h4 : L.foldl max (max m x) = res := h4
      by_cases hb : m < x
      · rw [show max m x = x from Int.max_eq_right (Int.le_of_lt hb)] at h4
        have hbi : decide (x > m) = true := decide_eq_true hb
        simp only [hbi, if_true]
        refine wpAny_bind ?_
        refine wpAny_updateSeq e2 rfl (wpAny_bind (wpAny_letGo ?_))
        rw [hname]
        refine wpAny_pure ⟨plainId_quiet F.plain_max_loop _, mg_loop K hA ap hR L H' _ hpre (hs.wake ap ⟨rfl, hs.bare, fun b ob hb e => ?_, fun b hb => ?_⟩ rfl (.inr ⟨hlt, x, t, _, Heap.get?_update_self _ e2 rfl, by rw [hsn]; exact h4⟩))⟩
        · exact (Heap.get?_update_other _ _ (fun y : S = b => hb (by rw [y]; exact List.mem_cons_self))).trans e
        · cases List.mem_singleton.mp hb
          exact ⟨_, Heap.get?_update_self _ e2 rfl, fun v z => by cases z⟩
      · rw [show max m x = m from Int.max_eq_left (by omega)] at h4
        have hbi : decide (x > m) = false := decide_eq_false hb
        simp only [hbi, Bool.false_eq_true, if_false]
        refine wpAny_bind (wpAny_letGo ?_)
        rw [hname]
        have hW : Woke [S] s' s' := ⟨rfl, hs.bare, fun _ _ _ e => e, fun b hb => by cases List.mem_singleton.mp hb; exact ⟨_, e2, fun v z => by cases z⟩⟩
        refine wpAny_pure ⟨plainId_quiet F.plain_max_loop _, mg_loop K hA ap hR L H' _ hpre (hs.wake ap hW rfl (.inr ⟨hlt, m, tb, c, e2, by rw [hsn]; exact h4⟩))⟩
theorem mg_first {S : Addr} {ns : List Int} {i res : Int} {dt : Tok} (K : k.Ok) (hA : Reach k A.in1) (ap : ApartS k.Y [S]) {R : Result → Shared → Prop} (hm : res = (match ns with
        | [] => i
        | n :: ms => mxI true n ms))
    (hR : ∀ s' H' t, k.Fin H' s' → R (.ok (.ret (.int res t))) s') {H : Hp} {s : Shared} {c : Nat} (h1 : s.heap.get? S = some (lstObj #[] c)) (h : Src k [S] (CIx S ns res) (items ns) H s) :
    codeAny (model k.Y.prog k.Y.w) A (.builtin "max.loop" ⟨[.ref k.a, .none, .ref S], [(Str.ofString "default", .int i dt)]⟩) R s := by
  have hname : (toString "max" ++ toString ".loop" : String) = "max.loop" := by decide
  refine codeAny_builtin F.entry_max_loop ?_
  rw [Around.under_plainId F.plain_max_loop _]
  show wpAny _ A.in1 (seqItems? (.ref S) >>= _) _ _ s
  refine wpAny_bind (wpAny_seqItems h1 rfl ?_)
  show wpAny _ A.in1 (tryCatch (pyNext (.ref k.a)) _ >>= _) _ _ s
  cases ns with
  | nil =>
    refine wpAny_bind (wpAny_tryCatch (next_done1 K hA h fun s' H' hf => ?_))
    obtain ⟨o, e1, e2, e3, e4⟩ := GenK.objS hf (b := S) List.mem_cons_self
    rw [h1] at e1
    cases e1
    obtain ⟨more, σ', hl⟩ := id hf
    show wpAny _ A.in1 (rule _ >>= _) _ _ _
    have hm : res = i := hm
    subst hm
    exact wpAny_bind (wpAny_rule (wpAny_pure (hR s' H' _ (fin_wake ap hf ⟨rfl, hl.inv.bare, fun _ _ _ e => e, fun b hb => by cases List.mem_singleton.mp hb; exact ⟨_, e2, fun v z => by cases z⟩⟩))))
  | cons x ns =>
    refine wpAny_bind (wpAny_tryCatch (next_item1 (L := items ns) K hA h fun xv v s' H' hs rv rd => ?_))
    obtain ⟨o, e1, e2, e3, e4⟩ := GenK.objS hs.held (b := S) List.mem_cons_self
    rw [h1] at e1
    cases e1
    cases rd
    obtain ⟨t, rfl⟩ := rv
    have hm : ns.foldl max x = res := hm.symm
    have hil : (items ns).length = ns.length := by unfold items; rw [List.length_map, List.length_map]
    show wpAny _ A.in1 (updateSeq S (fun _ => #[.int x t, .int x t]) >>= _) _ _ _
    refine wpAny_bind ?_
    refine wpAny_updateSeq e2 rfl ?_
    rw [hname]
    refine wpAny_pure ⟨plainId_quiet F.plain_max_loop _, mg_loop K hA ap hR ns H' _ ⟨[x], rfl, by simp⟩ (hs.wake ap ⟨rfl, hs.bare, fun b ob hb e => ?_, fun b hb => ?_⟩ rfl (.inr ⟨by rw [hil]; show _ < ns.length + 1; omega, x, t, _, Heap.get?_update_self _ e2 rfl, ?_⟩))⟩
    · exact (Heap.get?_update_other _ _ (fun y : S = b => hb (by rw [y]; exact List.mem_cons_self))).trans e
    · cases List.mem_singleton.mp hb
      exact ⟨_, Heap.get?_update_self _ e2 rfl, fun v z => by cases z⟩
    · rw [hil]
      show (List.drop (ns.length + 1 - ns.length) (x :: ns)).foldl max x = _
      rw [Nat.add_sub_cancel_left]
      exact hm
theorem call_maxg_made {s : Shared} {ns : List Int} {i : Int} {dt : Tok} {t' : Nat} {Q : Value → Shared → Prop} {E : Value → Shared → Prop} (m : Made k s) (hA : Reach k A.in1) (e : k.Tt = items ns)
    (hQ : ∀ s' H' t, k.Fin H' s' → Q (.int (match ns with
        | [] => i
        | n :: ms => mxI true n ms) t) s') : wpAny (model k.Y.prog k.Y.w) A (call (.builtin "max") [.ref k.a] [(Str.ofString "default", .int i dt)]) Q E { s with toks := t' } := by
  have hname : (toString "max" ++ toString ".loop" : String) = "max.loop" := by decide
  refine PyProof.Rows.kmk_tree F.kind_max F.plain_max F.entry_max (args_max_default _ _) ?_
  show wpAny _ A.in1 (Builtin.Builtins.bindParams "max" ["key", "default"] 0 ⟨[], [(Str.ofString "default", .int i dt)]⟩ >>= _) _ _ { s with toks := t' }
  refine wpAny_bind (wpAny_of_eq (show Builtin.Builtins.bindParams "max" ["key", "default"] 0 ⟨[], [(Str.ofString "default", .int i dt)]⟩ = pure [none, some (.int i dt)] from rfl) ?_)
  refine wpAny_bind (wpAny_pure ?_)
  have s0 := m.src [] CI0 s.heap t' (fun _ _ _ _ _ _ => True.intro) (fun _ h => nomatch h) (fun _ _ e => e) (fun _ h => nomatch h) True.intro
  refine wpAny_bind (wpAny_pyIter_gen (m.ok.isGen (GenK.at s0.1.held)) ?_)
  refine wpAny_bind (wpAny_newObj_type ?_)
  rw [hname]
  have hS₁ : (s.heap.push (lstObj #[] 0)).get? s.heap.objs.size = some (lstObj #[] 0) := Heap.get?_push_size _ rfl
  obtain ⟨src, ap⟩ := m.src [s.heap.objs.size] (CIx s.heap.objs.size ns _) (s.heap.push (lstObj #[] 0)) t' cix_mono (fun b hb => by cases List.mem_singleton.mp hb; exact Nat.le_refl _) (fun b o e => Heap.get?_push_of_some _ e)
    (fun b hb => by cases List.mem_singleton.mp hb; exact ⟨_, hS₁, fun v z => by cases z⟩) (.inl ⟨by rw [e]; unfold items; rw [List.length_map, List.length_map], 0, hS₁⟩)
  rw [e] at src
  exact wpAny_pure ⟨plainId_quiet F.plain_max_loop _, mg_first m.ok hA ap rfl hQ hS₁ src⟩
end
def maxGM (i : Int) (f : M (List PyData)) : M PyData := fun st => match f st with
  | some (ds, st1) => (match intsL ds with
    | some ns => some (.int (match ns with
        | [] => i
        | n :: ms => mxI true n ms), st1)
    | none => none)
  | none => none
theorem maxGM_some {i : Int} {f : M (List PyData)} {st st1 : Dn} {d : PyData} (h : maxGM i f st = some (d, st1)) : ∃ ns : List Int, f st = some (ns.map PyData.int, st1) ∧ d = .int (match ns with
        | [] => i
        | n :: ms => mxI true n ms) := by
  unfold maxGM at h
  split at h
  · rename_i ds st2 e
    split at h
    · rename_i ns e2
      cases h
      have e4 := intsL_eq e2
      subst e4
      exact ⟨ns, e, rfl⟩
    · cases h
  · cases h
section
variable {X : Cx} {T : Tbs} {ch : List Nat}
theorem se_maxG {p dp kpos pos : Pos} {i : Int} {j : Nat} {e : Expr} {f : M (List (Option PyData))} (ge : GE X T ch e f) (hg : Gl X "max") (hm : X.mg "max" = none) (hb : bootBuiltins "max" = some (.builtin "max"))
    (he : backTo pos (starEach [e] X.env) = (false, eval e X.env) :: backTo pos (starEach [] X.env) := by rfl) (hpl : (backTo pos (starEach [e] X.env)).any (·.1) = false := by rfl) : SE X T [] ch (.Call (.Name "max" p) [e] [⟨some "default", .Constant (.int i) j dp, kpos⟩] pos) (maxGM i (allM f)) := by
  refine ⟨fun pins s σ H Q I ⟨Out, st, d, st1, th, R, ed, q⟩ => ?_⟩
  obtain ⟨ns, e1, rfl⟩ := maxGM_some ed
  obtain ⟨Tt, ef, eg, hl⟩ := allM_some e1
  refine wpAny_Call_Name_kw (ld_blt I hg hm hb ?_)
  refine PyProof.Rows.callWith_kw ?_ he hpl
  rw [he]
  refine Calls.spliced_cons (ge.run pins σ H s Out st st1 Tt _ I th R ef fun kit s5 q1 q2 q3 q4 q5 q6 q7 q8 q9 q10 p1 m => ?_)
  refine Calls.spliced_nil ?_
  show wpAny _ _ (evalAll [do let v ← eval (.Constant (.int i) j dp) X.env; standAt pos; pure v]) _ _ s5
  refine wpAny_evalAll_cons (wpAny_bind (wpAny_Constant_int (wpAny_bind (wpAny_standAt (wpAny_pure (wpAny_evalAll_nil ?_))))))
  rw [← q2, ← q3]
  refine call_maxg_made m (Reach.r1 q9) (by rw [q8]; exact eg) fun s' H' t hf => ?_
  obtain ⟨I', p'⟩ := fin_go q1 q5 q6 q10 p1 m.ok hf
  exact ⟨.int _, H', I', ⟨t, rfl⟩, q _ H' p' (.int _)⟩
end
end LH

set_option Elab.async false
set_option linter.all false
set_option maxRecDepth 100000
set_option maxHeartbeats 2000000
/-! Lh56: index and count of a list or a tuple -/
namespace LH
open PySem PySem.Spec PyProof.Rows L2

section
variable {X : Cx}
theorem SqN.ty {pins : List (Addr × Obj)} {σ : L2.St} {H : Hp} {s : Shared} {a : Addr} {xs : List V} (I : Inv X pins σ H s) (h : SqN X.K H a xs) : s.TypeIs (.ref a) "tuple" ∧ ∀ b, (Value.ref a) = .ref b → ∃ ob, s.heap.get? b = some ob ∧ ob.dict = none := by
  rcases h with ⟨o, h, hd⟩ | ⟨o, its, n, ⟨hk, hc, _⟩, hd⟩
  · obtain ⟨e, _, _, _, ob, e2, hc, _⟩ := I.hok a _ h
    rw [e] at e2
    cases e2
    exact ⟨⟨_, e, hc⟩, fun b hb => by cases hb; exact ⟨_, e, hd⟩⟩
  · exact ⟨⟨o, I.kIn a o hk, hc⟩, fun b hb => by cases hb; exact ⟨o, I.kIn _ o hk, hd⟩⟩
/-- what the items are read as -/
theorem items_read {s : Shared} {ds : List PyData} {its : List Value} {as : List Addr} (hxs : PyData.canLayAll0 ds = true) (h4 : ReadsAll s.heap its ds as) : its.map (SeqAt.readOf s.heap) = ds := SeqAt.readsAll_map ds its as hxs h4
def rIxT (K : PySem.W.Frag) : V → List V → Hp → VK → Prop := fun x xs H Q => ∃ (a : Addr) (y : V) (d : PyData) (vs : List V) (ds : List PyData) (j : Nat) (z : PyData), x = V.ref a ∧ xs = [y] ∧ SqT K H a vs ∧ DpAll K H vs ds ∧ Dp K H y d ∧
  SeqAt.shaped (.list ds) = true ∧ SeqAt.shaped d = true ∧ ds[j]? = some z ∧ PyData.eqv z d = true ∧ (∀ (m : Nat) (z' : PyData), m < j → ds[m]? = some z' → PyData.eqv z' d = false) ∧ Q (.int (j : Nat)) H
theorem mt_ixT (hu : X.A.units + 65 < cLine) : MtR X "tuple.index" (rIxT X.K) := by
  intro pins s σ H x xs v us Q I rx rxs h
  obtain ⟨a, y, d, vs, ds, j, z, rfl, rfl, hs, ha, hy, sl, sd, hz, hzj, hno, q⟩ := h
  cases rx
  cases rxs with
  | cons ry rt =>
    rename_i uy ut
    cases rt
    obtain ⟨bs, r1⟩ := Dp.reads I d y uy hy ry
    have hxs : PyData.canLayAll0 ds = true := SeqAt.canLay_of_shaped sl
    have hroom : X.A.units + 1 + min (PyData.depthAll ds) d.depth < cLine := room_in_shaped sd hu
    obtain ⟨its, rv, ⟨⟨cls, dd, data, sls⟩, ho, hc, n, hdt⟩, hlen⟩ := I.tuple hs
    simp only at hc hdt
    subst hc hdt
    obtain ⟨as, h4⟩ := Dp.readsAll I ds _ its ha rv
    have hn : its.length = ds.length := SeqAt.ReadsAll.length ds its as h4
    have hmap := items_read hxs h4
    obtain ⟨hjd, _⟩ := List.getElem?_eq_some_iff.mp hz
    have hj : j < its.toArray.size := by rw [List.size_toArray]; omega
    have at_ : ∀ (m : Nat) (hm : m < its.toArray.size) (z' : PyData), ds[m]? = some z' → SeqAt.readOf s.heap its.toArray[m] = z' := by
      intro m hm z' hz'
      have hml : m < its.length := by simpa using hm
      rw [← hmap, List.getElem?_map, List.getElem?_eq_getElem hml] at hz'
      simpa using hz'
    refine call_meets PySem.F.slot_tuple_index ⟨_, ho, rfl⟩ PySem.F.entry_tuple_index (PySem.F.args_tuple_index_2 _ _)
      (TI.tuple_indexAt a its.toArray n dd sls uy (fun u => PyData.eqv (SeqAt.readOf s.heap u) d) j hj ?_ ?_) ⟨ho, SeqAt.items_eqAt (vs := its.toArray) (show ReadsAll s.heap its.toArray.toList ds as from h4) r1 hxs (SeqAt.canLay_of_shaped sd) hroom, ⟨.int (j : Nat), H, I.tok _, ⟨_, rfl⟩, q⟩⟩
    · show PyData.eqv (SeqAt.readOf s.heap its.toArray[j]) d = true
      rw [at_ j hj z hz]
      exact hzj
    · intro m hm hmj
      have hmd : m < ds.length := by omega
      have hz' : ds[m]? = some ds[m] := List.getElem?_eq_getElem hmd
      show PyData.eqv (SeqAt.readOf s.heap its.toArray[m]) d = false
      rw [at_ m hm _ hz']
      exact hno m _ hmj hz'
def rCnT (K : PySem.W.Frag) : V → List V → Hp → VK → Prop := fun x xs H Q => ∃ (a : Addr) (y : V) (d : PyData) (vs : List V) (ds : List PyData), x = V.ref a ∧ xs = [y] ∧ (SqT K H a vs ∨ SqL K H a vs) ∧ DpAll K H vs ds ∧ Dp K H y d ∧
  SeqAt.shaped (.list ds) = true ∧ SeqAt.shaped d = true ∧ Q (.int ((ds.countP fun z => PyData.eqv z d : Nat) : Int)) H
theorem cn_go {pins : List (Addr × Obj)} {σ : L2.St} {H : Hp} {s : Shared} {y : V} {uy : Value} {d : PyData} {vs : List V} {ds : List PyData} {its : List Value} (I : Inv X pins σ H s) (ry : RelV y uy) (hy : Dp X.K H y d) (ha : DpAll X.K H vs ds) (rv : Vals vs its) (sl : SeqAt.shaped (.list ds) = true) (sd : SeqAt.shaped d = true) (hu : X.A.units + 65 < cLine) :
    (∀ u, u ∈ its.toArray → SeqAt.EqAt X.A.in1 s u uy (PyData.eqv (SeqAt.readOf s.heap u) d)) ∧ its.toArray.toList.countP (fun u => PyData.eqv (SeqAt.readOf s.heap u) d) = ds.countP fun z => PyData.eqv z d := by
  obtain ⟨bs, r1⟩ := Dp.reads I d y uy hy ry
  have hxs : PyData.canLayAll0 ds = true := SeqAt.canLay_of_shaped sl
  obtain ⟨as, h4⟩ := Dp.readsAll I ds _ its ha rv
  refine ⟨SeqAt.items_eqAt (vs := its.toArray) (show ReadsAll s.heap its.toArray.toList ds as from h4) r1 hxs (SeqAt.canLay_of_shaped sd) (room_in_shaped sd hu), ?_⟩
  have := items_read hxs h4
  conv => rhs; rw [← this, List.countP_map]
  rfl
theorem mt_cnT (hu : X.A.units + 65 < cLine) : MtR X "tuple.count" (fun x xs H Q => ∃ (a : Addr) (y : V) (d : PyData) (vs : List V) (ds : List PyData), x = V.ref a ∧ xs = [y] ∧ SqT X.K H a vs ∧ DpAll X.K H vs ds ∧ Dp X.K H y d ∧
  SeqAt.shaped (.list ds) = true ∧ SeqAt.shaped d = true ∧ Q (.int ((ds.countP fun z => PyData.eqv z d : Nat) : Int)) H) := by
  intro pins s σ H x xs v us Q I rx rxs h
  obtain ⟨a, y, d, vs, ds, rfl, rfl, hs, ha, hy, sl, sd, q⟩ := h
  cases rx
  cases rxs with
  | cons ry rt =>
    rename_i uy ut
    cases rt
    obtain ⟨its, rv, ⟨⟨cls, dd, data, sls⟩, ho, hc, n, hdt⟩, hlen⟩ := I.tuple hs
    simp only at hc hdt
    subst hc hdt
    obtain ⟨g1, g2⟩ := cn_go I ry hy ha rv sl sd hu
    exact call_meets PySem.F.slot_tuple_count ⟨_, ho, rfl⟩ PySem.F.entry_tuple_count (PySem.F.args_tuple_count_2 _ _)
      (SeqAt.tuple_countAt a its.toArray n dd sls uy (fun u => PyData.eqv (SeqAt.readOf s.heap u) d)) ⟨ho, g1, by rw [g2]; exact ⟨.int _, H, I.tok _, ⟨_, rfl⟩, q⟩⟩
theorem mt_cnL (hu : X.A.units + 65 < cLine) : MtR X "list.count" (fun x xs H Q => ∃ (a : Addr) (y : V) (d : PyData) (vs : List V) (ds : List PyData), x = V.ref a ∧ xs = [y] ∧ SqL X.K H a vs ∧ DpAll X.K H vs ds ∧ Dp X.K H y d ∧
  SeqAt.shaped (.list ds) = true ∧ SeqAt.shaped d = true ∧ Q (.int ((ds.countP fun z => PyData.eqv z d : Nat) : Int)) H) := by
  intro pins s σ H x xs v us Q I rx rxs h
  obtain ⟨a, y, d, vs, ds, rfl, rfl, hs, ha, hy, sl, sd, q⟩ := h
  cases rx
  cases rxs with
  | cons ry rt =>
    rename_i uy ut
    cases rt
    obtain ⟨its, rv, ⟨⟨cls, dd, data, sls⟩, n, ho, hc, hdn, hdt⟩, hlen⟩ := I.list hs
    simp only at hc hdt
    subst hc hdt
    obtain ⟨g1, g2⟩ := cn_go I ry hy ha rv sl sd hu
    exact call_meets PySem.F.slot_list_count ⟨_, ho, rfl⟩ PySem.F.entry_list_count (PySem.F.args_list_count_2 _ _)
      (SeqAt.list_countAt a its.toArray n dd sls uy (fun u => PyData.eqv (SeqAt.readOf s.heap u) d)) ⟨ho, g1, by rw [g2]; exact ⟨.int _, H, I.tok _, ⟨_, rfl⟩, q⟩⟩
/-- o.m(e) where o is a list or a tuple -/
def tBM2 (K : PySem.W.Frag) (rl rt : V → List V → Hp → VK → Prop) (to : TE) (t : TA) : TE := fun σ H Q => to σ H fun x H1 => ∃ a, x = .ref a ∧
  (((∃ xs, SqL K H1 a xs) ∧ t σ H1 fun xs H2 => rl x xs H2 Q) ∨ ((∃ xs, SqN K H1 a xs) ∧ t σ H1 fun xs H2 => rt x xs H2 Q))
theorem pe_bm2 {o e : Expr} {es : List Expr} {to : TE} {t : TA} {name : Str} {apos cpos : Pos} {il it : String} {rl rt : V → List V → Hp → VK → Prop} (sl : Slot "list" name il) (hl : typeOf (.builtin il) = pure (.type "method_descriptor")) (ml : MtR X il rl)
    (st : Slot "tuple" name it) (ht : typeOf (.builtin it) = pure (.type "method_descriptor")) (mt : MtR X it rt) (ho : PE X o to) (ha : PA X (e :: es) t)
    (hbase : attributeBase o name X.env (eval o X.env) = eval o X.env := by rfl)
    (hfew : ((backTo cpos (starEach (e :: es) X.env)).all (fun x => !x.1) && (backToKw cpos (keywordEach [] X.env)).all (fun x => x.1.isSome)
      && decide ((e :: es).length + ([] : List Keyword).length + (if ([] : List Keyword).isEmpty then 0 else 1) < 30)) = true := by rfl)
    (hline : (apos.endLine == cpos.line) = true := by rfl) (hs : starEach (e :: es) X.env = (false, eval e X.env) :: starEach es X.env := by rfl) (hplain : (backTo cpos (starEach es X.env)).any (·.1) = false := by rfl) :
    PE X (.Call (.Attribute o name apos) (e :: es) [] cpos) (tBM2 X.K rl rt to t) := by
  refine ⟨fun pins s σ H Q I h => wpAny_Call_method_late hbase hfew hline rfl (thn (ho.run pins s σ H _ I h) fun v s1 ⟨x, H1, I1, r1, a, ex, q⟩ => ?_)⟩
  subst ex
  have r1' : v = Value.ref a := r1
  have pl : (false || (backTo cpos (starEach es X.env)).any (·.1)) = false := by rw [hplain] <;> rfl
  rcases q with ⟨⟨xs, hq⟩, q1⟩ | ⟨⟨xs, hq⟩, q1⟩
  · obtain ⟨h1, h2⟩ := tyV_is (T := "list") I1 r1 (.inl ⟨rfl, xs, hq⟩)
    refine ⟨"list", il, PySem.F.plainAttrs_list, sl, hl, h1, h2, ?_⟩
    have hA := ha.run cpos pins s1 σ H1 _ I1 q1
    rw [hs] at hA ⊢
    exact Calls.callWith_builtin pl (Calls.evalArgs_plain (thn hA fun us s2 ⟨ys, H2, I2, r2, q2⟩ => ml pins s2 σ H2 _ ys v us Q I2 r1 r2 q2))
  · obtain ⟨h1, h2⟩ := hq.ty I1
    rw [← r1'] at h1 h2
    refine ⟨"tuple", it, PySem.F.plainAttrs_tuple, st, ht, h1, h2, ?_⟩
    have hA := ha.run cpos pins s1 σ H1 _ I1 q1
    rw [hs] at hA ⊢
    exact Calls.callWith_builtin pl (Calls.evalArgs_plain (thn hA fun us s2 ⟨ys, H2, I2, r2, q2⟩ => mt pins s2 σ H2 _ ys v us Q I2 r1 r2 q2))
end
def indexB (x y : PyData) : Option PyData := match seqOf x with
  | some ds => if SeqAt.shaped y && SeqAt.shaped (.list ds) then (idxGo y ds 0).map fun j => .int (j : Nat) else none
  | none => none
def countB (x y : PyData) : Option PyData := match seqOf x with
  | some ds => if SeqAt.shaped y && SeqAt.shaped (.list ds) then some (.int ((ds.countP fun z => PyData.eqv z y : Nat) : Int)) else none
  | none => none
section
variable {X : Cx} {T : Tbs} {rs1 rs2 ch1 ch2 : List Nat} {a : Expr} {fo fa : M PyData}
theorem rd_seq {K : PySem.W.Frag} {H : Hp} {O : Addr → Prop} {v : V} {d : PyData} {ds : List PyData} (e : seqOf d = some ds) (r : RD K H O v d) : ∃ a vs, v = .ref a ∧ RDs K H O vs ds ∧ ((d = .list ds ∧ SqL K H a vs) ∨ (d = .tuple ds ∧ SqN K H a vs)) := by
  cases r with
  | lst h n rs => cases e; exact ⟨_, _, rfl, rs, .inl ⟨rfl, .inl h⟩⟩
  | tup h rs => cases e; exact ⟨_, _, rfl, rs, .inr ⟨rfl, h⟩⟩
  | _ => cases e
theorem se_indexB {k : Nat} {o : Expr} {apos cpos : Pos} (hr : Room k X.A) (ho : SE X T rs1 ch1 o fo) (ha : SE X T rs2 ch2 a fa) (dj : Dj rs1 ch2) (hbase : attributeBase o "index" X.env (eval o X.env) = eval o X.env := by rfl)
    (hfew : ((backTo cpos (starEach [a] X.env)).all (fun x => !x.1) && (backToKw cpos (keywordEach [] X.env)).all (fun x => x.1.isSome)
      && decide (([a] : List Expr).length + ([] : List Keyword).length + (if ([] : List Keyword).isEmpty then 0 else 1) < 30)) = true := by rfl)
    (hline : (apos.endLine == cpos.line) = true := by rfl) (hs : starEach [a] X.env = (false, eval a X.env) :: starEach [] X.env := by rfl) :
    SE X T [] (ch1 ++ ch2) (.Call (.Attribute o "index" apos) [a] [] cpos) (lift2 indexB fo fa) := by
  refine PE.imp (pe_bm2 PySem.F.slot_list_index PySem.F.type_list_index (mt_indexD (Room.u65 hr)) PySem.F.slot_tuple_index PySem.F.type_tuple_index (mt_ixT (Room.u65 hr)) ho (pa_cons ha pa_nil hs) hbase hfew hline hs) fun σ H Q ⟨Out, st, d, st', th, R, e, q⟩ => ?_
  obtain ⟨da, st1, db, e1, e2, e3⟩ := lift2_some e
  refine ⟨Out, st, da, st1, th, R, e1, fun v H1 P1 r => ?_⟩
  unfold indexB at e3
  split at e3
  · rename_i ds eds
    split at e3
    · rename_i hsh
      cases ei : idxGo db ds 0 with
      | none => rw [ei] at e3; cases e3
      | some j =>
        rw [ei] at e3
        cases e3
        obtain ⟨k', z, hj, hz, he, hno⟩ := idxGo_some ei
        have hj : j = k' := by omega
        subst hj
        obtain ⟨a0, vs, rfl, _, hk⟩ := rd_seq eds r
        refine ⟨a0, rfl, ?_⟩
        rcases hk with ⟨rfl, hq⟩ | ⟨rfl, hq⟩
        · refine .inl ⟨⟨vs, hq⟩, Out, st1, db, st', P1.th, P1.rep, e2, fun w H2 P2 r2 => ?_⟩
          have r' := P2.rd dj r
          exact ⟨a0, w, db, ds, j, z, rfl, rfl, RD.dp _ (nd_shaped (and2 hsh).2) r', RD.dp _ (nd_shaped (and2 hsh).1) r2, (and2 hsh).2, (and2 hsh).1, hz, he, hno, q _ H2 (P1.trans P2) (.int _)⟩
        · refine .inr ⟨⟨vs, hq⟩, Out, st1, db, st', P1.th, P1.rep, e2, fun w H2 P2 r2 => ?_⟩
          have r' := P2.rd dj r
          cases r' with
          | tup h rr => exact ⟨a0, w, db, _, ds, j, z, rfl, rfl, h.t, RDs.dp ds (nd_shaped (and2 hsh).2) rr, RD.dp _ (nd_shaped (and2 hsh).1) r2, (and2 hsh).2, (and2 hsh).1, hz, he, hno, q _ H2 (P1.trans P2) (.int _)⟩
    · cases e3
  · cases e3
theorem se_countB {k : Nat} {o : Expr} {apos cpos : Pos} (hr : Room k X.A) (ho : SE X T rs1 ch1 o fo) (ha : SE X T rs2 ch2 a fa) (dj : Dj rs1 ch2) (hbase : attributeBase o "count" X.env (eval o X.env) = eval o X.env := by rfl)
    (hfew : ((backTo cpos (starEach [a] X.env)).all (fun x => !x.1) && (backToKw cpos (keywordEach [] X.env)).all (fun x => x.1.isSome)
      && decide (([a] : List Expr).length + ([] : List Keyword).length + (if ([] : List Keyword).isEmpty then 0 else 1) < 30)) = true := by rfl)
    (hline : (apos.endLine == cpos.line) = true := by rfl) (hs : starEach [a] X.env = (false, eval a X.env) :: starEach [] X.env := by rfl) :
    SE X T [] (ch1 ++ ch2) (.Call (.Attribute o "count" apos) [a] [] cpos) (lift2 countB fo fa) := by
  refine PE.imp (pe_bm2 PySem.F.slot_list_count PySem.F.type_list_count (mt_cnL (Room.u65 hr)) PySem.F.slot_tuple_count PySem.F.type_tuple_count (mt_cnT (Room.u65 hr)) ho (pa_cons ha pa_nil hs) hbase hfew hline hs) fun σ H Q ⟨Out, st, d, st', th, R, e, q⟩ => ?_
  obtain ⟨da, st1, db, e1, e2, e3⟩ := lift2_some e
  refine ⟨Out, st, da, st1, th, R, e1, fun v H1 P1 r => ?_⟩
  unfold countB at e3
  split at e3
  · rename_i ds eds
    split at e3
    · rename_i hsh
      cases e3
      obtain ⟨a0, vs, rfl, _, hk⟩ := rd_seq eds r
      refine ⟨a0, rfl, ?_⟩
      rcases hk with ⟨rfl, hq⟩ | ⟨rfl, hq⟩
      · refine .inl ⟨⟨vs, hq⟩, Out, st1, db, st', P1.th, P1.rep, e2, fun w H2 P2 r2 => ?_⟩
        have r' := P2.rd dj r
        cases r' with
        | lst h n rr => exact ⟨a0, w, db, _, ds, rfl, rfl, .inl h, RDs.dp ds (nd_shaped (and2 hsh).2) rr, RD.dp _ (nd_shaped (and2 hsh).1) r2, (and2 hsh).2, (and2 hsh).1, q _ H2 (P1.trans P2) (.int _)⟩
      · refine .inr ⟨⟨vs, hq⟩, Out, st1, db, st', P1.th, P1.rep, e2, fun w H2 P2 r2 => ?_⟩
        have r' := P2.rd dj r
        cases r' with
        | tup h rr => exact ⟨a0, w, db, _, ds, rfl, rfl, h.t, RDs.dp ds (nd_shaped (and2 hsh).2) rr, RD.dp _ (nd_shaped (and2 hsh).1) r2, (and2 hsh).2, (and2 hsh).1, q _ H2 (P1.trans P2) (.int _)⟩
    · cases e3
  · cases e3
end
end LH

set_option Elab.async false
set_option linter.all false
set_option maxRecDepth 100000
set_option maxHeartbeats 2000000
/-! Lh28: general lemmas for the maths of the laws (from k10's) -/
namespace LH
open PySem PySem.Spec PyProof.Rows L2
theorem genGo_map {α : Type} {g : PyData → Dn → Option Dn} {c : M Bool} {inner : Dn → List (Option PyData)} {st : Dn} {φ : α → PyData} {p : α → Bool} {f : α → PyData} : ∀ (xs : List α),
    (∀ x ∈ xs, ∃ st1 st2, g (φ x) st = some st1 ∧ c st1 = some (p x, st2) ∧ (p x = true → inner st2 = [some (f x)])) → genGo g c inner (xs.map φ) st = ((xs.filter p).map f).map some
  | [], _ => rfl
  | d :: ds, h => by
    obtain ⟨st1, st2, h1, h2, h3⟩ := h d (List.mem_cons_self ..)
    have ih := genGo_map (g := g) (c := c) (inner := inner) (st := st) (φ := φ) (p := p) (f := f) ds fun d hd => h d (List.mem_cons_of_mem _ hd)
    cases hp : p d with
    | false => rw [hp] at h2; simp only [List.map_cons, genGo, h1, h2, ih, List.filter_cons, hp]; rfl
    | true => rw [hp] at h2; simp only [List.map_cons, genGo, h1, h2, h3 hp, ih, List.filter_cons, hp]; rfl
theorem lcGo_map {α : Type} {vs : List Nat} {g : PyData → Dn → Option Dn} {c : M Bool} {elt : M PyData} {st : Dn} {φ : α → PyData} {p : α → Bool} {f : α → PyData} : ∀ (ds : List α),
    (∀ d ∈ ds, ∃ st1, g (φ d) st = some st1 ∧ c st1 = some (p d, st1) ∧ (p d = true → elt st1 = some (f d, st1)) ∧ wipeD st1 vs = st) → lcGo vs g c elt (ds.map φ) st = some ((ds.filter p).map f, st)
  | [], _ => rfl
  | d :: ds, h => by
    obtain ⟨st1, h1, h2, h3, h4⟩ := h d (List.mem_cons_self ..)
    have ih := lcGo_map (vs := vs) (g := g) (c := c) (elt := elt) (st := st) (φ := φ) (p := p) (f := f) ds fun d hd => h d (List.mem_cons_of_mem _ hd)
    cases hp : p d with
    | false => rw [hp] at h2; simp only [List.map_cons, lcGo, h1, h2, h4, ih, List.filter_cons, hp]; rfl
    | true => rw [hp] at h2; simp only [List.map_cons, lcGo, h1, h2, h3 hp, h4, ih, List.filter_cons, hp]; rfl
theorem lcM_map {α : Type} {vs : List Nat} {it : M (List PyData)} {g : PyData → Dn → Option Dn} {c : M Bool} {elt : M PyData} {st : Dn} {φ : α → PyData} {p : α → Bool} {f : α → PyData} {ds : List α} (h : it st = some (ds.map φ, st)) (hw : wipeD st vs = st) (hno : noOwn st vs = true) (hr : restore st st vs = st) (hl : ds.length ≤ sizeLine)
    (hs : ∀ d ∈ ds, ∃ st1, g (φ d) st = some st1 ∧ c st1 = some (p d, st1) ∧ (p d = true → elt st1 = some (f d, st1)) ∧ wipeD st1 vs = st) : lcM vs it g c elt st = some ((ds.filter p).map f, st) := by
  unfold lcM
  rw [h]
  simp only [hno, hw, lcGo_map ds hs, hr, if_true]
  rw [if_pos]
  rw [List.length_map]
  exact Nat.le_trans (List.length_filter_le _ _) hl
theorem lcM_inv {vs : List Nat} {it : M (List PyData)} {g : PyData → Dn → Option Dn} {c : M Bool} {elt : M PyData} {st st0 : Dn} {J : Dn → Prop} {R : PyData → PyData → Prop} {ds : List PyData} (h : it st = some (ds, st0)) (hw : J (wipeD st0 vs)) (hno : noOwn st0 vs = true) (hl : ds.length ≤ sizeLine)
    (hs : ∀ d ∈ ds, ∀ st, J st → ∃ st1 st2 b, g d st = some st1 ∧ c st1 = some (b, st2) ∧ (b = false → J (wipeD st2 vs)) ∧ (b = true → ∃ y st3, elt st2 = some (y, st3) ∧ R d y ∧ J (wipeD st3 vs))) : ∃ es ys st', lcM vs it g c elt st = some (ys, restore st0 st' vs) ∧ J st' ∧ List.Sublist es ds ∧ All2 R es ys := by
  obtain ⟨es, ys, st', e, k, s, r⟩ := lcGo_inv ds hs _ hw
  refine ⟨es, ys, st', ?_, k, s, r⟩
  unfold lcM
  rw [h]
  simp only [hno, e, if_true]
  rw [if_pos (by rw [r.len]; exact Nat.le_trans s.length_le hl)]
theorem up_le {xs : List Int} {n : Nat} (h : List.Sublist xs (upto n)) : xs.length ≤ n := by
  have := h.length_le
  rwa [upto_len] at this
theorem both_of {op : PyData → PyData → Option PyData} {a b : PyData} {r : Bool} (h : op a b = some (.bool r)) : both op a b = some r := by unfold both; rw [h]; rfl
theorem asgM_eq {g : PyData → Dn → Option Dn} {f : M PyData} {st st1 st2 : Dn} {d : PyData} (h : f st = some (d, st1)) (h2 : g d st1 = some st2) : asgM g [] f st = some (.nx, st2) := by unfold asgM; rw [h]; simp only [frzD_nil]; rw [h2]
theorem filt_true {α : Type} (xs : List α) : (xs.filter fun _ => true) = xs := List.filter_eq_self.mpr fun _ _ => rfl
theorem genGo_all {α : Type} {g : PyData → Dn → Option Dn} {c : M Bool} {inner : Dn → List (Option PyData)} {st : Dn} {φ : α → PyData} {f : α → PyData} (xs : List α)
    (h : ∀ x ∈ xs, ∃ st1 st2, g (φ x) st = some st1 ∧ c st1 = some (true, st2) ∧ inner st2 = [some (f x)]) : genGo g c inner (xs.map φ) st = (xs.map f).map some := by
  rw [genGo_map (p := fun _ => true) (f := f) xs (fun x hx => let ⟨a, b, h1, h2, h3⟩ := h x hx; ⟨a, b, h1, h2, fun _ => h3⟩), filt_true]
theorem lcM_all {α : Type} {vs : List Nat} {it : M (List PyData)} {g : PyData → Dn → Option Dn} {c : M Bool} {elt : M PyData} {st : Dn} {φ : α → PyData} {f : α → PyData} {ds : List α} (h : it st = some (ds.map φ, st)) (hw : wipeD st vs = st) (hno : noOwn st vs = true) (hr : restore st st vs = st) (hl : ds.length ≤ sizeLine)
    (hs : ∀ d ∈ ds, ∃ st1, g (φ d) st = some st1 ∧ c st1 = some (true, st1) ∧ elt st1 = some (f d, st1) ∧ wipeD st1 vs = st) : lcM vs it g c elt st = some (ds.map f, st) := by
  rw [lcM_map (p := fun _ => true) (f := f) h hw hno hr hl (fun x hx => let ⟨a, h1, h2, h3, h4⟩ := hs x hx; ⟨a, h1, h2, fun _ => h3, h4⟩), filt_true]
theorem genGo_bools {α : Type} {g : PyData → Dn → Option Dn} {c : M Bool} {inner : Dn → List (Option PyData)} {st : Dn} {φ : α → PyData} {p : α → Bool} (xs : List α)
    (h : ∀ x ∈ xs, ∃ st1 st2, g (φ x) st = some st1 ∧ c st1 = some (true, st2) ∧ inner st2 = [some (.bool (p x))]) : allGo (genGo g c inner (xs.map φ) st) = some (xs.all p) := by
  rw [genGo_all (f := fun x => .bool (p x)) xs h]
  have := allGo_bools (xs.map p)
  simp only [List.all_map, List.map_map] at this ⊢
  exact this
theorem filter_len (xs : List Int) (p : Int → Bool) : PyData.eqv (.int ((xs.filter fun i => !p i).length : Nat)) (.int 0) = xs.all p := by
  simp only [PyData.eqv]
  rw [Bool.eq_iff_iff]
  simp [List.filter_eq_nil_iff]
theorem eq0_filter {α : Type} (xs : List α) (p : α → Bool) : eqD (.int (xs.filter fun i => !p i).length) (.int 0) = some (.bool (xs.all p)) := by
  show some (PyData.bool (PyData.eqv (.int ((xs.filter fun i => !p i).length : Nat)) (.int 0))) = _
  congr 2
  simp only [PyData.eqv]
  rw [Bool.eq_iff_iff]
  simp [List.filter_eq_nil_iff]
theorem isiD_eq {T : String} {d : PyData} (hd : (tyN d == "dict") = false) : isiD T d = some (.bool (tyN d == T || (tyN d == "bool" && T == "int"))) := by unfold isiD; rw [if_neg (by rw [hd]; decide)]
theorem isi_eq {T : String} {i : Nat} {st : Dn} {d : PyData} {b : Bool} (h : st[i]? = some (some (.val d))) (hb : (tyN d == T || (tyN d == "bool" && T == "int")) = b) (hd : (tyN d == "dict") = false := by rfl) : lift1 isB (lift1 (isiD T) (vr i)) st = some (b, st) :=
  lift1_eq (lift1_eq (vr_eq h) (isiD_eq hd)) (congrArg some hb)
theorem and_t {f g : M Bool} {st st1 : Dn} {r : Option (Bool × Dn)} (h : f st = some (true, st1)) (h2 : g st1 = r) : andM f g st = r := (andM_t h).trans h2
theorem or_f {f g : M Bool} {st st1 : Dn} {r : Option (Bool × Dn)} (h : f st = some (false, st1)) (h2 : g st1 = r) : orM f g st = r := (orM_f h).trans h2
theorem ite_t {α : Type} {c : M Bool} {f g : M α} {st st1 : Dn} {r : Option (α × Dn)} (h : c st = some (true, st1)) (h2 : f st1 = r) : iteM c f g st = r := (iteM_t h).trans h2
theorem ite_f {α : Type} {c : M Bool} {f g : M α} {st st1 : Dn} {r : Option (α × Dn)} (h : c st = some (false, st1)) (h2 : g st1 = r) : iteM c f g st = r := (iteM_f h).trans h2
theorem nx_eq {st : Dn} : nxM st = some (.nx, st) := rfl
theorem sq_f {c : M Bool} {f g : M Fl} {st st1 : Dn} (h : c st = some (false, st1)) : sq (iteM c f nxM) g st = g st1 := sq_nx ((iteM_f h).trans nx_eq)
theorem intsOf_map : ∀ xs : List Int, intsOf (xs.map .int) = some xs
  | [] => rfl
  | x :: xs => by simp only [List.map_cons, intsOf, intsOf_map xs]; rfl
theorem sortSet_ints {xs : List Int} (h : xs.length < 64) : sortSetD (tuI xs) = some ((risI xs).map .int) := by
  show Option.map _ (match intsOf (xs.map .int) with | some ns => if ns.length < 64 then some ns else none | none => none) = _
  rw [intsOf_map]
  simp only [if_pos h]
  rfl
theorem addD_tuI {a b : List Int} (h : a.length + b.length ≤ sizeLine) : addD (tuI a) (tuI b) = some (tuI (a ++ b)) := by
  show (if (a.map PyData.int).length + (b.map PyData.int).length ≤ sizeLine then some (PyData.tuple (a.map PyData.int ++ b.map PyData.int)) else none) = _
  rw [if_pos (by rw [List.length_map, List.length_map]; exact h), ← List.map_append]
theorem neD_b (b : Bool) : both neD (.bool b) (.bool b) = some false := by
  refine both_of ?_
  show some (PyData.bool (!(b == b))) = _
  simp

theorem sq_for {it : M (List PyData)} {g : PyData → Dn → Option Dn} {body r : M Fl} {st st1 : Dn} {ds : List PyData} {d : PyData} (I : Nat → Dn → Prop) (h : it st = some (ds, st1)) (h0 : I 0 st1)
    (hs : ∀ j d, ds[j]? = some d → ∀ st, I j st → ∃ st1 st2, g d st = some st1 ∧ body st1 = some (.nx, st2) ∧ I (j + 1) st2) (hr : ∀ st', I ds.length st' → ∃ st2, r st' = some (.rt d, st2)) : ∃ st2, sq (forM it g body) r st = some (.rt d, st2) := by
  obtain ⟨st', e, k⟩ := forM_inv (body := body) I h h0 hs
  obtain ⟨st2, e2⟩ := hr st' k
  exact ⟨st2, (sq_nx e).trans e2⟩
/-- a table of n marks -/
def Tb (n : Nat) (rows : List (List Int)) : PyData := .tuple [.str "table", .int n, .tuple (rows.map tuI)]
def OkT (n : Nat) (rows : List (List Int)) : Prop := n ≤ 150 ∧ rows.length ≤ 150 ∧ ∀ r ∈ rows, List.Sublist r (upto n)
def row (rows : List (List Int)) (g : Int) : List Int := rows.getD g.toNat []
theorem row_at {rows : List (List Int)} {g : Int} (h0 : 0 ≤ g) (h : g < rows.length) : ixD (.tuple (rows.map tuI)) (.int g) = some (tuI (row rows g)) := by
  obtain ⟨j, rfl⟩ := Int.eq_ofNat_of_zero_le h0
  have hj : j < rows.length := by omega
  refine ixD_t (j := j) ?_ rfl
  unfold row
  rw [List.getElem?_map, List.getElem?_eq_getElem hj]
  simp [hj]
def Th (rows : List (List Int)) (things : List Int) : Prop := ∀ g ∈ things, 0 ≤ g ∧ g < rows.length
theorem enum_eq (rows : List (List Int)) : enumL (rows.map tuI) = (upto rows.length).map fun i => .tuple [.int i, tuI (row rows i)] := by
  apply List.ext_getElem
  · simp [enumL, upto]
  · intro i h1 h2
    have h3 : i < rows.length := by simpa [enumL] using h1
    simp [enumL, upto, row, h3]
theorem ix1 {n : Nat} {rows : List (List Int)} : ixD (Tb n rows) (.int 1) = some (.int n) := ixD_t (j := 1) rfl rfl
theorem ix2 {n : Nat} {rows : List (List Int)} : ixD (Tb n rows) (.int 2) = some (.tuple (rows.map tuI)) := ixD_t (j := 2) rfl rfl
theorem len_rows {rows : List (List Int)} : lenD [.tuple (rows.map tuI)] = some (.int rows.length) := by simp [lenD]
def com (n : Nat) (rows : List (List Int)) (things : List Int) : List Int := (upto n).filter fun m => things.all fun g => decide (m ∈ row rows g)
def hav (rows : List (List Int)) (marks : List Int) : List Int := (upto rows.length).filter fun g => marks.all fun m => decide (m ∈ row rows g)
theorem mem_com {n : Nat} {rows : List (List Int)} {th : List Int} {m : Int} : m ∈ com n rows th ↔ (0 ≤ m ∧ m < n) ∧ ∀ g ∈ th, m ∈ row rows g := by
  unfold com; rw [List.mem_filter, mem_upto]; simp
theorem mem_hav {rows : List (List Int)} {ms : List Int} {g : Int} : g ∈ hav rows ms ↔ (0 ≤ g ∧ g < rows.length) ∧ ∀ m ∈ ms, m ∈ row rows g := by
  unfold hav; rw [List.mem_filter, mem_upto]; simp
theorem com_len (n : Nat) (rows : List (List Int)) (th : List Int) : (com n rows th).length ≤ n := by
  have := List.length_filter_le (fun m => th.all fun g => decide (m ∈ row rows g)) (upto n)
  rwa [upto_len] at this
theorem th_hav (rows : List (List Int)) (ms : List Int) : Th rows (hav rows ms) := fun g hg => mem_upto.mp (List.mem_filter.mp hg).1
theorem hav_len (rows : List (List Int)) (ms : List Int) : (hav rows ms).length ≤ rows.length := by
  have := List.length_filter_le (fun g => ms.all fun m => decide (m ∈ row rows g)) (upto rows.length)
  rwa [upto_len] at this
theorem com_congr {n : Nat} {rows : List (List Int)} {a b : List Int} (h : ∀ m, m ∈ com n rows a ↔ m ∈ com n rows b) : com n rows a = com n rows b :=
  sorted_filter ((upto_lt n).sublist List.filter_sublist) ((upto_lt n).sublist List.filter_sublist) h
theorem clo_clo (n : Nat) (rows : List (List Int)) (ms : List Int) (hm : ∀ m ∈ ms, 0 ≤ m ∧ m < n) : com n rows (hav rows (com n rows (hav rows ms))) = com n rows (hav rows ms) := by
  refine com_congr fun m => ?_
  rw [mem_com, mem_com]
  refine and_congr_right fun h0 => ⟨fun h g hg => h g ?_, fun h g hg => ?_⟩
  · rw [mem_hav] at hg ⊢
    exact ⟨hg.1, fun m' hm' => (mem_com.mp hm').2 g (mem_hav.mpr hg)⟩
  · rw [mem_hav] at hg
    exact hg.2 m (mem_com.mpr ⟨h0, h⟩)
/-- the rows of the turned table -/
def trn (n : Nat) (rows : List (List Int)) : List (List Int) := (upto n).map fun m => hav rows [m]
theorem ok_trn {n : Nat} {rows : List (List Int)} (o : OkT n rows) : OkT rows.length (trn n rows) := by
  refine ⟨o.2.1, ?_, fun r hr => ?_⟩
  · unfold trn; rw [List.length_map, upto_len]; exact o.1
  · obtain ⟨m, _, rfl⟩ := List.mem_map.mp hr
    exact List.filter_sublist

theorem row_trn {n : Nat} {rows : List (List Int)} {m : Int} (h0 : 0 ≤ m) (h : m < n) : row (trn n rows) m = hav rows [m] := by
  obtain ⟨j, rfl⟩ := Int.eq_ofNat_of_zero_le h0
  have hj : j < n := by omega
  unfold row trn
  rw [List.getD_eq_getElem?_getD, List.getElem?_map]
  simp [upto, hj]
theorem turn_turn {n : Nat} {rows : List (List Int)} (o : OkT n rows) : trn rows.length (trn n rows) = rows := by
  apply List.ext_getElem
  · simp [trn, upto]
  · intro i h1 h2
    have hi : (trn rows.length (trn n rows))[i] = hav (trn n rows) [(i : Int)] := by simp [trn, upto]
    rw [hi]
    have hs := o.2.2 _ (List.getElem_mem h2)
    refine sorted_filter ((upto_lt _).sublist List.filter_sublist) ((upto_lt n).sublist hs) fun m => ?_
    have hr : row rows (i : Int) = rows[i] := by simp [row, h2]
    have hln : (trn n rows).length = n := by simp [trn, upto]
    constructor
    · intro hm
      obtain ⟨hm0, hm1⟩ := mem_hav.mp hm
      have := hm1 i (List.mem_singleton.mpr rfl)
      rw [row_trn hm0.1 (by omega), mem_hav] at this
      rw [← hr]
      exact this.2 m (List.mem_singleton.mpr rfl)
    · intro hm
      have hu := mem_upto.mp (hs.subset hm)
      rw [mem_hav]
      refine ⟨by omega, fun k hk => ?_⟩
      rw [List.mem_singleton.mp hk, row_trn hu.1 hu.2, mem_hav]
      exact ⟨by omega, fun k2 hk2 => by rw [List.mem_singleton.mp hk2, hr]; exact hm⟩
theorem runN_eq {np nn : Nat} {f : M (List PyData)} {ds es : List PyData} {st : Dn} (hl : ds.length = np) (h : f (ds.map (fun d => some (.val d)) ++ List.replicate nn none) = some (es, st)) : runN np nn f ds = some es := by unfold runN; rw [if_pos hl, h]

end LH

set_option Elab.async false
set_option linter.all false
set_option maxRecDepth 100000
set_option maxHeartbeats 2000000
/-! Lh29: lemmas of the evaluator -/
namespace LH
open PySem PySem.Spec PyProof.Rows L2
/-! ### a small evaluator: `trivial` closes goals `f st = some (?d, ?st')` -/
theorem tru_eq {b : Bool} {i : Nat} {st : Dn} (h : st[i]? = some (some (.val (.bool b)))) : lift1 truD (vr i) st = some (b, st) := lift1_eq (vr_eq h) rfl
theorem isB_eq {f : M PyData} {st st1 : Dn} {b : Bool} (h : f st = some (.bool b, st1)) : lift1 isB f st = some (b, st1) := lift1_eq h rfl
theorem lenM_eq {f : M (List PyData)} {st st1 : Dn} {ds : List PyData} (h : f st = some (ds, st1)) : lenM f st = some (.int (ds.length : Nat), st1) := by unfold lenM; rw [h]
theorem lenL_eq {f : M PyData} {st st1 : Dn} {ds : List PyData} (h : f st = some (.tuple ds, st1)) : liftL lenD (consM f nilM) st = some (.int (ds.length : Nat), st1) := liftL_eq (cons_eq h nil_eq) rfl
theorem and_eq {f g : M Bool} {st st1 : Dn} {a b : Bool} (h : f st = some (a, st1)) (h2 : g st1 = some (b, st1)) : andM f g st = some (a && b, st1) := by
  cases a with
  | true => exact (andM_t h).trans h2
  | false => exact andM_f h
theorem or_eq {f g : M Bool} {st st1 : Dn} {a b : Bool} (h : f st = some (a, st1)) (h2 : g st1 = some (b, st1)) : orM f g st = some (a || b, st1) := by
  cases a with
  | true => exact orM_t h
  | false => exact (orM_f h).trans h2
theorem range_len {xs : List PyData} (h : xs.length ≤ 1000) : range1D (.int (xs.length : Nat)) = some ((upto xs.length).map .int) := range1_nat _ (by omega)
theorem lastG_eq {f : M PyData} {st st1 : Dn} {d : PyData} (h : f st = some (d, st1)) : lastG f st = [some d] := by unfold lastG; rw [h]
theorem allM_eq {f : M (List (Option PyData))} {st st1 : Dn} {Tt : List (Option PyData)} {ds : List PyData} (h : f st = some (Tt, st1)) (h2 : tupGo Tt = some ds) : allM f st = some (ds, st1) := by unfold allM; rw [h]; simp only; rw [h2]
theorem joinM_eq {fs : M PyData} {f : M (List PyData)} {st st1 st2 : Dn} {x : Str} {ds : List PyData} {d : PyData} (h : fs st = some (.str x, st1)) (h1 : f st1 = some (ds, st2)) (h2 : joinL x ds = some d) : joinM fs f st = some (d, st2) := by unfold joinM; rw [h]; simp only; rw [h1]; simp only; rw [h2]
theorem slM_eq {f : M PyData} {lo hi : M (Option Int)} {st st1 st2 st3 : Dn} {d r : PyData} {l u : Option Int} (h : f st = some (d, st1)) (h1 : lo st1 = some (l, st2)) (h2 : hi st2 = some (u, st3)) (h3 : sliceD d l u = some r) : slM f lo hi st = some (r, st3) := by
  unfold slM; rw [h]; simp only; rw [h1]; simp only; rw [h2]; simp only; rw [h3]
theorem noP_eq {st : Dn} : noP st = some (none, st) := rfl
theorem eqv_tuI : ∀ (xs ys : List Int), PyData.eqv (tuI xs) (tuI ys) = decide (xs = ys)
  | [], [] => by simp [PyData.eqv, PyData.eqvAll]
  | [], y :: ys => by simp [PyData.eqv, PyData.eqvAll]
  | x :: xs, [] => by simp [PyData.eqv, PyData.eqvAll]
  | x :: xs, y :: ys => by
    have := eqv_tuI xs ys
    simp only [PyData.eqv] at this ⊢
    rw [List.map_cons, List.map_cons, PyData.eqvAll, this]
    by_cases h : x = y <;> simp [h, PyData.eqv]
theorem eqD_tuI (a b : List Int) : eqD (tuI a) (tuI b) = some (.bool (decide (a = b))) := by
  unfold eqD; rw [shaped_tuI, shaped_tuI, eqv_tuI]; rfl
theorem neD_tuI (a b : List Int) : neD (tuI a) (tuI b) = some (.bool (!decide (a = b))) := by
  unfold neD; rw [shaped_tuI, shaped_tuI, eqv_tuI]; rfl
theorem szl : sizeLine = 16777216 := by decide

theorem runD_eq2 {np nn : Nat} {body : M Fl} {ds : List PyData} {st : Dn} {d d' : PyData} (hl : ds.length = np) (h : body (ds.map (fun d => some (.val d)) ++ List.replicate nn none) = some (.rt d', st)) (e : d' = d) : runD np nn body ds = some d := by subst e; exact runD_eq hl h
theorem sq_nx2 {f g : M Fl} {st st1 : Dn} {r : Option (Fl × Dn)} (h : f st = some (.nx, st1)) (h2 : g st1 = r) : sq f g st = r := (sq_nx h).trans h2
theorem ite_b {α : Type} {c : M Bool} {f g : M α} {st st1 : Dn} {b : Bool} {r : Option (α × Dn)} (h : c st = some (b, st1)) (h1 : b = true → f st1 = r) (h2 : b = false → g st1 = r) : iteM c f g st = r := by
  cases b with
  | true => exact (iteM_t h).trans (h1 rfl)
  | false => exact (iteM_f h).trans (h2 rfl)
/-- a test that returns or goes on -/
theorem sq_if {c : M Bool} {f g : M Fl} {st st1 : Dn} {b : Bool} {r : Option (Fl × Dn)} (h : c st = some (b, st1)) (h1 : b = true → sq f g st1 = r) (h2 : b = false → g st1 = r) : sq (iteM c f nxM) g st = r := by
  cases b with
  | true =>
    have : sq (iteM c f nxM) g st = sq f g st1 := by unfold sq; rw [iteM_t h]
    exact this.trans (h1 rfl)
  | false => exact (sq_f h).trans (h2 rfl)
theorem sq_rt2 {f g : M Fl} {st st1 : Dn} {d : PyData} (h : f st = some (.rt d, st1)) : sq f g st = some (.rt d, st1) := sq_rt h
/-- an expression by a test: both values of one kind -/
theorem ite_v {c : M Bool} {f g : M PyData} {st st1 : Dn} {b : Bool} {x y : PyData} (h : c st = some (b, st1)) (h1 : f st1 = some (x, st1)) (h2 : g st1 = some (y, st1)) : iteM c f g st = some (if b then x else y, st1) := by
  cases b with
  | true => exact (iteM_t h).trans h1
  | false => exact (iteM_f h).trans h2
theorem tupG_map {α : Type} {g : PyData → Dn → Option Dn} {c : M Bool} {f : M PyData} {st : Dn} {φ : α → PyData} {p : α → Bool} {q : α → PyData} {xs : List α} (hl : xs.length ≤ sizeLine)
    (h : ∀ x ∈ xs, ∃ st1 st2, g (φ x) st = some st1 ∧ c st1 = some (p x, st2) ∧ (p x = true → ∃ st3, f st2 = some (q x, st3))) : tupGo (genGo g c (lastG f) (xs.map φ) st) = some ((xs.filter p).map q) := by
  rw [genGo_map (p := p) (f := q) xs fun x hx => let ⟨a, b, h1, h2, h3⟩ := h x hx; ⟨a, b, h1, h2, fun hp => let ⟨s3, e⟩ := h3 hp; lastG_eq e⟩]
  exact tupGo_eq (by rw [List.length_map]; exact Nat.le_trans (List.length_filter_le _ _) hl)
theorem tupG_all {α : Type} {g : PyData → Dn → Option Dn} {f : M PyData} {st : Dn} {φ : α → PyData} {q : α → PyData} {xs : List α} (hl : xs.length ≤ sizeLine)
    (h : ∀ x ∈ xs, ∃ st1 st3, g (φ x) st = some st1 ∧ f st1 = some (q x, st3)) : tupGo (genGo g yesM (lastG f) (xs.map φ) st) = some (xs.map q) := by
  rw [tupG_map (c := yesM) (p := fun _ => true) (q := q) hl fun x hx => let ⟨a, b, h1, h2⟩ := h x hx; ⟨a, a, h1, rfl, fun _ => ⟨b, h2⟩⟩, filt_true]
theorem allG_map {α : Type} {g : PyData → Dn → Option Dn} {c : M Bool} {f : M PyData} {st : Dn} {φ : α → PyData} {p : α → Bool} {q : α → Bool} {xs : List α}
    (h : ∀ x ∈ xs, ∃ st1 st2, g (φ x) st = some st1 ∧ c st1 = some (p x, st2) ∧ (p x = true → ∃ st3, f st2 = some (.bool (q x), st3))) : allGo (genGo g c (lastG f) (xs.map φ) st) = some ((xs.filter p).all q) := by
  rw [genGo_map (p := p) (f := fun x => .bool (q x)) xs fun x hx => let ⟨a, b, h1, h2, h3⟩ := h x hx; ⟨a, b, h1, h2, fun hp => let ⟨s3, e⟩ := h3 hp; lastG_eq e⟩]
  have := allGo_bools ((xs.filter p).map q)
  simp only [List.all_map, List.map_map] at this ⊢
  exact this
theorem allG_all {α : Type} {g : PyData → Dn → Option Dn} {f : M PyData} {st : Dn} {φ : α → PyData} {q : α → Bool} {xs : List α}
    (h : ∀ x ∈ xs, ∃ st1 st3, g (φ x) st = some st1 ∧ f st1 = some (.bool (q x), st3)) : allGo (genGo g yesM (lastG f) (xs.map φ) st) = some (xs.all q) := by
  rw [allG_map (c := yesM) (p := fun _ => true) (q := q) fun x hx => let ⟨a, b, h1, h2⟩ := h x hx; ⟨a, a, h1, rfl, fun _ => ⟨b, h2⟩⟩, filt_true]
theorem anyG_map {α : Type} {g : PyData → Dn → Option Dn} {c : M Bool} {f : M PyData} {st : Dn} {φ : α → PyData} {p : α → Bool} {q : α → Bool} {xs : List α}
    (h : ∀ x ∈ xs, ∃ st1 st2, g (φ x) st = some st1 ∧ c st1 = some (p x, st2) ∧ (p x = true → ∃ st3, f st2 = some (.bool (q x), st3))) : anyGo (genGo g c (lastG f) (xs.map φ) st) = some ((xs.filter p).any q) := by
  rw [genGo_map (p := p) (f := fun x => .bool (q x)) xs fun x hx => let ⟨a, b, h1, h2, h3⟩ := h x hx; ⟨a, b, h1, h2, fun hp => let ⟨s3, e⟩ := h3 hp; lastG_eq e⟩]
  have := anyGo_bools ((xs.filter p).map q)
  simp only [List.any_map, List.map_map] at this ⊢
  exact this
theorem anyG_all {α : Type} {g : PyData → Dn → Option Dn} {f : M PyData} {st : Dn} {φ : α → PyData} {q : α → Bool} {xs : List α}
    (h : ∀ x ∈ xs, ∃ st1 st3, g (φ x) st = some st1 ∧ f st1 = some (.bool (q x), st3)) : anyGo (genGo g yesM (lastG f) (xs.map φ) st) = some (xs.any q) := by
  rw [anyG_map (c := yesM) (p := fun _ => true) (q := q) fun x hx => let ⟨a, b, h1, h2⟩ := h x hx; ⟨a, a, h1, rfl, fun _ => ⟨b, h2⟩⟩, filt_true]
/-- what a generator expression gives, taken by g -/
theorem useG_eq {α : Type} {g : List (Option PyData) → Option α} {r : α → PyData} {vs : List Nat} {it : M (List PyData)} {outs : List PyData → Dn → List (Option PyData)} {st st1 : Dn} {ds : List PyData} {b : α} (h : it st = some (ds, st1)) (hno : noOwn st1 vs = true) (h2 : g (outs ds (wipeD st1 vs)) = some b) :
    useM g r (genM vs it outs) st = some (r b, st1) := useM_eq (genM_eq h hno) h2
theorem allMG_eq {vs : List Nat} {it : M (List PyData)} {outs : List PyData → Dn → List (Option PyData)} {st st1 : Dn} {ds es : List PyData} (h : it st = some (ds, st1)) (hno : noOwn st1 vs = true) (h2 : tupGo (outs ds (wipeD st1 vs)) = some es) :
    allM (genM vs it outs) st = some (es, st1) := allM_eq (genM_eq h hno) h2
theorem enumD_rows {rows : List (List Int)} : enumD (.tuple (rows.map tuI)) = some ((upto rows.length).map fun i => .tuple [.int i, tuI (row rows i)]) := congrArg some (enum_eq rows)
theorem len0_filter {α : Type} (xs : List α) (p : α → Bool) (f : α → PyData) : eqD (.int (((xs.filter p).map f).length : Nat)) (.int 0) = some (.bool (!xs.any p)) := by
  show some (PyData.bool (PyData.eqv (.int (((xs.filter p).map f).length : Nat)) (.int 0))) = _
  congr 2
  simp only [PyData.eqv, List.length_map]
  rw [Bool.eq_iff_iff]
  simp [List.filter_eq_nil_iff]
theorem lcM_rng {vs : List Nat} {it : M (List PyData)} {g : PyData → Dn → Option Dn} {c : M Bool} {elt : M PyData} {α : Type} {st : Dn} {φ : α → PyData} {p : α → Bool} {f : α → PyData} {ds : List α} (h : it st = some (ds.map φ, st)) (hw : wipeD st vs = st) (hno : noOwn st vs = true) (hr : restore st st vs = st) (hl : ds.length ≤ sizeLine)
    (hs : ∀ d ∈ ds, ∃ st1, g (φ d) st = some st1 ∧ c st1 = some (p d, st1) ∧ (p d = true → elt st1 = some (f d, st1)) ∧ wipeD st1 vs = st) : lcM vs it g c elt st = some ((ds.filter p).map f, st) := lcM_map h hw hno hr hl hs
/-! ### what a block returns -/
def Ret (f : M Fl) (st : Dn) (d : PyData) : Prop := ∃ st', f st = some (.rt d, st')
theorem runD_ret {np nn : Nat} {body : M Fl} {ds : List PyData} {d : PyData} (hl : ds.length = np) (h : Ret body (ds.map (fun d => some (.val d)) ++ List.replicate nn none) d) : runD np nn body ds = some d := let ⟨_, e⟩ := h; runD_eq hl e
theorem Ret.nx {f g : M Fl} {st st1 : Dn} {d : PyData} (h : f st = some (.nx, st1)) (h2 : Ret g st1 d) : Ret (sq f g) st d := let ⟨s, e⟩ := h2; ⟨s, (sq_nx h).trans e⟩
theorem Ret.sq {f g : M Fl} {st : Dn} {d : PyData} (h : Ret f st d) : Ret (LH.sq f g) st d := let ⟨s, e⟩ := h; ⟨s, sq_rt e⟩
theorem Ret.ret {f : M PyData} {st st1 : Dn} {d d' : PyData} (h : f st = some (d', st1)) (e : d' = d) : Ret (retM [] f) st d := ⟨st1, by subst e; exact retM_eq h⟩
theorem Ret.retO {rs : List Nat} {f : M PyData} {st st1 : Dn} {d d' : PyData} (h : f st = some (d', st1)) (e : d' = d) : Ret (retM rs f) st d := ⟨_, by subst e; unfold retM; rw [h]⟩
theorem Ret.ite {c : M Bool} {f g : M Fl} {st st1 : Dn} {b : Bool} {d : PyData} (h : c st = some (b, st1)) (h1 : b = true → Ret f st1 d) (h2 : b = false → Ret g st1 d) : Ret (iteM c f g) st d := by
  cases b with
  | true => obtain ⟨s, e⟩ := h1 rfl; exact ⟨s, (iteM_t h).trans e⟩
  | false => obtain ⟨s, e⟩ := h2 rfl; exact ⟨s, (iteM_f h).trans e⟩
/-- if c: (returns); rest -/
theorem Ret.if {c : M Bool} {f g : M Fl} {st st1 : Dn} {b : Bool} {d : PyData} (h : c st = some (b, st1)) (h1 : b = true → Ret f st1 d) (h2 : b = false → Ret g st1 d) : Ret (LH.sq (iteM c f nxM) g) st d := by
  cases b with
  | true => obtain ⟨s, e⟩ := h1 rfl; exact ⟨s, sq_rt ((iteM_t h).trans e)⟩
  | false => obtain ⟨s, e⟩ := h2 rfl; exact ⟨s, (sq_f h).trans e⟩
/-- a step that goes on -/
def Stp (f : M Fl) (st : Dn) (P : Dn → Prop) : Prop := ∃ st2, f st = some (.nx, st2) ∧ P st2
theorem Stp.one {f : M Fl} {st st1 : Dn} {P : Dn → Prop} (h : f st = some (.nx, st1)) (h2 : P st1) : Stp f st P := ⟨st1, h, h2⟩
theorem Stp.sq {f g : M Fl} {st st1 : Dn} {P : Dn → Prop} (h : f st = some (.nx, st1)) (h2 : Stp g st1 P) : Stp (LH.sq f g) st P := let ⟨s, e, k⟩ := h2; ⟨s, (sq_nx h).trans e, k⟩
theorem Stp.ite {c : M Bool} {f g : M Fl} {st st1 : Dn} {b : Bool} {P : Dn → Prop} (h : c st = some (b, st1)) (h1 : b = true → Stp f st1 P) (h2 : b = false → Stp g st1 P) : Stp (iteM c f g) st P := by
  cases b with
  | true => obtain ⟨s, e, k⟩ := h1 rfl; exact ⟨s, (iteM_t h).trans e, k⟩
  | false => obtain ⟨s, e, k⟩ := h2 rfl; exact ⟨s, (iteM_f h).trans e, k⟩
theorem Stp.sqS {f g : M Fl} {st : Dn} {Q P : Dn → Prop} (h : Stp f st Q) (h2 : ∀ st1, Q st1 → Stp g st1 P) : Stp (LH.sq f g) st P := let ⟨_, e, k⟩ := h; Stp.sq e (h2 _ k)
theorem Stp.imp {f : M Fl} {st : Dn} {Q P : Dn → Prop} (h : Stp f st Q) (h2 : ∀ st1, Q st1 → P st1) : Stp f st P := let ⟨s, e, k⟩ := h; ⟨s, e, h2 s k⟩
/-- a test that would return does not -/
theorem Stp.no {c : M Bool} {f g : M Fl} {st st1 : Dn} {b : Bool} {P : Dn → Prop} (h : c st = some (b, st1)) (hb : b = false) (h2 : Stp g st1 P) : Stp (LH.sq (iteM c f nxM) g) st P := by
  subst hb
  exact let ⟨s, e, k⟩ := h2; ⟨s, (sq_f h).trans e, k⟩
theorem Stp.no1 {c : M Bool} {f : M Fl} {st st1 : Dn} {b : Bool} {P : Dn → Prop} (h : c st = some (b, st1)) (hb : b = false) (h2 : P st1) : Stp (iteM c f nxM) st P := by
  subst hb
  exact ⟨_, (iteM_f h).trans nx_eq, h2⟩
theorem Ret.sqS {f g : M Fl} {st : Dn} {Q : Dn → Prop} {d : PyData} (h : Stp f st Q) (h2 : ∀ st1, Q st1 → Ret g st1 d) : Ret (LH.sq f g) st d := let ⟨_, e, k⟩ := h; Ret.nx e (h2 _ k)
theorem Ret.no {c : M Bool} {f g : M Fl} {st st1 : Dn} {b : Bool} {d : PyData} (h : c st = some (b, st1)) (hb : b = false) (h2 : Ret g st1 d) : Ret (LH.sq (iteM c f nxM) g) st d := by
  subst hb
  exact let ⟨s, e⟩ := h2; ⟨s, (sq_f h).trans e⟩
theorem Stp.for {it : M (List PyData)} {g : PyData → Dn → Option Dn} {body : M Fl} {st st1 : Dn} {ds : List PyData} (I : Nat → Dn → Prop) (h : it st = some (ds, st1)) (h0 : I 0 st1)
    (hs : ∀ j d, ds[j]? = some d → ∀ st, I j st → ∃ st1, g d st = some st1 ∧ Stp body st1 (I (j + 1))) : Stp (forM it g body) st (I ds.length) :=
  forM_inv I h h0 fun j d hd st hI => let ⟨s1, e1, s2, e2, k⟩ := hs j d hd st hI; ⟨s1, s2, e1, e2, k⟩
theorem Ret.for {it : M (List PyData)} {g : PyData → Dn → Option Dn} {body r : M Fl} {st st1 : Dn} {ds : List PyData} {d : PyData} (I : Nat → Dn → Prop) (h : it st = some (ds, st1)) (h0 : I 0 st1)
    (hs : ∀ j d, ds[j]? = some d → ∀ st, I j st → ∃ st1, g d st = some st1 ∧ Stp body st1 (I (j + 1))) (hr : ∀ st', I ds.length st' → Ret r st' d) : Ret (LH.sq (forM it g body) r) st d := Ret.sqS (Stp.for I h h0 hs) hr
theorem upto_get {n j : Nat} (h : j < n) : (upto n)[j]? = some (j : Int) := by
  unfold upto
  rw [List.getElem?_map, List.getElem?_range h]
  rfl
theorem upto_at {n j : Nat} {d : PyData} (h : ((upto n).map PyData.int)[j]? = some d) : j < n ∧ (j : Int) ∈ upto n ∧ d = .int j := by
  have hl := (List.getElem?_eq_some_iff.mp h).1
  rw [List.length_map, upto_len] at hl
  rw [List.getElem?_map, upto_get hl] at h
  cases h
  exact ⟨hl, mem_upto.mpr (by omega), rfl⟩
theorem any_take {α : Type} {xs : List α} {p : α → Bool} {j : Nat} {x : α} (h : xs[j]? = some x) : (xs.take (j + 1)).any p = ((xs.take j).any p || p x) := by
  rw [List.take_add_one, h]
  simp
theorem filter_take {α : Type} {xs : List α} {p : α → Bool} {j : Nat} {x : α} (h : xs[j]? = some x) : (xs.take (j + 1)).filter p = (xs.take j).filter p ++ if p x then [x] else [] := by
  rw [List.take_add_one, h]
  cases hp : p x <;> simp [hp]
theorem rows_upto (rows : List (List Int)) : (upto rows.length).map (row rows) = rows := by
  apply List.ext_getElem
  · simp [upto]
  · intro i h1 h2
    simp [upto, row, h2]
theorem yes_eq {st : Dn} : yesM st = some (true, st) := rfl
theorem seqV_own {i : Nat} {st : Dn} {ds : List PyData} (h : st[i]? = some (some (.own ds))) : seqV i st = some (ds, st) := by unfold seqV; rw [h]
theorem join_chars (cs : List Nat) : (Txt.join (Str.ofString "") (cs.map fun c => (⟨#[c]⟩ : Str))).cps.toList = cs := by
  show (Builtin.Str.glued (Str.ofString "") _).cps.toList = _
  rw [StrLaws.glued_eq_join]
  induction cs with
  | nil => rfl
  | cons c cs ih =>
    cases cs with
    | nil => rfl
    | cons c2 cs =>
      have z : (Str.ofString "" : Str) = ⟨#[]⟩ := by decide +kernel
      rw [z] at ih ⊢
      simp only [List.map_cons, Str.join] at ih ⊢
      generalize Str.join ⟨#[]⟩ ((⟨#[c2]⟩ : Str) :: cs.map fun c => (⟨#[c]⟩ : Str)) = z at ih ⊢
      show ((#[c] ++ #[]) ++ z.cps).toList = _
      rw [Array.toList_append, ih]
      rfl
/-! ### lists of rows, slices, append -/
theorem canLay_rows : ∀ rows : List (List Int), PyData.canLayAll0 (rows.map tuI) = true
  | [] => rfl
  | r :: rows => by simp [PyData.canLayAll0, PyData.canLay0, canLay_rows rows, canLay_ints]
theorem depth_rows : ∀ rows : List (List Int), PyData.depthAll (rows.map tuI) ≤ 1
  | [] => by simp [PyData.depthAll]
  | r :: rows => by
    have := depth_rows rows
    simp only [List.map_cons, PyData.depthAll, PyData.depth, depth_ints]
    omega
theorem shaped_rows (rows : List (List Int)) : SeqAt.shaped (.tuple (rows.map tuI)) = true := by
  have := depth_rows rows
  have h2 : (PyData.tuple (rows.map tuI)).depth ≤ 64 := by simp only [PyData.depth]; omega
  unfold SeqAt.shaped
  rw [decide_eq_true h2, PyData.canLay0, canLay_rows]; rfl
theorem shaped_rowsL (rows : List (List Int)) : SeqAt.shaped (.list (rows.map tuI)) = true := by
  have := depth_rows rows
  have h2 : (PyData.list (rows.map tuI)).depth ≤ 64 := by simp only [PyData.depth]; omega
  unfold SeqAt.shaped
  rw [decide_eq_true h2, PyData.canLay0, canLay_rows]; rfl
theorem eqv_rows (r : List Int) : ∀ rows : List (List Int), ((rows.map tuI).any fun z => PyData.eqv z (tuI r)) = decide (r ∈ rows)
  | [] => by simp
  | x :: rows => by
    rw [List.map_cons, List.any_cons, eqv_rows r rows, eqv_tuI]
    by_cases h : x = r
    · subst h; simp
    · simp [h, Ne.symm h]
theorem inD_rows (r : List Int) (rows : List (List Int)) : inD (tuI r) (.tuple (rows.map tuI)) = some (.bool (decide (r ∈ rows))) := by
  show (if SeqAt.shaped (tuI r) && SeqAt.shaped (.tuple (rows.map tuI)) then some (PyData.bool ((rows.map tuI).any fun z => PyData.eqv z (tuI r))) else none) = _
  rw [shaped_tuI, shaped_rows, eqv_rows]; rfl
theorem inD_rowsL (r : List Int) (rows : List (List Int)) : inD (tuI r) (.list (rows.map tuI)) = some (.bool (decide (r ∈ rows))) := by
  show (if SeqAt.shaped (tuI r) && SeqAt.shaped (.list (rows.map tuI)) then some (PyData.bool ((rows.map tuI).any fun z => PyData.eqv z (tuI r))) else none) = _
  rw [shaped_tuI, shaped_rowsL, eqv_rows]; rfl
theorem ninD_rows (r : List Int) (rows : List (List Int)) : ninD (tuI r) (.tuple (rows.map tuI)) = some (.bool (!decide (r ∈ rows))) := by
  show (if SeqAt.shaped (tuI r) && SeqAt.shaped (.tuple (rows.map tuI)) then some (PyData.bool (!(rows.map tuI).any fun z => PyData.eqv z (tuI r))) else none) = _
  rw [shaped_tuI, shaped_rows, eqv_rows]; rfl
theorem ninD_rowsL (r : List Int) (rows : List (List Int)) : ninD (tuI r) (.list (rows.map tuI)) = some (.bool (!decide (r ∈ rows))) := by
  show (if SeqAt.shaped (tuI r) && SeqAt.shaped (.list (rows.map tuI)) then some (PyData.bool (!(rows.map tuI).any fun z => PyData.eqv z (tuI r))) else none) = _
  rw [shaped_tuI, shaped_rowsL, eqv_rows]; rfl
theorem cutD_to {ds : List PyData} {g : Int} (h0 : 0 ≤ g) (h : g ≤ ds.length) : cutD ds none (some g) = ds.take g.toNat := by
  obtain ⟨j, rfl⟩ := Int.eq_ofNat_of_zero_le h0
  unfold cutD
  have : HT.sIx ds.length ds.length (some ((j : Nat) : Int)) = j := by rw [HT.sIx_nat]; omega
  rw [show HT.sIx ds.length 0 none = 0 from rfl]
  simp only [List.drop_zero, Nat.sub_zero]
  rw [this]; rfl
theorem sl_to {rows : List (List Int)} {g : Int} (h0 : 0 ≤ g) (h : g < rows.length) : sliceD (.tuple (rows.map tuI)) none (some g) = some (.tuple ((rows.take g.toNat).map tuI)) := by
  show some (PyData.tuple (cutD (rows.map tuI) none (some g))) = _
  rw [cutD_to h0 (by rw [List.length_map]; omega), List.map_take]
theorem appM_eq {i : Nat} {f : M PyData} {st st1 : Dn} {es ds : List PyData} {d : PyData} (h0 : st[i]? = some (some (.own es))) (h : f st = some (d, st1)) (h1 : st1[i]? = some (some (.own ds))) (hl : ds.length < sizeLine) :
    appM i [] f st = some (.nx, st1.set i (some (.own (ds ++ [d])))) := by
  have e : (if lf d then st1 else unown [] st1) = st1 := by split <;> rfl
  unfold appM chO
  rw [h0]; simp only [h, e, h1]
  rw [if_pos hl]
theorem putM_eq {i : Nat} {f fk : M PyData} {st st1 st2 : Dn} {es ds : List PyData} {d : PyData} {k : Int} {j : Nat} (h0 : st[i]? = some (some (.own es))) (h : f st = some (d, st1)) (hk : fk st1 = some (.int k, st2)) (h1 : st2[i]? = some (some (.own ds))) (hj : ixN ds.length k = some j) :
    putM i [] f fk st = some (.nx, st2.set i (some (.own (ds.set j d)))) := by
  have e : (if lf d then st2 else unown [] st2) = st2 := by split <;> rfl
  unfold putM chO
  rw [h0]
  simp only [bnd, h, lift1, hk]
  rw [e]
  simp only [h1, hj]
theorem extM_eq {i : Nat} {f : M (List PyData)} {st st1 : Dn} {es ds xs : List PyData} (h0 : st[i]? = some (some (.own es))) (h : f st = some (xs, st1)) (h1 : st1[i]? = some (some (.own ds))) (hl : ds.length + xs.length ≤ sizeLine) :
    extM i [] f st = some (.nx, st1.set i (some (.own (ds ++ xs)))) := by
  have e : (if lfs xs then st1 else unown [] st1) = st1 := by split <;> rfl
  unfold extM chO
  rw [h0]; simp only [h, e, h1]
  rw [if_pos hl]
theorem popG_eq {i : Nat} {fk : M PyData} {st st1 : Dn} {ds0 ds : List PyData} {k : Int} {j : Nat} {d : PyData} (h0 : st[i]? = some (some (.own ds0))) (h : fk st = some (.int k, st1)) (h1 : st1[i]? = some (some (.own ds))) (h2 : ixN ds.length k = some j) (h3 : ds[j]? = some d) (hl : lf d = true) (hs : small62 k = true) :
    popG i fk st = some (d, st1.set i (some (.own (ds.eraseIdx j)))) := by
  unfold popG
  rw [h0]; simp only [h, h1, h2, h3, hl, hs, Bool.and_self, if_true]
theorem liD_eq {f : M (List PyData)} {st st1 : Dn} {ds : List PyData} (h : f st = some (ds, st1)) : liD f st = some (.list ds, st1) := by unfold liD; rw [h]
theorem par2M_eq {i j : Nat} {fs : M (List PyData)} {st st1 : Dn} {d1 d2 : PyData} (h : fs st = some ([d1, d2], st1)) : par2M i j fs st = some (.nx, (st1.set i (some (.val d1))).set j (some (.val d2))) := by unfold par2M; rw [h]
theorem srtM_eq {f : M (List PyData)} {st st1 : Dn} {ds es : List PyData} (h : f st = some (ds, st1)) (h2 : srtD ds = some es) : srtM f st = some (es, st1) := by unfold srtM; rw [h]; simp only; rw [h2]
theorem sortSetLM_eq {f : M (List PyData)} {st st1 : Dn} {ds es : List PyData} (h : f st = some (ds, st1)) (h2 : sortSetL ds = some es) : sortSetLM f st = some (es, st1) := by unfold sortSetLM; rw [h]; simp only; rw [h2]
theorem insI_le (a : Int) : ∀ xs : List Int, (insI a xs).length ≤ xs.length + 1
  | [] => by simp [insI]
  | b :: xs => by
    unfold insI
    split
    · simp
    · split
      · simp
      · have := insI_le a xs
        simp only [List.length_cons]
        omega
theorem risI_le : ∀ xs : List Int, (risI xs).length ≤ xs.length
  | [] => Nat.le_refl _
  | x :: xs => by
    have h1 := risI_le xs
    have h2 := insI_le x (risI xs)
    show (insI x (risI xs)).length ≤ xs.length + 1
    omega
theorem sortSetL_intsW {xs : List Int} (h : xs.length < 4000) (h2 : (risI xs).length < 64) : sortSetL (xs.map .int) = some ((risI xs).map .int) := by
  unfold sortSetL
  rw [intsOf_map]
  show (if _ then _ else none) = _
  rw [List.length_map, if_pos (by rw [Bool.and_eq_true, decide_eq_true_eq, decide_eq_true_eq]; exact ⟨h, h2⟩)]
theorem sortSetL_ints {xs : List Int} (h : xs.length < 64) : sortSetL (xs.map .int) = some ((risI xs).map .int) := sortSetL_intsW (by omega) (by have := risI_le xs; omega)
theorem ixN_ok {n : Nat} {k : Int} (h0 : 0 ≤ k) (h : k < n) : ixN n k = some k.toNat := by unfold ixN; rw [if_pos h0, if_pos h]
theorem rg1_nat {n : Nat} (h : n ≤ 1000) : rg1D (.int n) = some ((upto n).map .int) := by
  show (if (small62 0 && small62 (n : Int)) && decide (((n : Int) - 0).toNat ≤ 16777216) then some (rangeD 0 ((n : Int) - 0).toNat) else none) = _
  have h1 : small62 (n : Int) = true := by unfold small62; rw [decide_eq_true_iff]; constructor <;> omega
  have h2 : ((n : Int) - 0).toNat = n := by omega
  rw [h1, h2, decide_eq_true (by omega), rangeD_upto]; rfl
/-- lo, lo + 1, .. below hi -/
def span (lo hi : Nat) : List Int := (List.range (hi - lo)).map fun (j : Nat) => ((lo + j : Nat) : Int)
theorem mem_span {lo hi : Nat} {i : Int} : i ∈ span lo hi ↔ (lo : Int) ≤ i ∧ i < hi := by
  unfold span
  rw [List.mem_map]
  constructor
  · rintro ⟨j, hj, rfl⟩
    have := List.mem_range.mp hj
    omega
  · rintro ⟨h0, h1⟩
    exact ⟨i.toNat - lo, List.mem_range.mpr (by omega), by omega⟩
theorem span_len (lo hi : Nat) : (span lo hi).length = hi - lo := by simp [span]
theorem span_get {lo hi j : Nat} (h : j < hi - lo) : (span lo hi)[j]? = some ((lo + j : Nat) : Int) := by
  unfold span
  rw [List.getElem?_map, List.getElem?_range h]
  rfl
theorem span_at {lo hi j : Nat} {d : PyData} (h : ((span lo hi).map PyData.int)[j]? = some d) : lo + j < hi ∧ d = .int (lo + j : Nat) := by
  have hl := (List.getElem?_eq_some_iff.mp h).1
  rw [List.length_map, span_len] at hl
  rw [List.getElem?_map, span_get hl] at h
  cases h
  exact ⟨by omega, rfl⟩
theorem span_lt (lo hi : Nat) : (span lo hi).Pairwise (· < ·) := by
  unfold span
  rw [List.pairwise_map]
  exact List.pairwise_lt_range.imp fun h => by omega
theorem rangeD_span (lo hi : Nat) : rangeD (lo : Int) ((hi : Int) - lo).toNat = (span lo hi).map .int := by
  unfold rangeD span
  rw [List.map_map, show ((hi : Int) - lo).toNat = hi - lo by omega]
  apply List.map_congr_left
  intro j _
  simp
theorem range2_nat {lo hi : Nat} (h1 : lo ≤ 1000000) (h2 : hi ≤ 1000000) : range2D (.int lo) (.int hi) = some ((span lo hi).map .int) := by
  show (if small62 (lo : Int) && small62 (hi : Int) then some (rangeD (lo : Int) ((hi : Int) - lo).toNat) else none) = _
  have e1 : small62 (lo : Int) = true := by unfold small62; rw [decide_eq_true_iff]; constructor <;> omega
  have e2 : small62 (hi : Int) = true := by unfold small62; rw [decide_eq_true_iff]; constructor <;> omega
  rw [e1, e2, rangeD_span]; rfl
theorem rg2_nat {lo hi : Nat} (h1 : lo ≤ 1000000) (h2 : hi ≤ 1000000) : rg2D (.int lo) (.int hi) = some ((span lo hi).map .int) := by
  show (if (small62 (lo : Int) && small62 (hi : Int)) && decide (((hi : Int) - lo).toNat ≤ 16777216) then some (rangeD (lo : Int) ((hi : Int) - lo).toNat) else none) = _
  have e1 : small62 (lo : Int) = true := by unfold small62; rw [decide_eq_true_iff]; constructor <;> omega
  have e2 : small62 (hi : Int) = true := by unfold small62; rw [decide_eq_true_iff]; constructor <;> omega
  rw [e1, e2, decide_eq_true (by omega), rangeD_span]; rfl
theorem add_ii {i j : Int} : addD (.int i) (.int j) = some (.int (i + j)) := rfl
theorem sub_ii {i j : Int} : subD (.int i) (.int j) = some (.int (i - j)) := rfl
theorem iadd_ii {i j : Int} : iaddD (.int i) (.int j) = some (.int (i + j)) := rfl
theorem lt_ii {i j : Int} : ltD (.int i) (.int j) = some (.bool (decide (i < j))) := rfl
theorem le_ii {i j : Int} : leD (.int i) (.int j) = some (.bool (decide (i ≤ j))) := rfl
theorem gt_ii {i j : Int} : gtD (.int i) (.int j) = some (.bool (decide (j < i))) := rfl
theorem ge_ii {i j : Int} : geD (.int i) (.int j) = some (.bool (decide (j ≤ i))) := rfl
theorem eq_ii {i j : Int} : eqD (.int i) (.int j) = some (.bool (decide (i = j))) := rfl
theorem ne_ii {i j : Int} : neD (.int i) (.int j) = some (.bool (!decide (i = j))) := rfl
theorem mod_ii {i j : Int} (h : 0 < j) : modD (.int i) (.int j) = some (.int (i % j)) := if_pos h
theorem fdiv_ii {i j : Int} (h : 0 < j ∧ j < 1073741824) : fdivD (.int i) (.int j) = some (.int (i / j)) := if_pos h
theorem int_i {i : Int} : intD [.int i] = some (.int i) := rfl
theorem lfs_ints : ∀ xs : List Int, lfs (xs.map .int) = true
  | [] => rfl
  | x :: xs => by simp [lfs, lf, lfs_ints xs]
theorem lf_tuI (xs : List Int) : lf (tuI xs) = true := lfs_ints xs
theorem range_map {α β : Type} {xs : List α} {f : α → β} (h : xs.length ≤ 1000) : range1D (.int ((xs.map f).length : Nat)) = some ((upto xs.length).map .int) := by rw [List.length_map]; exact range1_nat _ (by omega)
/-! ### comprehensions of two clauses -/
theorem lc2Go_map {α β : Type} {vs vs1 : List Nat} {g g1 : PyData → Dn → Option Dn} {c c1 : M Bool} {it1 : M (List PyData)} {elt : M PyData} {st : Dn} {φ : α → PyData} {ψ : β → PyData} {p : α → Bool} {ys : α → List β} {q : α → β → Bool} {f : α → β → PyData} : ∀ (xs : List α),
    (∀ x ∈ xs, ∃ st1, g (φ x) st = some st1 ∧ c st1 = some (p x, st1) ∧ wipeD st1 vs = st ∧ (p x = true → it1 st1 = some ((ys x).map ψ, st1) ∧ noOwn st1 vs1 = true ∧ wipeD st1 vs1 = st1 ∧
      ∀ y ∈ ys x, ∃ st2, g1 (ψ y) st1 = some st2 ∧ c1 st2 = some (q x y, st2) ∧ (q x y = true → elt st2 = some (f x y, st2)) ∧ wipeD st2 vs1 = st1)) →
    lc2Go vs g c it1 vs1 g1 c1 elt (xs.map φ) st = some ((xs.filter p).flatMap fun x => ((ys x).filter (q x)).map (f x), st)
  | [], _ => rfl
  | x :: xs, h => by
    have ih := lc2Go_map (vs := vs) (vs1 := vs1) (g := g) (g1 := g1) (c := c) (c1 := c1) (it1 := it1) (elt := elt) (st := st) (φ := φ) (ψ := ψ) (p := p) (ys := ys) (q := q) (f := f) xs fun z hz => h z (List.mem_cons_of_mem _ hz)
    obtain ⟨st1, h1, h2, h3, h4⟩ := h x List.mem_cons_self
    cases hp : p x with
    | false => rw [hp] at h2; simp only [List.map_cons, lc2Go, h1, h2, h3, ih, List.filter_cons, hp]; rfl
    | true =>
      rw [hp] at h2
      obtain ⟨k1, k2, k3, k4⟩ := h4 hp
      have inn := lcGo_map (vs := vs1) (g := g1) (c := c1) (elt := elt) (st := st1) (φ := ψ) (p := q x) (f := f x) (ys x) k4
      simp only [List.map_cons, lc2Go, h1, h2, k1, k2, k3, inn, h3, ih, List.filter_cons, hp, if_true, List.flatMap_cons]
theorem lc2M_map {α β : Type} {vs vs1 : List Nat} {it it1 : M (List PyData)} {g g1 : PyData → Dn → Option Dn} {c c1 : M Bool} {elt : M PyData} {st : Dn} {φ : α → PyData} {ψ : β → PyData} {p : α → Bool} {ys : α → List β} {q : α → β → Bool} {f : α → β → PyData} {xs : List α}
    (h : it st = some (xs.map φ, st)) (hw : wipeD st vs = st) (hno : noOwn st vs = true) (hr : restore st st vs = st)
    (hs : ∀ x ∈ xs, ∃ st1, g (φ x) st = some st1 ∧ c st1 = some (p x, st1) ∧ wipeD st1 vs = st ∧ (p x = true → it1 st1 = some ((ys x).map ψ, st1) ∧ noOwn st1 vs1 = true ∧ wipeD st1 vs1 = st1 ∧
      ∀ y ∈ ys x, ∃ st2, g1 (ψ y) st1 = some st2 ∧ c1 st2 = some (q x y, st2) ∧ (q x y = true → elt st2 = some (f x y, st2)) ∧ wipeD st2 vs1 = st1))
    (hl : ((xs.filter p).flatMap fun x => ((ys x).filter (q x)).map (f x)).length ≤ sizeLine) :
    lc2M vs it g c it1 vs1 g1 c1 elt st = some ((xs.filter p).flatMap fun x => ((ys x).filter (q x)).map (f x), st) := by
  unfold lc2M
  rw [h]
  simp only [hno, hw, lc2Go_map xs hs, hr, if_true]
  rw [if_pos hl]
theorem flatMap_len {α β : Type} {xs : List α} {f : α → List β} {a b : Nat} (h1 : xs.length ≤ a) (h2 : ∀ x ∈ xs, (f x).length ≤ b) : (xs.flatMap f).length ≤ a * b := by
  induction xs generalizing a with
  | nil => exact Nat.zero_le _
  | cons x xs ih =>
    rw [List.flatMap_cons, List.length_append]
    cases a with
    | zero => simp at h1
    | succ a =>
      have := ih (a := a) (by simpa using h1) fun z hz => h2 z (List.mem_cons_of_mem _ hz)
      have := h2 x List.mem_cons_self
      rw [Nat.succ_mul]
      omega
/-! ### loops that may return -/
theorem forGo_ret {g : PyData → Dn → Option Dn} {body : M Fl} {I : Nat → Dn → Prop} {dd : PyData} : ∀ (ds : List PyData) (n : Nat), (∀ j d, ds[j]? = some d → ∀ st, I (n + j) st → ∃ st1, g d st = some st1 ∧ (Stp body st1 (I (n + j + 1)) ∨ Ret body st1 dd)) →
    ∀ st, I n st → (∃ st', forGo g body ds st = some (.nx, st') ∧ I (n + ds.length) st') ∨ ∃ st', forGo g body ds st = some (.rt dd, st')
  | [], n, _, st, hi => .inl ⟨st, rfl, hi⟩
  | d :: ds, n, h, st, hi => by
    obtain ⟨st1, h1, h2⟩ := h 0 d rfl st hi
    rcases h2 with ⟨st2, h2, h3⟩ | ⟨st2, h2⟩
    · have hrec := forGo_ret (g := g) (body := body) (I := I) (dd := dd) ds (n + 1) (fun j d' hj st hI => by
        have := h (j + 1) d' (by simpa using hj) st (by rw [show n + (j + 1) = n + 1 + j from by omega]; exact hI)
        rw [show n + (j + 1) + 1 = n + 1 + j + 1 from by omega] at this
        exact this) st2 h3
      rcases hrec with ⟨st', e, k⟩ | ⟨st', e⟩
      · refine .inl ⟨st', ?_, by rw [List.length_cons, show n + (ds.length + 1) = n + 1 + ds.length from by omega]; exact k⟩
        simp only [forGo, h1, h2, e]
      · refine .inr ⟨st', ?_⟩
        simp only [forGo, h1, h2, e]
    · refine .inr ⟨st2, ?_⟩
      simp only [forGo, h1, h2]
theorem Ret.forR {it : M (List PyData)} {g : PyData → Dn → Option Dn} {body r : M Fl} {st st1 : Dn} {ds : List PyData} {dd : PyData} (I : Nat → Dn → Prop) (h : it st = some (ds, st1)) (h0 : I 0 st1)
    (hs : ∀ j d, ds[j]? = some d → ∀ st, I j st → ∃ st1, g d st = some st1 ∧ (Stp body st1 (I (j + 1)) ∨ Ret body st1 dd)) (hr : ∀ st', I ds.length st' → Ret r st' dd) : Ret (LH.sq (forM it g body) r) st dd := by
  have := forGo_ret (g := g) (body := body) (I := I) (dd := dd) ds 0 (fun j d hj st hI => by
    rw [Nat.zero_add] at hI ⊢
    exact hs j d hj st hI) st1 h0
  rcases this with ⟨st', e, k⟩ | ⟨st', e⟩
  · rw [Nat.zero_add] at k
    exact Ret.nx ((forM_eq h).trans e) (hr st' k)
  · exact Ret.sq ⟨st', (forM_eq h).trans e⟩
/-- the last statement of a block is a loop -/
theorem forM_ret {it : M (List PyData)} {g : PyData → Dn → Option Dn} {body : M Fl} {st st1 : Dn} {ds : List PyData} {dd : PyData} (I : Nat → Dn → Prop) (h : it st = some (ds, st1)) (h0 : I 0 st1)
    (hs : ∀ j d, ds[j]? = some d → ∀ st, I j st → ∃ st1, g d st = some st1 ∧ (Stp body st1 (I (j + 1)) ∨ Ret body st1 dd)) : Stp (forM it g body) st (I ds.length) ∨ Ret (forM it g body) st dd := by
  have := forGo_ret (g := g) (body := body) (I := I) (dd := dd) ds 0 (fun j d hj st hI => by
    rw [Nat.zero_add] at hI ⊢
    exact hs j d hj st hI) st1 h0
  rcases this with ⟨st', e, k⟩ | ⟨st', e⟩
  · rw [Nat.zero_add] at k
    exact .inl ⟨st', (forM_eq h).trans e, k⟩
  · exact .inr ⟨st', (forM_eq h).trans e⟩
/-- goes on, or returns -/
theorem sr_sq {f g : M Fl} {st st1 : Dn} {P : Dn → Prop} {dd : PyData} (h : f st = some (.nx, st1)) (h2 : Stp g st1 P ∨ Ret g st1 dd) : Stp (sq f g) st P ∨ Ret (sq f g) st dd := h2.imp (Stp.sq h) (Ret.nx h)
theorem sr_if {c : M Bool} {f g : M Fl} {st st1 : Dn} {b : Bool} {P : Dn → Prop} {dd : PyData} (h : c st = some (b, st1)) (h1 : b = true → Ret f st1 dd) (h2 : b = false → Stp g st1 P ∨ Ret g st1 dd) : Stp (sq (iteM c f nxM) g) st P ∨ Ret (sq (iteM c f nxM) g) st dd := by
  cases b with
  | true => exact .inr (Ret.sq (Ret.ite h (fun _ => h1 rfl) (fun e => by cases e)))
  | false => exact (h2 rfl).imp (fun k => Stp.no h rfl k) (fun k => Ret.no h rfl k)
theorem sr_if1 {c : M Bool} {f : M Fl} {st st1 : Dn} {b : Bool} {P : Dn → Prop} {dd : PyData} (h : c st = some (b, st1)) (h1 : b = true → Ret f st1 dd) (h2 : b = false → P st1) : Stp (iteM c f nxM) st P ∨ Ret (iteM c f nxM) st dd := by
  cases b with
  | true => exact .inr (Ret.ite h (fun _ => h1 rfl) (fun e => by cases e))
  | false => exact .inl (Stp.no1 h rfl (h2 rfl))
end LH

set_option Elab.async false
set_option linter.all false
set_option maxRecDepth 100000
set_option maxHeartbeats 4000000
namespace LH
open PySem PySem.Spec PyProof.Rows L2
def top (i : Nat) : Stmt := PySem.Challenge.pw_latticehouse_k64_complements_and_what_is.main.body.getD i (.Pass ⟨0, 0, 0, 0⟩)
abbrev fu_law_same : Nat := 10
abbrev S_law_cell : Stmt := top 26
def B_law_cell : M Fl := (sq (iteM (lift2 (both ltD) (vr 1) (liftL lenD (consM (vr 0) nilM))) (retM [] (lift2 ixD (vr 0) (vr 1))) nxM) (retM [] (cst (.int 0))))
def F_law_cell : DF := runD 2 0 B_law_cell
abbrev S_law_digits : Stmt := top 25
def B_law_digits : M Fl := (sq (setO 3 [] (lstM nilM)) (sq (forM (lift2 range2D (vr 1) (vr 2)) (gv 4) (sq (setM 5 [] (callD F_law_cell (consM (vr 0) (consM (vr 4) nilM)))) (sq (iteM (lift2 (both ltD) (vr 5) (cst (.int 0))) (setM 5 [] (lift2 subD (cst (.int 1)) (lift2 mulD (cst (.int 2)) (vr 5)))) nxM) (iteM (lift2 (both geD) (vr 5) (lift2 powD (cst (.int 10)) (cst (.int 18)))) (forM (lift1 range1D (cst (.int 60))) (gv 6) (iteM (lift2 (both gtD) (vr 5) (cst (.int 0))) (sq (appM 3 [] (lift2 modD (liftL intD (consM (vr 5) nilM)) (cst (.int 1000)))) (setM 5 [] (lift2 fdivD (vr 5) (cst (.int 1000))))) nxM)) (sq (setM 7 [] (lift2 modD (liftL intD (consM (lift2 addD (lift2 addD (lift2 mulD (vr 5) (cst (.int 48271))) (lift2 mulD (vr 4) (cst (.int 69621)))) (cst (.int 11))) nilM)) (cst (.int 2147483647)))) (forM (lift1 range1D (cst (.int 12))) (gv 6) (sq (setM 7 [] (lift2 modD (liftL intD (consM (lift2 addD (lift2 addD (lift2 mulD (vr 7) (cst (.int 16807))) (lift2 mulD (cst (.int 7)) (vr 6))) (cst (.int 1))) nilM)) (cst (.int 2147483647)))) (appM 3 [] (lift2 modD (liftL intD (consM (lift2 fdivD (vr 7) (cst (.int 997))) nilM)) (cst (.int 1000))))))))))) (retM [3] (vo 3))))
def F_law_digits : DF := runD 3 5 B_law_digits
abbrev S_law_box : Stmt := top 24
def B_law_box : M (List PyData) := (lstM (consM (callD F_law_digits (consM (vr 0) (consM (vr 1) (consM (vr 2) nilM)))) (consM (cst (.int 0)) nilM)))
def F_law_box : NF := runN 3 0 B_law_box
abbrev S_law_lectic : Stmt := top 30
def B_law_lectic : M Fl := (sq (setO 2 [] (lstM nilM)) (sq (forM (seqV 1) (gv 3) (appM 2 [] (tupM (consM (tuM (lcM [4] (lift1 range1D (vr 0)) (gv 4) yesM (liftL intD (consM (lift2 inD (vr 4) (vr 3)) nilM)))) (consM (vr 3) nilM))))) (retM [] (liD (lcM [5] (srtM (seqV 2)) (gv 5) yesM (lift2 ixD (vr 5) (cst (.int 1))))))))
def F_law_lectic : DF := runD 2 4 B_law_lectic
abbrev S_law_subsets : Stmt := top 29
def B_law_subsets : M Fl := (sq (setM 1 [] (liD (lstM (consM (tupM nilM) nilM)))) (sq (forM (lift1 range1D (vr 0)) (gv 2) (setM 1 [] (lift2 addD (vr 1) (liD (lcM [3] (seqV 1) (gv 3) yesM (lift2 addD (vr 3) (tupM (consM (vr 2) nilM)))))))) (retM [] (callD F_law_lectic (consM (vr 0) (consM (vr 1) nilM))))))
def F_law_subsets : DF := runD 1 3 B_law_subsets
abbrev S_law_common : Stmt := top 32
def B_law_common : M Fl := (retM [] (tuM (lcM [2] (lift1 range1D (lift2 ixD (vr 0) (cst (.int 1)))) (gv 2) (lift2 (both eqD) (lenM (lcM [3] (seqV 1) (gv 3) (lift2 (both ninD) (vr 2) (lift2 ixD (lift2 ixD (vr 0) (cst (.int 2))) (vr 3))) (vr 3))) (cst (.int 0))) (vr 2))))
def F_law_common : DF := runD 2 2 B_law_common
abbrev S_law_inside : Stmt := top 34
def B_law_inside : M Fl := (retM [] (lift2 eqD (lenM (lcM [2] (seqV 0) (gv 2) (lift2 (both ninD) (vr 2) (vr 1)) (vr 2))) (cst (.int 0))))
def F_law_inside : DF := runD 2 1 B_law_inside
abbrev S_law_having : Stmt := top 33
def B_law_having : M Fl := (retM [] (tuM (lcM [2] (lift1 range1D (liftL lenD (consM (lift2 ixD (vr 0) (cst (.int 2))) nilM))) (gv 2) (lift1 isB (callD F_law_inside (consM (vr 1) (consM (lift2 ixD (lift2 ixD (vr 0) (cst (.int 2))) (vr 2)) nilM)))) (vr 2))))
def F_law_having : DF := runD 2 1 B_law_having
abbrev S_law_closure : Stmt := top 31
def B_law_closure : M Fl := (retM [] (callD F_law_common (consM (vr 0) (consM (callD F_law_having (consM (vr 0) (consM (vr 1) nilM))) nilM))))
def F_law_closure : DF := runD 2 0 B_law_closure
abbrev S_law_closed : Stmt := top 28
def B_law_closed : M Fl := (retM [] (liD (lcM [1] (lift1 seqOf (callD F_law_subsets (consM (lift2 ixD (vr 0) (cst (.int 1))) nilM))) (gv 1) (lift2 (both eqD) (callD F_law_closure (consM (vr 0) (consM (vr 1) nilM))) (vr 1)) (vr 1))))
def F_law_closed : DF := runD 1 1 B_law_closed
abbrev S_law_draw : Stmt := top 36
def B_law_draw : M Fl := (sq (setM 2 [0] (lift2 ixD (vo 0) (cst (.int 1)))) (sq (putM 0 [] (lift2 addD (vr 2) (cst (.int 1))) (cst (.int 1))) (sq (iteM (lift2 (both ltD) (vr 2) (liftL lenD (consM (lift2 ixD (vo 0) (cst (.int 0))) nilM))) (retM [0] (lift2 modD (liftL intD (consM (lift2 ixD (lift2 ixD (vo 0) (cst (.int 0))) (vr 2)) nilM)) (vr 1))) nxM) (retM [] (cst (.int 0))))))
def F_law_draw : LF := runL 2 1 B_law_draw
abbrev S_law_some : Stmt := top 37
def B_law_some : M Fl := (retM [] (tuM (lcM [3] (lift1 range1D (vr 1)) (gv 3) (lift2 (both ltD) (callL F_law_draw 0 (consM (cst (.int 6)) nilM)) (vr 2)) (vr 3))))
def F_law_some : LF := runL 3 1 B_law_some
abbrev S_law_table : Stmt := top 35
def B_law_table : M Fl := (sq (setM 3 [] (callL F_law_draw 0 (consM (lift2 addD (vr 2) (cst (.int 1))) nilM))) (sq (setM 4 [] (lift2 addD (cst (.int 2)) (callL F_law_draw 0 (consM (cst (.int 3)) nilM)))) (sq (setM 5 [] (tuM (lcM [6] (lift1 range1D (callL F_law_draw 0 (consM (lift2 addD (vr 1) (cst (.int 1))) nilM))) (gv 6) yesM (callL F_law_some 0 (consM (vr 3) (consM (vr 4) nilM)))))) (retM [] (tupM (consM (cst (.str "table")) (consM (vr 3) (consM (vr 5) nilM))))))))
def F_law_table : LF := runL 3 4 B_law_table
abbrev S_law_mixed_order : Stmt := top 38
def B_law_mixed_order : M Fl := (sq (setO 2 [] (lift1 rg1D (vr 1))) (sq (setO 3 [] (lstM nilM)) (sq (forM (lift1 range1D (vr 1)) (gv 4) (appM 3 [] (popG 2 (lift2 modD (liftL intD (consM (callL F_law_draw 0 (consM (cst (.int 1000)) nilM)) nilM)) (lenM (seqV 2)))))) (retM [3] (vo 3)))))
def F_law_mixed_order : LF := runL 2 3 B_law_mixed_order
abbrev S_law_lattice : Stmt := top 27
def B_law_lattice : M Fl := (sq (setM 3 [] (callD F_law_closed (consM (callL F_law_table 0 (consM (vr 1) (consM (vr 2) nilM))) nilM))) (sq (setM 4 [] (callL F_law_mixed_order 0 (consM (liftL lenD (consM (vr 3) nilM)) nilM))) (sq (setO 5 [] (lstM nilM)) (sq (forM (lift1 range1D (liftL lenD (consM (vr 3) nilM))) (gv 6) (appM 5 [] (tuM (lcM [7] (lift1 range1D (liftL lenD (consM (vr 3) nilM))) (gv 7) (lift1 isB (callD F_law_inside (consM (lift2 ixD (vr 3) (lift2 ixD (vr 4) (vr 6))) (consM (lift2 ixD (vr 3) (lift2 ixD (vr 4) (vr 7))) nilM)))) (vr 7))))) (retM [] (tupM (consM (cst (.str "lattice")) (consM (liftL lenD (consM (vr 3) nilM)) (consM (tuM (seqV 5)) nilM)))))))))
def F_law_lattice : LF := runL 3 5 B_law_lattice
abbrev S_has_bits : Stmt := top 22
def B_has_bits : M Fl := (sq (whileGo (lift1 truD (vr 1)) (sq (iteM (andM (lift2 (both eqD) (lift2 modD (vr 1) (cst (.int 2))) (cst (.int 1))) (lift2 (both eqD) (lift2 modD (vr 0) (cst (.int 2))) (cst (.int 0)))) (retM [] (cst (.bool false))) nxM) (sq (augM 0 fdivD (cst (.int 2))) (augM 1 fdivD (cst (.int 2))))) 1000000) (retM [] (cst (.bool true))))
def F_has_bits : DF := runD 2 0 B_has_bits
abbrev S_cubes : Stmt := top 21
def B_cubes : M Fl := (sq (setM 1 [] (cst (.int 1))) (sq (forM (lift1 range1D (vr 0)) (gv 2) (augM 1 mulD (cst (.int 2)))) (sq (setM 3 [] (useM tupGo .tuple (genM [5] (lift1 range1D (vr 1)) (genGo (gv 5) yesM (lastG (useM tupGo .tuple (genM [4] (lift1 range1D (vr 1)) (genGo (gv 4) (lift1 isB (callD F_has_bits (consM (vr 4) (consM (vr 5) nilM)))) (lastG (vr 4)))))))))) (retM [] (tupM (consM (cst (.str "lattice")) (consM (vr 1) (consM (vr 3) nilM))))))))
def F_cubes : DF := runD 1 5 B_cubes
abbrev S_law_low : Stmt := top 39
def B_law_low : M Fl := (retM [] (lift2 ixD (liD (lcM [1] (lift1 range1D (lift2 ixD (vr 0) (cst (.int 1)))) (gv 1) (lift2 (both eqD) (liftL lenD (consM (lift2 ixD (lift2 ixD (vr 0) (cst (.int 2))) (vr 1)) nilM)) (lift2 ixD (vr 0) (cst (.int 1)))) (vr 1))) (cst (.int 0))))
def F_law_low : DF := runD 1 1 B_law_low
abbrev S_law_high : Stmt := top 40
def B_law_high : M Fl := (retM [] (lift2 ixD (liD (lcM [1] (lift1 range1D (lift2 ixD (vr 0) (cst (.int 1)))) (gv 1) (lift2 (both eqD) (lift2 ixD (lift2 ixD (vr 0) (cst (.int 2))) (vr 1)) (tupM (consM (vr 1) nilM))) (vr 1))) (cst (.int 0))))
def F_law_high : DF := runD 1 1 B_law_high
abbrev S_law_best : Stmt := top 43
def B_law_best : M Fl := (sq (forM (seqV 0) (gv 2) (iteM (lift2 (both eqD) (lenM (lcM [3] (seqV 0) (gv 3) (lift2 (both ninD) (vr 3) (lift2 ixD (vr 1) (vr 2))) (vr 3))) (cst (.int 0))) (retM [] (vr 2)) nxM)) (retM [] (cst .none)))
def F_law_best : DF := runD 2 2 B_law_best
abbrev S_law_join : Stmt := top 42
def B_law_join : M Fl := (retM [] (callD F_law_best (consM (liD (lcM [3] (lift1 seqOf (lift2 ixD (lift2 ixD (vr 0) (cst (.int 2))) (vr 1))) (gv 3) (lift2 (both inD) (vr 3) (lift2 ixD (lift2 ixD (vr 0) (cst (.int 2))) (vr 2))) (vr 3))) (consM (lift2 ixD (vr 0) (cst (.int 2))) nilM))))
def F_law_join : DF := runD 3 1 B_law_join
abbrev S_law_joins : Stmt := top 41
def B_law_joins : M Fl := (sq (setO 1 [] (lstM nilM)) (sq (forM (lift1 range1D (lift2 ixD (vr 0) (cst (.int 1)))) (gv 2) (appM 1 [] (liD (lcM [3] (lift1 range1D (lift2 ixD (vr 0) (cst (.int 1)))) (gv 3) yesM (callD F_law_join (consM (vr 0) (consM (vr 2) (consM (vr 3) nilM)))))))) (retM [1] (vo 1))))
def F_law_joins : DF := runD 1 3 B_law_joins
abbrev S_law_meet : Stmt := top 45
def B_law_meet : M Fl := (sq (setM 3 [] (liD (lcM [4] (lift1 range1D (lift2 ixD (vr 0) (cst (.int 1)))) (gv 4) (andM (lift2 (both inD) (vr 1) (lift2 ixD (lift2 ixD (vr 0) (cst (.int 2))) (vr 4))) (lift2 (both inD) (vr 2) (lift2 ixD (lift2 ixD (vr 0) (cst (.int 2))) (vr 4)))) (vr 4)))) (sq (forM (seqV 3) (gv 4) (iteM (lift2 (both eqD) (lenM (lcM [5] (seqV 3) (gv 5) (lift2 (both ninD) (vr 4) (lift2 ixD (lift2 ixD (vr 0) (cst (.int 2))) (vr 5))) (vr 5))) (cst (.int 0))) (retM [] (vr 4)) nxM)) (retM [] (cst .none))))
def F_law_meet : DF := runD 3 3 B_law_meet
abbrev S_law_meets : Stmt := top 44
def B_law_meets : M Fl := (sq (setO 1 [] (lstM nilM)) (sq (forM (lift1 range1D (lift2 ixD (vr 0) (cst (.int 1)))) (gv 2) (appM 1 [] (liD (lcM [3] (lift1 range1D (lift2 ixD (vr 0) (cst (.int 1)))) (gv 3) yesM (callD F_law_meet (consM (vr 0) (consM (vr 2) (consM (vr 3) nilM)))))))) (retM [1] (vo 1))))
def F_law_meets : DF := runD 1 3 B_law_meets
abbrev S_law_same : Stmt := top 46
def B_law_same (F : DF) : M Fl := (sq (iteM (lift1 isB (lift1 (isiD "tuple") (vr 1))) (sq (iteM (orM (notM (lift1 isB (lift1 (isiD "tuple") (vr 0)))) (lift2 (both neD) (liftL lenD (consM (vr 0) nilM)) (liftL lenD (consM (vr 1) nilM)))) (retM [] (cst (.bool false))) nxM) (sq (forM (lift1 range1D (liftL lenD (consM (vr 1) nilM))) (gv 2) (iteM (notM (lift1 isB (callD F (consM (lift2 ixD (vr 0) (vr 2)) (consM (lift2 ixD (vr 1) (vr 2)) nilM))))) (retM [] (cst (.bool false))) nxM)) (retM [] (cst (.bool true))))) nxM) (sq (iteM (lift2 (both isD) (vr 1) (cst .none)) (retM [] (lift2 isD (vr 0) (cst .none))) nxM) (sq (iteM (lift1 isB (lift1 (isiD "bool") (vr 1))) (retM [] (blM (andM (lift1 isB (lift1 (isiD "bool") (vr 0))) (lift2 (both eqD) (vr 0) (vr 1))))) nxM) (sq (iteM (lift1 isB (lift1 (isiD "int") (vr 1))) (retM [] (blM (andM (lift1 isB (lift1 (isiD "int") (vr 0))) (andM (notM (lift1 isB (lift1 (isiD "bool") (vr 0)))) (lift2 (both eqD) (vr 0) (vr 1)))))) nxM) (retM [] (blM (andM (lift1 isB (lift1 (isiD "str") (vr 0))) (lift2 (both eqD) (vr 0) (vr 1)))))))))
def F_law_same : Nat → DF
  | 0 => fun _ => none
  | n + 1 => runD 2 1 (B_law_same (F_law_same n))
abbrev S_is_part : Stmt := top 1
def B_is_part : M Fl := (retM [] (useM allGo .bool (genM [2] (seqV 0) (genGo (gv 2) yesM (lastG (lift2 inD (vr 2) (vr 1)))))))
def F_is_part : DF := runD 2 1 B_is_part
abbrev S_least_of : Stmt := top 5
def B_least_of : M Fl := (sq (setM 2 [] (liD (lcM [3] (seqV 1) (gv 3) (lift1 isB (callD F_is_part (consM (vr 1) (consM (lift2 ixD (lift2 ixD (vr 0) (cst (.int 2))) (vr 3)) nilM)))) (vr 3)))) (retM [] (iteM (lift1 truD (vr 2)) (lift2 ixD (vr 2) (cst (.int 0))) (cst .none))))
def F_least_of : DF := runD 2 2 B_least_of
abbrev S_low_of : Stmt := top 11
def B_low_of : M Fl := (retM [] (callD F_least_of (consM (vr 0) (consM (tuM (lift1 rg1D (lift2 ixD (vr 0) (cst (.int 1))))) nilM))))
def F_low_of : DF := runD 1 0 B_low_of
abbrev S_below_of : Stmt := top 4
def B_below_of : M Fl := (sq (asgM (gtup (glen 3 (gcons (gv 1) (gcons (gv 2) (gcons (gv 3) gnil))))) [] (vr 0)) (retM [] (useM tupGo .tuple (genM [5] (lift1 range1D (vr 2)) (genGo (gv 5) yesM (lastG (useM tupGo .tuple (genM [4] (lift1 range1D (vr 2)) (genGo (gv 4) (lift2 (both inD) (vr 5) (lift2 ixD (vr 3) (vr 4))) (lastG (vr 4)))))))))))
def F_below_of : DF := runD 1 5 B_below_of
abbrev S_turned_over : Stmt := top 7
def B_turned_over : M Fl := (retM [] (tupM (consM (lift2 ixD (vr 0) (cst (.int 0))) (consM (lift2 ixD (vr 0) (cst (.int 1))) (consM (callD F_below_of (consM (vr 0) nilM)) nilM)))))
def F_turned_over : DF := runD 1 0 B_turned_over
abbrev S_greatest_of : Stmt := top 9
def B_greatest_of : M Fl := (retM [] (callD F_least_of (consM (callD F_turned_over (consM (vr 0) nilM)) (consM (vr 1) nilM))))
def F_greatest_of : DF := runD 2 0 B_greatest_of
abbrev S_high_of : Stmt := top 12
def B_high_of : M Fl := (retM [] (callD F_greatest_of (consM (vr 0) (consM (tuM (lift1 rg1D (lift2 ixD (vr 0) (cst (.int 1))))) nilM))))
def F_high_of : DF := runD 1 0 B_high_of
abbrev S_shared : Stmt := top 2
def B_shared : M Fl := (retM [] (useM tupGo .tuple (genM [2] (seqV 0) (genGo (gv 2) (lift2 (both inD) (vr 2) (vr 1)) (lastG (vr 2))))))
def F_shared : DF := runD 2 1 B_shared
abbrev S_join_of : Stmt := top 6
def B_join_of : M Fl := (retM [] (callD F_least_of (consM (vr 0) (consM (callD F_shared (consM (lift2 ixD (lift2 ixD (vr 0) (cst (.int 2))) (vr 1)) (consM (lift2 ixD (lift2 ixD (vr 0) (cst (.int 2))) (vr 2)) nilM))) nilM))))
def F_join_of : DF := runD 3 0 B_join_of
abbrev S_meet_of : Stmt := top 8
def B_meet_of : M Fl := (retM [] (callD F_join_of (consM (callD F_turned_over (consM (vr 0) nilM)) (consM (vr 1) (consM (vr 2) nilM)))))
def F_meet_of : DF := runD 3 0 B_meet_of
abbrev S_complements : Stmt := top 13
def B_complements : M Fl := (sq (asgM (gtup (glen 2 (gcons (gv 2) (gcons (gv 3) gnil)))) [] (tupM (consM (callD F_low_of (consM (vr 0) nilM)) (consM (callD F_high_of (consM (vr 0) nilM)) nilM)))) (retM [] (useM tupGo .tuple (genM [4] (lift1 range1D (lift2 ixD (vr 0) (cst (.int 1)))) (genGo (gv 4) (andM (lift2 (both eqD) (callD F_meet_of (consM (vr 0) (consM (vr 1) (consM (vr 4) nilM)))) (vr 2)) (lift2 (both eqD) (callD F_join_of (consM (vr 0) (consM (vr 1) (consM (vr 4) nilM)))) (vr 3))) (lastG (vr 4)))))))
def F_complements : DF := runD 2 3 B_complements
abbrev S_within : Stmt := top 14
def B_within : M Fl := (sq (setM 3 [] (useM tupGo .tuple (genM [4] (lift1 range1D (lift2 ixD (vr 0) (cst (.int 1)))) (genGo (gv 4) (lift2 (both inD) (vr 2) (lift2 ixD (lift2 ixD (vr 0) (cst (.int 2))) (callD F_meet_of (consM (vr 0) (consM (vr 1) (consM (vr 4) nilM)))))) (lastG (vr 4)))))) (retM [] (callD F_greatest_of (consM (vr 0) (consM (vr 3) nilM)))))
def F_within : DF := runD 3 2 B_within
abbrev S_against : Stmt := top 16
def B_against : M Fl := (retM [] (callD F_within (consM (vr 0) (consM (vr 1) (consM (callD F_low_of (consM (vr 0) nilM)) nilM)))))
def F_against : DF := runD 2 0 B_against
abbrev S_decide_within : Stmt := top 15
def B_decide_within : M Fl := (sq (setO 1 [] (lstM nilM)) (sq (forM (lift1 range1D (lift2 ixD (vr 0) (cst (.int 1)))) (gv 2) (sq (setM 3 [] (useM tupGo .tuple (genM [4] (lift1 range1D (lift2 ixD (vr 0) (cst (.int 1)))) (genGo (gv 4) yesM (lastG (callD F_within (consM (vr 0) (consM (vr 2) (consM (vr 4) nilM))))))))) (sq (iteM (lift2 (both inD) (cst .none) (vr 3)) (retM [] (tupM (consM (cst (.str "none")) (consM (vr 2) (consM (lift2 indexB (vr 3) (cst .none)) nilM))))) nxM) (appM 1 [] (vr 3))))) (retM [] (tupM (consM (cst (.str "all")) (consM (tuM (seqV 1)) nilM))))))
def F_decide_within : DF := runD 1 4 B_decide_within
abbrev S_law_is_distributive : Stmt := top 47
def B_law_is_distributive : M Fl := (sq (setM 1 [] (callD F_law_joins (consM (vr 0) nilM))) (sq (setM 2 [] (callD F_law_meets (consM (vr 0) nilM))) (sq (forM (lift1 range1D (lift2 ixD (vr 0) (cst (.int 1)))) (gv 3) (forM (lift1 range1D (lift2 ixD (vr 0) (cst (.int 1)))) (gv 4) (forM (lift1 range1D (lift2 ixD (vr 0) (cst (.int 1)))) (gv 5) (iteM (lift2 (both neD) (lift2 ixD (lift2 ixD (vr 2) (vr 3)) (lift2 ixD (lift2 ixD (vr 1) (vr 4)) (vr 5))) (lift2 ixD (lift2 ixD (vr 1) (lift2 ixD (lift2 ixD (vr 2) (vr 3)) (vr 4))) (lift2 ixD (lift2 ixD (vr 2) (vr 3)) (vr 5)))) (retM [] (cst (.bool false))) nxM)))) (retM [] (cst (.bool true))))))
def F_law_is_distributive : DF := runD 1 5 B_law_is_distributive
abbrev S_law_pairs : Stmt := top 49
def B_law_pairs : M Fl := (sq (setM 1 [] (liD (lstM nilM))) (sq (forM (lift1 range1D (lift2 ixD (vr 0) (cst (.int 1)))) (gv 2) (setM 1 [] (lift2 addD (vr 1) (liD (lcM [3] (lift1 seqOf (lift2 ixD (lift2 ixD (vr 0) (cst (.int 2))) (vr 2))) (gv 3) (lift2 (both neD) (vr 3) (vr 2)) (tupM (consM (vr 2) (consM (vr 3) nilM)))))))) (retM [] (vr 1))))
def F_law_pairs : DF := runD 1 3 B_law_pairs
abbrev S_law_steps : Stmt := top 48
def B_law_steps : M Fl := (sq (setM 1 [] (callD F_law_pairs (consM (vr 0) nilM))) (sq (setO 2 [] (lstM nilM)) (sq (forM (seqV 1) (gtup (glen 2 (gcons (gv 3) (gcons (gv 4) gnil)))) (iteM (lift2 (both eqD) (lenM (lcM [5] (lift1 range1D (lift2 ixD (vr 0) (cst (.int 1)))) (gv 5) (andM (lift2 (both inD) (tupM (consM (vr 3) (consM (vr 5) nilM))) (vr 1)) (lift2 (both inD) (tupM (consM (vr 5) (consM (vr 4) nilM))) (vr 1))) (vr 5))) (cst (.int 0))) (appM 2 [] (tupM (consM (vr 3) (consM (vr 4) nilM)))) nxM)) (retM [2] (vo 2)))))
def F_law_steps : DF := runD 1 5 B_law_steps
abbrev S_atoms : Stmt := top 17
def B_atoms : M Fl := (sq (setM 1 [] (callD F_low_of (consM (vr 0) nilM))) (retM [] (useM tupGo .tuple (genM [2] (lift1 range1D (lift2 ixD (vr 0) (cst (.int 1)))) (genGo (gv 2) (andM (lift2 (both neD) (vr 2) (vr 1)) (notM (lift1 isB (useM anyGo .bool (genM [3] (lift1 seqOf (lift2 ixD (lift2 ixD (vr 0) (cst (.int 2))) (vr 1))) (genGo (gv 3) yesM (lastG (blM (andM (lift2 (both ninD) (vr 3) (tupM (consM (vr 1) (consM (vr 2) nilM)))) (lift2 (both inD) (vr 2) (lift2 ixD (lift2 ixD (vr 0) (cst (.int 2))) (vr 3)))))))))))) (lastG (vr 2)))))))
def F_atoms : DF := runD 1 3 B_atoms
abbrev S_join_all : Stmt := top 18
def B_join_all : M Fl := (sq (setM 2 [] (callD F_low_of (consM (vr 0) nilM))) (sq (forM (seqV 1) (gv 3) (setM 2 [] (callD F_join_of (consM (vr 0) (consM (vr 2) (consM (vr 3) nilM)))))) (retM [] (vr 2))))
def F_join_all : DF := runD 2 2 B_join_all
abbrev S_atoms_below : Stmt := top 19
def B_atoms_below : M Fl := (retM [] (useM tupGo .tuple (genM [2] (lift1 seqOf (callD F_atoms (consM (vr 0) nilM))) (genGo (gv 2) (lift2 (both inD) (vr 1) (lift2 ixD (lift2 ixD (vr 0) (cst (.int 2))) (vr 2))) (lastG (vr 2))))))
def F_atoms_below : DF := runD 2 1 B_atoms_below
abbrev S_is_of_sets : Stmt := top 20
def B_is_of_sets : M Fl := (sq (setM 1 [] (cst (.int 1))) (sq (forM (lift1 seqOf (callD F_atoms (consM (vr 0) nilM))) (gv 2) (augM 1 mulD (cst (.int 2)))) (retM [] (blM (andM (lift2 (both eqD) (vr 1) (lift2 ixD (vr 0) (cst (.int 1)))) (lift1 isB (useM allGo .bool (genM [3] (lift1 range1D (lift2 ixD (vr 0) (cst (.int 1)))) (genGo (gv 3) yesM (lastG (lift2 eqD (callD F_join_all (consM (vr 0) (consM (callD F_atoms_below (consM (vr 0) (consM (vr 3) nilM))) nilM))) (vr 3))))))))))))
def F_is_of_sets : DF := runD 1 3 B_is_of_sets
abbrev S_law_all_lots : Stmt := top 50
def B_law_all_lots : M Fl := (sq (setM 1 [] (liD (lstM (consM (tupM nilM) nilM)))) (sq (forM (lift1 range1D (vr 0)) (gv 2) (setM 1 [] (lift2 addD (vr 1) (liD (lcM [3] (seqV 1) (gv 3) yesM (lift2 addD (vr 3) (tupM (consM (vr 2) nilM)))))))) (retM [] (vr 1))))
def F_law_all_lots : DF := runD 1 3 B_law_all_lots
abbrev S_law : Stmt := top 51
def L_0 : M Fl := (setO 1 [] (liftL F_law_box (consM (vr 0) (consM (cst (.int 0)) (consM (cst (.int 62)) nilM)))))
def L_1 : M Fl := (setM 2 [] (callL F_law_lattice 1 (consM (cst (.int 4)) (consM (cst (.int 3)) nilM))))
def L_2 : M Fl := (iteM (lift2 (both eqD) (callL F_law_draw 1 (consM (cst (.int 4)) nilM)) (cst (.int 0))) (setM 2 [] (callD F_cubes (consM (callL F_law_draw 1 (consM (cst (.int 3)) nilM)) nilM))) nxM)
def L_3 : M Fl := (iteM (lift2 (both gtD) (lift2 ixD (vr 2) (cst (.int 1))) (cst (.int 6))) (setM 2 [] (tupM (consM (cst (.str "lattice")) (consM (cst (.int 5)) (consM (tupM (consM (tupM (consM (cst (.int 0)) (consM (cst (.int 1)) (consM (cst (.int 2)) (consM (cst (.int 3)) (consM (cst (.int 4)) nilM)))))) (consM (tupM (consM (cst (.int 1)) (consM (cst (.int 4)) nilM))) (consM (tupM (consM (cst (.int 2)) (consM (cst (.int 4)) nilM))) (consM (tupM (consM (cst (.int 3)) (consM (cst (.int 4)) nilM))) (consM (tupM (consM (cst (.int 4)) nilM)) nilM)))))) nilM))))) nxM)
def L_4 : M Fl := (setM 3 [] (callD F_law_low (consM (vr 2) nilM)))
def L_5 : M Fl := (setM 4 [] (callD F_law_high (consM (vr 2) nilM)))
def L_6 : M Fl := (setM 5 [] (callD F_law_joins (consM (vr 2) nilM)))
def L_7 : M Fl := (setM 6 [] (callD F_law_meets (consM (vr 2) nilM)))
def L_8 : M Fl := (setM 7 [] (lift2 ixD (vr 2) (cst (.int 1))))
def L_9 : M Fl := (setO 8 [] (lstM nilM))
def L_10 : M Fl := (forM (lift1 range1D (vr 7)) (gv 9) (sq (setM 10 [] (tuM (lcM [12] (lift1 range1D (vr 7)) (gv 12) (andM (lift2 (both eqD) (lift2 ixD (lift2 ixD (vr 5) (vr 9)) (vr 12)) (vr 4)) (lift2 (both eqD) (lift2 ixD (lift2 ixD (vr 6) (vr 9)) (vr 12)) (vr 3))) (vr 12)))) (sq (iteM (notM (lift1 isB (callD (F_law_same fu_law_same) (consM (callD F_complements (consM (vr 2) (consM (vr 9) nilM))) (consM (vr 10) nilM))))) (retM [] (cst (.bool false))) nxM) (sq (setO 11 [] (lstM nilM)) (sq (forM (lift1 range1D (vr 7)) (gv 12) (sq (setM 13 [] (liD (lcM [22] (lift1 range1D (vr 7)) (gv 22) (lift2 (both inD) (vr 12) (lift2 ixD (lift2 ixD (vr 2) (cst (.int 2))) (lift2 ixD (lift2 ixD (vr 6) (vr 9)) (vr 22)))) (vr 22)))) (sq (setM 14 [] (liD (lcM [22] (seqV 13) (gv 22) (lift2 (both eqD) (lenM (lcM [23] (seqV 13) (gv 23) (lift2 (both ninD) (vr 22) (lift2 ixD (lift2 ixD (vr 2) (cst (.int 2))) (vr 23))) (vr 23))) (cst (.int 0))) (vr 22)))) (appM 11 [] (lift2 ixD (lift2 addD (vr 14) (liD (lstM (consM (cst .none) nilM)))) (cst (.int 0))))))) (sq (appM 8 [] (tuM (seqV 11))) (iteM (orM (notM (lift1 isB (callD (F_law_same fu_law_same) (consM (callD F_within (consM (vr 2) (consM (vr 9) (consM (vr 3) nilM)))) (consM (lift2 ixD (vo 11) (vr 3)) nilM))))) (notM (lift1 isB (callD (F_law_same fu_law_same) (consM (callD F_against (consM (vr 2) (consM (vr 9) nilM))) (consM (lift2 ixD (vo 11) (vr 3)) nilM)))))) (retM [] (cst (.bool false))) nxM)))))))
def L_11 : M Fl := (setM 12 [] (callL F_law_draw 1 (consM (vr 7) nilM)))
def L_12 : M Fl := (iteM (notM (lift1 isB (callD (F_law_same fu_law_same) (consM (callD F_within (consM (vr 2) (consM (cst (.int 0)) (consM (vr 12) nilM)))) (consM (lift2 ixD (lift2 ixD (vo 8) (cst (.int 0))) (vr 12)) nilM))))) (retM [] (cst (.bool false))) nxM)
def L_13 : M Fl := (setM 15 [] (liD (lcM [9] (lift1 range1D (vr 7)) (gv 9) (lift2 (both inD) (cst .none) (lift2 ixD (vo 8) (vr 9))) (tupM (consM (cst (.str "none")) (consM (vr 9) (consM (lift2 indexB (lift2 ixD (vo 8) (vr 9)) (cst .none)) nilM)))))))
def L_14 : M Fl := (iteM (andM (lift2 (both gtD) (liftL lenD (consM (vr 15) nilM)) (cst (.int 0))) (notM (lift1 isB (callD (F_law_same fu_law_same) (consM (callD F_decide_within (consM (vr 2) nilM)) (consM (lift2 ixD (vr 15) (cst (.int 0))) nilM)))))) (retM [] (cst (.bool false))) nxM)
def L_15 : M Fl := (iteM (andM (lift2 (both eqD) (liftL lenD (consM (vr 15) nilM)) (cst (.int 0))) (notM (lift1 isB (callD (F_law_same fu_law_same) (consM (callD F_decide_within (consM (vr 2) nilM)) (consM (tupM (consM (cst (.str "all")) (consM (tuM (seqV 8)) nilM))) nilM)))))) (retM [] (cst (.bool false))) nxM)
def L_16 : M Fl := (iteM (lift2 (both neD) (lift2 eqD (liftL lenD (consM (vr 15) nilM)) (cst (.int 0))) (callD F_law_is_distributive (consM (vr 2) nilM))) (retM [] (cst (.bool false))) nxM)
def L_17 : M Fl := (setM 16 [] (callD F_law_steps (consM (vr 2) nilM)))
def L_18 : M Fl := (setM 17 [] (tuM (lcM [9] (lift1 range1D (vr 7)) (gv 9) (lift2 (both inD) (tupM (consM (vr 3) (consM (vr 9) nilM))) (vr 16)) (vr 9))))
def L_19 : M Fl := (iteM (notM (lift1 isB (callD (F_law_same fu_law_same) (consM (callD F_atoms (consM (vr 2) nilM)) (consM (vr 17) nilM))))) (retM [] (cst (.bool false))) nxM)
def L_20 : M Fl := (setM 18 [] (blM (andM (lift2 (both eqD) (liftL lenD (consM (vr 15) nilM)) (cst (.int 0))) (lift2 (both eqD) (lenM (lcM [9] (lift1 range1D (vr 7)) (gv 9) (lift2 (both eqD) (lenM (lcM [22] (lift1 range1D (vr 7)) (gv 22) (andM (lift2 (both eqD) (lift2 ixD (lift2 ixD (vr 5) (vr 9)) (vr 22)) (vr 4)) (lift2 (both eqD) (lift2 ixD (lift2 ixD (vr 6) (vr 9)) (vr 22)) (vr 3))) (vr 22))) (cst (.int 0))) (vr 9))) (cst (.int 0))))))
def L_21 : M Fl := (iteM (notM (lift1 isB (callD (F_law_same fu_law_same) (consM (callD F_is_of_sets (consM (vr 2) nilM)) (consM (vr 18) nilM))))) (retM [] (cst (.bool false))) nxM)
def L_22 : M Fl := (setM 19 [] (callL F_law_draw 1 (consM (cst (.int 4)) nilM)))
def L_23 : M Fl := (setM 20 [] (callD F_cubes (consM (vr 19) nilM)))
def L_24 : M Fl := (setM 21 [] (callD F_law_all_lots (consM (vr 19) nilM)))
def L_25 : M Fl := (iteM (lift2 (both neD) (lift2 ixD (vr 20) (cst (.int 1))) (liftL lenD (consM (vr 21) nilM))) (retM [] (cst (.bool false))) nxM)
def L_26 : M Fl := (forM (lift1 range1D (lift2 ixD (vr 20) (cst (.int 1)))) (gv 9) (iteM (lift2 (both neD) (lift2 ixD (lift2 ixD (vr 20) (cst (.int 2))) (vr 9)) (tuM (lcM [22] (lift1 range1D (lift2 ixD (vr 20) (cst (.int 1)))) (gv 22) (lift1 isB (callD F_law_inside (consM (lift2 ixD (vr 21) (vr 9)) (consM (lift2 ixD (vr 21) (vr 22)) nilM)))) (vr 22)))) (retM [] (cst (.bool false))) nxM))
def L_27 : M Fl := (retM [] (lift2 isD (callD F_is_of_sets (consM (vr 20) nilM)) (cst (.bool true))))
def B_law : M Fl := (sq L_0 (sq L_1 (sq L_2 (sq L_3 (sq L_4 (sq L_5 (sq L_6 (sq L_7 (sq L_8 (sq L_9 (sq L_10 (sq L_11 (sq L_12 (sq L_13 (sq L_14 (sq L_15 (sq L_16 (sq L_17 (sq L_18 (sq L_19 (sq L_20 (sq L_21 (sq L_22 (sq L_23 (sq L_24 (sq L_25 (sq L_26 L_27)))))))))))))))))))))))))))
def F_law : DF := runD 1 23 B_law
structure MG (mg : Str → Option Value) : Prop where
  b_all : mg "all" = none
  b_any : mg "any" = none
  b_bool : mg "bool" = none
  b_int : mg "int" = none
  b_isinstance : mg "isinstance" = none
  b_len : mg "len" = none
  b_list : mg "list" = none
  b_range : mg "range" = none
  b_sorted : mg "sorted" = none
  b_str : mg "str" = none
  b_tuple : mg "tuple" = none
theorem ok_law_cell {P : Program} {w : World} {K : PySem.W.Frag} {mg : Str → Option Value} {base : Heap} {cs : List Addr} (mgf : MG mg) (D : DefAt K mg base cs "_law_cell" S_law_cell)  : FD P w K mg base 1 "_law_cell" (spD K (tabsT cs 3) F_law_cell) :=
  fd_d (k := 0) (N := ["script", "k"]) (ps := ["script", "k"]) (nn := 0) D (by decide +kernel) rfl (fun _ _ _ _ _ _ us hl => match us, hl with | [_, _], _ => rfl) (fun _ => rfl) (fun f cc Pt A outer s H E hr ct => by
    have nd : (["script", "k"] : List Str).Nodup := by decide
    have hT : ∀ H, TH (tabsT cs 3) H → TH (tabsT cs 3) H := fun _ h => h
    exact (ss_cons (ss_if (st_cmp od_lt (se_v ⟨rfl, .inl rfl, rfl, rfl⟩) (se_callB cd_len (by rfl) (by exact mgf.b_len) (by rfl) (sa_cons (se_v ⟨rfl, .inl rfl, rfl, rfl⟩) sa_nil (dj_by rfl))) (dj_by rfl) rfl) (ss_one (ss_ret (SE.q (se_ix (se_v ⟨rfl, .inl rfl, rfl, rfl⟩) (se_v ⟨rfl, .inl rfl, rfl, rfl⟩) (dj_by rfl))))) ss_nil) (ss_one (ss_ret se_int))))
theorem ok_law_digits {P : Program} {w : World} {K : PySem.W.Frag} {mg : Str → Option Value} {base : Heap} {cs : List Addr} (mgf : MG mg) (D : DefAt K mg base cs "_law_digits" S_law_digits) (ok_law_cell : FD P w K mg base 1 "_law_cell" (spD K (tabsT cs 3) F_law_cell)) : FD P w K mg base 2 "_law_digits" (spD K (tabsT cs 3) F_law_digits) :=
  fd_d (k := 1) (N := ["script", "first", "last", "digits", "k", "cell", "turn", "seed"]) (ps := ["script", "first", "last"]) (nn := 5) D (by decide +kernel) rfl (fun _ _ _ _ _ _ us hl => match us, hl with | [_, _, _], _ => rfl) (fun _ => rfl) (fun f cc Pt A outer s H E hr ct => by
    have nd : (["script", "first", "last", "digits", "k", "cell", "turn", "seed"] : List Str).Nodup := by decide
    have hT : ∀ H, TH (tabsT cs 3) H → TH (tabsT cs 3) H := fun _ h => h
    exact (ss_cons (ss_setO nd rfl (.inl rfl) (SF.q (sf_lst sa_nil)) rfl (.inr rfl)) (ss_cons (ss_for (fun _ _ z => z.elim) rfl (si_range2 (by rfl) (by exact mgf.b_range) (se_v ⟨rfl, .inl rfl, rfl, rfl⟩) (se_v ⟨rfl, .inl rfl, rfl, rfl⟩) (dj_by rfl)) (sg_name nd rfl (.inl rfl) (.inr rfl)) (ss_cons (ss_set nd rfl (.inl rfl) (SE.q (se_call ok_law_cell hT (L2.Room.mono hr (by first | omega | decide)) (by rfl) (sa_cons (se_v ⟨rfl, .inl rfl, rfl, rfl⟩) (sa_cons (se_v ⟨rfl, .inl rfl, rfl, rfl⟩) sa_nil (dj_by rfl)) (dj_by rfl)))) rfl (.inr rfl)) (ss_cons (ss_if (st_cmp od_lt (se_v ⟨rfl, .inl rfl, rfl, rfl⟩) se_int (dj_by rfl) rfl) (ss_one (ss_set nd rfl (.inl rfl) (SE.q (se_bin od_sub se_int (se_bin od_mul se_int (se_v ⟨rfl, .inl rfl, rfl, rfl⟩) (dj_by rfl)) (dj_by rfl))) rfl (.inr rfl))) ss_nil) (ss_one (ss_if (st_cmp od_ge (se_v ⟨rfl, .inl rfl, rfl, rfl⟩) (se_bin od_pow se_int se_int (dj_by rfl)) (dj_by rfl) rfl) (ss_one (ss_for (fun _ _ z => z.elim) rfl (si_range1 (by rfl) (by exact mgf.b_range) se_int) (sg_name nd rfl (.inl rfl) (.inr rfl)) (ss_one (ss_if (st_cmp od_gt (se_v ⟨rfl, .inl rfl, rfl, rfl⟩) se_int (dj_by rfl) rfl) (ss_cons (ss_app ⟨rfl, .inl rfl, rfl, rfl⟩ (SE.q (se_bin od_mod (se_callTy cd_int (by rfl) (by exact mgf.b_int) (by rfl) (sa_cons (se_v ⟨rfl, .inl rfl, rfl, rfl⟩) sa_nil (dj_by rfl))) se_int (dj_by rfl)))) (ss_one (ss_set nd rfl (.inl rfl) (SE.q (se_bin od_fdiv (se_v ⟨rfl, .inl rfl, rfl, rfl⟩) se_int (dj_by rfl))) rfl (.inr rfl)))) ss_nil)) (dj_by rfl))) (ss_cons (ss_set nd rfl (.inl rfl) (SE.q (se_bin od_mod (se_callTy cd_int (by rfl) (by exact mgf.b_int) (by rfl) (sa_cons (se_bin od_add (se_bin od_add (se_bin od_mul (se_v ⟨rfl, .inl rfl, rfl, rfl⟩) se_int (dj_by rfl)) (se_bin od_mul (se_v ⟨rfl, .inl rfl, rfl, rfl⟩) se_int (dj_by rfl)) (dj_by rfl)) se_int (dj_by rfl)) sa_nil (dj_by rfl))) se_int (dj_by rfl))) rfl (.inr rfl)) (ss_one (ss_for (fun _ _ z => z.elim) rfl (si_range1 (by rfl) (by exact mgf.b_range) se_int) (sg_name nd rfl (.inl rfl) (.inr rfl)) (ss_cons (ss_set nd rfl (.inl rfl) (SE.q (se_bin od_mod (se_callTy cd_int (by rfl) (by exact mgf.b_int) (by rfl) (sa_cons (se_bin od_add (se_bin od_add (se_bin od_mul (se_v ⟨rfl, .inl rfl, rfl, rfl⟩) se_int (dj_by rfl)) (se_bin od_mul se_int (se_v ⟨rfl, .inl rfl, rfl, rfl⟩) (dj_by rfl)) (dj_by rfl)) se_int (dj_by rfl)) sa_nil (dj_by rfl))) se_int (dj_by rfl))) rfl (.inr rfl)) (ss_one (ss_app ⟨rfl, .inl rfl, rfl, rfl⟩ (SE.q (se_bin od_mod (se_callTy cd_int (by rfl) (by exact mgf.b_int) (by rfl) (sa_cons (se_bin od_fdiv (se_v ⟨rfl, .inl rfl, rfl, rfl⟩) se_int (dj_by rfl)) sa_nil (dj_by rfl))) se_int (dj_by rfl)))))) (dj_by rfl)))))))) (dj_by rfl)) (ss_one (ss_ret (se_o ⟨rfl, .inl rfl, rfl, rfl⟩))))))
theorem ok_law_box {P : Program} {w : World} {K : PySem.W.Frag} {mg : Str → Option Value} {base : Heap} {cs : List Addr} (mgf : MG mg) (D : DefAt K mg base cs "_law_box" S_law_box) (ok_law_digits : FD P w K mg base 2 "_law_digits" (spD K (tabsT cs 3) F_law_digits)) : FD P w K mg base 3 "_law_box" (spN K (tabsT cs 3) F_law_box) :=
  fd_n (k := 2) (N := ["script", "first", "last"]) (ps := ["script", "first", "last"]) (nn := 0) D (by decide +kernel) rfl (fun _ _ _ _ _ _ us hl => match us, hl with | [_, _, _], _ => rfl) rfl (fun _ => rfl) (fun f cc Pt A outer s H E hr ct => by
    have nd : (["script", "first", "last"] : List Str).Nodup := by decide
    have hT : ∀ H, TH (tabsT cs 3) H → TH (tabsT cs 3) H := fun _ h => h
    exact (sf_lst (sa_cons (se_call ok_law_digits hT (L2.Room.mono hr (by first | omega | decide)) (by rfl) (sa_cons (se_v ⟨rfl, .inl rfl, rfl, rfl⟩) (sa_cons (se_v ⟨rfl, .inl rfl, rfl, rfl⟩) (sa_cons (se_v ⟨rfl, .inl rfl, rfl, rfl⟩) sa_nil (dj_by rfl)) (dj_by rfl)) (dj_by rfl))) (sa_cons se_int sa_nil (dj_by rfl)) (dj_by rfl))))
theorem ok_law_lectic {P : Program} {w : World} {K : PySem.W.Frag} {mg : Str → Option Value} {base : Heap} {cs : List Addr} (mgf : MG mg) (D : DefAt K mg base cs "_law_lectic" S_law_lectic)  : FD P w K mg base 1 "_law_lectic" (spD K (tabsT cs 3) F_law_lectic) :=
  fd_d (k := 0) (N := ["many", "sets", "rows", "row", "m", "pair"]) (ps := ["many", "sets"]) (nn := 4) D (by decide +kernel) rfl (fun _ _ _ _ _ _ us hl => match us, hl with | [_, _], _ => rfl) (fun _ => rfl) (fun f cc Pt A outer s H E hr ct => by
    have nd : (["many", "sets", "rows", "row", "m", "pair"] : List Str).Nodup := by decide
    have hT : ∀ H, TH (tabsT cs 3) H → TH (tabsT cs 3) H := fun _ h => h
    exact (ss_cons (ss_setO nd rfl (.inl rfl) (SF.q (sf_lst sa_nil)) rfl (.inr rfl)) (ss_cons (ss_for (fun _ _ z => z.elim) rfl (si_con (sc_own ⟨rfl, .inl rfl, rfl, rfl⟩)) (sg_name nd rfl (.inr rfl) (.inl rfl)) (ss_one (ss_app ⟨rfl, .inl rfl, rfl, rfl⟩ (SE.q (se_tup (sa_cons (se_tuple (sc_new (sf_lc (own := [("m", 4)]) (as1 := [4]) rfl nd  (si_range1 (by rfl) (by exact mgf.b_range) (se_v ⟨rfl, .inl rfl, rfl, rfl⟩)) (blkOk_by (by kernel_rfl)) (mem_by rfl) (fun _ _ _ _ _ => (sg_name nd rfl (.inl rfl) (.inr rfl))) (fun _ _ _ _ _ => sts_nil) (fun _ _ _ _ _ => (se_callTy cd_int (by rfl) (by exact mgf.b_int) (by rfl) (SA.q (rs := []) (ch := []) (sa_cons (se_cmp (od_in (Room.u65 hr)) (se_v ⟨rfl, .inl rfl, rfl, rfl⟩) (se_v ⟨rfl, .inr (.inl rfl), rfl, rfl⟩) (dj_by rfl) rfl) sa_nil (dj_by rfl))))) (dj_by rfl) (dj_by rfl))) (by rfl) (by exact mgf.b_tuple) (by rfl)) (sa_cons (se_v ⟨rfl, .inr (.inl rfl), rfl, rfl⟩) sa_nil (dj_by rfl)) (dj_by rfl)))))) (dj_by rfl)) (ss_one (ss_ret (SE.q (SF.se (sf_lc (own := [("pair", 5)]) (as1 := [5]) rfl nd  (si_con (sc_new (sf_sorted hr (sc_own ⟨rfl, .inl rfl, rfl, rfl⟩) (by rfl) (by exact mgf.b_sorted) (by rfl)))) (blkOk_by (by kernel_rfl)) (mem_by rfl) (fun _ _ _ _ _ => (sg_name nd rfl (.inl rfl) (.inr rfl))) (fun _ _ _ _ _ => sts_nil) (fun _ _ _ _ _ => (se_ix (se_v ⟨rfl, .inl rfl, rfl, rfl⟩) se_int (dj_by rfl))) (dj_by rfl) (dj_by rfl)))))))))
theorem ok_law_subsets {P : Program} {w : World} {K : PySem.W.Frag} {mg : Str → Option Value} {base : Heap} {cs : List Addr} (mgf : MG mg) (D : DefAt K mg base cs "_law_subsets" S_law_subsets) (ok_law_lectic : FD P w K mg base 1 "_law_lectic" (spD K (tabsT cs 3) F_law_lectic)) : FD P w K mg base 2 "_law_subsets" (spD K (tabsT cs 3) F_law_subsets) :=
  fd_d (k := 1) (N := ["many", "rows", "k", "row"]) (ps := ["many"]) (nn := 3) D (by decide +kernel) rfl (fun _ _ _ _ _ _ us hl => match us, hl with | [_], _ => rfl) (fun _ => rfl) (fun f cc Pt A outer s H E hr ct => by
    have nd : (["many", "rows", "k", "row"] : List Str).Nodup := by decide
    have hT : ∀ H, TH (tabsT cs 3) H → TH (tabsT cs 3) H := fun _ h => h
    exact (ss_cons (ss_set nd rfl (.inl rfl) (SE.q (SF.se (sf_lst (sa_cons (se_tup sa_nil) sa_nil (dj_by rfl))))) rfl (.inr rfl)) (ss_cons (ss_for (fun _ _ z => z.elim) rfl (si_range1 (by rfl) (by exact mgf.b_range) (se_v ⟨rfl, .inl rfl, rfl, rfl⟩)) (sg_name nd rfl (.inr rfl) (.inl rfl)) (ss_one (ss_set nd rfl (.inl rfl) (SE.q (se_bin od_add (se_v ⟨rfl, .inl rfl, rfl, rfl⟩) (SF.se (sf_lc (own := [("row", 3)]) (as1 := [3]) rfl nd  (si_con (sc_own ⟨rfl, .inl rfl, rfl, rfl⟩)) (blkOk_by (by kernel_rfl)) (mem_by rfl) (fun _ _ _ _ _ => (sg_name nd rfl (.inl rfl) (.inr rfl))) (fun _ _ _ _ _ => sts_nil) (fun _ _ _ _ _ => (se_bin od_add (se_v ⟨rfl, .inl rfl, rfl, rfl⟩) (se_tup (sa_cons (se_v ⟨rfl, .inr (.inl rfl), rfl, rfl⟩) sa_nil (dj_by rfl))) (dj_by rfl))) (dj_by rfl) (dj_by rfl))) (dj_by rfl))) rfl (.inr rfl))) (dj_by rfl)) (ss_one (ss_ret (SE.q (se_call ok_law_lectic hT (L2.Room.mono hr (by first | omega | decide)) (by rfl) (sa_cons (se_v ⟨rfl, .inl rfl, rfl, rfl⟩) (sa_cons (se_v ⟨rfl, .inl rfl, rfl, rfl⟩) sa_nil (dj_by rfl)) (dj_by rfl)))))))))
theorem ok_law_common {P : Program} {w : World} {K : PySem.W.Frag} {mg : Str → Option Value} {base : Heap} {cs : List Addr} (mgf : MG mg) (D : DefAt K mg base cs "_law_common" S_law_common)  : FD P w K mg base 1 "_law_common" (spD K (tabsT cs 3) F_law_common) :=
  fd_d (k := 0) (N := ["table", "things", "m", "g"]) (ps := ["table", "things"]) (nn := 2) D (by decide +kernel) rfl (fun _ _ _ _ _ _ us hl => match us, hl with | [_, _], _ => rfl) (fun _ => rfl) (fun f cc Pt A outer s H E hr ct => by
    have nd : (["table", "things", "m", "g"] : List Str).Nodup := by decide
    have hT : ∀ H, TH (tabsT cs 3) H → TH (tabsT cs 3) H := fun _ h => h
    exact (ss_one (ss_ret (SE.q (se_tuple (sc_new (sf_lc (own := [("m", 2)]) (as1 := [2]) rfl nd  (si_range1 (by rfl) (by exact mgf.b_range) (se_ix (se_v ⟨rfl, .inr (.inl rfl), rfl, rfl⟩) se_int (dj_by rfl))) (blkOk_by (by kernel_rfl)) (mem_by rfl) (fun _ _ _ _ _ => (sg_name nd rfl (.inr rfl) (.inl rfl))) (fun _ _ _ _ _ => (sts_one (st_cmp (od_eq (Room.u65 hr)) (se_len (sc_new (sf_lc (own := [("g", 3)]) (as1 := [3]) rfl nd  (si_con (sc_own ⟨rfl, .inr (.inl rfl), rfl, rfl⟩)) (blkOk_by (by kernel_rfl)) (mem_by rfl) (fun _ _ _ _ _ => (sg_name nd rfl (.inl rfl) (.inr rfl))) (fun _ _ _ _ _ => (sts_one (st_cmp (od_nin (Room.u65 hr)) (se_v ⟨rfl, .inr (.inl rfl), rfl, rfl⟩) (se_ix (se_ix (se_v ⟨rfl, .inr (.inl rfl), rfl, rfl⟩) se_int (dj_by rfl)) (se_v ⟨rfl, .inl rfl, rfl, rfl⟩) (dj_by rfl)) (dj_by rfl) rfl))) (fun _ _ _ _ _ => (se_v ⟨rfl, .inl rfl, rfl, rfl⟩)) (dj_by rfl) (dj_by rfl))) (by rfl) (by exact mgf.b_len) (by rfl)) se_int (dj_by rfl) rfl))) (fun _ _ _ _ _ => (se_v ⟨rfl, .inr (.inl rfl), rfl, rfl⟩)) (dj_by rfl) (dj_by rfl))) (by rfl) (by exact mgf.b_tuple) (by rfl))))))
theorem ok_law_inside {P : Program} {w : World} {K : PySem.W.Frag} {mg : Str → Option Value} {base : Heap} {cs : List Addr} (mgf : MG mg) (D : DefAt K mg base cs "_law_inside" S_law_inside)  : FD P w K mg base 1 "_law_inside" (spD K (tabsT cs 3) F_law_inside) :=
  fd_d (k := 0) (N := ["one", "other", "k"]) (ps := ["one", "other"]) (nn := 1) D (by decide +kernel) rfl (fun _ _ _ _ _ _ us hl => match us, hl with | [_, _], _ => rfl) (fun _ => rfl) (fun f cc Pt A outer s H E hr ct => by
    have nd : (["one", "other", "k"] : List Str).Nodup := by decide
    have hT : ∀ H, TH (tabsT cs 3) H → TH (tabsT cs 3) H := fun _ h => h
    exact (ss_one (ss_ret (SE.q (se_cmp (od_eq (Room.u65 hr)) (se_len (sc_new (sf_lc (own := [("k", 2)]) (as1 := [2]) rfl nd  (si_con (sc_own ⟨rfl, .inl rfl, rfl, rfl⟩)) (blkOk_by (by kernel_rfl)) (mem_by rfl) (fun _ _ _ _ _ => (sg_name nd rfl (.inl rfl) (.inr rfl))) (fun _ _ _ _ _ => (sts_one (st_cmp (od_nin (Room.u65 hr)) (se_v ⟨rfl, .inl rfl, rfl, rfl⟩) (se_v ⟨rfl, .inr (.inl rfl), rfl, rfl⟩) (dj_by rfl) rfl))) (fun _ _ _ _ _ => (se_v ⟨rfl, .inl rfl, rfl, rfl⟩)) (dj_by rfl) (dj_by rfl))) (by rfl) (by exact mgf.b_len) (by rfl)) se_int (dj_by rfl) rfl)))))
theorem ok_law_having {P : Program} {w : World} {K : PySem.W.Frag} {mg : Str → Option Value} {base : Heap} {cs : List Addr} (mgf : MG mg) (D : DefAt K mg base cs "_law_having" S_law_having) (ok_law_inside : FD P w K mg base 1 "_law_inside" (spD K (tabsT cs 3) F_law_inside)) : FD P w K mg base 2 "_law_having" (spD K (tabsT cs 3) F_law_having) :=
  fd_d (k := 1) (N := ["table", "marks", "g"]) (ps := ["table", "marks"]) (nn := 1) D (by decide +kernel) rfl (fun _ _ _ _ _ _ us hl => match us, hl with | [_, _], _ => rfl) (fun _ => rfl) (fun f cc Pt A outer s H E hr ct => by
    have nd : (["table", "marks", "g"] : List Str).Nodup := by decide
    have hT : ∀ H, TH (tabsT cs 3) H → TH (tabsT cs 3) H := fun _ h => h
    exact (ss_one (ss_ret (SE.q (se_tuple (sc_new (sf_lc (own := [("g", 2)]) (as1 := [2]) rfl nd  (si_range1 (by rfl) (by exact mgf.b_range) (se_callB cd_len (by rfl) (by exact mgf.b_len) (by rfl) (sa_cons (se_ix (se_v ⟨rfl, .inr (.inl rfl), rfl, rfl⟩) se_int (dj_by rfl)) sa_nil (dj_by rfl)))) (blkOk_by (by kernel_rfl)) (mem_by rfl) (fun _ _ _ _ _ => (sg_name nd rfl (.inl rfl) (.inr rfl))) (fun _ _ _ _ _ => (sts_one (st_bool (se_call ok_law_inside hT (L2.Room.mono hr (by first | omega | decide)) (by rfl) (SA.q (rs := []) (ch := []) (sa_cons (se_v ⟨rfl, .inr (.inl rfl), rfl, rfl⟩) (sa_cons (se_ix (se_ix (se_v ⟨rfl, .inr (.inl rfl), rfl, rfl⟩) se_int (dj_by rfl)) (se_v ⟨rfl, .inl rfl, rfl, rfl⟩) (dj_by rfl)) sa_nil (dj_by rfl)) (dj_by rfl))))))) (fun _ _ _ _ _ => (se_v ⟨rfl, .inl rfl, rfl, rfl⟩)) (dj_by rfl) (dj_by rfl))) (by rfl) (by exact mgf.b_tuple) (by rfl))))))
theorem ok_law_closure {P : Program} {w : World} {K : PySem.W.Frag} {mg : Str → Option Value} {base : Heap} {cs : List Addr} (mgf : MG mg) (D : DefAt K mg base cs "_law_closure" S_law_closure) (ok_law_common : FD P w K mg base 1 "_law_common" (spD K (tabsT cs 3) F_law_common)) (ok_law_having : FD P w K mg base 2 "_law_having" (spD K (tabsT cs 3) F_law_having)) : FD P w K mg base 3 "_law_closure" (spD K (tabsT cs 3) F_law_closure) :=
  fd_d (k := 2) (N := ["table", "marks"]) (ps := ["table", "marks"]) (nn := 0) D (by decide +kernel) rfl (fun _ _ _ _ _ _ us hl => match us, hl with | [_, _], _ => rfl) (fun _ => rfl) (fun f cc Pt A outer s H E hr ct => by
    have nd : (["table", "marks"] : List Str).Nodup := by decide
    have hT : ∀ H, TH (tabsT cs 3) H → TH (tabsT cs 3) H := fun _ h => h
    exact (ss_one (ss_ret (SE.q (se_call ok_law_common hT (L2.Room.mono hr (by first | omega | decide)) (by rfl) (sa_cons (se_v ⟨rfl, .inl rfl, rfl, rfl⟩) (sa_cons (se_call ok_law_having hT (L2.Room.mono hr (by first | omega | decide)) (by rfl) (sa_cons (se_v ⟨rfl, .inl rfl, rfl, rfl⟩) (sa_cons (se_v ⟨rfl, .inl rfl, rfl, rfl⟩) sa_nil (dj_by rfl)) (dj_by rfl))) sa_nil (dj_by rfl)) (dj_by rfl)))))))
theorem ok_law_closed {P : Program} {w : World} {K : PySem.W.Frag} {mg : Str → Option Value} {base : Heap} {cs : List Addr} (mgf : MG mg) (D : DefAt K mg base cs "_law_closed" S_law_closed) (ok_law_subsets : FD P w K mg base 2 "_law_subsets" (spD K (tabsT cs 3) F_law_subsets)) (ok_law_closure : FD P w K mg base 3 "_law_closure" (spD K (tabsT cs 3) F_law_closure)) : FD P w K mg base 4 "_law_closed" (spD K (tabsT cs 3) F_law_closed) :=
  fd_d (k := 3) (N := ["table", "row"]) (ps := ["table"]) (nn := 1) D (by decide +kernel) rfl (fun _ _ _ _ _ _ us hl => match us, hl with | [_], _ => rfl) (fun _ => rfl) (fun f cc Pt A outer s H E hr ct => by
    have nd : (["table", "row"] : List Str).Nodup := by decide
    have hT : ∀ H, TH (tabsT cs 3) H → TH (tabsT cs 3) H := fun _ h => h
    exact (ss_one (ss_ret (SE.q (SF.se (sf_lc (own := [("row", 1)]) (as1 := [1]) rfl nd  (si_con (sc_val (se_call ok_law_subsets hT (L2.Room.mono hr (by first | omega | decide)) (by rfl) (sa_cons (se_ix (se_v ⟨rfl, .inr (.inl rfl), rfl, rfl⟩) se_int (dj_by rfl)) sa_nil (dj_by rfl))))) (blkOk_by (by kernel_rfl)) (mem_by rfl) (fun _ _ _ _ _ => (sg_name nd rfl (.inl rfl) (.inr rfl))) (fun _ _ _ _ _ => (sts_one (st_cmp (od_eq (Room.u65 hr)) (se_call ok_law_closure hT (L2.Room.mono hr (by first | omega | decide)) (by rfl) (sa_cons (se_v ⟨rfl, .inr (.inl rfl), rfl, rfl⟩) (sa_cons (se_v ⟨rfl, .inl rfl, rfl, rfl⟩) sa_nil (dj_by rfl)) (dj_by rfl))) (se_v ⟨rfl, .inl rfl, rfl, rfl⟩) (dj_by rfl) rfl))) (fun _ _ _ _ _ => (se_v ⟨rfl, .inl rfl, rfl, rfl⟩)) (dj_by rfl) (dj_by rfl)))))))
theorem ok_law_draw {P : Program} {w : World} {K : PySem.W.Frag} {mg : Str → Option Value} {base : Heap} {cs : List Addr} (mgf : MG mg) (D : DefAt K mg base cs "_law_draw" S_law_draw)  : FD P w K mg base 1 "_law_draw" (spL K (tabsT cs 3) F_law_draw) :=
  fd_l (k := 0) (N := ["box", "many", "at"]) (ps := ["box", "many"]) (nn := 1) D (by decide +kernel) rfl (fun _ _ _ _ _ _ us hl => match us, hl with | [_, _], _ => rfl) (fun _ _ => rfl) rfl (fun f cc Pt A outer s H E hr ct => by
    have nd : (["box", "many", "at"] : List Str).Nodup := by decide
    have hT : ∀ H, TH (tabsT cs 3) H → TH (tabsT cs 3) H := fun _ h => h
    exact (ss_cons (ss_set nd rfl (.inl rfl) (SE.q (se_ix (se_o ⟨rfl, .inl rfl, rfl, rfl⟩) se_int (dj_by rfl))) rfl (.inr rfl)) (ss_cons (ss_put ⟨rfl, .inl rfl, rfl, rfl⟩ (SE.q (se_bin od_add (se_v ⟨rfl, .inl rfl, rfl, rfl⟩) se_int (dj_by rfl))) se_int) (ss_cons (ss_if (st_cmp od_lt (se_v ⟨rfl, .inl rfl, rfl, rfl⟩) (se_callB cd_len (by rfl) (by exact mgf.b_len) (by rfl) (sa_cons (se_ix (se_o ⟨rfl, .inl rfl, rfl, rfl⟩) se_int (dj_by rfl)) sa_nil (dj_by rfl))) (dj_by rfl) rfl) (ss_one (ss_ret (SE.q (se_bin od_mod (se_callTy cd_int (by rfl) (by exact mgf.b_int) (by rfl) (sa_cons (se_ix (se_ix (se_o ⟨rfl, .inl rfl, rfl, rfl⟩) se_int (dj_by rfl)) (se_v ⟨rfl, .inl rfl, rfl, rfl⟩) (dj_by rfl)) sa_nil (dj_by rfl))) (se_v ⟨rfl, .inl rfl, rfl, rfl⟩) (dj_by rfl))))) ss_nil) (ss_one (ss_ret se_int))))))
theorem ok_law_some {P : Program} {w : World} {K : PySem.W.Frag} {mg : Str → Option Value} {base : Heap} {cs : List Addr} (mgf : MG mg) (D : DefAt K mg base cs "_law_some" S_law_some) (ok_law_draw : FD P w K mg base 1 "_law_draw" (spL K (tabsT cs 3) F_law_draw)) : FD P w K mg base 2 "_law_some" (spL K (tabsT cs 3) F_law_some) :=
  fd_l (k := 1) (N := ["box", "many", "sparse", "k"]) (ps := ["box", "many", "sparse"]) (nn := 1) D (by decide +kernel) rfl (fun _ _ _ _ _ _ us hl => match us, hl with | [_, _, _], _ => rfl) (fun _ _ => rfl) rfl (fun f cc Pt A outer s H E hr ct => by
    have nd : (["box", "many", "sparse", "k"] : List Str).Nodup := by decide
    have hT : ∀ H, TH (tabsT cs 3) H → TH (tabsT cs 3) H := fun _ h => h
    exact (ss_one (ss_ret (SE.q (se_tuple (sc_new (sf_lc (own := [("k", 3)]) (as1 := [3]) rfl nd  (si_range1 (by rfl) (by exact mgf.b_range) (se_v ⟨rfl, .inl rfl, rfl, rfl⟩)) (blkOk_by (by kernel_rfl)) (mem_by rfl) (fun _ _ _ _ _ => (sg_name nd rfl (.inl rfl) (.inr rfl))) (fun _ _ _ _ _ => (sts_one (st_cmp od_lt (se_callL ok_law_draw hT (L2.Room.mono hr (by first | omega | decide)) (by rfl) ⟨rfl, .inr (.inl rfl), rfl, rfl⟩ (sa_cons se_int sa_nil (dj_by rfl))) (se_v ⟨rfl, .inr (.inl rfl), rfl, rfl⟩) (dj_by rfl) rfl))) (fun _ _ _ _ _ => (se_v ⟨rfl, .inl rfl, rfl, rfl⟩)) (dj_by rfl) (dj_by rfl))) (by rfl) (by exact mgf.b_tuple) (by rfl))))))
theorem ok_law_table {P : Program} {w : World} {K : PySem.W.Frag} {mg : Str → Option Value} {base : Heap} {cs : List Addr} (mgf : MG mg) (D : DefAt K mg base cs "_law_table" S_law_table) (ok_law_draw : FD P w K mg base 1 "_law_draw" (spL K (tabsT cs 3) F_law_draw)) (ok_law_some : FD P w K mg base 2 "_law_some" (spL K (tabsT cs 3) F_law_some)) : FD P w K mg base 3 "_law_table" (spL K (tabsT cs 3) F_law_table) :=
  fd_l (k := 2) (N := ["box", "things", "marks", "many", "sparse", "rows", "k"]) (ps := ["box", "things", "marks"]) (nn := 4) D (by decide +kernel) rfl (fun _ _ _ _ _ _ us hl => match us, hl with | [_, _, _], _ => rfl) (fun _ _ => rfl) rfl (fun f cc Pt A outer s H E hr ct => by
    have nd : (["box", "things", "marks", "many", "sparse", "rows", "k"] : List Str).Nodup := by decide
    have hT : ∀ H, TH (tabsT cs 3) H → TH (tabsT cs 3) H := fun _ h => h
    exact (ss_cons (ss_set nd rfl (.inr rfl) (SE.q (se_callL ok_law_draw hT (L2.Room.mono hr (by first | omega | decide)) (by rfl) ⟨rfl, .inr (.inl rfl), rfl, rfl⟩ (SA.q (sa_cons (se_bin od_add (se_v ⟨rfl, .inl rfl, rfl, rfl⟩) se_int (dj_by rfl)) sa_nil (dj_by rfl))))) rfl (.inl rfl)) (ss_cons (ss_set nd rfl (.inr rfl) (SE.q (se_bin od_add se_int (se_callL ok_law_draw hT (L2.Room.mono hr (by first | omega | decide)) (by rfl) ⟨rfl, .inr (.inl rfl), rfl, rfl⟩ (sa_cons se_int sa_nil (dj_by rfl))) (dj_by rfl))) rfl (.inl rfl)) (ss_cons (ss_set nd rfl (.inl rfl) (SE.q (se_tuple (sc_new (sf_lc (own := [("k", 6)]) (as1 := [6]) rfl nd  (si_range1 (by rfl) (by exact mgf.b_range) (se_callL ok_law_draw hT (L2.Room.mono hr (by first | omega | decide)) (by rfl) ⟨rfl, .inr (.inl rfl), rfl, rfl⟩ (SA.q (sa_cons (se_bin od_add (se_v ⟨rfl, .inl rfl, rfl, rfl⟩) se_int (dj_by rfl)) sa_nil (dj_by rfl))))) (blkOk_by (by kernel_rfl)) (mem_by rfl) (fun _ _ _ _ _ => (sg_name nd rfl (.inl rfl) (.inr rfl))) (fun _ _ _ _ _ => sts_nil) (fun _ _ _ _ _ => (se_callL ok_law_some hT (L2.Room.mono hr (by first | omega | decide)) (by rfl) ⟨rfl, .inr (.inl rfl), rfl, rfl⟩ (sa_cons (se_v ⟨rfl, .inr (.inl rfl), rfl, rfl⟩) (sa_cons (se_v ⟨rfl, .inr (.inl rfl), rfl, rfl⟩) sa_nil (dj_by rfl)) (dj_by rfl)))) (dj_by rfl) (dj_by rfl))) (by rfl) (by exact mgf.b_tuple) (by rfl))) rfl (.inr rfl)) (ss_one (ss_ret (SE.q (se_tup (sa_cons se_str (sa_cons (se_v ⟨rfl, .inr (.inl rfl), rfl, rfl⟩) (sa_cons (se_v ⟨rfl, .inl rfl, rfl, rfl⟩) sa_nil (dj_by rfl)) (dj_by rfl)) (dj_by rfl))))))))))
theorem ok_law_mixed_order {P : Program} {w : World} {K : PySem.W.Frag} {mg : Str → Option Value} {base : Heap} {cs : List Addr} (mgf : MG mg) (D : DefAt K mg base cs "_law_mixed_order" S_law_mixed_order) (ok_law_draw : FD P w K mg base 1 "_law_draw" (spL K (tabsT cs 3) F_law_draw)) : FD P w K mg base 2 "_law_mixed_order" (spL K (tabsT cs 3) F_law_mixed_order) :=
  fd_l (k := 1) (N := ["box", "many", "left", "order", "k"]) (ps := ["box", "many"]) (nn := 3) D (by decide +kernel) rfl (fun _ _ _ _ _ _ us hl => match us, hl with | [_, _], _ => rfl) (fun _ _ => rfl) rfl (fun f cc Pt A outer s H E hr ct => by
    have nd : (["box", "many", "left", "order", "k"] : List Str).Nodup := by decide
    have hT : ∀ H, TH (tabsT cs 3) H → TH (tabsT cs 3) H := fun _ h => h
    exact (ss_cons (ss_setO nd rfl (.inl rfl) (SF.q (sf_rg1 rfl (by rfl) (by exact mgf.b_list) (by rfl) (by exact mgf.b_range) (se_v ⟨rfl, .inl rfl, rfl, rfl⟩))) rfl (.inr rfl)) (ss_cons (ss_setO nd rfl (.inl rfl) (SF.q (sf_lst sa_nil)) rfl (.inr rfl)) (ss_cons (ss_for (fun _ _ z => z.elim) rfl (si_range1 (by rfl) (by exact mgf.b_range) (se_v ⟨rfl, .inl rfl, rfl, rfl⟩)) (sg_name nd rfl (.inl rfl) (.inr rfl)) (ss_one (ss_app ⟨rfl, .inl rfl, rfl, rfl⟩ (SE.q (se_pop ⟨rfl, .inl rfl, rfl, rfl⟩ (se_bin od_mod (se_callTy cd_int (by rfl) (by exact mgf.b_int) (by rfl) (sa_cons (se_callL ok_law_draw hT (L2.Room.mono hr (by first | omega | decide)) (by rfl) ⟨rfl, .inl rfl, rfl, rfl⟩ (sa_cons se_int sa_nil (dj_by rfl))) sa_nil (dj_by rfl))) (se_len (sc_own ⟨rfl, .inl rfl, rfl, rfl⟩) (by rfl) (by exact mgf.b_len) (by rfl)) (dj_by rfl)))))) (dj_by rfl)) (ss_one (ss_ret (se_o ⟨rfl, .inl rfl, rfl, rfl⟩)))))))
theorem ok_law_lattice {P : Program} {w : World} {K : PySem.W.Frag} {mg : Str → Option Value} {base : Heap} {cs : List Addr} (mgf : MG mg) (D : DefAt K mg base cs "_law_lattice" S_law_lattice) (ok_law_closed : FD P w K mg base 4 "_law_closed" (spD K (tabsT cs 3) F_law_closed)) (ok_law_table : FD P w K mg base 3 "_law_table" (spL K (tabsT cs 3) F_law_table)) (ok_law_mixed_order : FD P w K mg base 2 "_law_mixed_order" (spL K (tabsT cs 3) F_law_mixed_order)) (ok_law_inside : FD P w K mg base 1 "_law_inside" (spD K (tabsT cs 3) F_law_inside)) : FD P w K mg base 5 "_law_lattice" (spL K (tabsT cs 3) F_law_lattice) :=
  fd_l (k := 4) (N := ["box", "things", "marks", "closed", "order", "above", "x", "y"]) (ps := ["box", "things", "marks"]) (nn := 5) D (by decide +kernel) rfl (fun _ _ _ _ _ _ us hl => match us, hl with | [_, _, _], _ => rfl) (fun _ _ => rfl) rfl (fun f cc Pt A outer s H E hr ct => by
    have nd : (["box", "things", "marks", "closed", "order", "above", "x", "y"] : List Str).Nodup := by decide
    have hT : ∀ H, TH (tabsT cs 3) H → TH (tabsT cs 3) H := fun _ h => h
    exact (ss_cons (ss_set nd rfl (.inr rfl) (SE.q (se_call ok_law_closed hT (L2.Room.mono hr (by first | omega | decide)) (by rfl) (sa_cons (se_callL ok_law_table hT (L2.Room.mono hr (by first | omega | decide)) (by rfl) ⟨rfl, .inl rfl, rfl, rfl⟩ (sa_cons (se_v ⟨rfl, .inl rfl, rfl, rfl⟩) (sa_cons (se_v ⟨rfl, .inl rfl, rfl, rfl⟩) sa_nil (dj_by rfl)) (dj_by rfl))) sa_nil (dj_by rfl)))) rfl (.inl rfl)) (ss_cons (ss_set nd rfl (.inr rfl) (SE.q (se_callL ok_law_mixed_order hT (L2.Room.mono hr (by first | omega | decide)) (by rfl) ⟨rfl, .inl rfl, rfl, rfl⟩ (SA.q (sa_cons (se_callB cd_len (by rfl) (by exact mgf.b_len) (by rfl) (sa_cons (se_v ⟨rfl, .inr (.inl rfl), rfl, rfl⟩) sa_nil (dj_by rfl))) sa_nil (dj_by rfl))))) rfl (.inl rfl)) (ss_cons (ss_setO nd rfl (.inl rfl) (SF.q (sf_lst sa_nil)) rfl (.inr rfl)) (ss_cons (ss_for (fun _ _ z => z.elim) rfl (si_range1 (by rfl) (by exact mgf.b_range) (se_callB cd_len (by rfl) (by exact mgf.b_len) (by rfl) (sa_cons (se_v ⟨rfl, .inr (.inl rfl), rfl, rfl⟩) sa_nil (dj_by rfl)))) (sg_name nd rfl (.inr rfl) (.inl rfl)) (ss_one (ss_app ⟨rfl, .inl rfl, rfl, rfl⟩ (SE.q (se_tuple (sc_new (sf_lc (own := [("y", 7)]) (as1 := [7]) rfl nd  (si_range1 (by rfl) (by exact mgf.b_range) (se_callB cd_len (by rfl) (by exact mgf.b_len) (by rfl) (sa_cons (se_v ⟨rfl, .inr (.inl rfl), rfl, rfl⟩) sa_nil (dj_by rfl)))) (blkOk_by (by kernel_rfl)) (mem_by rfl) (fun _ _ _ _ _ => (sg_name nd rfl (.inl rfl) (.inr rfl))) (fun _ _ _ _ _ => (sts_one (st_bool (se_call ok_law_inside hT (L2.Room.mono hr (by first | omega | decide)) (by rfl) (SA.q (rs := []) (ch := []) (sa_cons (se_ix (se_v ⟨rfl, .inr (.inl rfl), rfl, rfl⟩) (se_ix (se_v ⟨rfl, .inr (.inl rfl), rfl, rfl⟩) (se_v ⟨rfl, .inr (.inl rfl), rfl, rfl⟩) (dj_by rfl)) (dj_by rfl)) (sa_cons (se_ix (se_v ⟨rfl, .inr (.inl rfl), rfl, rfl⟩) (se_ix (se_v ⟨rfl, .inr (.inl rfl), rfl, rfl⟩) (se_v ⟨rfl, .inl rfl, rfl, rfl⟩) (dj_by rfl)) (dj_by rfl)) sa_nil (dj_by rfl)) (dj_by rfl))))))) (fun _ _ _ _ _ => (se_v ⟨rfl, .inl rfl, rfl, rfl⟩)) (dj_by rfl) (dj_by rfl))) (by rfl) (by exact mgf.b_tuple) (by rfl))))) (dj_by rfl)) (ss_one (ss_ret (SE.q (se_tup (sa_cons se_str (sa_cons (se_callB cd_len (by rfl) (by exact mgf.b_len) (by rfl) (sa_cons (se_v ⟨rfl, .inr (.inl rfl), rfl, rfl⟩) sa_nil (dj_by rfl))) (sa_cons (se_tuple (sc_own ⟨rfl, .inl rfl, rfl, rfl⟩) (by rfl) (by exact mgf.b_tuple) (by rfl)) sa_nil (dj_by rfl)) (dj_by rfl)) (dj_by rfl)))))))))))
theorem ok_has_bits {P : Program} {w : World} {K : PySem.W.Frag} {mg : Str → Option Value} {base : Heap} {cs : List Addr} (mgf : MG mg) (D : DefAt K mg base cs "has_bits" S_has_bits)  : FD P w K mg base 1 "has_bits" (spD K (tabsT cs 3) F_has_bits) :=
  fd_d (k := 0) (N := ["number", "other"]) (ps := ["number", "other"]) (nn := 0) D (by decide +kernel) rfl (fun _ _ _ _ _ _ us hl => match us, hl with | [_, _], _ => rfl) (fun _ => rfl) (fun f cc Pt A outer s H E hr ct => by
    have nd : (["number", "other"] : List Str).Nodup := by decide
    have hT : ∀ H, TH (tabsT cs 3) H → TH (tabsT cs 3) H := fun _ h => h
    exact (ss_cons (ss_while 1000000 (fun _ _ z => z.elim) (st_tru (se_v ⟨rfl, .inl rfl, rfl, rfl⟩)) (ss_cons (ss_if (SW.st (sw_and (st_cmp (od_eq (Room.u65 hr)) (se_bin od_mod (se_v ⟨rfl, .inl rfl, rfl, rfl⟩) se_int (dj_by rfl)) se_int (dj_by rfl) rfl) (sw_and1 (st_cmp (od_eq (Room.u65 hr)) (se_bin od_mod (se_v ⟨rfl, .inl rfl, rfl, rfl⟩) se_int (dj_by rfl)) se_int (dj_by rfl) rfl)))) (ss_one (ss_ret se_bl)) ss_nil) (ss_cons (ss_aug nd rfl (.inl rfl) iod_fdiv (SE.q (rs := []) (ch := []) se_int) (.inr rfl)) (ss_one (ss_aug nd rfl (.inl rfl) iod_fdiv (SE.q (rs := []) (ch := []) se_int) (.inr rfl)))))) (ss_one (ss_ret se_bl))))
theorem ok_cubes {P : Program} {w : World} {K : PySem.W.Frag} {mg : Str → Option Value} {base : Heap} {cs : List Addr} (mgf : MG mg) (D : DefAt K mg base cs "cubes" S_cubes) (ok_has_bits : FD P w K mg base 1 "has_bits" (spD K (tabsT cs 3) F_has_bits)) : FD P w K mg base 4 "cubes" (spD K (tabsT cs 3) F_cubes) :=
  fd_d (k := 3) (N := ["many", "size", "_", "above", "other", "own"]) (ps := ["many"]) (nn := 5) D (by decide +kernel) rfl (fun _ _ _ _ _ _ us hl => match us, hl with | [_], _ => rfl) (fun _ => rfl) (fun f cc Pt A outer s H E hr ct => by
    have nd : (["many", "size", "_", "above", "other", "own"] : List Str).Nodup := by decide
    have hT : ∀ H, TH (tabsT cs 3) H → TH (tabsT cs 3) H := fun _ h => h
    exact (ss_cons (ss_set nd rfl (.inr rfl) se_int rfl (.inl rfl)) (ss_cons (ss_for (fun _ _ z => z.elim) rfl (si_range1 (by rfl) (by exact mgf.b_range) (se_v ⟨rfl, .inl rfl, rfl, rfl⟩)) (sg_name nd rfl (.inl rfl) (.inr rfl)) (ss_one (ss_aug nd rfl (.inr rfl) iod_mul (SE.q (rs := []) (ch := []) se_int) (.inl rfl))) (dj_by rfl)) (ss_cons (ss_set nd rfl (.inl rfl) (SE.q (se_tupG (ge_of (k := 2) (n := 3) hr rfl ct (nuG_no (by rfl)) nd (own := [("own", 5)]) (blkOk_by (by kernel_rfl)) rfl rfl (fun _ => rfl) (si_range1 (by rfl) (by exact mgf.b_range) (se_v ⟨rfl, .inr (.inl rfl), rfl, rfl⟩)) (fun A A5 s H code fp T' Ss CI ip0 Tt O0 H0 hr hT' hct G => have hT : ∀ H, TH T' H → TH (tabsT cs 3) H := fun H h => hT H (hT' H h); have ⟨_, _, ct⟩ := hct 2 rfl; (lev_last G rfl rfl (fun _ => ⟨_, rfl⟩) (fun _ => rfl) (as1 := [5]) (mem_by rfl) (sg_name nd rfl (.inr rfl) (.inl rfl)) sts_nil (se_tupG (ge_of (k := 1) (n := 2) hr rfl ct (nuG_no (by rfl)) nd (own := [("other", 4)]) (blkOk_by (by kernel_rfl)) rfl rfl (fun _ => rfl) (si_range1 (by rfl) (by exact mgf.b_range) (se_v ⟨rfl, .inr (.inr rfl), rfl, rfl⟩)) (fun A A5 s H code fp T' Ss CI ip0 Tt O0 H0 hr hT' hct G => have hT : ∀ H, TH T' H → TH (tabsT cs 3) H := fun H h => hT H (hT' H h); have ⟨_, _, ct⟩ := hct 1 rfl; (lev_last G rfl rfl (fun _ => ⟨_, rfl⟩) (fun _ => rfl) (as1 := [4]) (mem_by rfl) (sg_name nd rfl (.inl rfl) (.inr rfl)) (sts_one (st_bool (se_call ok_has_bits hT (L2.Room.mono hr (by first | omega | decide)) (by rfl) (sa_cons (se_v ⟨rfl, .inl rfl, rfl, rfl⟩) (sa_cons (se_v ⟨rfl, .inr (.inr rfl), rfl, rfl⟩) sa_nil (dj_by rfl)) (dj_by rfl))))) (se_v ⟨rfl, .inl rfl, rfl, rfl⟩)))) (by rfl) (by exact mgf.b_tuple) (by rfl))))) (by rfl) (by exact mgf.b_tuple) (by rfl))) rfl (.inr rfl)) (ss_one (ss_ret (SE.q (se_tup (sa_cons se_str (sa_cons (se_v ⟨rfl, .inr (.inl rfl), rfl, rfl⟩) (sa_cons (se_v ⟨rfl, .inl rfl, rfl, rfl⟩) sa_nil (dj_by rfl)) (dj_by rfl)) (dj_by rfl))))))))))
theorem ok_law_low {P : Program} {w : World} {K : PySem.W.Frag} {mg : Str → Option Value} {base : Heap} {cs : List Addr} (mgf : MG mg) (D : DefAt K mg base cs "_law_low" S_law_low)  : FD P w K mg base 1 "_law_low" (spD K (tabsT cs 3) F_law_low) :=
  fd_d (k := 0) (N := ["lattice", "x"]) (ps := ["lattice"]) (nn := 1) D (by decide +kernel) rfl (fun _ _ _ _ _ _ us hl => match us, hl with | [_], _ => rfl) (fun _ => rfl) (fun f cc Pt A outer s H E hr ct => by
    have nd : (["lattice", "x"] : List Str).Nodup := by decide
    have hT : ∀ H, TH (tabsT cs 3) H → TH (tabsT cs 3) H := fun _ h => h
    exact (ss_one (ss_ret (SE.q (se_ix (SF.se (sf_lc (own := [("x", 1)]) (as1 := [1]) rfl nd  (si_range1 (by rfl) (by exact mgf.b_range) (se_ix (se_v ⟨rfl, .inr (.inl rfl), rfl, rfl⟩) se_int (dj_by rfl))) (blkOk_by (by kernel_rfl)) (mem_by rfl) (fun _ _ _ _ _ => (sg_name nd rfl (.inl rfl) (.inr rfl))) (fun _ _ _ _ _ => (sts_one (st_cmp (od_eq (Room.u65 hr)) (se_callB cd_len (by rfl) (by exact mgf.b_len) (by rfl) (SA.q (rs := []) (ch := []) (sa_cons (se_ix (se_ix (se_v ⟨rfl, .inr (.inl rfl), rfl, rfl⟩) se_int (dj_by rfl)) (se_v ⟨rfl, .inl rfl, rfl, rfl⟩) (dj_by rfl)) sa_nil (dj_by rfl)))) (se_ix (se_v ⟨rfl, .inr (.inl rfl), rfl, rfl⟩) se_int (dj_by rfl)) (dj_by rfl) rfl))) (fun _ _ _ _ _ => (se_v ⟨rfl, .inl rfl, rfl, rfl⟩)) (dj_by rfl) (dj_by rfl))) se_int (dj_by rfl))))))
theorem ok_law_high {P : Program} {w : World} {K : PySem.W.Frag} {mg : Str → Option Value} {base : Heap} {cs : List Addr} (mgf : MG mg) (D : DefAt K mg base cs "_law_high" S_law_high)  : FD P w K mg base 1 "_law_high" (spD K (tabsT cs 3) F_law_high) :=
  fd_d (k := 0) (N := ["lattice", "x"]) (ps := ["lattice"]) (nn := 1) D (by decide +kernel) rfl (fun _ _ _ _ _ _ us hl => match us, hl with | [_], _ => rfl) (fun _ => rfl) (fun f cc Pt A outer s H E hr ct => by
    have nd : (["lattice", "x"] : List Str).Nodup := by decide
    have hT : ∀ H, TH (tabsT cs 3) H → TH (tabsT cs 3) H := fun _ h => h
    exact (ss_one (ss_ret (SE.q (se_ix (SF.se (sf_lc (own := [("x", 1)]) (as1 := [1]) rfl nd  (si_range1 (by rfl) (by exact mgf.b_range) (se_ix (se_v ⟨rfl, .inr (.inl rfl), rfl, rfl⟩) se_int (dj_by rfl))) (blkOk_by (by kernel_rfl)) (mem_by rfl) (fun _ _ _ _ _ => (sg_name nd rfl (.inl rfl) (.inr rfl))) (fun _ _ _ _ _ => (sts_one (st_cmp (od_eq (Room.u65 hr)) (se_ix (se_ix (se_v ⟨rfl, .inr (.inl rfl), rfl, rfl⟩) se_int (dj_by rfl)) (se_v ⟨rfl, .inl rfl, rfl, rfl⟩) (dj_by rfl)) (se_tup (sa_cons (se_v ⟨rfl, .inl rfl, rfl, rfl⟩) sa_nil (dj_by rfl))) (dj_by rfl) rfl))) (fun _ _ _ _ _ => (se_v ⟨rfl, .inl rfl, rfl, rfl⟩)) (dj_by rfl) (dj_by rfl))) se_int (dj_by rfl))))))
theorem ok_law_best {P : Program} {w : World} {K : PySem.W.Frag} {mg : Str → Option Value} {base : Heap} {cs : List Addr} (mgf : MG mg) (D : DefAt K mg base cs "_law_best" S_law_best)  : FD P w K mg base 1 "_law_best" (spD K (tabsT cs 3) F_law_best) :=
  fd_d (k := 0) (N := ["found", "above", "x", "y"]) (ps := ["found", "above"]) (nn := 2) D (by decide +kernel) rfl (fun _ _ _ _ _ _ us hl => match us, hl with | [_, _], _ => rfl) (fun _ => rfl) (fun f cc Pt A outer s H E hr ct => by
    have nd : (["found", "above", "x", "y"] : List Str).Nodup := by decide
    have hT : ∀ H, TH (tabsT cs 3) H → TH (tabsT cs 3) H := fun _ h => h
    exact (ss_cons (ss_for (fun _ _ z => z.elim) rfl (si_con (sc_own ⟨rfl, .inl rfl, rfl, rfl⟩)) (sg_name nd rfl (.inr rfl) (.inl rfl)) (ss_one (ss_if (st_cmp (od_eq (Room.u65 hr)) (se_len (sc_new (sf_lc (own := [("y", 3)]) (as1 := [3]) rfl nd  (si_con (sc_own ⟨rfl, .inl rfl, rfl, rfl⟩)) (blkOk_by (by kernel_rfl)) (mem_by rfl) (fun _ _ _ _ _ => (sg_name nd rfl (.inl rfl) (.inr rfl))) (fun _ _ _ _ _ => (sts_one (st_cmp (od_nin (Room.u65 hr)) (se_v ⟨rfl, .inl rfl, rfl, rfl⟩) (se_ix (se_v ⟨rfl, .inr (.inl rfl), rfl, rfl⟩) (se_v ⟨rfl, .inr (.inl rfl), rfl, rfl⟩) (dj_by rfl)) (dj_by rfl) rfl))) (fun _ _ _ _ _ => (se_v ⟨rfl, .inl rfl, rfl, rfl⟩)) (dj_by rfl) (dj_by rfl))) (by rfl) (by exact mgf.b_len) (by rfl)) se_int (dj_by rfl) rfl) (ss_one (ss_ret (se_v ⟨rfl, .inr (.inl rfl), rfl, rfl⟩))) ss_nil)) (dj_by rfl)) (ss_one (ss_ret se_non))))
theorem ok_law_join {P : Program} {w : World} {K : PySem.W.Frag} {mg : Str → Option Value} {base : Heap} {cs : List Addr} (mgf : MG mg) (D : DefAt K mg base cs "_law_join" S_law_join) (ok_law_best : FD P w K mg base 1 "_law_best" (spD K (tabsT cs 3) F_law_best)) : FD P w K mg base 2 "_law_join" (spD K (tabsT cs 3) F_law_join) :=
  fd_d (k := 1) (N := ["lattice", "x", "y", "z"]) (ps := ["lattice", "x", "y"]) (nn := 1) D (by decide +kernel) rfl (fun _ _ _ _ _ _ us hl => match us, hl with | [_, _, _], _ => rfl) (fun _ => rfl) (fun f cc Pt A outer s H E hr ct => by
    have nd : (["lattice", "x", "y", "z"] : List Str).Nodup := by decide
    have hT : ∀ H, TH (tabsT cs 3) H → TH (tabsT cs 3) H := fun _ h => h
    exact (ss_one (ss_ret (SE.q (se_call ok_law_best hT (L2.Room.mono hr (by first | omega | decide)) (by rfl) (sa_cons (SF.se (sf_lc (own := [("z", 3)]) (as1 := [3]) rfl nd  (si_con (sc_val (se_ix (se_ix (se_v ⟨rfl, .inr (.inl rfl), rfl, rfl⟩) se_int (dj_by rfl)) (se_v ⟨rfl, .inl rfl, rfl, rfl⟩) (dj_by rfl)))) (blkOk_by (by kernel_rfl)) (mem_by rfl) (fun _ _ _ _ _ => (sg_name nd rfl (.inl rfl) (.inr rfl))) (fun _ _ _ _ _ => (sts_one (st_cmp (od_in (Room.u65 hr)) (se_v ⟨rfl, .inl rfl, rfl, rfl⟩) (se_ix (se_ix (se_v ⟨rfl, .inr (.inl rfl), rfl, rfl⟩) se_int (dj_by rfl)) (se_v ⟨rfl, .inr (.inl rfl), rfl, rfl⟩) (dj_by rfl)) (dj_by rfl) rfl))) (fun _ _ _ _ _ => (se_v ⟨rfl, .inl rfl, rfl, rfl⟩)) (dj_by rfl) (dj_by rfl))) (sa_cons (se_ix (se_v ⟨rfl, .inr (.inl rfl), rfl, rfl⟩) se_int (dj_by rfl)) sa_nil (dj_by rfl)) (dj_by rfl)))))))
theorem ok_law_joins {P : Program} {w : World} {K : PySem.W.Frag} {mg : Str → Option Value} {base : Heap} {cs : List Addr} (mgf : MG mg) (D : DefAt K mg base cs "_law_joins" S_law_joins) (ok_law_join : FD P w K mg base 2 "_law_join" (spD K (tabsT cs 3) F_law_join)) : FD P w K mg base 3 "_law_joins" (spD K (tabsT cs 3) F_law_joins) :=
  fd_d (k := 2) (N := ["lattice", "rows", "x", "y"]) (ps := ["lattice"]) (nn := 3) D (by decide +kernel) rfl (fun _ _ _ _ _ _ us hl => match us, hl with | [_], _ => rfl) (fun _ => rfl) (fun f cc Pt A outer s H E hr ct => by
    have nd : (["lattice", "rows", "x", "y"] : List Str).Nodup := by decide
    have hT : ∀ H, TH (tabsT cs 3) H → TH (tabsT cs 3) H := fun _ h => h
    exact (ss_cons (ss_setO nd rfl (.inl rfl) (SF.q (sf_lst sa_nil)) rfl (.inr rfl)) (ss_cons (ss_for (fun _ _ z => z.elim) rfl (si_range1 (by rfl) (by exact mgf.b_range) (se_ix (se_v ⟨rfl, .inr (.inl rfl), rfl, rfl⟩) se_int (dj_by rfl))) (sg_name nd rfl (.inr rfl) (.inl rfl)) (ss_one (ss_app ⟨rfl, .inl rfl, rfl, rfl⟩ (SE.q (SF.se (sf_lc (own := [("y", 3)]) (as1 := [3]) rfl nd  (si_range1 (by rfl) (by exact mgf.b_range) (se_ix (se_v ⟨rfl, .inr (.inl rfl), rfl, rfl⟩) se_int (dj_by rfl))) (blkOk_by (by kernel_rfl)) (mem_by rfl) (fun _ _ _ _ _ => (sg_name nd rfl (.inl rfl) (.inr rfl))) (fun _ _ _ _ _ => sts_nil) (fun _ _ _ _ _ => (se_call ok_law_join hT (L2.Room.mono hr (by first | omega | decide)) (by rfl) (sa_cons (se_v ⟨rfl, .inr (.inl rfl), rfl, rfl⟩) (sa_cons (se_v ⟨rfl, .inr (.inl rfl), rfl, rfl⟩) (sa_cons (se_v ⟨rfl, .inl rfl, rfl, rfl⟩) sa_nil (dj_by rfl)) (dj_by rfl)) (dj_by rfl)))) (dj_by rfl) (dj_by rfl)))))) (dj_by rfl)) (ss_one (ss_ret (se_o ⟨rfl, .inl rfl, rfl, rfl⟩))))))
theorem ok_law_meet {P : Program} {w : World} {K : PySem.W.Frag} {mg : Str → Option Value} {base : Heap} {cs : List Addr} (mgf : MG mg) (D : DefAt K mg base cs "_law_meet" S_law_meet)  : FD P w K mg base 1 "_law_meet" (spD K (tabsT cs 3) F_law_meet) :=
  fd_d (k := 0) (N := ["lattice", "x", "y", "found", "z", "w"]) (ps := ["lattice", "x", "y"]) (nn := 3) D (by decide +kernel) rfl (fun _ _ _ _ _ _ us hl => match us, hl with | [_, _, _], _ => rfl) (fun _ => rfl) (fun f cc Pt A outer s H E hr ct => by
    have nd : (["lattice", "x", "y", "found", "z", "w"] : List Str).Nodup := by decide
    have hT : ∀ H, TH (tabsT cs 3) H → TH (tabsT cs 3) H := fun _ h => h
    exact (ss_cons (ss_setLc (own := [("z", 4)]) (as1 := [4]) (i := 3) rfl nd rfl rfl rfl rfl rfl (si_range1 (by rfl) (by exact mgf.b_range) (se_ix (se_v ⟨rfl, .inr (.inl rfl), rfl, rfl⟩) se_int (dj_by rfl))) (blkOk_by (by kernel_rfl)) (mem_by rfl) (fun _ _ _ _ _ => (sg_name nd rfl (.inl rfl) (.inr rfl))) (fun _ _ _ _ _ => (sts_one (SW.st (sw_and (st_cmp (od_in (Room.u65 hr)) (se_v ⟨rfl, .inr (.inl rfl), rfl, rfl⟩) (se_ix (se_ix (se_v ⟨rfl, .inr (.inl rfl), rfl, rfl⟩) se_int (dj_by rfl)) (se_v ⟨rfl, .inl rfl, rfl, rfl⟩) (dj_by rfl)) (dj_by rfl) rfl) (sw_and1 (st_cmp (od_in (Room.u65 hr)) (se_v ⟨rfl, .inr (.inl rfl), rfl, rfl⟩) (se_ix (se_ix (se_v ⟨rfl, .inr (.inl rfl), rfl, rfl⟩) se_int (dj_by rfl)) (se_v ⟨rfl, .inl rfl, rfl, rfl⟩) (dj_by rfl)) (dj_by rfl) rfl)))))) (fun _ _ _ _ _ => (se_v ⟨rfl, .inl rfl, rfl, rfl⟩)) (dj_by rfl) (dj_by rfl)) (ss_cons (ss_for (fun _ _ z => z.elim) rfl (si_con (sc_own ⟨rfl, .inl rfl, rfl, rfl⟩)) (sg_name nd rfl (.inr rfl) (.inl rfl)) (ss_one (ss_if (st_cmp (od_eq (Room.u65 hr)) (se_len (sc_new (sf_lc (own := [("w", 5)]) (as1 := [5]) rfl nd  (si_con (sc_own ⟨rfl, .inl rfl, rfl, rfl⟩)) (blkOk_by (by kernel_rfl)) (mem_by rfl) (fun _ _ _ _ _ => (sg_name nd rfl (.inl rfl) (.inr rfl))) (fun _ _ _ _ _ => (sts_one (st_cmp (od_nin (Room.u65 hr)) (se_v ⟨rfl, .inr (.inl rfl), rfl, rfl⟩) (se_ix (se_ix (se_v ⟨rfl, .inr (.inl rfl), rfl, rfl⟩) se_int (dj_by rfl)) (se_v ⟨rfl, .inl rfl, rfl, rfl⟩) (dj_by rfl)) (dj_by rfl) rfl))) (fun _ _ _ _ _ => (se_v ⟨rfl, .inl rfl, rfl, rfl⟩)) (dj_by rfl) (dj_by rfl))) (by rfl) (by exact mgf.b_len) (by rfl)) se_int (dj_by rfl) rfl) (ss_one (ss_ret (se_v ⟨rfl, .inr (.inl rfl), rfl, rfl⟩))) ss_nil)) (dj_by rfl)) (ss_one (ss_ret se_non)))))
theorem ok_law_meets {P : Program} {w : World} {K : PySem.W.Frag} {mg : Str → Option Value} {base : Heap} {cs : List Addr} (mgf : MG mg) (D : DefAt K mg base cs "_law_meets" S_law_meets) (ok_law_meet : FD P w K mg base 1 "_law_meet" (spD K (tabsT cs 3) F_law_meet)) : FD P w K mg base 2 "_law_meets" (spD K (tabsT cs 3) F_law_meets) :=
  fd_d (k := 1) (N := ["lattice", "rows", "x", "y"]) (ps := ["lattice"]) (nn := 3) D (by decide +kernel) rfl (fun _ _ _ _ _ _ us hl => match us, hl with | [_], _ => rfl) (fun _ => rfl) (fun f cc Pt A outer s H E hr ct => by
    have nd : (["lattice", "rows", "x", "y"] : List Str).Nodup := by decide
    have hT : ∀ H, TH (tabsT cs 3) H → TH (tabsT cs 3) H := fun _ h => h
    exact (ss_cons (ss_setO nd rfl (.inl rfl) (SF.q (sf_lst sa_nil)) rfl (.inr rfl)) (ss_cons (ss_for (fun _ _ z => z.elim) rfl (si_range1 (by rfl) (by exact mgf.b_range) (se_ix (se_v ⟨rfl, .inr (.inl rfl), rfl, rfl⟩) se_int (dj_by rfl))) (sg_name nd rfl (.inr rfl) (.inl rfl)) (ss_one (ss_app ⟨rfl, .inl rfl, rfl, rfl⟩ (SE.q (SF.se (sf_lc (own := [("y", 3)]) (as1 := [3]) rfl nd  (si_range1 (by rfl) (by exact mgf.b_range) (se_ix (se_v ⟨rfl, .inr (.inl rfl), rfl, rfl⟩) se_int (dj_by rfl))) (blkOk_by (by kernel_rfl)) (mem_by rfl) (fun _ _ _ _ _ => (sg_name nd rfl (.inl rfl) (.inr rfl))) (fun _ _ _ _ _ => sts_nil) (fun _ _ _ _ _ => (se_call ok_law_meet hT (L2.Room.mono hr (by first | omega | decide)) (by rfl) (sa_cons (se_v ⟨rfl, .inr (.inl rfl), rfl, rfl⟩) (sa_cons (se_v ⟨rfl, .inr (.inl rfl), rfl, rfl⟩) (sa_cons (se_v ⟨rfl, .inl rfl, rfl, rfl⟩) sa_nil (dj_by rfl)) (dj_by rfl)) (dj_by rfl)))) (dj_by rfl) (dj_by rfl)))))) (dj_by rfl)) (ss_one (ss_ret (se_o ⟨rfl, .inl rfl, rfl, rfl⟩))))))
theorem ok_law_same {P : Program} {w : World} {K : PySem.W.Frag} {mg : Str → Option Value} {base : Heap} {cs : List Addr} (mgf : MG mg) (D : DefAt K mg base cs "_law_same" S_law_same)  : ∀ n, FD P w K mg base (n * 4 + 0) "_law_same" (spD K (tabsT cs 3) (F_law_same n))
  | 0 => fd_zero (k := 0) (N := ["actual", "expected", "k"]) (ps := ["actual", "expected"]) D (by decide +kernel) (fun _ _ _ _ _ _ us hl => match us, hl with | [_, _], _ => rfl)
  | n + 1 => by
    have ih := ok_law_same (P := P) (w := w) mgf D  n
    have e : (n + 1) * 4 + 0 = (n * 4 + 3) + 1 := by omega
    rw [e]
    exact fd_d (N := ["actual", "expected", "k"]) (ps := ["actual", "expected"]) (nn := 1) D (by decide +kernel) rfl (fun _ _ _ _ _ _ us hl => match us, hl with | [_, _], _ => rfl) (fun _ => rfl) (fun f cc Pt A outer s H E hr ct => by
      have nd : (["actual", "expected", "k"] : List Str).Nodup := by decide
      have hT : ∀ H, TH (tabsT cs 3) H → TH (tabsT cs 3) H := fun _ h => h
      exact (ss_cons (ss_if (st_bool (se_isi (by rfl) (by exact mgf.b_isinstance) (by rfl) (by rfl) (by exact mgf.b_tuple) (by rfl) (by decide) (se_v ⟨rfl, .inl rfl, rfl, rfl⟩))) (ss_cons (ss_if (SW.st (sw_or (st_not (st_bool (se_isi (by rfl) (by exact mgf.b_isinstance) (by rfl) (by rfl) (by exact mgf.b_tuple) (by rfl) (by decide) (se_v ⟨rfl, .inl rfl, rfl, rfl⟩)))) (sw_or1 (st_cmp (od_ne (Room.u65 hr)) (se_callB cd_len (by rfl) (by exact mgf.b_len) (by rfl) (sa_cons (se_v ⟨rfl, .inl rfl, rfl, rfl⟩) sa_nil (dj_by rfl))) (se_callB cd_len (by rfl) (by exact mgf.b_len) (by rfl) (sa_cons (se_v ⟨rfl, .inl rfl, rfl, rfl⟩) sa_nil (dj_by rfl))) (dj_by rfl) rfl)))) (ss_one (ss_ret se_bl)) ss_nil) (ss_cons (ss_for (fun _ _ z => z.elim) rfl (si_range1 (by rfl) (by exact mgf.b_range) (se_callB cd_len (by rfl) (by exact mgf.b_len) (by rfl) (sa_cons (se_v ⟨rfl, .inl rfl, rfl, rfl⟩) sa_nil (dj_by rfl)))) (sg_name nd rfl (.inl rfl) (.inr rfl)) (ss_one (ss_if (st_not (st_bool (se_call ih hT (L2.Room.mono hr (by first | omega | decide)) (by rfl) (sa_cons (se_ix (se_v ⟨rfl, .inl rfl, rfl, rfl⟩) (se_v ⟨rfl, .inl rfl, rfl, rfl⟩) (dj_by rfl)) (sa_cons (se_ix (se_v ⟨rfl, .inl rfl, rfl, rfl⟩) (se_v ⟨rfl, .inl rfl, rfl, rfl⟩) (dj_by rfl)) sa_nil (dj_by rfl)) (dj_by rfl))))) (ss_one (ss_ret se_bl)) ss_nil)) (dj_by rfl)) (ss_one (ss_ret se_bl)))) ss_nil) (ss_cons (ss_if (st_cmp od_is (se_v ⟨rfl, .inl rfl, rfl, rfl⟩) se_non (dj_by rfl) rfl) (ss_one (ss_ret (SE.q (se_cmp od_is (se_v ⟨rfl, .inl rfl, rfl, rfl⟩) se_non (dj_by rfl) rfl)))) ss_nil) (ss_cons (ss_if (st_bool (se_isi (by rfl) (by exact mgf.b_isinstance) (by rfl) (by rfl) (by exact mgf.b_bool) (by rfl) (by decide) (se_v ⟨rfl, .inl rfl, rfl, rfl⟩))) (ss_one (ss_ret (SE.q (SB.se (sb_and (sb_of (se_isi (by rfl) (by exact mgf.b_isinstance) (by rfl) (by rfl) (by exact mgf.b_bool) (by rfl) (by decide) (se_v ⟨rfl, .inl rfl, rfl, rfl⟩))) (sb_one (sb_cmp (od_eq (Room.u65 hr)) (se_v ⟨rfl, .inl rfl, rfl, rfl⟩) (se_v ⟨rfl, .inl rfl, rfl, rfl⟩) (dj_by rfl) rfl))))))) ss_nil) (ss_cons (ss_if (st_bool (se_isi (by rfl) (by exact mgf.b_isinstance) (by rfl) (by rfl) (by exact mgf.b_int) (by rfl) (by decide) (se_v ⟨rfl, .inl rfl, rfl, rfl⟩))) (ss_one (ss_ret (SE.q (SB.se (sb_and (sb_of (se_isi (by rfl) (by exact mgf.b_isinstance) (by rfl) (by rfl) (by exact mgf.b_int) (by rfl) (by decide) (se_v ⟨rfl, .inl rfl, rfl, rfl⟩))) (sb_and (sb_not (sb_of (se_isi (by rfl) (by exact mgf.b_isinstance) (by rfl) (by rfl) (by exact mgf.b_bool) (by rfl) (by decide) (se_v ⟨rfl, .inl rfl, rfl, rfl⟩)))) (sb_one (sb_cmp (od_eq (Room.u65 hr)) (se_v ⟨rfl, .inl rfl, rfl, rfl⟩) (se_v ⟨rfl, .inl rfl, rfl, rfl⟩) (dj_by rfl) rfl)))))))) ss_nil) (ss_one (ss_ret (SE.q (SB.se (sb_and (sb_of (se_isi (by rfl) (by exact mgf.b_isinstance) (by rfl) (by rfl) (by exact mgf.b_str) (by rfl) (by decide) (se_v ⟨rfl, .inl rfl, rfl, rfl⟩))) (sb_one (sb_cmp (od_eq (Room.u65 hr)) (se_v ⟨rfl, .inl rfl, rfl, rfl⟩) (se_v ⟨rfl, .inl rfl, rfl, rfl⟩) (dj_by rfl) rfl))))))))))))
theorem ok_is_part {P : Program} {w : World} {K : PySem.W.Frag} {mg : Str → Option Value} {base : Heap} {cs : List Addr} (mgf : MG mg) (D : DefAt K mg base cs "is_part" S_is_part)  : FD P w K mg base 2 "is_part" (spD K (tabsT cs 3) F_is_part) :=
  fd_d (k := 1) (N := ["part", "whole", "one"]) (ps := ["part", "whole"]) (nn := 1) D (by decide +kernel) rfl (fun _ _ _ _ _ _ us hl => match us, hl with | [_, _], _ => rfl) (fun _ => rfl) (fun f cc Pt A outer s H E hr ct => by
    have nd : (["part", "whole", "one"] : List Str).Nodup := by decide
    have hT : ∀ H, TH (tabsT cs 3) H → TH (tabsT cs 3) H := fun _ h => h
    exact (ss_one (ss_ret (SE.q (se_all (ge_of (k := 0) (n := 3) hr rfl ct (nuG_no (by rfl)) nd (own := [("one", 2)]) (blkOk_by (by kernel_rfl)) rfl rfl (fun _ => rfl) (si_con (sc_own ⟨rfl, .inl rfl, rfl, rfl⟩)) (fun A A5 s H code fp T' Ss CI ip0 Tt O0 H0 hr hT' hct G => have hT : ∀ H, TH T' H → TH (tabsT cs 3) H := fun H h => hT H (hT' H h); have ⟨_, _, ct⟩ := hct 2 rfl; (lev_last G rfl rfl (fun _ => ⟨_, rfl⟩) (fun _ => rfl) (as1 := [2]) (mem_by rfl) (sg_name nd rfl (.inl rfl) (.inr rfl)) sts_nil (se_cmp (od_in (Room.u65 hr)) (se_v ⟨rfl, .inl rfl, rfl, rfl⟩) (se_v ⟨rfl, .inr (.inr rfl), rfl, rfl⟩) (dj_by rfl) rfl)))) (by rfl) (by exact mgf.b_all) (by rfl))))))
theorem ok_least_of {P : Program} {w : World} {K : PySem.W.Frag} {mg : Str → Option Value} {base : Heap} {cs : List Addr} (mgf : MG mg) (D : DefAt K mg base cs "least_of" S_least_of) (ok_is_part : FD P w K mg base 2 "is_part" (spD K (tabsT cs 3) F_is_part)) : FD P w K mg base 3 "least_of" (spD K (tabsT cs 3) F_least_of) :=
  fd_d (k := 2) (N := ["lattice", "members", "found", "one"]) (ps := ["lattice", "members"]) (nn := 2) D (by decide +kernel) rfl (fun _ _ _ _ _ _ us hl => match us, hl with | [_, _], _ => rfl) (fun _ => rfl) (fun f cc Pt A outer s H E hr ct => by
    have nd : (["lattice", "members", "found", "one"] : List Str).Nodup := by decide
    have hT : ∀ H, TH (tabsT cs 3) H → TH (tabsT cs 3) H := fun _ h => h
    exact (ss_cons (ss_setLc (own := [("one", 3)]) (as1 := [3]) (i := 2) rfl nd rfl rfl rfl rfl rfl (si_con (sc_own ⟨rfl, .inr (.inl rfl), rfl, rfl⟩)) (blkOk_by (by kernel_rfl)) (mem_by rfl) (fun _ _ _ _ _ => (sg_name nd rfl (.inl rfl) (.inr rfl))) (fun _ _ _ _ _ => (sts_one (st_bool (se_call ok_is_part hT (L2.Room.mono hr (by first | omega | decide)) (by rfl) (SA.q (rs := []) (ch := []) (sa_cons (se_v ⟨rfl, .inr (.inl rfl), rfl, rfl⟩) (sa_cons (se_ix (se_ix (se_v ⟨rfl, .inr (.inl rfl), rfl, rfl⟩) se_int (dj_by rfl)) (se_v ⟨rfl, .inl rfl, rfl, rfl⟩) (dj_by rfl)) sa_nil (dj_by rfl)) (dj_by rfl))))))) (fun _ _ _ _ _ => (se_v ⟨rfl, .inl rfl, rfl, rfl⟩)) (dj_by rfl) (dj_by rfl)) (ss_one (ss_ret (SE.q (se_iteE (st_tru (se_v ⟨rfl, .inl rfl, rfl, rfl⟩)) (se_ix (se_v ⟨rfl, .inl rfl, rfl, rfl⟩) se_int (dj_by rfl)) se_non))))))
theorem ok_low_of {P : Program} {w : World} {K : PySem.W.Frag} {mg : Str → Option Value} {base : Heap} {cs : List Addr} (mgf : MG mg) (D : DefAt K mg base cs "low_of" S_low_of) (ok_least_of : FD P w K mg base 3 "least_of" (spD K (tabsT cs 3) F_least_of)) : FD P w K mg base 4 "low_of" (spD K (tabsT cs 3) F_low_of) :=
  fd_d (k := 3) (N := ["lattice"]) (ps := ["lattice"]) (nn := 0) D (by decide +kernel) rfl (fun _ _ _ _ _ _ us hl => match us, hl with | [_], _ => rfl) (fun _ => rfl) (fun f cc Pt A outer s H E hr ct => by
    have nd : (["lattice"] : List Str).Nodup := by decide
    have hT : ∀ H, TH (tabsT cs 3) H → TH (tabsT cs 3) H := fun _ h => h
    exact (ss_one (ss_ret (SE.q (se_call ok_least_of hT (L2.Room.mono hr (by first | omega | decide)) (by rfl) (sa_cons (se_v ⟨rfl, .inl rfl, rfl, rfl⟩) (sa_cons (se_tupRg1 rfl (by rfl) (by exact mgf.b_tuple) (by rfl) (by exact mgf.b_range) (se_ix (se_v ⟨rfl, .inl rfl, rfl, rfl⟩) se_int (dj_by rfl))) sa_nil (dj_by rfl)) (dj_by rfl)))))))
theorem ok_below_of {P : Program} {w : World} {K : PySem.W.Frag} {mg : Str → Option Value} {base : Heap} {cs : List Addr} (mgf : MG mg) (D : DefAt K mg base cs "below_of" S_below_of)  : FD P w K mg base 3 "below_of" (spD K (tabsT cs 3) F_below_of) :=
  fd_d (k := 2) (N := ["lattice", "_", "many", "above", "other", "own"]) (ps := ["lattice"]) (nn := 5) D (by decide +kernel) rfl (fun _ _ _ _ _ _ us hl => match us, hl with | [_], _ => rfl) (fun _ => rfl) (fun f cc Pt A outer s H E hr ct => by
    have nd : (["lattice", "_", "many", "above", "other", "own"] : List Str).Nodup := by decide
    have hT : ∀ H, TH (tabsT cs 3) H → TH (tabsT cs 3) H := fun _ h => h
    exact (ss_cons (ss_asg (se_v ⟨rfl, .inl rfl, rfl, rfl⟩) (sg_tup rfl (sgs_cons (sg_name nd rfl (.inl rfl) (.inr rfl)) (sgs_cons (sg_name nd rfl (.inr rfl) (.inl rfl)) (sgs_cons (sg_name nd rfl (.inr rfl) (.inl rfl)) sgs_nil))))) (ss_one (ss_ret (SE.q (se_tupG (ge_of (k := 1) (n := 3) hr rfl ct (nuG_no (by rfl)) nd (own := [("own", 5)]) (blkOk_by (by kernel_rfl)) rfl rfl (fun _ => rfl) (si_range1 (by rfl) (by exact mgf.b_range) (se_v ⟨rfl, .inr (.inl rfl), rfl, rfl⟩)) (fun A A5 s H code fp T' Ss CI ip0 Tt O0 H0 hr hT' hct G => have hT : ∀ H, TH T' H → TH (tabsT cs 3) H := fun H h => hT H (hT' H h); have ⟨_, _, ct⟩ := hct 2 rfl; (lev_last G rfl rfl (fun _ => ⟨_, rfl⟩) (fun _ => rfl) (as1 := [5]) (mem_by rfl) (sg_name nd rfl (.inr rfl) (.inl rfl)) sts_nil (se_tupG (ge_of (k := 0) (n := 2) hr rfl ct (nuG_no (by rfl)) nd (own := [("other", 4)]) (blkOk_by (by kernel_rfl)) rfl rfl (fun _ => rfl) (si_range1 (by rfl) (by exact mgf.b_range) (se_v ⟨rfl, .inr (.inr rfl), rfl, rfl⟩)) (fun A A5 s H code fp T' Ss CI ip0 Tt O0 H0 hr hT' hct G => have hT : ∀ H, TH T' H → TH (tabsT cs 3) H := fun H h => hT H (hT' H h); have ⟨_, _, ct⟩ := hct 1 rfl; (lev_last G rfl rfl (fun _ => ⟨_, rfl⟩) (fun _ => rfl) (as1 := [4]) (mem_by rfl) (sg_name nd rfl (.inl rfl) (.inr rfl)) (sts_one (st_cmp (od_in (Room.u65 hr)) (se_v ⟨rfl, .inr (.inr rfl), rfl, rfl⟩) (se_ix (se_v ⟨rfl, .inr (.inr rfl), rfl, rfl⟩) (se_v ⟨rfl, .inl rfl, rfl, rfl⟩) (dj_by rfl)) (dj_by rfl) rfl)) (se_v ⟨rfl, .inl rfl, rfl, rfl⟩)))) (by rfl) (by exact mgf.b_tuple) (by rfl))))) (by rfl) (by exact mgf.b_tuple) (by rfl)))))))
theorem ok_turned_over {P : Program} {w : World} {K : PySem.W.Frag} {mg : Str → Option Value} {base : Heap} {cs : List Addr} (mgf : MG mg) (D : DefAt K mg base cs "turned_over" S_turned_over) (ok_below_of : FD P w K mg base 3 "below_of" (spD K (tabsT cs 3) F_below_of)) : FD P w K mg base 4 "turned_over" (spD K (tabsT cs 3) F_turned_over) :=
  fd_d (k := 3) (N := ["lattice"]) (ps := ["lattice"]) (nn := 0) D (by decide +kernel) rfl (fun _ _ _ _ _ _ us hl => match us, hl with | [_], _ => rfl) (fun _ => rfl) (fun f cc Pt A outer s H E hr ct => by
    have nd : (["lattice"] : List Str).Nodup := by decide
    have hT : ∀ H, TH (tabsT cs 3) H → TH (tabsT cs 3) H := fun _ h => h
    exact (ss_one (ss_ret (SE.q (se_tup (sa_cons (se_ix (se_v ⟨rfl, .inl rfl, rfl, rfl⟩) se_int (dj_by rfl)) (sa_cons (se_ix (se_v ⟨rfl, .inl rfl, rfl, rfl⟩) se_int (dj_by rfl)) (sa_cons (se_call ok_below_of hT (L2.Room.mono hr (by first | omega | decide)) (by rfl) (sa_cons (se_v ⟨rfl, .inl rfl, rfl, rfl⟩) sa_nil (dj_by rfl))) sa_nil (dj_by rfl)) (dj_by rfl)) (dj_by rfl)))))))
theorem ok_greatest_of {P : Program} {w : World} {K : PySem.W.Frag} {mg : Str → Option Value} {base : Heap} {cs : List Addr} (mgf : MG mg) (D : DefAt K mg base cs "greatest_of" S_greatest_of) (ok_least_of : FD P w K mg base 3 "least_of" (spD K (tabsT cs 3) F_least_of)) (ok_turned_over : FD P w K mg base 4 "turned_over" (spD K (tabsT cs 3) F_turned_over)) : FD P w K mg base 5 "greatest_of" (spD K (tabsT cs 3) F_greatest_of) :=
  fd_d (k := 4) (N := ["lattice", "members"]) (ps := ["lattice", "members"]) (nn := 0) D (by decide +kernel) rfl (fun _ _ _ _ _ _ us hl => match us, hl with | [_, _], _ => rfl) (fun _ => rfl) (fun f cc Pt A outer s H E hr ct => by
    have nd : (["lattice", "members"] : List Str).Nodup := by decide
    have hT : ∀ H, TH (tabsT cs 3) H → TH (tabsT cs 3) H := fun _ h => h
    exact (ss_one (ss_ret (SE.q (se_call ok_least_of hT (L2.Room.mono hr (by first | omega | decide)) (by rfl) (sa_cons (se_call ok_turned_over hT (L2.Room.mono hr (by first | omega | decide)) (by rfl) (sa_cons (se_v ⟨rfl, .inl rfl, rfl, rfl⟩) sa_nil (dj_by rfl))) (sa_cons (se_v ⟨rfl, .inl rfl, rfl, rfl⟩) sa_nil (dj_by rfl)) (dj_by rfl)))))))
theorem ok_high_of {P : Program} {w : World} {K : PySem.W.Frag} {mg : Str → Option Value} {base : Heap} {cs : List Addr} (mgf : MG mg) (D : DefAt K mg base cs "high_of" S_high_of) (ok_greatest_of : FD P w K mg base 5 "greatest_of" (spD K (tabsT cs 3) F_greatest_of)) : FD P w K mg base 6 "high_of" (spD K (tabsT cs 3) F_high_of) :=
  fd_d (k := 5) (N := ["lattice"]) (ps := ["lattice"]) (nn := 0) D (by decide +kernel) rfl (fun _ _ _ _ _ _ us hl => match us, hl with | [_], _ => rfl) (fun _ => rfl) (fun f cc Pt A outer s H E hr ct => by
    have nd : (["lattice"] : List Str).Nodup := by decide
    have hT : ∀ H, TH (tabsT cs 3) H → TH (tabsT cs 3) H := fun _ h => h
    exact (ss_one (ss_ret (SE.q (se_call ok_greatest_of hT (L2.Room.mono hr (by first | omega | decide)) (by rfl) (sa_cons (se_v ⟨rfl, .inl rfl, rfl, rfl⟩) (sa_cons (se_tupRg1 rfl (by rfl) (by exact mgf.b_tuple) (by rfl) (by exact mgf.b_range) (se_ix (se_v ⟨rfl, .inl rfl, rfl, rfl⟩) se_int (dj_by rfl))) sa_nil (dj_by rfl)) (dj_by rfl)))))))
theorem ok_shared {P : Program} {w : World} {K : PySem.W.Frag} {mg : Str → Option Value} {base : Heap} {cs : List Addr} (mgf : MG mg) (D : DefAt K mg base cs "shared" S_shared)  : FD P w K mg base 2 "shared" (spD K (tabsT cs 3) F_shared) :=
  fd_d (k := 1) (N := ["one", "other", "number"]) (ps := ["one", "other"]) (nn := 1) D (by decide +kernel) rfl (fun _ _ _ _ _ _ us hl => match us, hl with | [_, _], _ => rfl) (fun _ => rfl) (fun f cc Pt A outer s H E hr ct => by
    have nd : (["one", "other", "number"] : List Str).Nodup := by decide
    have hT : ∀ H, TH (tabsT cs 3) H → TH (tabsT cs 3) H := fun _ h => h
    exact (ss_one (ss_ret (SE.q (se_tupG (ge_of (k := 0) (n := 3) hr rfl ct (nuG_no (by rfl)) nd (own := [("number", 2)]) (blkOk_by (by kernel_rfl)) rfl rfl (fun _ => rfl) (si_con (sc_own ⟨rfl, .inl rfl, rfl, rfl⟩)) (fun A A5 s H code fp T' Ss CI ip0 Tt O0 H0 hr hT' hct G => have hT : ∀ H, TH T' H → TH (tabsT cs 3) H := fun H h => hT H (hT' H h); have ⟨_, _, ct⟩ := hct 2 rfl; (lev_last G rfl rfl (fun _ => ⟨_, rfl⟩) (fun _ => rfl) (as1 := [2]) (mem_by rfl) (sg_name nd rfl (.inl rfl) (.inr rfl)) (sts_one (st_cmp (od_in (Room.u65 hr)) (se_v ⟨rfl, .inl rfl, rfl, rfl⟩) (se_v ⟨rfl, .inr (.inr rfl), rfl, rfl⟩) (dj_by rfl) rfl)) (se_v ⟨rfl, .inl rfl, rfl, rfl⟩)))) (by rfl) (by exact mgf.b_tuple) (by rfl))))))
theorem ok_join_of {P : Program} {w : World} {K : PySem.W.Frag} {mg : Str → Option Value} {base : Heap} {cs : List Addr} (mgf : MG mg) (D : DefAt K mg base cs "join_of" S_join_of) (ok_least_of : FD P w K mg base 3 "least_of" (spD K (tabsT cs 3) F_least_of)) (ok_shared : FD P w K mg base 2 "shared" (spD K (tabsT cs 3) F_shared)) : FD P w K mg base 4 "join_of" (spD K (tabsT cs 3) F_join_of) :=
  fd_d (k := 3) (N := ["lattice", "x", "y"]) (ps := ["lattice", "x", "y"]) (nn := 0) D (by decide +kernel) rfl (fun _ _ _ _ _ _ us hl => match us, hl with | [_, _, _], _ => rfl) (fun _ => rfl) (fun f cc Pt A outer s H E hr ct => by
    have nd : (["lattice", "x", "y"] : List Str).Nodup := by decide
    have hT : ∀ H, TH (tabsT cs 3) H → TH (tabsT cs 3) H := fun _ h => h
    exact (ss_one (ss_ret (SE.q (se_call ok_least_of hT (L2.Room.mono hr (by first | omega | decide)) (by rfl) (sa_cons (se_v ⟨rfl, .inl rfl, rfl, rfl⟩) (sa_cons (se_call ok_shared hT (L2.Room.mono hr (by first | omega | decide)) (by rfl) (sa_cons (se_ix (se_ix (se_v ⟨rfl, .inl rfl, rfl, rfl⟩) se_int (dj_by rfl)) (se_v ⟨rfl, .inl rfl, rfl, rfl⟩) (dj_by rfl)) (sa_cons (se_ix (se_ix (se_v ⟨rfl, .inl rfl, rfl, rfl⟩) se_int (dj_by rfl)) (se_v ⟨rfl, .inl rfl, rfl, rfl⟩) (dj_by rfl)) sa_nil (dj_by rfl)) (dj_by rfl))) sa_nil (dj_by rfl)) (dj_by rfl)))))))
theorem ok_meet_of {P : Program} {w : World} {K : PySem.W.Frag} {mg : Str → Option Value} {base : Heap} {cs : List Addr} (mgf : MG mg) (D : DefAt K mg base cs "meet_of" S_meet_of) (ok_join_of : FD P w K mg base 4 "join_of" (spD K (tabsT cs 3) F_join_of)) (ok_turned_over : FD P w K mg base 4 "turned_over" (spD K (tabsT cs 3) F_turned_over)) : FD P w K mg base 5 "meet_of" (spD K (tabsT cs 3) F_meet_of) :=
  fd_d (k := 4) (N := ["lattice", "x", "y"]) (ps := ["lattice", "x", "y"]) (nn := 0) D (by decide +kernel) rfl (fun _ _ _ _ _ _ us hl => match us, hl with | [_, _, _], _ => rfl) (fun _ => rfl) (fun f cc Pt A outer s H E hr ct => by
    have nd : (["lattice", "x", "y"] : List Str).Nodup := by decide
    have hT : ∀ H, TH (tabsT cs 3) H → TH (tabsT cs 3) H := fun _ h => h
    exact (ss_one (ss_ret (SE.q (se_call ok_join_of hT (L2.Room.mono hr (by first | omega | decide)) (by rfl) (sa_cons (se_call ok_turned_over hT (L2.Room.mono hr (by first | omega | decide)) (by rfl) (sa_cons (se_v ⟨rfl, .inl rfl, rfl, rfl⟩) sa_nil (dj_by rfl))) (sa_cons (se_v ⟨rfl, .inl rfl, rfl, rfl⟩) (sa_cons (se_v ⟨rfl, .inl rfl, rfl, rfl⟩) sa_nil (dj_by rfl)) (dj_by rfl)) (dj_by rfl)))))))
theorem ok_complements {P : Program} {w : World} {K : PySem.W.Frag} {mg : Str → Option Value} {base : Heap} {cs : List Addr} (mgf : MG mg) (D : DefAt K mg base cs "complements" S_complements) (ok_low_of : FD P w K mg base 4 "low_of" (spD K (tabsT cs 3) F_low_of)) (ok_high_of : FD P w K mg base 6 "high_of" (spD K (tabsT cs 3) F_high_of)) (ok_meet_of : FD P w K mg base 5 "meet_of" (spD K (tabsT cs 3) F_meet_of)) (ok_join_of : FD P w K mg base 4 "join_of" (spD K (tabsT cs 3) F_join_of)) : FD P w K mg base 8 "complements" (spD K (tabsT cs 3) F_complements) :=
  fd_d (k := 7) (N := ["lattice", "x", "low", "high", "y"]) (ps := ["lattice", "x"]) (nn := 3) D (by decide +kernel) rfl (fun _ _ _ _ _ _ us hl => match us, hl with | [_, _], _ => rfl) (fun _ => rfl) (fun f cc Pt A outer s H E hr ct => by
    have nd : (["lattice", "x", "low", "high", "y"] : List Str).Nodup := by decide
    have hT : ∀ H, TH (tabsT cs 3) H → TH (tabsT cs 3) H := fun _ h => h
    exact (ss_cons (ss_asg (SE.q (se_tup (sa_cons (se_call ok_low_of hT (L2.Room.mono hr (by first | omega | decide)) (by rfl) (sa_cons (se_v ⟨rfl, .inr (.inl rfl), rfl, rfl⟩) sa_nil (dj_by rfl))) (sa_cons (se_call ok_high_of hT (L2.Room.mono hr (by first | omega | decide)) (by rfl) (sa_cons (se_v ⟨rfl, .inr (.inl rfl), rfl, rfl⟩) sa_nil (dj_by rfl))) sa_nil (dj_by rfl)) (dj_by rfl)))) (sg_tup rfl (sgs_cons (sg_name nd rfl (.inr rfl) (.inl rfl)) (sgs_cons (sg_name nd rfl (.inr rfl) (.inl rfl)) sgs_nil)))) (ss_one (ss_ret (SE.q (se_tupG (ge_of (k := 6) (n := 3) hr rfl ct (nuG_no (by rfl)) nd (own := [("y", 4)]) (blkOk_by (by kernel_rfl)) rfl rfl (fun _ => rfl) (si_range1 (by rfl) (by exact mgf.b_range) (se_ix (se_v ⟨rfl, .inr (.inl rfl), rfl, rfl⟩) se_int (dj_by rfl))) (fun A A5 s H code fp T' Ss CI ip0 Tt O0 H0 hr hT' hct G => have hT : ∀ H, TH T' H → TH (tabsT cs 3) H := fun H h => hT H (hT' H h); have ⟨_, _, ct⟩ := hct 2 rfl; (lev_last G rfl rfl (fun _ => ⟨_, rfl⟩) (fun _ => rfl) (as1 := [4]) (mem_by rfl) (sg_name nd rfl (.inl rfl) (.inr rfl)) (sts_one (SW.st (sw_and (st_cmp (od_eq (Room.u65 hr)) (se_call ok_meet_of hT (L2.Room.mono hr (by first | omega | decide)) (by rfl) (sa_cons (se_v ⟨rfl, .inr (.inr rfl), rfl, rfl⟩) (sa_cons (se_v ⟨rfl, .inr (.inr rfl), rfl, rfl⟩) (sa_cons (se_v ⟨rfl, .inl rfl, rfl, rfl⟩) sa_nil (dj_by rfl)) (dj_by rfl)) (dj_by rfl))) (se_v ⟨rfl, .inr (.inr rfl), rfl, rfl⟩) (dj_by rfl) rfl) (sw_and1 (st_cmp (od_eq (Room.u65 hr)) (se_call ok_join_of hT (L2.Room.mono hr (by first | omega | decide)) (by rfl) (sa_cons (se_v ⟨rfl, .inr (.inr rfl), rfl, rfl⟩) (sa_cons (se_v ⟨rfl, .inr (.inr rfl), rfl, rfl⟩) (sa_cons (se_v ⟨rfl, .inl rfl, rfl, rfl⟩) sa_nil (dj_by rfl)) (dj_by rfl)) (dj_by rfl))) (se_v ⟨rfl, .inr (.inr rfl), rfl, rfl⟩) (dj_by rfl) rfl))))) (se_v ⟨rfl, .inl rfl, rfl, rfl⟩)))) (by rfl) (by exact mgf.b_tuple) (by rfl)))))))
theorem ok_within {P : Program} {w : World} {K : PySem.W.Frag} {mg : Str → Option Value} {base : Heap} {cs : List Addr} (mgf : MG mg) (D : DefAt K mg base cs "within" S_within) (ok_meet_of : FD P w K mg base 5 "meet_of" (spD K (tabsT cs 3) F_meet_of)) (ok_greatest_of : FD P w K mg base 5 "greatest_of" (spD K (tabsT cs 3) F_greatest_of)) : FD P w K mg base 7 "within" (spD K (tabsT cs 3) F_within) :=
  fd_d (k := 6) (N := ["lattice", "x", "y", "lot", "z"]) (ps := ["lattice", "x", "y"]) (nn := 2) D (by decide +kernel) rfl (fun _ _ _ _ _ _ us hl => match us, hl with | [_, _, _], _ => rfl) (fun _ => rfl) (fun f cc Pt A outer s H E hr ct => by
    have nd : (["lattice", "x", "y", "lot", "z"] : List Str).Nodup := by decide
    have hT : ∀ H, TH (tabsT cs 3) H → TH (tabsT cs 3) H := fun _ h => h
    exact (ss_cons (ss_set nd rfl (.inl rfl) (SE.q (se_tupG (ge_of (k := 5) (n := 3) hr rfl ct (nuG_no (by rfl)) nd (own := [("z", 4)]) (blkOk_by (by kernel_rfl)) rfl rfl (fun _ => rfl) (si_range1 (by rfl) (by exact mgf.b_range) (se_ix (se_v ⟨rfl, .inr (.inl rfl), rfl, rfl⟩) se_int (dj_by rfl))) (fun A A5 s H code fp T' Ss CI ip0 Tt O0 H0 hr hT' hct G => have hT : ∀ H, TH T' H → TH (tabsT cs 3) H := fun H h => hT H (hT' H h); have ⟨_, _, ct⟩ := hct 2 rfl; (lev_last G rfl rfl (fun _ => ⟨_, rfl⟩) (fun _ => rfl) (as1 := [4]) (mem_by rfl) (sg_name nd rfl (.inl rfl) (.inr rfl)) (sts_one (st_cmp (od_in (Room.u65 hr)) (se_v ⟨rfl, .inr (.inr rfl), rfl, rfl⟩) (se_ix (se_ix (se_v ⟨rfl, .inr (.inr rfl), rfl, rfl⟩) se_int (dj_by rfl)) (se_call ok_meet_of hT (L2.Room.mono hr (by first | omega | decide)) (by rfl) (sa_cons (se_v ⟨rfl, .inr (.inr rfl), rfl, rfl⟩) (sa_cons (se_v ⟨rfl, .inr (.inr rfl), rfl, rfl⟩) (sa_cons (se_v ⟨rfl, .inl rfl, rfl, rfl⟩) sa_nil (dj_by rfl)) (dj_by rfl)) (dj_by rfl))) (dj_by rfl)) (dj_by rfl) rfl)) (se_v ⟨rfl, .inl rfl, rfl, rfl⟩)))) (by rfl) (by exact mgf.b_tuple) (by rfl))) rfl (.inr rfl)) (ss_one (ss_ret (SE.q (se_call ok_greatest_of hT (L2.Room.mono hr (by first | omega | decide)) (by rfl) (sa_cons (se_v ⟨rfl, .inr (.inl rfl), rfl, rfl⟩) (sa_cons (se_v ⟨rfl, .inl rfl, rfl, rfl⟩) sa_nil (dj_by rfl)) (dj_by rfl))))))))
theorem ok_against {P : Program} {w : World} {K : PySem.W.Frag} {mg : Str → Option Value} {base : Heap} {cs : List Addr} (mgf : MG mg) (D : DefAt K mg base cs "against" S_against) (ok_within : FD P w K mg base 7 "within" (spD K (tabsT cs 3) F_within)) (ok_low_of : FD P w K mg base 4 "low_of" (spD K (tabsT cs 3) F_low_of)) : FD P w K mg base 8 "against" (spD K (tabsT cs 3) F_against) :=
  fd_d (k := 7) (N := ["lattice", "x"]) (ps := ["lattice", "x"]) (nn := 0) D (by decide +kernel) rfl (fun _ _ _ _ _ _ us hl => match us, hl with | [_, _], _ => rfl) (fun _ => rfl) (fun f cc Pt A outer s H E hr ct => by
    have nd : (["lattice", "x"] : List Str).Nodup := by decide
    have hT : ∀ H, TH (tabsT cs 3) H → TH (tabsT cs 3) H := fun _ h => h
    exact (ss_one (ss_ret (SE.q (se_call ok_within hT (L2.Room.mono hr (by first | omega | decide)) (by rfl) (sa_cons (se_v ⟨rfl, .inl rfl, rfl, rfl⟩) (sa_cons (se_v ⟨rfl, .inl rfl, rfl, rfl⟩) (sa_cons (se_call ok_low_of hT (L2.Room.mono hr (by first | omega | decide)) (by rfl) (sa_cons (se_v ⟨rfl, .inl rfl, rfl, rfl⟩) sa_nil (dj_by rfl))) sa_nil (dj_by rfl)) (dj_by rfl)) (dj_by rfl)))))))
theorem ok_decide_within {P : Program} {w : World} {K : PySem.W.Frag} {mg : Str → Option Value} {base : Heap} {cs : List Addr} (mgf : MG mg) (D : DefAt K mg base cs "decide_within" S_decide_within) (ok_within : FD P w K mg base 7 "within" (spD K (tabsT cs 3) F_within)) : FD P w K mg base 9 "decide_within" (spD K (tabsT cs 3) F_decide_within) :=
  fd_d (k := 8) (N := ["lattice", "rows", "x", "row", "y"]) (ps := ["lattice"]) (nn := 4) D (by decide +kernel) rfl (fun _ _ _ _ _ _ us hl => match us, hl with | [_], _ => rfl) (fun _ => rfl) (fun f cc Pt A outer s H E hr ct => by
    have nd : (["lattice", "rows", "x", "row", "y"] : List Str).Nodup := by decide
    have hT : ∀ H, TH (tabsT cs 3) H → TH (tabsT cs 3) H := fun _ h => h
    exact (ss_cons (ss_setO nd rfl (.inl rfl) (SF.q (sf_lst sa_nil)) rfl (.inr rfl)) (ss_cons (ss_for (fun _ _ z => z.elim) rfl (si_range1 (by rfl) (by exact mgf.b_range) (se_ix (se_v ⟨rfl, .inr (.inl rfl), rfl, rfl⟩) se_int (dj_by rfl))) (sg_name nd rfl (.inr rfl) (.inl rfl)) (ss_cons (ss_set nd rfl (.inl rfl) (SE.q (se_tupG (ge_of (k := 7) (n := 3) hr rfl ct (nuG_no (by rfl)) nd (own := [("y", 4)]) (blkOk_by (by kernel_rfl)) rfl rfl (fun _ => rfl) (si_range1 (by rfl) (by exact mgf.b_range) (se_ix (se_v ⟨rfl, .inr (.inl rfl), rfl, rfl⟩) se_int (dj_by rfl))) (fun A A5 s H code fp T' Ss CI ip0 Tt O0 H0 hr hT' hct G => have hT : ∀ H, TH T' H → TH (tabsT cs 3) H := fun H h => hT H (hT' H h); have ⟨_, _, ct⟩ := hct 2 rfl; (lev_last G rfl rfl (fun _ => ⟨_, rfl⟩) (fun _ => rfl) (as1 := [4]) (mem_by rfl) (sg_name nd rfl (.inl rfl) (.inr rfl)) sts_nil (se_call ok_within hT (L2.Room.mono hr (by first | omega | decide)) (by rfl) (sa_cons (se_v ⟨rfl, .inr (.inr rfl), rfl, rfl⟩) (sa_cons (se_v ⟨rfl, .inr (.inr rfl), rfl, rfl⟩) (sa_cons (se_v ⟨rfl, .inl rfl, rfl, rfl⟩) sa_nil (dj_by rfl)) (dj_by rfl)) (dj_by rfl)))))) (by rfl) (by exact mgf.b_tuple) (by rfl))) rfl (.inr rfl)) (ss_cons (ss_if (st_cmp (od_in (Room.u65 hr)) se_non (se_v ⟨rfl, .inl rfl, rfl, rfl⟩) (dj_by rfl) rfl) (ss_one (ss_ret (SE.q (se_tup (sa_cons se_str (sa_cons (se_v ⟨rfl, .inr (.inl rfl), rfl, rfl⟩) (sa_cons (se_indexB hr (se_v ⟨rfl, .inl rfl, rfl, rfl⟩) se_non (dj_by rfl)) sa_nil (dj_by rfl)) (dj_by rfl)) (dj_by rfl)))))) ss_nil) (ss_one (ss_app ⟨rfl, .inl rfl, rfl, rfl⟩ (se_v ⟨rfl, .inl rfl, rfl, rfl⟩))))) (dj_by rfl)) (ss_one (ss_ret (SE.q (se_tup (sa_cons se_str (sa_cons (se_tuple (sc_own ⟨rfl, .inl rfl, rfl, rfl⟩) (by rfl) (by exact mgf.b_tuple) (by rfl)) sa_nil (dj_by rfl)) (dj_by rfl)))))))))
theorem ok_law_is_distributive {P : Program} {w : World} {K : PySem.W.Frag} {mg : Str → Option Value} {base : Heap} {cs : List Addr} (mgf : MG mg) (D : DefAt K mg base cs "_law_is_distributive" S_law_is_distributive) (ok_law_joins : FD P w K mg base 3 "_law_joins" (spD K (tabsT cs 3) F_law_joins)) (ok_law_meets : FD P w K mg base 2 "_law_meets" (spD K (tabsT cs 3) F_law_meets)) : FD P w K mg base 4 "_law_is_distributive" (spD K (tabsT cs 3) F_law_is_distributive) :=
  fd_d (k := 3) (N := ["lattice", "joins", "meets", "x", "y", "z"]) (ps := ["lattice"]) (nn := 5) D (by decide +kernel) rfl (fun _ _ _ _ _ _ us hl => match us, hl with | [_], _ => rfl) (fun _ => rfl) (fun f cc Pt A outer s H E hr ct => by
    have nd : (["lattice", "joins", "meets", "x", "y", "z"] : List Str).Nodup := by decide
    have hT : ∀ H, TH (tabsT cs 3) H → TH (tabsT cs 3) H := fun _ h => h
    exact (ss_cons (ss_set nd rfl (.inl rfl) (SE.q (se_call ok_law_joins hT (L2.Room.mono hr (by first | omega | decide)) (by rfl) (sa_cons (se_v ⟨rfl, .inl rfl, rfl, rfl⟩) sa_nil (dj_by rfl)))) rfl (.inr rfl)) (ss_cons (ss_set nd rfl (.inl rfl) (SE.q (se_call ok_law_meets hT (L2.Room.mono hr (by first | omega | decide)) (by rfl) (sa_cons (se_v ⟨rfl, .inl rfl, rfl, rfl⟩) sa_nil (dj_by rfl)))) rfl (.inr rfl)) (ss_cons (ss_for (fun _ _ z => z.elim) rfl (si_range1 (by rfl) (by exact mgf.b_range) (se_ix (se_v ⟨rfl, .inl rfl, rfl, rfl⟩) se_int (dj_by rfl))) (sg_name nd rfl (.inl rfl) (.inr rfl)) (ss_one (ss_for (fun _ _ z => z.elim) rfl (si_range1 (by rfl) (by exact mgf.b_range) (se_ix (se_v ⟨rfl, .inl rfl, rfl, rfl⟩) se_int (dj_by rfl))) (sg_name nd rfl (.inl rfl) (.inr rfl)) (ss_one (ss_for (fun _ _ z => z.elim) rfl (si_range1 (by rfl) (by exact mgf.b_range) (se_ix (se_v ⟨rfl, .inl rfl, rfl, rfl⟩) se_int (dj_by rfl))) (sg_name nd rfl (.inl rfl) (.inr rfl)) (ss_one (ss_if (st_cmp (od_ne (Room.u65 hr)) (se_ix (se_ix (se_v ⟨rfl, .inl rfl, rfl, rfl⟩) (se_v ⟨rfl, .inl rfl, rfl, rfl⟩) (dj_by rfl)) (se_ix (se_ix (se_v ⟨rfl, .inl rfl, rfl, rfl⟩) (se_v ⟨rfl, .inl rfl, rfl, rfl⟩) (dj_by rfl)) (se_v ⟨rfl, .inl rfl, rfl, rfl⟩) (dj_by rfl)) (dj_by rfl)) (se_ix (se_ix (se_v ⟨rfl, .inl rfl, rfl, rfl⟩) (se_ix (se_ix (se_v ⟨rfl, .inl rfl, rfl, rfl⟩) (se_v ⟨rfl, .inl rfl, rfl, rfl⟩) (dj_by rfl)) (se_v ⟨rfl, .inl rfl, rfl, rfl⟩) (dj_by rfl)) (dj_by rfl)) (se_ix (se_ix (se_v ⟨rfl, .inl rfl, rfl, rfl⟩) (se_v ⟨rfl, .inl rfl, rfl, rfl⟩) (dj_by rfl)) (se_v ⟨rfl, .inl rfl, rfl, rfl⟩) (dj_by rfl)) (dj_by rfl)) (dj_by rfl) rfl) (ss_one (ss_ret se_bl)) ss_nil)) (dj_by rfl))) (dj_by rfl))) (dj_by rfl)) (ss_one (ss_ret se_bl))))))
theorem ok_law_pairs {P : Program} {w : World} {K : PySem.W.Frag} {mg : Str → Option Value} {base : Heap} {cs : List Addr} (mgf : MG mg) (D : DefAt K mg base cs "_law_pairs" S_law_pairs)  : FD P w K mg base 1 "_law_pairs" (spD K (tabsT cs 3) F_law_pairs) :=
  fd_d (k := 0) (N := ["order", "found", "x", "y"]) (ps := ["order"]) (nn := 3) D (by decide +kernel) rfl (fun _ _ _ _ _ _ us hl => match us, hl with | [_], _ => rfl) (fun _ => rfl) (fun f cc Pt A outer s H E hr ct => by
    have nd : (["order", "found", "x", "y"] : List Str).Nodup := by decide
    have hT : ∀ H, TH (tabsT cs 3) H → TH (tabsT cs 3) H := fun _ h => h
    exact (ss_cons (ss_set nd rfl (.inl rfl) (SE.q (SF.se (sf_lst sa_nil))) rfl (.inr rfl)) (ss_cons (ss_for (fun _ _ z => z.elim) rfl (si_range1 (by rfl) (by exact mgf.b_range) (se_ix (se_v ⟨rfl, .inl rfl, rfl, rfl⟩) se_int (dj_by rfl))) (sg_name nd rfl (.inr rfl) (.inl rfl)) (ss_one (ss_set nd rfl (.inl rfl) (SE.q (se_bin od_add (se_v ⟨rfl, .inl rfl, rfl, rfl⟩) (SF.se (sf_lc (own := [("y", 3)]) (as1 := [3]) rfl nd  (si_con (sc_val (se_ix (se_ix (se_v ⟨rfl, .inl rfl, rfl, rfl⟩) se_int (dj_by rfl)) (se_v ⟨rfl, .inr (.inl rfl), rfl, rfl⟩) (dj_by rfl)))) (blkOk_by (by kernel_rfl)) (mem_by rfl) (fun _ _ _ _ _ => (sg_name nd rfl (.inl rfl) (.inr rfl))) (fun _ _ _ _ _ => (sts_one (st_cmp (od_ne (Room.u65 hr)) (se_v ⟨rfl, .inl rfl, rfl, rfl⟩) (se_v ⟨rfl, .inr (.inl rfl), rfl, rfl⟩) (dj_by rfl) rfl))) (fun _ _ _ _ _ => (se_tup (sa_cons (se_v ⟨rfl, .inr (.inl rfl), rfl, rfl⟩) (sa_cons (se_v ⟨rfl, .inl rfl, rfl, rfl⟩) sa_nil (dj_by rfl)) (dj_by rfl)))) (dj_by rfl) (dj_by rfl))) (dj_by rfl))) rfl (.inr rfl))) (dj_by rfl)) (ss_one (ss_ret (se_v ⟨rfl, .inl rfl, rfl, rfl⟩))))))
theorem ok_law_steps {P : Program} {w : World} {K : PySem.W.Frag} {mg : Str → Option Value} {base : Heap} {cs : List Addr} (mgf : MG mg) (D : DefAt K mg base cs "_law_steps" S_law_steps) (ok_law_pairs : FD P w K mg base 1 "_law_pairs" (spD K (tabsT cs 3) F_law_pairs)) : FD P w K mg base 2 "_law_steps" (spD K (tabsT cs 3) F_law_steps) :=
  fd_d (k := 1) (N := ["order", "pairs", "found", "x", "y", "z"]) (ps := ["order"]) (nn := 5) D (by decide +kernel) rfl (fun _ _ _ _ _ _ us hl => match us, hl with | [_], _ => rfl) (fun _ => rfl) (fun f cc Pt A outer s H E hr ct => by
    have nd : (["order", "pairs", "found", "x", "y", "z"] : List Str).Nodup := by decide
    have hT : ∀ H, TH (tabsT cs 3) H → TH (tabsT cs 3) H := fun _ h => h
    exact (ss_cons (ss_set nd rfl (.inr rfl) (SE.q (se_call ok_law_pairs hT (L2.Room.mono hr (by first | omega | decide)) (by rfl) (sa_cons (se_v ⟨rfl, .inl rfl, rfl, rfl⟩) sa_nil (dj_by rfl)))) rfl (.inl rfl)) (ss_cons (ss_setO nd rfl (.inl rfl) (SF.q (sf_lst sa_nil)) rfl (.inr rfl)) (ss_cons (ss_for (fun _ _ z => z.elim) rfl (si_con (sc_own ⟨rfl, .inr (.inl rfl), rfl, rfl⟩)) (sg_tup rfl (sgs_cons (sg_name nd rfl (.inr rfl) (.inl rfl)) (sgs_cons (sg_name nd rfl (.inr rfl) (.inl rfl)) sgs_nil))) (ss_one (ss_if (st_cmp (od_eq (Room.u65 hr)) (se_len (sc_new (sf_lc (own := [("z", 5)]) (as1 := [5]) rfl nd  (si_range1 (by rfl) (by exact mgf.b_range) (se_ix (se_v ⟨rfl, .inl rfl, rfl, rfl⟩) se_int (dj_by rfl))) (blkOk_by (by kernel_rfl)) (mem_by rfl) (fun _ _ _ _ _ => (sg_name nd rfl (.inl rfl) (.inr rfl))) (fun _ _ _ _ _ => (sts_one (SW.st (sw_and (st_cmp (od_in (Room.u65 hr)) (se_tup (sa_cons (se_v ⟨rfl, .inr (.inl rfl), rfl, rfl⟩) (sa_cons (se_v ⟨rfl, .inl rfl, rfl, rfl⟩) sa_nil (dj_by rfl)) (dj_by rfl))) (se_v ⟨rfl, .inr (.inl rfl), rfl, rfl⟩) (dj_by rfl) rfl) (sw_and1 (st_cmp (od_in (Room.u65 hr)) (se_tup (sa_cons (se_v ⟨rfl, .inl rfl, rfl, rfl⟩) (sa_cons (se_v ⟨rfl, .inr (.inl rfl), rfl, rfl⟩) sa_nil (dj_by rfl)) (dj_by rfl))) (se_v ⟨rfl, .inr (.inl rfl), rfl, rfl⟩) (dj_by rfl) rfl)))))) (fun _ _ _ _ _ => (se_v ⟨rfl, .inl rfl, rfl, rfl⟩)) (dj_by rfl) (dj_by rfl))) (by rfl) (by exact mgf.b_len) (by rfl)) se_int (dj_by rfl) rfl) (ss_one (ss_app ⟨rfl, .inl rfl, rfl, rfl⟩ (SE.q (se_tup (sa_cons (se_v ⟨rfl, .inr (.inl rfl), rfl, rfl⟩) (sa_cons (se_v ⟨rfl, .inr (.inl rfl), rfl, rfl⟩) sa_nil (dj_by rfl)) (dj_by rfl)))))) ss_nil)) (dj_by rfl)) (ss_one (ss_ret (se_o ⟨rfl, .inl rfl, rfl, rfl⟩)))))))
theorem ok_atoms {P : Program} {w : World} {K : PySem.W.Frag} {mg : Str → Option Value} {base : Heap} {cs : List Addr} (mgf : MG mg) (D : DefAt K mg base cs "atoms" S_atoms) (ok_low_of : FD P w K mg base 4 "low_of" (spD K (tabsT cs 3) F_low_of)) : FD P w K mg base 7 "atoms" (spD K (tabsT cs 3) F_atoms) :=
  fd_d (k := 6) (N := ["lattice", "low", "x", "y"]) (ps := ["lattice"]) (nn := 3) D (by decide +kernel) rfl (fun _ _ _ _ _ _ us hl => match us, hl with | [_], _ => rfl) (fun _ => rfl) (fun f cc Pt A outer s H E hr ct => by
    have nd : (["lattice", "low", "x", "y"] : List Str).Nodup := by decide
    have hT : ∀ H, TH (tabsT cs 3) H → TH (tabsT cs 3) H := fun _ h => h
    exact (ss_cons (ss_set nd rfl (.inr rfl) (SE.q (se_call ok_low_of hT (L2.Room.mono hr (by first | omega | decide)) (by rfl) (sa_cons (se_v ⟨rfl, .inr (.inl rfl), rfl, rfl⟩) sa_nil (dj_by rfl)))) rfl (.inl rfl)) (ss_one (ss_ret (SE.q (se_tupG (ge_of (k := 5) (n := 3) hr rfl ct (nuG_no (by rfl)) nd (own := [("x", 2)]) (blkOk_by (by kernel_rfl)) rfl rfl (fun _ => rfl) (si_range1 (by rfl) (by exact mgf.b_range) (se_ix (se_v ⟨rfl, .inr (.inl rfl), rfl, rfl⟩) se_int (dj_by rfl))) (fun A A5 s H code fp T' Ss CI ip0 Tt O0 H0 hr hT' hct G => have hT : ∀ H, TH T' H → TH (tabsT cs 3) H := fun H h => hT H (hT' H h); have ⟨_, _, ct⟩ := hct 2 rfl; (lev_last G rfl rfl (fun _ => ⟨_, rfl⟩) (fun _ => rfl) (as1 := [2]) (mem_by rfl) (sg_name nd rfl (.inr rfl) (.inl rfl)) (sts_one (SW.st (sw_and (st_cmp (od_ne (Room.u65 hr)) (se_v ⟨rfl, .inr (.inl rfl), rfl, rfl⟩) (se_v ⟨rfl, .inr (.inr rfl), rfl, rfl⟩) (dj_by rfl) rfl) (sw_and1 (st_not (st_bool (se_any (ge_of (k := 4) (n := 2) hr rfl ct (nuG_no (by rfl)) nd (own := [("y", 3)]) (blkOk_by (by kernel_rfl)) rfl rfl (fun _ => rfl) (si_con (sc_val (se_ix (se_ix (se_v ⟨rfl, .inr (.inr rfl), rfl, rfl⟩) se_int (dj_by rfl)) (se_v ⟨rfl, .inr (.inr rfl), rfl, rfl⟩) (dj_by rfl)))) (fun A A5 s H code fp T' Ss CI ip0 Tt O0 H0 hr hT' hct G => have hT : ∀ H, TH T' H → TH (tabsT cs 3) H := fun H h => hT H (hT' H h); have ⟨_, _, ct⟩ := hct 1 rfl; (lev_last G rfl rfl (fun _ => ⟨_, rfl⟩) (fun _ => rfl) (as1 := [3]) (mem_by rfl) (sg_name nd rfl (.inl rfl) (.inr rfl)) sts_nil (SB.se (sb_and (sb_cmp (od_nin (Room.u65 hr)) (se_v ⟨rfl, .inl rfl, rfl, rfl⟩) (se_tup (sa_cons (se_v ⟨rfl, .inr (.inr rfl), rfl, rfl⟩) (sa_cons (se_v ⟨rfl, .inr (.inr rfl), rfl, rfl⟩) sa_nil (dj_by rfl)) (dj_by rfl))) (dj_by rfl) rfl) (sb_one (sb_cmp (od_in (Room.u65 hr)) (se_v ⟨rfl, .inr (.inr rfl), rfl, rfl⟩) (se_ix (se_ix (se_v ⟨rfl, .inr (.inr rfl), rfl, rfl⟩) se_int (dj_by rfl)) (se_v ⟨rfl, .inl rfl, rfl, rfl⟩) (dj_by rfl)) (dj_by rfl) rfl))))))) (by rfl) (by exact mgf.b_any)))))))) (se_v ⟨rfl, .inr (.inl rfl), rfl, rfl⟩)))) (by rfl) (by exact mgf.b_tuple) (by rfl)))))))
theorem ok_join_all {P : Program} {w : World} {K : PySem.W.Frag} {mg : Str → Option Value} {base : Heap} {cs : List Addr} (mgf : MG mg) (D : DefAt K mg base cs "join_all" S_join_all) (ok_low_of : FD P w K mg base 4 "low_of" (spD K (tabsT cs 3) F_low_of)) (ok_join_of : FD P w K mg base 4 "join_of" (spD K (tabsT cs 3) F_join_of)) : FD P w K mg base 5 "join_all" (spD K (tabsT cs 3) F_join_all) :=
  fd_d (k := 4) (N := ["lattice", "lot", "found", "x"]) (ps := ["lattice", "lot"]) (nn := 2) D (by decide +kernel) rfl (fun _ _ _ _ _ _ us hl => match us, hl with | [_, _], _ => rfl) (fun _ => rfl) (fun f cc Pt A outer s H E hr ct => by
    have nd : (["lattice", "lot", "found", "x"] : List Str).Nodup := by decide
    have hT : ∀ H, TH (tabsT cs 3) H → TH (tabsT cs 3) H := fun _ h => h
    exact (ss_cons (ss_set nd rfl (.inl rfl) (SE.q (se_call ok_low_of hT (L2.Room.mono hr (by first | omega | decide)) (by rfl) (sa_cons (se_v ⟨rfl, .inl rfl, rfl, rfl⟩) sa_nil (dj_by rfl)))) rfl (.inr rfl)) (ss_cons (ss_for (fun _ _ z => z.elim) rfl (si_con (sc_own ⟨rfl, .inl rfl, rfl, rfl⟩)) (sg_name nd rfl (.inl rfl) (.inr rfl)) (ss_one (ss_set nd rfl (.inl rfl) (SE.q (se_call ok_join_of hT (L2.Room.mono hr (by first | omega | decide)) (by rfl) (sa_cons (se_v ⟨rfl, .inl rfl, rfl, rfl⟩) (sa_cons (se_v ⟨rfl, .inl rfl, rfl, rfl⟩) (sa_cons (se_v ⟨rfl, .inl rfl, rfl, rfl⟩) sa_nil (dj_by rfl)) (dj_by rfl)) (dj_by rfl)))) rfl (.inr rfl))) (dj_by rfl)) (ss_one (ss_ret (se_v ⟨rfl, .inl rfl, rfl, rfl⟩))))))
theorem ok_atoms_below {P : Program} {w : World} {K : PySem.W.Frag} {mg : Str → Option Value} {base : Heap} {cs : List Addr} (mgf : MG mg) (D : DefAt K mg base cs "atoms_below" S_atoms_below) (ok_atoms : FD P w K mg base 7 "atoms" (spD K (tabsT cs 3) F_atoms)) : FD P w K mg base 9 "atoms_below" (spD K (tabsT cs 3) F_atoms_below) :=
  fd_d (k := 8) (N := ["lattice", "x", "own"]) (ps := ["lattice", "x"]) (nn := 1) D (by decide +kernel) rfl (fun _ _ _ _ _ _ us hl => match us, hl with | [_, _], _ => rfl) (fun _ => rfl) (fun f cc Pt A outer s H E hr ct => by
    have nd : (["lattice", "x", "own"] : List Str).Nodup := by decide
    have hT : ∀ H, TH (tabsT cs 3) H → TH (tabsT cs 3) H := fun _ h => h
    exact (ss_one (ss_ret (SE.q (se_tupG (ge_of (k := 7) (n := 3) hr rfl ct (nuG_no (by rfl)) nd (own := [("own", 2)]) (blkOk_by (by kernel_rfl)) rfl rfl (fun _ => rfl) (si_con (sc_val (se_call ok_atoms hT (L2.Room.mono hr (by first | omega | decide)) (by rfl) (sa_cons (se_v ⟨rfl, .inr (.inl rfl), rfl, rfl⟩) sa_nil (dj_by rfl))))) (fun A A5 s H code fp T' Ss CI ip0 Tt O0 H0 hr hT' hct G => have hT : ∀ H, TH T' H → TH (tabsT cs 3) H := fun H h => hT H (hT' H h); have ⟨_, _, ct⟩ := hct 2 rfl; (lev_last G rfl rfl (fun _ => ⟨_, rfl⟩) (fun _ => rfl) (as1 := [2]) (mem_by rfl) (sg_name nd rfl (.inl rfl) (.inr rfl)) (sts_one (st_cmp (od_in (Room.u65 hr)) (se_v ⟨rfl, .inr (.inr rfl), rfl, rfl⟩) (se_ix (se_ix (se_v ⟨rfl, .inr (.inr rfl), rfl, rfl⟩) se_int (dj_by rfl)) (se_v ⟨rfl, .inl rfl, rfl, rfl⟩) (dj_by rfl)) (dj_by rfl) rfl)) (se_v ⟨rfl, .inl rfl, rfl, rfl⟩)))) (by rfl) (by exact mgf.b_tuple) (by rfl))))))
theorem ok_is_of_sets {P : Program} {w : World} {K : PySem.W.Frag} {mg : Str → Option Value} {base : Heap} {cs : List Addr} (mgf : MG mg) (D : DefAt K mg base cs "is_of_sets" S_is_of_sets) (ok_atoms : FD P w K mg base 7 "atoms" (spD K (tabsT cs 3) F_atoms)) (ok_join_all : FD P w K mg base 5 "join_all" (spD K (tabsT cs 3) F_join_all)) (ok_atoms_below : FD P w K mg base 9 "atoms_below" (spD K (tabsT cs 3) F_atoms_below)) : FD P w K mg base 11 "is_of_sets" (spD K (tabsT cs 3) F_is_of_sets) :=
  fd_d (k := 10) (N := ["lattice", "many", "_", "x"]) (ps := ["lattice"]) (nn := 3) D (by decide +kernel) rfl (fun _ _ _ _ _ _ us hl => match us, hl with | [_], _ => rfl) (fun _ => rfl) (fun f cc Pt A outer s H E hr ct => by
    have nd : (["lattice", "many", "_", "x"] : List Str).Nodup := by decide
    have hT : ∀ H, TH (tabsT cs 3) H → TH (tabsT cs 3) H := fun _ h => h
    exact (ss_cons (ss_set nd rfl (.inl rfl) se_int rfl (.inr rfl)) (ss_cons (ss_for (fun _ _ z => z.elim) rfl (si_con (sc_val (se_call ok_atoms hT (L2.Room.mono hr (by first | omega | decide)) (by rfl) (sa_cons (se_v ⟨rfl, .inr (.inl rfl), rfl, rfl⟩) sa_nil (dj_by rfl))))) (sg_name nd rfl (.inl rfl) (.inr rfl)) (ss_one (ss_aug nd rfl (.inl rfl) iod_mul (SE.q (rs := []) (ch := []) se_int) (.inr rfl))) (dj_by rfl)) (ss_one (ss_ret (SE.q (SB.se (sb_and (sb_cmp (od_eq (Room.u65 hr)) (se_v ⟨rfl, .inl rfl, rfl, rfl⟩) (se_ix (se_v ⟨rfl, .inr (.inl rfl), rfl, rfl⟩) se_int (dj_by rfl)) (dj_by rfl) rfl) (sb_one (sb_of (se_all (ge_of (k := 9) (n := 3) hr rfl ct (nuG_no (by rfl)) nd (own := [("x", 3)]) (blkOk_by (by kernel_rfl)) rfl rfl (fun _ => rfl) (si_range1 (by rfl) (by exact mgf.b_range) (se_ix (se_v ⟨rfl, .inr (.inl rfl), rfl, rfl⟩) se_int (dj_by rfl))) (fun A A5 s H code fp T' Ss CI ip0 Tt O0 H0 hr hT' hct G => have hT : ∀ H, TH T' H → TH (tabsT cs 3) H := fun H h => hT H (hT' H h); have ⟨_, _, ct⟩ := hct 2 rfl; (lev_last G rfl rfl (fun _ => ⟨_, rfl⟩) (fun _ => rfl) (as1 := [3]) (mem_by rfl) (sg_name nd rfl (.inl rfl) (.inr rfl)) sts_nil (se_cmp (od_eq (Room.u65 hr)) (se_call ok_join_all hT (L2.Room.mono hr (by first | omega | decide)) (by rfl) (SA.q (rs := []) (ch := []) (sa_cons (se_v ⟨rfl, .inr (.inr rfl), rfl, rfl⟩) (sa_cons (se_call ok_atoms_below hT (L2.Room.mono hr (by first | omega | decide)) (by rfl) (sa_cons (se_v ⟨rfl, .inr (.inr rfl), rfl, rfl⟩) (sa_cons (se_v ⟨rfl, .inl rfl, rfl, rfl⟩) sa_nil (dj_by rfl)) (dj_by rfl))) sa_nil (dj_by rfl)) (dj_by rfl)))) (se_v ⟨rfl, .inl rfl, rfl, rfl⟩) (dj_by rfl) rfl)))) (by rfl) (by exact mgf.b_all) (by rfl))))))))))))
theorem ok_law_all_lots {P : Program} {w : World} {K : PySem.W.Frag} {mg : Str → Option Value} {base : Heap} {cs : List Addr} (mgf : MG mg) (D : DefAt K mg base cs "_law_all_lots" S_law_all_lots)  : FD P w K mg base 1 "_law_all_lots" (spD K (tabsT cs 3) F_law_all_lots) :=
  fd_d (k := 0) (N := ["many", "lots", "k", "lot"]) (ps := ["many"]) (nn := 3) D (by decide +kernel) rfl (fun _ _ _ _ _ _ us hl => match us, hl with | [_], _ => rfl) (fun _ => rfl) (fun f cc Pt A outer s H E hr ct => by
    have nd : (["many", "lots", "k", "lot"] : List Str).Nodup := by decide
    have hT : ∀ H, TH (tabsT cs 3) H → TH (tabsT cs 3) H := fun _ h => h
    exact (ss_cons (ss_set nd rfl (.inl rfl) (SE.q (SF.se (sf_lst (sa_cons (se_tup sa_nil) sa_nil (dj_by rfl))))) rfl (.inr rfl)) (ss_cons (ss_for (fun _ _ z => z.elim) rfl (si_range1 (by rfl) (by exact mgf.b_range) (se_v ⟨rfl, .inl rfl, rfl, rfl⟩)) (sg_name nd rfl (.inr rfl) (.inl rfl)) (ss_one (ss_set nd rfl (.inl rfl) (SE.q (se_bin od_add (se_v ⟨rfl, .inl rfl, rfl, rfl⟩) (SF.se (sf_lc (own := [("lot", 3)]) (as1 := [3]) rfl nd  (si_con (sc_own ⟨rfl, .inl rfl, rfl, rfl⟩)) (blkOk_by (by kernel_rfl)) (mem_by rfl) (fun _ _ _ _ _ => (sg_name nd rfl (.inl rfl) (.inr rfl))) (fun _ _ _ _ _ => sts_nil) (fun _ _ _ _ _ => (se_bin od_add (se_v ⟨rfl, .inl rfl, rfl, rfl⟩) (se_tup (sa_cons (se_v ⟨rfl, .inr (.inl rfl), rfl, rfl⟩) sa_nil (dj_by rfl))) (dj_by rfl))) (dj_by rfl) (dj_by rfl))) (dj_by rfl))) rfl (.inr rfl))) (dj_by rfl)) (ss_one (ss_ret (se_v ⟨rfl, .inl rfl, rfl, rfl⟩))))))
def fnl : List He.DefD := [dOf "_law_cell" S_law_cell, dOf "_law_digits" S_law_digits, dOf "_law_box" S_law_box, dOf "_law_lectic" S_law_lectic, dOf "_law_subsets" S_law_subsets, dOf "_law_common" S_law_common, dOf "_law_inside" S_law_inside, dOf "_law_having" S_law_having, dOf "_law_closure" S_law_closure, dOf "_law_closed" S_law_closed, dOf "_law_draw" S_law_draw, dOf "_law_some" S_law_some, dOf "_law_table" S_law_table, dOf "_law_mixed_order" S_law_mixed_order, dOf "_law_lattice" S_law_lattice, dOf "has_bits" S_has_bits, dOf "cubes" S_cubes, dOf "_law_low" S_law_low, dOf "_law_high" S_law_high, dOf "_law_best" S_law_best, dOf "_law_join" S_law_join, dOf "_law_joins" S_law_joins, dOf "_law_meet" S_law_meet, dOf "_law_meets" S_law_meets, dOf "_law_same" S_law_same, dOf "is_part" S_is_part, dOf "least_of" S_least_of, dOf "low_of" S_low_of, dOf "below_of" S_below_of, dOf "turned_over" S_turned_over, dOf "greatest_of" S_greatest_of, dOf "high_of" S_high_of, dOf "shared" S_shared, dOf "join_of" S_join_of, dOf "meet_of" S_meet_of, dOf "complements" S_complements, dOf "within" S_within, dOf "against" S_against, dOf "decide_within" S_decide_within, dOf "_law_is_distributive" S_law_is_distributive, dOf "_law_pairs" S_law_pairs, dOf "_law_steps" S_law_steps, dOf "atoms" S_atoms, dOf "join_all" S_join_all, dOf "atoms_below" S_atoms_below, dOf "is_of_sets" S_is_of_sets, dOf "_law_all_lots" S_law_all_lots, dOf "law" S_law]
def fal : List He.Fa := [.glo "_law_cell", .glo "_law_digits", .glo "_law_box", .glo "_law_lectic", .glo "_law_subsets", .glo "_law_common", .glo "_law_inside", .glo "_law_having", .glo "_law_closure", .glo "_law_closed", .glo "_law_draw", .glo "_law_some", .glo "_law_table", .glo "_law_mixed_order", .glo "_law_lattice", .glo "has_bits", .glo "cubes", .glo "_law_low", .glo "_law_high", .glo "_law_best", .glo "_law_join", .glo "_law_joins", .glo "_law_meet", .glo "_law_meets", .glo "_law_same", .glo "is_part", .glo "least_of", .glo "low_of", .glo "below_of", .glo "turned_over", .glo "greatest_of", .glo "high_of", .glo "shared", .glo "join_of", .glo "meet_of", .glo "complements", .glo "within", .glo "against", .glo "decide_within", .glo "_law_is_distributive", .glo "_law_pairs", .glo "_law_steps", .glo "atoms", .glo "join_all", .glo "atoms_below", .glo "is_of_sets", .glo "_law_all_lots", .glo "law", .free "all", .free "any", .free "bool", .free "int", .free "isinstance", .free "len", .free "list", .free "range", .free "sorted", .free "str", .free "tuple"]
def tfl : List He.Defn := [(("_law_cell" : Str), none), (("_law_digits" : Str), none), (("_law_box" : Str), none), (("_law_lectic" : Str), none), (("_law_subsets" : Str), none), (("_law_common" : Str), none), (("_law_inside" : Str), none), (("_law_having" : Str), none), (("_law_closure" : Str), none), (("_law_closed" : Str), none), (("_law_draw" : Str), none), (("_law_some" : Str), none), (("_law_table" : Str), none), (("_law_mixed_order" : Str), none), (("_law_lattice" : Str), none), (("has_bits" : Str), none), (("cubes" : Str), none), (("_law_low" : Str), none), (("_law_high" : Str), none), (("_law_best" : Str), none), (("_law_join" : Str), none), (("_law_joins" : Str), none), (("_law_meet" : Str), none), (("_law_meets" : Str), none), (("_law_same" : Str), none), (("is_part" : Str), none), (("least_of" : Str), none), (("low_of" : Str), none), (("below_of" : Str), none), (("turned_over" : Str), none), (("greatest_of" : Str), none), (("high_of" : Str), none), (("shared" : Str), none), (("join_of" : Str), none), (("meet_of" : Str), none), (("complements" : Str), none), (("within" : Str), none), (("against" : Str), none), (("decide_within" : Str), none), (("_law_is_distributive" : Str), none), (("_law_pairs" : Str), none), (("_law_steps" : Str), none), (("atoms" : Str), none), (("join_all" : Str), none), (("atoms_below" : Str), none), (("is_of_sets" : Str), none), (("_law_all_lots" : Str), none), (("law" : Str), none)]
theorem lawAt {w : World} {h : Heap} {mg : Str → Option Value} {fl : Addr} {K : PySem.W.Frag} (KX : K.In h) (c : SaysL fal fnl tfl h K) (G : h.Ns mainGlobals mg) (hfa : mg "law" = some (.ref fl))
    (hlaw : ∀ ns : List Int, ns.length ≤ 63 → (∀ z ∈ ns, Builtin.Int.intBits z ≤ 1048576) → F_law [.list (ns.map .int)] = some (.bool true)) : LamX.LawAtS PySem.Challenge.rw_latticehouse_k64_complements_and_what_is w K CX0 41 63 "script" mg fl h := by
  have mgf : MG mg := ⟨He.free_ok KX G (c.d.fact 48 (f := .free "all") rfl), He.free_ok KX G (c.d.fact 49 (f := .free "any") rfl), He.free_ok KX G (c.d.fact 50 (f := .free "bool") rfl), He.free_ok KX G (c.d.fact 51 (f := .free "int") rfl), He.free_ok KX G (c.d.fact 52 (f := .free "isinstance") rfl), He.free_ok KX G (c.d.fact 53 (f := .free "len") rfl), He.free_ok KX G (c.d.fact 54 (f := .free "list") rfl), He.free_ok KX G (c.d.fact 55 (f := .free "range") rfl), He.free_ok KX G (c.d.fact 56 (f := .free "sorted") rfl), He.free_ok KX G (c.d.fact 57 (f := .free "str") rfl), He.free_ok KX G (c.d.fact 58 (f := .free "tuple") rfl)⟩
  exact lawAt_of (st := S_law) (i := 47) (j := 47) (nn := 23) (k := 40) (nd := 3) (N := ["script", "box", "lattice", "low", "high", "joins", "meets", "many", "rows", "x", "due", "row", "y", "lot", "best", "none", "steps", "firsts", "whole", "size", "cube", "lots", "z", "w"]) (body := B_law) (F := F_law) KX c G hfa rfl rfl (List.mem_of_getElem? (i := 47) rfl) (by decide +kernel) rfl (fun _ _ _ _ _ _ us hl => match us, hl with | [_], _ => rfl) (fun _ => rfl) (fun base hKb hNs TB f cc Pt A outer s H E hr ct => by
    generalize hcs : (tfl.map (He.cT K)).map (·.2) = cs at ct ⊢
    have DA : ∀ (x : Str) (st : Stmt) (i : Nat), fnl[i]? = some (dOf x st) → fal[i]? = some (.glo x) → tfl[i]? = some (x, none) → DefAt K mg base cs x st := fun x st i h1 h2 h3 => hcs ▸ defAt_of (base := base) c KX G TB h1 h2 (List.mem_of_getElem? h3)
    have ok_law_cell := ok_law_cell (P := PySem.Challenge.rw_latticehouse_k64_complements_and_what_is.prog) (w := w) mgf (DA "_law_cell" S_law_cell 0 rfl rfl rfl)
    have ok_law_digits := ok_law_digits (P := PySem.Challenge.rw_latticehouse_k64_complements_and_what_is.prog) (w := w) mgf (DA "_law_digits" S_law_digits 1 rfl rfl rfl) ok_law_cell
    have ok_law_box := ok_law_box (P := PySem.Challenge.rw_latticehouse_k64_complements_and_what_is.prog) (w := w) mgf (DA "_law_box" S_law_box 2 rfl rfl rfl) ok_law_digits
    have ok_law_lectic := ok_law_lectic (P := PySem.Challenge.rw_latticehouse_k64_complements_and_what_is.prog) (w := w) mgf (DA "_law_lectic" S_law_lectic 3 rfl rfl rfl)
    have ok_law_subsets := ok_law_subsets (P := PySem.Challenge.rw_latticehouse_k64_complements_and_what_is.prog) (w := w) mgf (DA "_law_subsets" S_law_subsets 4 rfl rfl rfl) ok_law_lectic
    have ok_law_common := ok_law_common (P := PySem.Challenge.rw_latticehouse_k64_complements_and_what_is.prog) (w := w) mgf (DA "_law_common" S_law_common 5 rfl rfl rfl)
    have ok_law_inside := ok_law_inside (P := PySem.Challenge.rw_latticehouse_k64_complements_and_what_is.prog) (w := w) mgf (DA "_law_inside" S_law_inside 6 rfl rfl rfl)
    have ok_law_having := ok_law_having (P := PySem.Challenge.rw_latticehouse_k64_complements_and_what_is.prog) (w := w) mgf (DA "_law_having" S_law_having 7 rfl rfl rfl) ok_law_inside
    have ok_law_closure := ok_law_closure (P := PySem.Challenge.rw_latticehouse_k64_complements_and_what_is.prog) (w := w) mgf (DA "_law_closure" S_law_closure 8 rfl rfl rfl) ok_law_common ok_law_having
    have ok_law_closed := ok_law_closed (P := PySem.Challenge.rw_latticehouse_k64_complements_and_what_is.prog) (w := w) mgf (DA "_law_closed" S_law_closed 9 rfl rfl rfl) ok_law_subsets ok_law_closure
    have ok_law_draw := ok_law_draw (P := PySem.Challenge.rw_latticehouse_k64_complements_and_what_is.prog) (w := w) mgf (DA "_law_draw" S_law_draw 10 rfl rfl rfl)
    have ok_law_some := ok_law_some (P := PySem.Challenge.rw_latticehouse_k64_complements_and_what_is.prog) (w := w) mgf (DA "_law_some" S_law_some 11 rfl rfl rfl) ok_law_draw
    have ok_law_table := ok_law_table (P := PySem.Challenge.rw_latticehouse_k64_complements_and_what_is.prog) (w := w) mgf (DA "_law_table" S_law_table 12 rfl rfl rfl) ok_law_draw ok_law_some
    have ok_law_mixed_order := ok_law_mixed_order (P := PySem.Challenge.rw_latticehouse_k64_complements_and_what_is.prog) (w := w) mgf (DA "_law_mixed_order" S_law_mixed_order 13 rfl rfl rfl) ok_law_draw
    have ok_law_lattice := ok_law_lattice (P := PySem.Challenge.rw_latticehouse_k64_complements_and_what_is.prog) (w := w) mgf (DA "_law_lattice" S_law_lattice 14 rfl rfl rfl) ok_law_closed ok_law_table ok_law_mixed_order ok_law_inside
    have ok_has_bits := ok_has_bits (P := PySem.Challenge.rw_latticehouse_k64_complements_and_what_is.prog) (w := w) mgf (DA "has_bits" S_has_bits 15 rfl rfl rfl)
    have ok_cubes := ok_cubes (P := PySem.Challenge.rw_latticehouse_k64_complements_and_what_is.prog) (w := w) mgf (DA "cubes" S_cubes 16 rfl rfl rfl) ok_has_bits
    have ok_law_low := ok_law_low (P := PySem.Challenge.rw_latticehouse_k64_complements_and_what_is.prog) (w := w) mgf (DA "_law_low" S_law_low 17 rfl rfl rfl)
    have ok_law_high := ok_law_high (P := PySem.Challenge.rw_latticehouse_k64_complements_and_what_is.prog) (w := w) mgf (DA "_law_high" S_law_high 18 rfl rfl rfl)
    have ok_law_best := ok_law_best (P := PySem.Challenge.rw_latticehouse_k64_complements_and_what_is.prog) (w := w) mgf (DA "_law_best" S_law_best 19 rfl rfl rfl)
    have ok_law_join := ok_law_join (P := PySem.Challenge.rw_latticehouse_k64_complements_and_what_is.prog) (w := w) mgf (DA "_law_join" S_law_join 20 rfl rfl rfl) ok_law_best
    have ok_law_joins := ok_law_joins (P := PySem.Challenge.rw_latticehouse_k64_complements_and_what_is.prog) (w := w) mgf (DA "_law_joins" S_law_joins 21 rfl rfl rfl) ok_law_join
    have ok_law_meet := ok_law_meet (P := PySem.Challenge.rw_latticehouse_k64_complements_and_what_is.prog) (w := w) mgf (DA "_law_meet" S_law_meet 22 rfl rfl rfl)
    have ok_law_meets := ok_law_meets (P := PySem.Challenge.rw_latticehouse_k64_complements_and_what_is.prog) (w := w) mgf (DA "_law_meets" S_law_meets 23 rfl rfl rfl) ok_law_meet
    have ok_law_same := ok_law_same (P := PySem.Challenge.rw_latticehouse_k64_complements_and_what_is.prog) (w := w) mgf (DA "_law_same" S_law_same 24 rfl rfl rfl) fu_law_same
    have ok_is_part := ok_is_part (P := PySem.Challenge.rw_latticehouse_k64_complements_and_what_is.prog) (w := w) mgf (DA "is_part" S_is_part 25 rfl rfl rfl)
    have ok_least_of := ok_least_of (P := PySem.Challenge.rw_latticehouse_k64_complements_and_what_is.prog) (w := w) mgf (DA "least_of" S_least_of 26 rfl rfl rfl) ok_is_part
    have ok_low_of := ok_low_of (P := PySem.Challenge.rw_latticehouse_k64_complements_and_what_is.prog) (w := w) mgf (DA "low_of" S_low_of 27 rfl rfl rfl) ok_least_of
    have ok_below_of := ok_below_of (P := PySem.Challenge.rw_latticehouse_k64_complements_and_what_is.prog) (w := w) mgf (DA "below_of" S_below_of 28 rfl rfl rfl)
    have ok_turned_over := ok_turned_over (P := PySem.Challenge.rw_latticehouse_k64_complements_and_what_is.prog) (w := w) mgf (DA "turned_over" S_turned_over 29 rfl rfl rfl) ok_below_of
    have ok_greatest_of := ok_greatest_of (P := PySem.Challenge.rw_latticehouse_k64_complements_and_what_is.prog) (w := w) mgf (DA "greatest_of" S_greatest_of 30 rfl rfl rfl) ok_least_of ok_turned_over
    have ok_high_of := ok_high_of (P := PySem.Challenge.rw_latticehouse_k64_complements_and_what_is.prog) (w := w) mgf (DA "high_of" S_high_of 31 rfl rfl rfl) ok_greatest_of
    have ok_shared := ok_shared (P := PySem.Challenge.rw_latticehouse_k64_complements_and_what_is.prog) (w := w) mgf (DA "shared" S_shared 32 rfl rfl rfl)
    have ok_join_of := ok_join_of (P := PySem.Challenge.rw_latticehouse_k64_complements_and_what_is.prog) (w := w) mgf (DA "join_of" S_join_of 33 rfl rfl rfl) ok_least_of ok_shared
    have ok_meet_of := ok_meet_of (P := PySem.Challenge.rw_latticehouse_k64_complements_and_what_is.prog) (w := w) mgf (DA "meet_of" S_meet_of 34 rfl rfl rfl) ok_join_of ok_turned_over
    have ok_complements := ok_complements (P := PySem.Challenge.rw_latticehouse_k64_complements_and_what_is.prog) (w := w) mgf (DA "complements" S_complements 35 rfl rfl rfl) ok_low_of ok_high_of ok_meet_of ok_join_of
    have ok_within := ok_within (P := PySem.Challenge.rw_latticehouse_k64_complements_and_what_is.prog) (w := w) mgf (DA "within" S_within 36 rfl rfl rfl) ok_meet_of ok_greatest_of
    have ok_against := ok_against (P := PySem.Challenge.rw_latticehouse_k64_complements_and_what_is.prog) (w := w) mgf (DA "against" S_against 37 rfl rfl rfl) ok_within ok_low_of
    have ok_decide_within := ok_decide_within (P := PySem.Challenge.rw_latticehouse_k64_complements_and_what_is.prog) (w := w) mgf (DA "decide_within" S_decide_within 38 rfl rfl rfl) ok_within
    have ok_law_is_distributive := ok_law_is_distributive (P := PySem.Challenge.rw_latticehouse_k64_complements_and_what_is.prog) (w := w) mgf (DA "_law_is_distributive" S_law_is_distributive 39 rfl rfl rfl) ok_law_joins ok_law_meets
    have ok_law_pairs := ok_law_pairs (P := PySem.Challenge.rw_latticehouse_k64_complements_and_what_is.prog) (w := w) mgf (DA "_law_pairs" S_law_pairs 40 rfl rfl rfl)
    have ok_law_steps := ok_law_steps (P := PySem.Challenge.rw_latticehouse_k64_complements_and_what_is.prog) (w := w) mgf (DA "_law_steps" S_law_steps 41 rfl rfl rfl) ok_law_pairs
    have ok_atoms := ok_atoms (P := PySem.Challenge.rw_latticehouse_k64_complements_and_what_is.prog) (w := w) mgf (DA "atoms" S_atoms 42 rfl rfl rfl) ok_low_of
    have ok_join_all := ok_join_all (P := PySem.Challenge.rw_latticehouse_k64_complements_and_what_is.prog) (w := w) mgf (DA "join_all" S_join_all 43 rfl rfl rfl) ok_low_of ok_join_of
    have ok_atoms_below := ok_atoms_below (P := PySem.Challenge.rw_latticehouse_k64_complements_and_what_is.prog) (w := w) mgf (DA "atoms_below" S_atoms_below 44 rfl rfl rfl) ok_atoms
    have ok_is_of_sets := ok_is_of_sets (P := PySem.Challenge.rw_latticehouse_k64_complements_and_what_is.prog) (w := w) mgf (DA "is_of_sets" S_is_of_sets 45 rfl rfl rfl) ok_atoms ok_join_all ok_atoms_below
    have ok_law_all_lots := ok_law_all_lots (P := PySem.Challenge.rw_latticehouse_k64_complements_and_what_is.prog) (w := w) mgf (DA "_law_all_lots" S_law_all_lots 46 rfl rfl rfl)
    have nd : (["script", "box", "lattice", "low", "high", "joins", "meets", "many", "rows", "x", "due", "row", "y", "lot", "best", "none", "steps", "firsts", "whole", "size", "cube", "lots", "z", "w"] : List Str).Nodup := by decide
    have hT : ∀ H, TH (tabsT cs 3) H → TH (tabsT cs 3) H := fun _ h => h
    exact (ss_cons (ss_setO nd rfl (.inl rfl) (SF.q (sf_call ok_law_box hT (L2.Room.mono hr (by first | omega | decide)) (by rfl) (sa_cons (se_v ⟨rfl, .inl rfl, rfl, rfl⟩) (sa_cons se_int (sa_cons se_int sa_nil (dj_by rfl)) (dj_by rfl)) (dj_by rfl)))) rfl (.inr rfl)) (ss_cons (ss_set nd rfl (.inr rfl) (SE.q (se_callL ok_law_lattice hT (L2.Room.mono hr (by first | omega | decide)) (by rfl) ⟨rfl, .inl rfl, rfl, rfl⟩ (sa_cons se_int (sa_cons se_int sa_nil (dj_by rfl)) (dj_by rfl)))) rfl (.inl rfl)) (ss_cons (ss_if (st_cmp (od_eq (Room.u65 hr)) (se_callL ok_law_draw hT (L2.Room.mono hr (by first | omega | decide)) (by rfl) ⟨rfl, .inl rfl, rfl, rfl⟩ (sa_cons se_int sa_nil (dj_by rfl))) se_int (dj_by rfl) rfl) (ss_one (ss_set nd rfl (.inr rfl) (SE.q (se_call ok_cubes hT (L2.Room.mono hr (by first | omega | decide)) (by rfl) (sa_cons (se_callL ok_law_draw hT (L2.Room.mono hr (by first | omega | decide)) (by rfl) ⟨rfl, .inl rfl, rfl, rfl⟩ (sa_cons se_int sa_nil (dj_by rfl))) sa_nil (dj_by rfl)))) rfl (.inl rfl))) ss_nil) (ss_cons (ss_if (st_cmp od_gt (se_ix (se_v ⟨rfl, .inr (.inl rfl), rfl, rfl⟩) se_int (dj_by rfl)) se_int (dj_by rfl) rfl) (ss_one (ss_set nd rfl (.inr rfl) (SE.q (se_tup (sa_cons se_str (sa_cons se_int (sa_cons (se_tup (sa_cons (se_tup (sa_cons se_int (sa_cons se_int (sa_cons se_int (sa_cons se_int (sa_cons se_int sa_nil (dj_by rfl)) (dj_by rfl)) (dj_by rfl)) (dj_by rfl)) (dj_by rfl))) (sa_cons (se_tup (sa_cons se_int (sa_cons se_int sa_nil (dj_by rfl)) (dj_by rfl))) (sa_cons (se_tup (sa_cons se_int (sa_cons se_int sa_nil (dj_by rfl)) (dj_by rfl))) (sa_cons (se_tup (sa_cons se_int (sa_cons se_int sa_nil (dj_by rfl)) (dj_by rfl))) (sa_cons (se_tup (sa_cons se_int sa_nil (dj_by rfl))) sa_nil (dj_by rfl)) (dj_by rfl)) (dj_by rfl)) (dj_by rfl)) (dj_by rfl))) sa_nil (dj_by rfl)) (dj_by rfl)) (dj_by rfl)))) rfl (.inl rfl))) ss_nil) (ss_cons (ss_set nd rfl (.inr rfl) (SE.q (se_call ok_law_low hT (L2.Room.mono hr (by first | omega | decide)) (by rfl) (sa_cons (se_v ⟨rfl, .inr (.inl rfl), rfl, rfl⟩) sa_nil (dj_by rfl)))) rfl (.inl rfl)) (ss_cons (ss_set nd rfl (.inr rfl) (SE.q (se_call ok_law_high hT (L2.Room.mono hr (by first | omega | decide)) (by rfl) (sa_cons (se_v ⟨rfl, .inr (.inl rfl), rfl, rfl⟩) sa_nil (dj_by rfl)))) rfl (.inl rfl)) (ss_cons (ss_set nd rfl (.inr rfl) (SE.q (se_call ok_law_joins hT (L2.Room.mono hr (by first | omega | decide)) (by rfl) (sa_cons (se_v ⟨rfl, .inr (.inl rfl), rfl, rfl⟩) sa_nil (dj_by rfl)))) rfl (.inl rfl)) (ss_cons (ss_set nd rfl (.inr rfl) (SE.q (se_call ok_law_meets hT (L2.Room.mono hr (by first | omega | decide)) (by rfl) (sa_cons (se_v ⟨rfl, .inr (.inl rfl), rfl, rfl⟩) sa_nil (dj_by rfl)))) rfl (.inl rfl)) (ss_cons (ss_set nd rfl (.inr rfl) (SE.q (se_ix (se_v ⟨rfl, .inr (.inl rfl), rfl, rfl⟩) se_int (dj_by rfl))) rfl (.inl rfl)) (ss_cons (ss_setO nd rfl (.inr rfl) (SF.q (sf_lst sa_nil)) rfl (.inl rfl)) (ss_cons (ss_for (fun _ _ z => z.elim) rfl (si_range1 (by rfl) (by exact mgf.b_range) (se_v ⟨rfl, .inr (.inl rfl), rfl, rfl⟩)) (sg_name nd rfl (.inr rfl) (.inl rfl)) (ss_cons (ss_set nd rfl (.inl rfl) (SE.q (se_tuple (sc_new (sf_lc (own := [("y", 12)]) (as1 := [12]) rfl nd  (si_range1 (by rfl) (by exact mgf.b_range) (se_v ⟨rfl, .inr (.inl rfl), rfl, rfl⟩)) (blkOk_by (by kernel_rfl)) (mem_by rfl) (fun _ _ _ _ _ => (sg_name nd rfl (.inl rfl) (.inr rfl))) (fun _ _ _ _ _ => (sts_one (SW.st (sw_and (st_cmp (od_eq (Room.u65 hr)) (se_ix (se_ix (se_v ⟨rfl, .inr (.inl rfl), rfl, rfl⟩) (se_v ⟨rfl, .inr (.inl rfl), rfl, rfl⟩) (dj_by rfl)) (se_v ⟨rfl, .inl rfl, rfl, rfl⟩) (dj_by rfl)) (se_v ⟨rfl, .inr (.inl rfl), rfl, rfl⟩) (dj_by rfl) rfl) (sw_and1 (st_cmp (od_eq (Room.u65 hr)) (se_ix (se_ix (se_v ⟨rfl, .inr (.inl rfl), rfl, rfl⟩) (se_v ⟨rfl, .inr (.inl rfl), rfl, rfl⟩) (dj_by rfl)) (se_v ⟨rfl, .inl rfl, rfl, rfl⟩) (dj_by rfl)) (se_v ⟨rfl, .inr (.inl rfl), rfl, rfl⟩) (dj_by rfl) rfl)))))) (fun _ _ _ _ _ => (se_v ⟨rfl, .inl rfl, rfl, rfl⟩)) (dj_by rfl) (dj_by rfl))) (by rfl) (by exact mgf.b_tuple) (by rfl))) rfl (.inr rfl)) (ss_cons (ss_if (st_not (st_bool (se_call ok_law_same hT (L2.Room.mono hr (by first | omega | decide)) (by rfl) (sa_cons (se_call ok_complements hT (L2.Room.mono hr (by first | omega | decide)) (by rfl) (sa_cons (se_v ⟨rfl, .inr (.inl rfl), rfl, rfl⟩) (sa_cons (se_v ⟨rfl, .inr (.inl rfl), rfl, rfl⟩) sa_nil (dj_by rfl)) (dj_by rfl))) (sa_cons (se_v ⟨rfl, .inl rfl, rfl, rfl⟩) sa_nil (dj_by rfl)) (dj_by rfl))))) (ss_one (ss_ret se_bl)) ss_nil) (ss_cons (ss_setO nd rfl (.inl rfl) (SF.q (sf_lst sa_nil)) rfl (.inr rfl)) (ss_cons (ss_for (fun _ _ z => z.elim) rfl (si_range1 (by rfl) (by exact mgf.b_range) (se_v ⟨rfl, .inr (.inl rfl), rfl, rfl⟩)) (sg_name nd rfl (.inr rfl) (.inl rfl)) (ss_cons (ss_set nd rfl (.inr rfl) (SE.q (SF.se (sf_lc (own := [("z", 22)]) (as1 := [22]) rfl nd  (si_range1 (by rfl) (by exact mgf.b_range) (se_v ⟨rfl, .inr (.inl rfl), rfl, rfl⟩)) (blkOk_by (by kernel_rfl)) (mem_by rfl) (fun _ _ _ _ _ => (sg_name nd rfl (.inl rfl) (.inr rfl))) (fun _ _ _ _ _ => (sts_one (st_cmp (od_in (Room.u65 hr)) (se_v ⟨rfl, .inr (.inl rfl), rfl, rfl⟩) (se_ix (se_ix (se_v ⟨rfl, .inr (.inl rfl), rfl, rfl⟩) se_int (dj_by rfl)) (se_ix (se_ix (se_v ⟨rfl, .inr (.inl rfl), rfl, rfl⟩) (se_v ⟨rfl, .inr (.inl rfl), rfl, rfl⟩) (dj_by rfl)) (se_v ⟨rfl, .inl rfl, rfl, rfl⟩) (dj_by rfl)) (dj_by rfl)) (dj_by rfl) rfl))) (fun _ _ _ _ _ => (se_v ⟨rfl, .inl rfl, rfl, rfl⟩)) (dj_by rfl) (dj_by rfl)))) rfl (.inl rfl)) (ss_cons (ss_setLc (own := [("z", 22)]) (as1 := [22]) (i := 14) rfl nd rfl rfl rfl rfl rfl (si_con (sc_own ⟨rfl, .inr (.inl rfl), rfl, rfl⟩)) (blkOk_by (by kernel_rfl)) (mem_by rfl) (fun _ _ _ _ _ => (sg_name nd rfl (.inr rfl) (.inl rfl))) (fun _ _ _ _ _ => (sts_one (st_cmp (od_eq (Room.u65 hr)) (se_len (sc_new (sf_lc (own := [("w", 23)]) (as1 := [23]) rfl nd  (si_con (sc_own ⟨rfl, .inr (.inl rfl), rfl, rfl⟩)) (blkOk_by (by kernel_rfl)) (mem_by rfl) (fun _ _ _ _ _ => (sg_name nd rfl (.inl rfl) (.inr rfl))) (fun _ _ _ _ _ => (sts_one (st_cmp (od_nin (Room.u65 hr)) (se_v ⟨rfl, .inr (.inl rfl), rfl, rfl⟩) (se_ix (se_ix (se_v ⟨rfl, .inr (.inl rfl), rfl, rfl⟩) se_int (dj_by rfl)) (se_v ⟨rfl, .inl rfl, rfl, rfl⟩) (dj_by rfl)) (dj_by rfl) rfl))) (fun _ _ _ _ _ => (se_v ⟨rfl, .inl rfl, rfl, rfl⟩)) (dj_by rfl) (dj_by rfl))) (by rfl) (by exact mgf.b_len) (by rfl)) se_int (dj_by rfl) rfl))) (fun _ _ _ _ _ => (se_v ⟨rfl, .inr (.inl rfl), rfl, rfl⟩)) (dj_by rfl) (dj_by rfl)) (ss_one (ss_app ⟨rfl, .inl rfl, rfl, rfl⟩ (SE.q (se_ix (se_bin od_add (se_v ⟨rfl, .inl rfl, rfl, rfl⟩) (SF.se (sf_lst (sa_cons se_non sa_nil (dj_by rfl)))) (dj_by rfl)) se_int (dj_by rfl))))))) (dj_by rfl)) (ss_cons (ss_app ⟨rfl, .inr (.inl rfl), rfl, rfl⟩ (SE.q (se_tuple (sc_own ⟨rfl, .inl rfl, rfl, rfl⟩) (by rfl) (by exact mgf.b_tuple) (by rfl)))) (ss_one (ss_if (SW.st (sw_or (st_not (st_bool (se_call ok_law_same hT (L2.Room.mono hr (by first | omega | decide)) (by rfl) (sa_cons (se_call ok_within hT (L2.Room.mono hr (by first | omega | decide)) (by rfl) (sa_cons (se_v ⟨rfl, .inr (.inl rfl), rfl, rfl⟩) (sa_cons (se_v ⟨rfl, .inr (.inl rfl), rfl, rfl⟩) (sa_cons (se_v ⟨rfl, .inr (.inl rfl), rfl, rfl⟩) sa_nil (dj_by rfl)) (dj_by rfl)) (dj_by rfl))) (sa_cons (se_ix (se_o ⟨rfl, .inl rfl, rfl, rfl⟩) (se_v ⟨rfl, .inr (.inl rfl), rfl, rfl⟩) (dj_by rfl)) sa_nil (dj_by rfl)) (dj_by rfl))))) (sw_or1 (st_not (st_bool (se_call ok_law_same hT (L2.Room.mono hr (by first | omega | decide)) (by rfl) (sa_cons (se_call ok_against hT (L2.Room.mono hr (by first | omega | decide)) (by rfl) (sa_cons (se_v ⟨rfl, .inr (.inl rfl), rfl, rfl⟩) (sa_cons (se_v ⟨rfl, .inr (.inl rfl), rfl, rfl⟩) sa_nil (dj_by rfl)) (dj_by rfl))) (sa_cons (se_ix (se_o ⟨rfl, .inl rfl, rfl, rfl⟩) (se_v ⟨rfl, .inr (.inl rfl), rfl, rfl⟩) (dj_by rfl)) sa_nil (dj_by rfl)) (dj_by rfl)))))))) (ss_one (ss_ret se_bl)) ss_nil))))))) (dj_by rfl)) (ss_cons (ss_set nd rfl (.inr rfl) (SE.q (se_callL ok_law_draw hT (L2.Room.mono hr (by first | omega | decide)) (by rfl) ⟨rfl, .inl rfl, rfl, rfl⟩ (sa_cons (se_v ⟨rfl, .inr (.inl rfl), rfl, rfl⟩) sa_nil (dj_by rfl)))) rfl (.inl rfl)) (ss_cons (ss_if (st_not (st_bool (se_call ok_law_same hT (L2.Room.mono hr (by first | omega | decide)) (by rfl) (sa_cons (se_call ok_within hT (L2.Room.mono hr (by first | omega | decide)) (by rfl) (sa_cons (se_v ⟨rfl, .inr (.inl rfl), rfl, rfl⟩) (sa_cons se_int (sa_cons (se_v ⟨rfl, .inr (.inl rfl), rfl, rfl⟩) sa_nil (dj_by rfl)) (dj_by rfl)) (dj_by rfl))) (sa_cons (se_ix (se_ix (se_o ⟨rfl, .inr (.inl rfl), rfl, rfl⟩) se_int (dj_by rfl)) (se_v ⟨rfl, .inr (.inl rfl), rfl, rfl⟩) (dj_by rfl)) sa_nil (dj_by rfl)) (dj_by rfl))))) (ss_one (ss_ret se_bl)) ss_nil) (ss_cons (ss_setLc (own := [("x", 9)]) (as1 := [9]) (i := 15) rfl nd rfl rfl rfl rfl rfl (si_range1 (by rfl) (by exact mgf.b_range) (se_v ⟨rfl, .inr (.inl rfl), rfl, rfl⟩)) (blkOk_by (by kernel_rfl)) (mem_by rfl) (fun _ _ _ _ _ => (sg_name nd rfl (.inl rfl) (.inr rfl))) (fun _ _ _ _ _ => (sts_one (st_cmp (od_in (Room.u65 hr)) se_non (se_ix (se_o ⟨rfl, .inr (.inl rfl), rfl, rfl⟩) (se_v ⟨rfl, .inl rfl, rfl, rfl⟩) (dj_by rfl)) (dj_by rfl) rfl))) (fun _ _ _ _ _ => (se_tup (SA.q (rs := []) (ch := []) (sa_cons se_str (sa_cons (se_v ⟨rfl, .inl rfl, rfl, rfl⟩) (sa_cons (se_indexB hr (se_ix (se_o ⟨rfl, .inr (.inl rfl), rfl, rfl⟩) (se_v ⟨rfl, .inl rfl, rfl, rfl⟩) (dj_by rfl)) se_non (dj_by rfl)) sa_nil (dj_by rfl)) (dj_by rfl)) (dj_by rfl))))) (dj_by rfl) (dj_by rfl)) (ss_cons (ss_if (SW.st (sw_and (st_cmp od_gt (se_callB cd_len (by rfl) (by exact mgf.b_len) (by rfl) (sa_cons (se_v ⟨rfl, .inl rfl, rfl, rfl⟩) sa_nil (dj_by rfl))) se_int (dj_by rfl) rfl) (sw_and1 (st_not (st_bool (se_call ok_law_same hT (L2.Room.mono hr (by first | omega | decide)) (by rfl) (sa_cons (se_call ok_decide_within hT (L2.Room.mono hr (by first | omega | decide)) (by rfl) (sa_cons (se_v ⟨rfl, .inr (.inl rfl), rfl, rfl⟩) sa_nil (dj_by rfl))) (sa_cons (se_ix (se_v ⟨rfl, .inl rfl, rfl, rfl⟩) se_int (dj_by rfl)) sa_nil (dj_by rfl)) (dj_by rfl)))))))) (ss_one (ss_ret se_bl)) ss_nil) (ss_cons (ss_if (SW.st (sw_and (st_cmp (od_eq (Room.u65 hr)) (se_callB cd_len (by rfl) (by exact mgf.b_len) (by rfl) (sa_cons (se_v ⟨rfl, .inl rfl, rfl, rfl⟩) sa_nil (dj_by rfl))) se_int (dj_by rfl) rfl) (sw_and1 (st_not (st_bool (se_call ok_law_same hT (L2.Room.mono hr (by first | omega | decide)) (by rfl) (sa_cons (se_call ok_decide_within hT (L2.Room.mono hr (by first | omega | decide)) (by rfl) (sa_cons (se_v ⟨rfl, .inr (.inl rfl), rfl, rfl⟩) sa_nil (dj_by rfl))) (sa_cons (se_tup (sa_cons se_str (sa_cons (se_tuple (sc_own ⟨rfl, .inr (.inl rfl), rfl, rfl⟩) (by rfl) (by exact mgf.b_tuple) (by rfl)) sa_nil (dj_by rfl)) (dj_by rfl))) sa_nil (dj_by rfl)) (dj_by rfl)))))))) (ss_one (ss_ret se_bl)) ss_nil) (ss_cons (ss_if (st_cmp (od_ne (Room.u65 hr)) (se_cmp (od_eq (Room.u65 hr)) (se_callB cd_len (by rfl) (by exact mgf.b_len) (by rfl) (sa_cons (se_v ⟨rfl, .inl rfl, rfl, rfl⟩) sa_nil (dj_by rfl))) se_int (dj_by rfl) rfl) (se_call ok_law_is_distributive hT (L2.Room.mono hr (by first | omega | decide)) (by rfl) (sa_cons (se_v ⟨rfl, .inr (.inl rfl), rfl, rfl⟩) sa_nil (dj_by rfl))) (dj_by rfl) rfl) (ss_one (ss_ret se_bl)) ss_nil) (ss_cons (ss_set nd rfl (.inr rfl) (SE.q (se_call ok_law_steps hT (L2.Room.mono hr (by first | omega | decide)) (by rfl) (sa_cons (se_v ⟨rfl, .inr (.inl rfl), rfl, rfl⟩) sa_nil (dj_by rfl)))) rfl (.inl rfl)) (ss_cons (ss_set nd rfl (.inl rfl) (SE.q (se_tuple (sc_new (sf_lc (own := [("x", 9)]) (as1 := [9]) rfl nd  (si_range1 (by rfl) (by exact mgf.b_range) (se_v ⟨rfl, .inr (.inl rfl), rfl, rfl⟩)) (blkOk_by (by kernel_rfl)) (mem_by rfl) (fun _ _ _ _ _ => (sg_name nd rfl (.inl rfl) (.inr rfl))) (fun _ _ _ _ _ => (sts_one (st_cmp (od_in (Room.u65 hr)) (se_tup (sa_cons (se_v ⟨rfl, .inr (.inl rfl), rfl, rfl⟩) (sa_cons (se_v ⟨rfl, .inl rfl, rfl, rfl⟩) sa_nil (dj_by rfl)) (dj_by rfl))) (se_v ⟨rfl, .inr (.inl rfl), rfl, rfl⟩) (dj_by rfl) rfl))) (fun _ _ _ _ _ => (se_v ⟨rfl, .inl rfl, rfl, rfl⟩)) (dj_by rfl) (dj_by rfl))) (by rfl) (by exact mgf.b_tuple) (by rfl))) rfl (.inr rfl)) (ss_cons (ss_if (st_not (st_bool (se_call ok_law_same hT (L2.Room.mono hr (by first | omega | decide)) (by rfl) (sa_cons (se_call ok_atoms hT (L2.Room.mono hr (by first | omega | decide)) (by rfl) (sa_cons (se_v ⟨rfl, .inr (.inl rfl), rfl, rfl⟩) sa_nil (dj_by rfl))) (sa_cons (se_v ⟨rfl, .inl rfl, rfl, rfl⟩) sa_nil (dj_by rfl)) (dj_by rfl))))) (ss_one (ss_ret se_bl)) ss_nil) (ss_cons (ss_set nd rfl (.inl rfl) (SE.q (SB.se (sb_and (sb_cmp (od_eq (Room.u65 hr)) (se_callB cd_len (by rfl) (by exact mgf.b_len) (by rfl) (sa_cons (se_v ⟨rfl, .inl rfl, rfl, rfl⟩) sa_nil (dj_by rfl))) se_int (dj_by rfl) rfl) (sb_one (sb_cmp (od_eq (Room.u65 hr)) (se_len (sc_new (sf_lc (own := [("x", 9)]) (as1 := [9]) rfl nd  (si_range1 (by rfl) (by exact mgf.b_range) (se_v ⟨rfl, .inr (.inl rfl), rfl, rfl⟩)) (blkOk_by (by kernel_rfl)) (mem_by rfl) (fun _ _ _ _ _ => (sg_name nd rfl (.inr rfl) (.inl rfl))) (fun _ _ _ _ _ => (sts_one (st_cmp (od_eq (Room.u65 hr)) (se_len (sc_new (sf_lc (own := [("z", 22)]) (as1 := [22]) rfl nd  (si_range1 (by rfl) (by exact mgf.b_range) (se_v ⟨rfl, .inr (.inl rfl), rfl, rfl⟩)) (blkOk_by (by kernel_rfl)) (mem_by rfl) (fun _ _ _ _ _ => (sg_name nd rfl (.inl rfl) (.inr rfl))) (fun _ _ _ _ _ => (sts_one (SW.st (sw_and (st_cmp (od_eq (Room.u65 hr)) (se_ix (se_ix (se_v ⟨rfl, .inr (.inl rfl), rfl, rfl⟩) (se_v ⟨rfl, .inr (.inl rfl), rfl, rfl⟩) (dj_by rfl)) (se_v ⟨rfl, .inl rfl, rfl, rfl⟩) (dj_by rfl)) (se_v ⟨rfl, .inr (.inl rfl), rfl, rfl⟩) (dj_by rfl) rfl) (sw_and1 (st_cmp (od_eq (Room.u65 hr)) (se_ix (se_ix (se_v ⟨rfl, .inr (.inl rfl), rfl, rfl⟩) (se_v ⟨rfl, .inr (.inl rfl), rfl, rfl⟩) (dj_by rfl)) (se_v ⟨rfl, .inl rfl, rfl, rfl⟩) (dj_by rfl)) (se_v ⟨rfl, .inr (.inl rfl), rfl, rfl⟩) (dj_by rfl) rfl)))))) (fun _ _ _ _ _ => (se_v ⟨rfl, .inl rfl, rfl, rfl⟩)) (dj_by rfl) (dj_by rfl))) (by rfl) (by exact mgf.b_len) (by rfl)) se_int (dj_by rfl) rfl))) (fun _ _ _ _ _ => (se_v ⟨rfl, .inr (.inl rfl), rfl, rfl⟩)) (dj_by rfl) (dj_by rfl))) (by rfl) (by exact mgf.b_len) (by rfl)) se_int (dj_by rfl) rfl))))) rfl (.inr rfl)) (ss_cons (ss_if (st_not (st_bool (se_call ok_law_same hT (L2.Room.mono hr (by first | omega | decide)) (by rfl) (sa_cons (se_call ok_is_of_sets hT (L2.Room.mono hr (by first | omega | decide)) (by rfl) (sa_cons (se_v ⟨rfl, .inr (.inl rfl), rfl, rfl⟩) sa_nil (dj_by rfl))) (sa_cons (se_v ⟨rfl, .inl rfl, rfl, rfl⟩) sa_nil (dj_by rfl)) (dj_by rfl))))) (ss_one (ss_ret se_bl)) ss_nil) (ss_cons (ss_set nd rfl (.inl rfl) (SE.q (se_callL ok_law_draw hT (L2.Room.mono hr (by first | omega | decide)) (by rfl) ⟨rfl, .inl rfl, rfl, rfl⟩ (sa_cons se_int sa_nil (dj_by rfl)))) rfl (.inr rfl)) (ss_cons (ss_set nd rfl (.inl rfl) (SE.q (se_call ok_cubes hT (L2.Room.mono hr (by first | omega | decide)) (by rfl) (sa_cons (se_v ⟨rfl, .inl rfl, rfl, rfl⟩) sa_nil (dj_by rfl)))) rfl (.inr rfl)) (ss_cons (ss_set nd rfl (.inr rfl) (SE.q (se_call ok_law_all_lots hT (L2.Room.mono hr (by first | omega | decide)) (by rfl) (sa_cons (se_v ⟨rfl, .inl rfl, rfl, rfl⟩) sa_nil (dj_by rfl)))) rfl (.inl rfl)) (ss_cons (ss_if (st_cmp (od_ne (Room.u65 hr)) (se_ix (se_v ⟨rfl, .inl rfl, rfl, rfl⟩) se_int (dj_by rfl)) (se_callB cd_len (by rfl) (by exact mgf.b_len) (by rfl) (sa_cons (se_v ⟨rfl, .inr (.inl rfl), rfl, rfl⟩) sa_nil (dj_by rfl))) (dj_by rfl) rfl) (ss_one (ss_ret se_bl)) ss_nil) (ss_cons (ss_for (fun _ _ z => z.elim) rfl (si_range1 (by rfl) (by exact mgf.b_range) (se_ix (se_v ⟨rfl, .inl rfl, rfl, rfl⟩) se_int (dj_by rfl))) (sg_name nd rfl (.inr rfl) (.inl rfl)) (ss_one (ss_if (st_cmp (od_ne (Room.u65 hr)) (se_ix (se_ix (se_v ⟨rfl, .inl rfl, rfl, rfl⟩) se_int (dj_by rfl)) (se_v ⟨rfl, .inr (.inl rfl), rfl, rfl⟩) (dj_by rfl)) (se_tuple (sc_new (sf_lc (own := [("z", 22)]) (as1 := [22]) rfl nd  (si_range1 (by rfl) (by exact mgf.b_range) (se_ix (se_v ⟨rfl, .inl rfl, rfl, rfl⟩) se_int (dj_by rfl))) (blkOk_by (by kernel_rfl)) (mem_by rfl) (fun _ _ _ _ _ => (sg_name nd rfl (.inl rfl) (.inr rfl))) (fun _ _ _ _ _ => (sts_one (st_bool (se_call ok_law_inside hT (L2.Room.mono hr (by first | omega | decide)) (by rfl) (SA.q (rs := []) (ch := []) (sa_cons (se_ix (se_v ⟨rfl, .inr (.inl rfl), rfl, rfl⟩) (se_v ⟨rfl, .inr (.inl rfl), rfl, rfl⟩) (dj_by rfl)) (sa_cons (se_ix (se_v ⟨rfl, .inr (.inl rfl), rfl, rfl⟩) (se_v ⟨rfl, .inl rfl, rfl, rfl⟩) (dj_by rfl)) sa_nil (dj_by rfl)) (dj_by rfl))))))) (fun _ _ _ _ _ => (se_v ⟨rfl, .inl rfl, rfl, rfl⟩)) (dj_by rfl) (dj_by rfl))) (by rfl) (by exact mgf.b_tuple) (by rfl)) (dj_by rfl) rfl) (ss_one (ss_ret se_bl)) ss_nil)) (dj_by rfl)) (ss_one (ss_ret (SE.q (se_cmp od_is (se_call ok_is_of_sets hT (L2.Room.mono hr (by first | omega | decide)) (by rfl) (sa_cons (se_v ⟨rfl, .inl rfl, rfl, rfl⟩) sa_nil (dj_by rfl))) se_bl (dj_by rfl) rfl)))))))))))))))))))))))))))))))) hlaw
end LH

namespace LH
open PySem PySem.Spec PyProof.Rows L2
/-! ### the script's digits, the box (shared by the laws) -/
theorem cell_eq (ns : List Int) (k : Nat) : ∃ c : Int, F_law_cell [.list (ns.map .int), .int k] = some (.int c) := by
  by_cases h : k < ns.length
  · refine ⟨ns[k], ?_⟩
    refine runD_eq rfl (st := [some (.val (.list (ns.map .int))), some (.val (.int k))]) ?_
    unfold B_law_cell
    rw [sq_rt (d := .int ns[k]) (st1 := [some (.val (.list (ns.map .int))), some (.val (.int k))])]
    rw [iteM_t (st1 := [some (.val (.list (ns.map .int))), some (.val (.int k))])]
    · exact retM_eq (lift2_eq (vr_eq rfl) (vr_eq rfl) (ixD_l (j := k) (by simp [h]) rfl))
    · refine lift2_eq (vr_eq rfl) (liftL_eq (cons_eq (vr_eq rfl) nil_eq) rfl) ?_
      simp [both, ltD, isB, h]
  · refine ⟨0, ?_⟩
    refine runD_eq rfl (st := [some (.val (.list (ns.map .int))), some (.val (.int k))]) ?_
    unfold B_law_cell
    rw [sq_nx (st1 := [some (.val (.list (ns.map .int))), some (.val (.int k))])]
    · exact retM_eq rfl
    · rw [iteM_f (st1 := [some (.val (.list (ns.map .int))), some (.val (.int k))])]
      · rfl
      · refine lift2_eq (vr_eq rfl) (liftL_eq (cons_eq (vr_eq rfl) nil_eq) rfl) ?_
        simp [both, ltD, isB, h]
def dg (ds : List Int) : Prop := ∀ d ∈ ds, 0 ≤ d ∧ d < 1000
theorem dg_app {ds : List Int} {d : Int} (h : dg ds) (h2 : 0 ≤ d ∧ d < 1000) : dg (ds ++ [d]) := fun e he => by
  rcases List.mem_append.mp he with z | z
  · exact h e z
  · rw [List.mem_singleton.mp z]; exact h2
theorem appM_int {i : Nat} {f : M PyData} {st st1 : Dn} {ds : List PyData} {d : Int} (h0 : ∃ es, st[i]? = some (some (.own es))) (h : f st = some (.int d, st1)) (h1 : st1[i]? = some (some (.own ds))) (hl : ds.length < sizeLine) :
    appM i [] f st = some (.nx, st1.set i (some (.own (ds ++ [.int d])))) := by
  obtain ⟨es, h0⟩ := h0
  unfold appM chO
  rw [h0]; simp only [h, lf, if_true, h1]
  rw [if_pos hl]
theorem map_app_int (ds : List Int) (d : Int) : ds.map PyData.int ++ [.int d] = (ds ++ [d]).map .int := by simp
theorem digits_eq (ns : List Int) : ∃ ds : List Int, dg ds ∧ F_law_digits [.list (ns.map .int), .int 0, .int 62] = some (.list (ds.map .int)) ∧ ds.length ≤ 3780 := by
  let J (n : Nat) (st : Dn) : Prop := ∃ (ds : List Int) (a4 a5 a6 a7 : Option Sl), dg ds ∧ ds.length ≤ n * 60 ∧ st = [some (.val (.list (ns.map .int))), some (.val (.int 0)), some (.val (.int 62)), some (.own (ds.map .int)), a4, a5, a6, a7]
  have key := forM_inv (it := lift2 range2D (vr 1) (vr 2)) (g := gv 4) (body := (sq (setM 5 [] (callD F_law_cell (consM (vr 0) (consM (vr 4) nilM)))) (sq (iteM (lift2 (both ltD) (vr 5) (cst (.int 0))) (setM 5 [] (lift2 subD (cst (.int 1)) (lift2 mulD (cst (.int 2)) (vr 5)))) nxM) (iteM (lift2 (both geD) (vr 5) (lift2 powD (cst (.int 10)) (cst (.int 18)))) (forM (lift1 range1D (cst (.int 60))) (gv 6) (iteM (lift2 (both gtD) (vr 5) (cst (.int 0))) (sq (appM 3 [] (lift2 modD (liftL intD (consM (vr 5) nilM)) (cst (.int 1000)))) (setM 5 [] (lift2 fdivD (vr 5) (cst (.int 1000))))) nxM)) (sq (setM 7 [] (lift2 modD (liftL intD (consM (lift2 addD (lift2 addD (lift2 mulD (vr 5) (cst (.int 48271))) (lift2 mulD (vr 4) (cst (.int 69621)))) (cst (.int 11))) nilM)) (cst (.int 2147483647)))) (forM (lift1 range1D (cst (.int 12))) (gv 6) (sq (setM 7 [] (lift2 modD (liftL intD (consM (lift2 addD (lift2 addD (lift2 mulD (vr 7) (cst (.int 16807))) (lift2 mulD (cst (.int 7)) (vr 6))) (cst (.int 1))) nilM)) (cst (.int 2147483647)))) (appM 3 [] (lift2 modD (liftL intD (consM (lift2 fdivD (vr 7) (cst (.int 997))) nilM)) (cst (.int 1000)))))))))))
    (st := [some (.val (.list (ns.map .int))), some (.val (.int 0)), some (.val (.int 62)), some (.own []), none, none, none, none]) (st1 := [some (.val (.list (ns.map .int))), some (.val (.int 0)), some (.val (.int 62)), some (.own []), none, none, none, none]) (ds := rangeD 0 62) J
    (lift2_eq (vr_eq rfl) (vr_eq rfl) rfl) ⟨[], none, none, none, none, (fun d hd => by cases hd), by simp, rfl⟩ (fun j d hj st hJ => by
      obtain ⟨hj1, rfl⟩ := rangeD_at hj
      obtain ⟨ds, a4, a5, a6, a7, h1, h2, rfl⟩ := hJ
      obtain ⟨c0, hc0⟩ := cell_eq ns j
      have hsz : sizeLine = 16777216 := by decide
      have step : ∃ c : Int, 0 ≤ c ∧ ∀ (rest : M Fl), (sq (setM 5 [] (callD F_law_cell (consM (vr 0) (consM (vr 4) nilM)))) (sq (iteM (lift2 (both ltD) (vr 5) (cst (.int 0))) (setM 5 [] (lift2 subD (cst (.int 1)) (lift2 mulD (cst (.int 2)) (vr 5)))) nxM) rest)) [some (.val (.list (ns.map .int))), some (.val (.int 0)), some (.val (.int 62)), some (.own (ds.map .int)), some (.val (.int (0 + j))), a5, a6, a7] = rest [some (.val (.list (ns.map .int))), some (.val (.int 0)), some (.val (.int 62)), some (.own (ds.map .int)), some (.val (.int (0 + j))), some (.val (.int c)), a6, a7] := by
        by_cases hneg : c0 < 0
        · refine ⟨1 - 2 * c0, by omega, fun rest => ?_⟩
          rw [sq_nx (setM_eq (callD_eq (cons_eq (vr_eq rfl) (cons_eq (vr_eq rfl) nil_eq)) (by rw [Int.zero_add]; exact hc0)))]
          rw [sq_nx]
          rw [iteM_t (lift2_eq (vr_eq rfl) cst_eq (by simp [both, ltD, isB, hneg]))]
          rw [setM_eq (lift2_eq cst_eq (lift2_eq cst_eq (vr_eq rfl) (d := .int (2 * c0)) (by simp [mulD, small64])) rfl)]
          rfl
        · refine ⟨c0, by omega, fun rest => ?_⟩
          rw [sq_nx (setM_eq (callD_eq (cons_eq (vr_eq rfl) (cons_eq (vr_eq rfl) nil_eq)) (by rw [Int.zero_add]; exact hc0)))]
          rw [sq_nx]
          rw [iteM_f (lift2_eq (vr_eq rfl) cst_eq (by simp [both, ltD, isB, hneg]))]
          rfl
      obtain ⟨c, hc, hstep⟩ := step
      by_cases hbig : (10 : Int) ^ 18 ≤ c
      · obtain ⟨st', e, ds', a5', a6', k1, k2, rfl⟩ := forM_inv (it := lift1 range1D (cst (.int 60))) (g := gv 6) (body := iteM (lift2 (both gtD) (vr 5) (cst (.int 0))) (sq (appM 3 [] (lift2 modD (liftL intD (consM (vr 5) nilM)) (cst (.int 1000)))) (setM 5 [] (lift2 fdivD (vr 5) (cst (.int 1000))))) nxM)
          (ds := rangeD 0 60) (st := [some (.val (.list (ns.map .int))), some (.val (.int 0)), some (.val (.int 62)), some (.own (ds.map .int)), some (.val (.int (0 + j))), some (.val (.int c)), a6, a7]) (fun m st => ∃ (ds' : List Int) (c' : Int) (a6' : Option Sl), dg ds' ∧ ds'.length ≤ j * 60 + m ∧ st = [some (.val (.list (ns.map .int))), some (.val (.int 0)), some (.val (.int 62)), some (.own (ds'.map .int)), some (.val (.int (0 + j))), some (.val (.int c')), a6', a7])
          (lift1_eq cst_eq rfl) ⟨ds, c, a6, h1, by omega, rfl⟩ (fun m d hm st hI => by
            obtain ⟨hm1, rfl⟩ := rangeD_at hm
            obtain ⟨ds', c', a6', k1, k2, rfl⟩ := hI
            by_cases hp : 0 < c'
            · refine ⟨_, _, rfl, ?_, ds' ++ [c' % 1000], c' / 1000, some (.val (.int (0 + m))), dg_app k1 (by omega), by simp; omega, rfl⟩
              rw [iteM_t (lift2_eq (vr_eq rfl) cst_eq (by simp [both, gtD, isB, hp]))]
              rw [sq_nx (appM_int (ds := ds'.map .int) (d := c' % 1000) ⟨_, rfl⟩ (lift2_eq (liftL_eq (cons_eq (vr_eq rfl) nil_eq) rfl) cst_eq (by simp [modD])) rfl (by rw [List.length_map, hsz]; omega))]
              rw [setM_eq (lift2_eq (vr_eq rfl) cst_eq (d := .int (c' / 1000)) (by simp [fdivD])), map_app_int]
              rfl
            · refine ⟨_, _, rfl, ?_, ds', c', some (.val (.int (0 + m))), k1, by omega, rfl⟩
              rw [iteM_f (lift2_eq (vr_eq rfl) cst_eq (by simp [both, gtD, isB, hp]))]
              rfl)
        refine ⟨_, _, rfl, ?_, ds', some (.val (.int (0 + j))), some (.val (.int a5')), a6', a7, k1, ?_, rfl⟩
        · refine (hstep _).trans ?_
          rw [iteM_t (lift2_eq (vr_eq rfl) (lift2_eq cst_eq cst_eq rfl) (by simp [both, geD, isB]; exact hbig))]
          exact e
        · have : (rangeD 0 60).length = 60 := by simp [rangeD]
          rw [this] at k2
          omega
      · obtain ⟨st', e, ds', q, a6', k1, k2, rfl⟩ := forM_inv (it := lift1 range1D (cst (.int 12))) (g := gv 6) (body := (sq (setM 7 [] (lift2 modD (liftL intD (consM (lift2 addD (lift2 addD (lift2 mulD (vr 7) (cst (.int 16807))) (lift2 mulD (cst (.int 7)) (vr 6))) (cst (.int 1))) nilM)) (cst (.int 2147483647)))) (appM 3 [] (lift2 modD (liftL intD (consM (lift2 fdivD (vr 7) (cst (.int 997))) nilM)) (cst (.int 1000))))))
          (ds := rangeD 0 12) (st := [some (.val (.list (ns.map .int))), some (.val (.int 0)), some (.val (.int 62)), some (.own (ds.map .int)), some (.val (.int (0 + j))), some (.val (.int c)), a6, some (.val (.int ((c * 48271 + (0 + j) * 69621 + 11) % 2147483647)))]) (fun m st => ∃ (ds' : List Int) (q : Int) (a6' : Option Sl), dg ds' ∧ ds'.length ≤ j * 60 + m ∧ st = [some (.val (.list (ns.map .int))), some (.val (.int 0)), some (.val (.int 62)), some (.own (ds'.map .int)), some (.val (.int (0 + j))), some (.val (.int c)), a6', some (.val (.int q))])
          (lift1_eq cst_eq rfl) ⟨ds, _, a6, h1, by omega, rfl⟩ (fun m d hm st hI => by
            obtain ⟨hm1, rfl⟩ := rangeD_at hm
            obtain ⟨ds', q, a6', k1, k2, rfl⟩ := hI
            refine ⟨_, _, rfl, ?_, ds' ++ [((q * 16807 + 7 * (0 + m) + 1) % 2147483647) / 997 % 1000], (q * 16807 + 7 * (0 + m) + 1) % 2147483647, some (.val (.int (0 + m))), dg_app k1 (by omega), by simp; omega, rfl⟩
            rw [sq_nx (setM_eq (lift2_eq (liftL_eq (cons_eq (lift2_eq (lift2_eq (lift2_eq (vr_eq rfl) cst_eq (d := .int (q * 16807)) (by simp [mulD, small64])) (lift2_eq cst_eq (vr_eq rfl) (d := .int (7 * (0 + m))) (by simp [mulD, small64])) rfl) cst_eq rfl) nil_eq) rfl) cst_eq (d := .int ((q * 16807 + 7 * (0 + m) + 1) % 2147483647)) (by simp [modD])))]
            rw [appM_int (ds := ds'.map .int) (d := (q * 16807 + 7 * (0 + m) + 1) % 2147483647 / 997 % 1000) ⟨_, rfl⟩ (lift2_eq (liftL_eq (cons_eq (lift2_eq (vr_eq rfl) cst_eq (d := .int ((q * 16807 + 7 * (0 + m) + 1) % 2147483647 / 997)) (by simp [fdivD])) nil_eq) rfl) cst_eq (by simp [modD])) rfl (by rw [List.length_map, hsz]; omega), map_app_int]
            rfl)
        refine ⟨_, _, rfl, ?_, ds', some (.val (.int (0 + j))), some (.val (.int c)), a6', some (.val (.int q)), k1, ?_, rfl⟩
        · refine (hstep _).trans ?_
          rw [iteM_f (lift2_eq (vr_eq rfl) (lift2_eq cst_eq cst_eq rfl) (by simp [both, geD, isB]; omega))]
          rw [sq_nx (setM_eq (lift2_eq (liftL_eq (cons_eq (lift2_eq (lift2_eq (lift2_eq (vr_eq rfl) cst_eq (d := .int (c * 48271)) (by simp [mulD, small64])) (lift2_eq (vr_eq rfl) cst_eq (d := .int ((0 + j) * 69621)) (by simp [mulD, small64])) rfl) cst_eq rfl) nil_eq) rfl) cst_eq (d := .int ((c * 48271 + (0 + j) * 69621 + 11) % 2147483647)) (by simp [modD])))]
          exact e
        · have : (rangeD 0 12).length = 12 := by simp [rangeD]
          rw [this] at k2
          omega)
  obtain ⟨st', e, ds, a4, a5, a6, a7, h1, h2, rfl⟩ := key
  refine ⟨ds, h1, ?_, ?_⟩
  · refine runD_eq rfl (st := frzD [3] (.list (ds.map .int)) [some (.val (.list (ns.map .int))), some (.val (.int 0)), some (.val (.int 62)), some (.own (ds.map .int)), a4, a5, a6, a7]) ?_
    unfold B_law_digits
    rw [sq_nx (setO_eq (lstM_eq nil_eq (by decide)))]
    rw [sq_nx (st1 := [some (.val (.list (ns.map .int))), some (.val (.int 0)), some (.val (.int 62)), some (.own (ds.map .int)), a4, a5, a6, a7])]
    · show retM [3] (vo 3) _ = _
      unfold retM
      rw [vo_own (ds := ds.map .int) rfl]
    · exact e
  · have : (rangeD 0 62).length = 62 := by simp [rangeD]
    rw [this] at h2
    omega
/-- the box: the digits, how many are drawn -/
def Bx (ds : List Int) (k : Nat) : List PyData := [.list (ds.map .int), .int k]
theorem box_eq (ns : List Int) : ∃ ds : List Int, dg ds ∧ F_law_box [.list (ns.map .int), .int 0, .int 62] = some (Bx ds 0) := by
  obtain ⟨ds, h1, h2, h3⟩ := digits_eq ns
  refine ⟨ds, h1, ?_⟩
  have e : B_law_box [some (.val (.list (ns.map .int))), some (.val (.int 0)), some (.val (.int 62))] = some (Bx ds 0, [some (.val (.list (ns.map .int))), some (.val (.int 0)), some (.val (.int 62))]) := by
    unfold B_law_box
    exact lstM_eq (cons_eq (callD_eq (cons_eq (vr_eq rfl) (cons_eq (vr_eq rfl) (cons_eq (vr_eq rfl) nil_eq))) h2) (cons_eq cst_eq nil_eq)) (show 2 ≤ sizeLine by decide)
  exact runN_eq rfl e
theorem draw_eq {ds : List Int} (hd : dg ds) (k : Nat) {m : Int} (hm : 0 < m) : ∃ r : Int, 0 ≤ r ∧ r < m ∧ F_law_draw (Bx ds k) [.int m] = some (.int r, Bx ds (k + 1)) := by
  have s1 : setM 2 [0] (lift2 ixD (vo 0) (cst (.int 1))) [some (.own (Bx ds k)), some (.val (.int m)), none] = some (.nx, [some (.own (Bx ds k)), some (.val (.int m)), some (.val (.int k))]) := rfl
  have s2 : putM 0 [] (lift2 addD (vr 2) (cst (.int 1))) (cst (.int 1)) [some (.own (Bx ds k)), some (.val (.int m)), some (.val (.int k))] = some (.nx, [some (.own (Bx ds (k + 1))), some (.val (.int m)), some (.val (.int k))]) := rfl
  have s3 : lift2 ixD (vo 0) (cst (.int 0)) [some (.own (Bx ds (k + 1))), some (.val (.int m)), some (.val (.int k))] = some (.list (ds.map .int), [some (.own (Bx ds (k + 1))), some (.val (.int m)), some (.val (.int k))]) := rfl
  by_cases h : k < ds.length
  · refine ⟨ds[k] % m, Int.emod_nonneg _ (by omega), Int.emod_lt_of_pos _ hm, ?_⟩
    refine runL_eq (st := [some (.own (Bx ds (k + 1))), some (.val (.int m)), some (.val (.int k))]) rfl ?_ rfl
    unfold B_law_draw
    show sq _ _ [some (.own (Bx ds k)), some (.val (.int m)), none] = _
    rw [sq_nx s1, sq_nx s2]
    rw [sq_rt (d := .int (ds[k] % m)) (st1 := [some (.own (Bx ds (k + 1))), some (.val (.int m)), some (.val (.int k))])]
    rw [iteM_t (lift2_eq (vr_eq rfl) (liftL_eq (cons_eq s3 nil_eq) rfl) (by simp [both, ltD, isB, h]))]
    unfold retM
    rw [lift2_eq (liftL_eq (cons_eq (lift2_eq s3 (vr_eq rfl) (ixD_l (j := k) (a := .int ds[k]) (by simp [h]) rfl)) nil_eq) rfl) (vr_eq rfl) (d := .int (ds[k] % m)) (by simp [modD, hm])]
    rfl
  · refine ⟨0, by omega, hm, ?_⟩
    refine runL_eq (st := [some (.own (Bx ds (k + 1))), some (.val (.int m)), some (.val (.int k))]) rfl ?_ rfl
    unfold B_law_draw
    show sq _ _ [some (.own (Bx ds k)), some (.val (.int m)), none] = _
    rw [sq_nx s1, sq_nx s2, sq_nx]
    · exact retM_eq cst_eq
    · rw [iteM_f (lift2_eq (vr_eq rfl) (liftL_eq (cons_eq s3 nil_eq) rfl) (by simp [both, ltD, isB, h]))]
      rfl

theorem some_eq {ds : List Int} (hd : dg ds) (k n : Nat) (hn : n ≤ 1000) (sp : Int) : ∃ (xs : List Int) (k' : Nat), List.Sublist xs (upto n) ∧ F_law_some (Bx ds k) [.int n, .int sp] = some (tuI xs, Bx ds k') := by
  have hsz : sizeLine = 16777216 := by decide
  obtain ⟨es, ys, st', e, ⟨k', rfl⟩, s, r⟩ := lcM_inv (vs := [3]) (it := lift1 range1D (vr 1)) (g := gv 3) (c := lift2 (both ltD) (callL F_law_draw 0 (consM (cst (.int 6)) nilM)) (vr 2)) (elt := vr 3)
    (st := [some (.own (Bx ds k)), some (.val (.int n)), some (.val (.int sp)), none]) (st0 := [some (.own (Bx ds k)), some (.val (.int n)), some (.val (.int sp)), none]) (J := fun st => ∃ k', st = [some (.own (Bx ds k')), some (.val (.int n)), some (.val (.int sp)), none]) (R := fun d y => y = d)
    (ds := (upto n).map .int) (lift1_eq (vr_eq rfl) (range1_nat n (by omega))) ⟨k, rfl⟩ rfl (by rw [List.length_map, upto_len, hsz]; omega) (fun d hd0 st ⟨k1, e⟩ => by
      subst e
      obtain ⟨r, _, _, hr⟩ := draw_eq hd k1 (m := 6) (by omega)
      refine ⟨[some (.own (Bx ds k1)), some (.val (.int n)), some (.val (.int sp)), some (.val d)], [some (.own (Bx ds (k1 + 1))), some (.val (.int n)), some (.val (.int sp)), some (.val d)], decide (r < sp), rfl, ?_, fun _ => ⟨_, rfl⟩, fun _ => ⟨d, _, vr_eq rfl, rfl, _, rfl⟩⟩
      exact lift2_eq (callL_eq (i := 0) rfl (cons_eq cst_eq nil_eq) rfl hr) (vr_eq rfl) rfl)
  obtain ⟨xs, hx, rfl⟩ := List.sublist_map_iff.mp s
  refine ⟨xs, k', hx, ?_⟩
  rw [r.eq] at e
  exact runL_eq rfl (by unfold B_law_some; exact retM_eq (tuM_eq e)) rfl

theorem table_eq {ds : List Int} (hd : dg ds) (k t m : Nat) (ht : t ≤ 50) (hm : m ≤ 50) : ∃ (n : Nat) (rows : List (List Int)) (k' : Nat), OkT n rows ∧ n ≤ m ∧ rows.length ≤ t ∧ F_law_table (Bx ds k) [.int t, .int m] = some (Tb n rows, Bx ds k') := by
  have hsz : sizeLine = 16777216 := by decide
  obtain ⟨r1, a1, b1, e1⟩ := draw_eq hd k (m := (m : Int) + 1) (by omega)
  obtain ⟨n, rfl⟩ := Int.eq_ofNat_of_zero_le a1
  obtain ⟨r2, a2, b2, e2⟩ := draw_eq hd (k + 1) (m := 3) (by omega)
  obtain ⟨r3, a3, b3, e3⟩ := draw_eq hd (k + 1 + 1) (m := (t : Int) + 1) (by omega)
  obtain ⟨q, rfl⟩ := Int.eq_ofNat_of_zero_le a3
  obtain ⟨es, ys, st', e, ⟨k', rfl⟩, s, r⟩ := lcM_inv (vs := [6]) (it := lift1 range1D (callL F_law_draw 0 (consM (lift2 addD (vr 1) (cst (.int 1))) nilM))) (g := gv 6) (c := yesM) (elt := callL F_law_some 0 (consM (vr 3) (consM (vr 4) nilM)))
    (st := [some (.own (Bx ds (k + 1 + 1))), some (.val (.int t)), some (.val (.int m)), some (.val (.int n)), some (.val (.int (2 + r2))), none, none]) (st0 := [some (.own (Bx ds (k + 1 + 1 + 1))), some (.val (.int t)), some (.val (.int m)), some (.val (.int n)), some (.val (.int (2 + r2))), none, none])
    (J := fun st => ∃ k', st = [some (.own (Bx ds k')), some (.val (.int t)), some (.val (.int m)), some (.val (.int n)), some (.val (.int (2 + r2))), none, none]) (R := fun _ y => ∃ x, y = tuI x ∧ List.Sublist x (upto n))
    (ds := (upto q).map .int) (lift1_eq (callL_eq (i := 0) rfl (cons_eq (lift2_eq (vr_eq rfl) cst_eq rfl) nil_eq) rfl e3) (range1_nat q (by omega))) ⟨_, rfl⟩ rfl (by rw [List.length_map, upto_len, hsz]; omega) (fun d hd0 st ⟨k1, e⟩ => by
      subst e
      obtain ⟨xs, k2, hx, hs⟩ := some_eq hd k1 n (by omega) (2 + r2)
      refine ⟨_, _, true, rfl, rfl, (fun z => by cases z), fun _ => ⟨_, _, callL_eq (i := 0) rfl (cons_eq (vr_eq rfl) (cons_eq (vr_eq rfl) nil_eq)) rfl hs, ⟨xs, rfl, hx⟩, k2, rfl⟩⟩)
  have hlen := r.len
  have hle := s.length_le
  rw [List.length_map, upto_len] at hle
  obtain ⟨rows, rfl, hrows⟩ := r.map
  rw [List.length_map] at hlen
  refine ⟨n, rows, k', ⟨by omega, by omega, hrows⟩, by omega, by omega, ?_⟩
  refine runL_eq (st := [some (.own (Bx ds k')), some (.val (.int t)), some (.val (.int m)), some (.val (.int n)), some (.val (.int (2 + r2))), some (.val (.tuple (rows.map tuI))), none]) rfl ?_ rfl
  unfold B_law_table
  refine (sq_nx (setM_eq (callL_eq (i := 0) rfl (cons_eq (lift2_eq (vr_eq rfl) cst_eq rfl) nil_eq) rfl e1))).trans ?_
  refine (sq_nx (setM_eq (lift2_eq cst_eq (callL_eq (i := 0) rfl (cons_eq cst_eq nil_eq) rfl e2) rfl))).trans ?_
  refine (sq_nx (setM_eq (tuM_eq e))).trans ?_
  exact retM_eq (tupM_eq (cons_eq cst_eq (cons_eq (vr_eq rfl) (cons_eq (vr_eq rfl) nil_eq))) (show 3 ≤ sizeLine by decide))

/-! ### a small evaluator: `trivial` closes goals `f st = some (?d, ?st')` -/
local macro_rules | `(tactic| trivial) => `(tactic| exact rfl)
local macro_rules | `(tactic| trivial) => `(tactic| focus ((with_reducible apply vr_eq); (exact rfl)))
local macro_rules | `(tactic| trivial) => `(tactic| focus ((with_reducible apply vo_own); (exact rfl)))
local macro_rules | `(tactic| trivial) => `(tactic| focus ((with_reducible apply @cst_eq)))
local macro_rules | `(tactic| trivial) => `(tactic| focus ((with_reducible apply @nil_eq)))
local macro_rules | `(tactic| trivial) => `(tactic| focus ((with_reducible apply @nx_eq)))
local macro_rules | `(tactic| trivial) => `(tactic| focus ((with_reducible apply @noP_eq)))
local macro_rules | `(tactic| trivial) => `(tactic| focus ((with_reducible apply seqV_eq); (exact rfl); (exact rfl)))
local macro_rules | `(tactic| trivial) => `(tactic| focus ((with_reducible apply cons_eq); (trivial); (trivial)))
local macro_rules | `(tactic| trivial) => `(tactic| focus ((with_reducible apply lift1_eq); (trivial); (trivial)))
local macro_rules | `(tactic| trivial) => `(tactic| focus ((with_reducible apply isB_eq); (trivial)))
local macro_rules | `(tactic| trivial) => `(tactic| focus ((with_reducible apply lift2_eq); (trivial); (trivial); (trivial)))
local macro_rules | `(tactic| trivial) => `(tactic| focus ((with_reducible apply liftL_eq); (trivial); (trivial)))
local macro_rules | `(tactic| trivial) => `(tactic| focus ((with_reducible apply lenL_eq); (trivial)))
local macro_rules | `(tactic| trivial) => `(tactic| focus ((with_reducible apply lenM_eq); (trivial)))
local macro_rules | `(tactic| trivial) => `(tactic| focus ((with_reducible apply callD_eq); (trivial); (trivial)))
local macro_rules | `(tactic| trivial) => `(tactic| focus ((with_reducible apply tuM_eq); (trivial)))
local macro_rules | `(tactic| trivial) => `(tactic| focus ((with_reducible apply notM_eq); (trivial)))
local macro_rules | `(tactic| trivial) => `(tactic| focus ((with_reducible apply and_eq); (trivial); (trivial)))
local macro_rules | `(tactic| trivial) => `(tactic| focus ((with_reducible apply or_eq); (trivial); (trivial)))
local macro_rules | `(tactic| trivial) => `(tactic| focus ((with_reducible apply blM_eq); (trivial)))
local macro_rules | `(tactic| trivial) => `(tactic| focus ((with_reducible apply lastG_eq); (trivial)))
local macro_rules | `(tactic| trivial) => `(tactic| focus ((with_reducible apply both_of); (trivial)))
local macro_rules | `(tactic| trivial) => `(tactic| focus ((with_reducible apply joinM_eq); (trivial); (trivial); (trivial)))
local macro_rules | `(tactic| trivial) => `(tactic| focus ((with_reducible apply slM_eq); (trivial); (trivial); (trivial); (trivial)))
local macro_rules | `(tactic| trivial) => `(tactic| focus ((with_reducible apply setM_eq); (trivial)))
local macro_rules | `(tactic| trivial) => `(tactic| focus ((with_reducible apply setO_eq); (trivial)))
local macro_rules | `(tactic| trivial) => `(tactic| focus ((with_reducible apply retM_eq); (trivial)))
local macro_rules | `(tactic| trivial) => `(tactic| focus ((with_reducible apply sq_nx2); (trivial); (trivial)))
local macro_rules | `(tactic| trivial) => `(tactic| focus ((with_reducible apply ite_v); (trivial); (trivial); (trivial)))
local macro_rules | `(tactic| trivial) => `(tactic| focus ((with_reducible apply sq_rt2); (trivial)))
local macro_rules | `(tactic| trivial) => `(tactic| focus ((with_reducible apply tru_eq); (exact rfl)))
local macro_rules | `(tactic| trivial) => `(tactic| focus ((with_reducible apply tupM_eq); (trivial); (first | exact Nat.le_of_ble_eq_true rfl | decide | trivial)))
local macro_rules | `(tactic| trivial) => `(tactic| focus ((with_reducible apply lstM_eq); (trivial); (first | exact Nat.le_of_ble_eq_true rfl | decide | trivial)))
local macro_rules | `(tactic| trivial) => `(tactic| focus ((with_reducible apply callL_eq); (exact rfl); (trivial); (exact rfl); (trivial)))
local macro_rules | `(tactic| trivial) => `(tactic| focus ((with_reducible apply inD_tuI)))
local macro_rules | `(tactic| trivial) => `(tactic| focus ((with_reducible apply ninD_tuI)))
local macro_rules | `(tactic| trivial) => `(tactic| focus ((with_reducible apply @ix1)))
local macro_rules | `(tactic| trivial) => `(tactic| focus ((with_reducible apply @ix2)))
local macro_rules | `(tactic| trivial) => `(tactic| focus ((with_reducible apply eqD_tuI)))
local macro_rules | `(tactic| trivial) => `(tactic| focus ((with_reducible apply neD_tuI)))
local macro_rules | `(tactic| trivial) => `(tactic| focus ((with_reducible apply @enumD_rows)))
local macro_rules | `(tactic| trivial) => `(tactic| focus ((with_reducible apply inD_rows)))
local macro_rules | `(tactic| trivial) => `(tactic| focus ((with_reducible apply ninD_rows)))
local macro_rules | `(tactic| trivial) => `(tactic| focus ((with_reducible apply inD_rowsL)))
local macro_rules | `(tactic| trivial) => `(tactic| focus ((with_reducible apply ninD_rowsL)))
local macro_rules | `(tactic| trivial) => `(tactic| focus ((with_reducible apply @len_rows)))
local macro_rules | `(tactic| trivial) => `(tactic| focus ((with_reducible apply seqV_own); (exact rfl)))
local macro_rules | `(tactic| trivial) => `(tactic| focus ((with_reducible apply @add_ii)))
local macro_rules | `(tactic| trivial) => `(tactic| focus ((with_reducible apply @sub_ii)))
local macro_rules | `(tactic| trivial) => `(tactic| focus ((with_reducible apply @iadd_ii)))
local macro_rules | `(tactic| trivial) => `(tactic| focus ((with_reducible apply @lt_ii)))
local macro_rules | `(tactic| trivial) => `(tactic| focus ((with_reducible apply @le_ii)))
local macro_rules | `(tactic| trivial) => `(tactic| focus ((with_reducible apply @gt_ii)))
local macro_rules | `(tactic| trivial) => `(tactic| focus ((with_reducible apply @ge_ii)))
local macro_rules | `(tactic| trivial) => `(tactic| focus ((with_reducible apply @eq_ii)))
local macro_rules | `(tactic| trivial) => `(tactic| focus ((with_reducible apply @ne_ii)))
local macro_rules | `(tactic| trivial) => `(tactic| focus ((with_reducible apply @int_i)))
local macro_rules | `(tactic| trivial) => `(tactic| focus ((with_reducible apply mod_ii); (omega)))
local macro_rules | `(tactic| trivial) => `(tactic| focus ((with_reducible apply fdiv_ii); (omega)))
local macro_rules | `(tactic| trivial) => `(tactic| focus ((with_reducible apply sl_to); (exact (mem_upto.mp (by assumption)).1); (exact (mem_upto.mp (by assumption)).2)))
local macro_rules | `(tactic| trivial) => `(tactic| focus ((with_reducible apply appM_eq); (exact rfl); (trivial); (exact rfl); (first | omega | (simp only [List.length_map, List.length_take, upto_len, szl]; omega) | (rw [upto_len, szl]; omega) | (rw [szl]; omega) | (rw [List.length_map, szl]; omega) | decide)))
local macro_rules | `(tactic| trivial) => `(tactic| focus ((with_reducible apply extM_eq); (exact rfl); (trivial); (exact rfl); (first | omega | (simp only [List.length_map, List.length_take, upto_len, szl]; omega) | (rw [upto_len, szl]; omega) | (rw [szl]; omega) | (rw [List.length_map, szl]; omega) | decide)))
local macro_rules | `(tactic| trivial) => `(tactic| focus ((with_reducible apply liD_eq); (trivial)))
local macro_rules | `(tactic| trivial) => `(tactic| focus ((with_reducible apply par2M_eq); (trivial)))
local macro_rules | `(tactic| trivial) => `(tactic| focus ((with_reducible apply srtM_eq); (trivial); (trivial)))
local macro_rules | `(tactic| trivial) => `(tactic| focus ((with_reducible apply sortSetLM_eq); (trivial); (trivial)))
local macro_rules | `(tactic| trivial) => `(tactic| focus ((with_reducible apply rg1_nat); (omega)))
local macro_rules | `(tactic| trivial) => `(tactic| focus ((with_reducible apply range2_nat); (omega); (omega)))
local macro_rules | `(tactic| trivial) => `(tactic| focus ((with_reducible apply rg2_nat); (omega); (omega)))
local macro_rules | `(tactic| trivial) => `(tactic| focus ((with_reducible apply sortSetL_ints); (first | omega | (simp only [List.length_map, List.length_take, upto_len, szl]; omega) | (rw [upto_len, szl]; omega) | (rw [szl]; omega) | (rw [List.length_map, szl]; omega) | decide)))
local macro_rules | `(tactic| trivial) => `(tactic| focus ((with_reducible apply range1_nat); (omega)))
local macro_rules | `(tactic| trivial) => `(tactic| focus ((with_reducible apply range_map); (first | omega | (rw [upto_len]; omega))))
local macro_rules | `(tactic| trivial) => `(tactic| focus ((with_reducible apply row_at); (exact (mem_upto.mp (by assumption)).1); (exact (mem_upto.mp (by assumption)).2)))
local macro_rules | `(tactic| trivial) => `(tactic| focus ((with_reducible apply useG_eq); (trivial); (exact rfl); (trivial)))
local macro_rules | `(tactic| trivial) => `(tactic| focus ((with_reducible apply allMG_eq); (trivial); (exact rfl); (trivial)))
local macro_rules | `(tactic| trivial) => `(tactic| focus ((with_reducible apply allG_map); (intro _ _; exact ⟨_, _, rfl, by trivial, fun _ => ⟨_, by trivial⟩⟩)))
local macro_rules | `(tactic| trivial) => `(tactic| focus ((with_reducible apply allG_all); (intro _ _; exact ⟨_, _, rfl, by trivial⟩)))
local macro_rules | `(tactic| trivial) => `(tactic| focus ((with_reducible apply anyG_map); (intro _ _; exact ⟨_, _, rfl, by trivial, fun _ => ⟨_, by trivial⟩⟩)))
local macro_rules | `(tactic| trivial) => `(tactic| focus ((with_reducible apply anyG_all); (intro _ _; exact ⟨_, _, rfl, by trivial⟩)))
local macro_rules | `(tactic| trivial) => `(tactic| focus ((with_reducible apply tupG_map); (first | omega | (simp only [List.length_map, List.length_take, upto_len, szl]; omega) | (rw [upto_len, szl]; omega) | (rw [szl]; omega) | (rw [List.length_map, szl]; omega) | decide); (intro _ _; exact ⟨_, _, rfl, by trivial, fun _ => ⟨_, by trivial⟩⟩)))
local macro_rules | `(tactic| trivial) => `(tactic| focus ((with_reducible apply tupG_all); (first | omega | (simp only [List.length_map, List.length_take, upto_len, szl]; omega) | (rw [upto_len, szl]; omega) | (rw [szl]; omega) | (rw [List.length_map, szl]; omega) | decide); (intro _ _; exact ⟨_, _, rfl, by trivial⟩)))
local macro_rules | `(tactic| trivial) => `(tactic| focus ((with_reducible apply lcM_map); (trivial); (exact rfl); (exact rfl); (exact rfl); (first | omega | (simp only [List.length_map, List.length_take, upto_len, szl]; omega) | (rw [upto_len, szl]; omega) | (rw [szl]; omega) | (rw [List.length_map, szl]; omega) | decide); (intro _ _; exact ⟨_, rfl, by trivial, fun _ => by trivial, rfl⟩)))
local macro_rules | `(tactic| trivial) => `(tactic| focus ((with_reducible apply lcM_all); (trivial); (exact rfl); (exact rfl); (exact rfl); (first | omega | (simp only [List.length_map, List.length_take, upto_len, szl]; omega) | (rw [upto_len, szl]; omega) | (rw [szl]; omega) | (rw [List.length_map, szl]; omega) | decide); (intro _ _; exact ⟨_, rfl, rfl, by trivial, rfl⟩)))
local macro_rules | `(tactic| trivial) => `(tactic| focus ((with_reducible apply lc2M_map); (trivial); (exact rfl); (exact rfl); (exact rfl); (intro _ _; exact ⟨_, rfl, by trivial, rfl, fun _ => ⟨by trivial, rfl, rfl, fun _ _ => ⟨_, rfl, by trivial, fun _ => by trivial, rfl⟩⟩⟩); (first | assumption | skip)))
local macro_rules | `(tactic| trivial) => `(tactic| focus ((with_reducible apply @yes_eq)))
--AUTOEND

/-! ### a drawn row of all numbers -/
theorem erase_perm : ∀ {L : List Int} {j : Nat} {x : Int}, L[j]? = some x → (x :: L.eraseIdx j).Perm L
  | [], _, _, h => by simp at h
  | a :: L, 0, x, h => by simp at h; subst h; exact List.Perm.refl _
  | a :: L, j + 1, x, h => by
    have := erase_perm (L := L) (j := j) (x := x) (by simpa using h)
    rw [List.eraseIdx_cons_succ]
    exact (List.Perm.swap a x _).trans (this.cons a)
theorem map_erase : ∀ (L : List Int) (j : Nat), (L.map PyData.int).eraseIdx j = (L.eraseIdx j).map .int
  | [], _ => rfl
  | _ :: _, 0 => rfl
  | a :: L, j + 1 => by rw [List.map_cons, List.eraseIdx_cons_succ, List.eraseIdx_cons_succ, List.map_cons, map_erase L j]
theorem get_erase_perm {L : List Int} {j : Nat} {x : Int} (h : L[j]? = some x) (O : List Int) : (O ++ [x] ++ L.eraseIdx j).Perm (O ++ L) := by
  rw [List.append_assoc]
  exact List.Perm.append_left O (erase_perm h)
theorem mixed_eq {ds : List Int} (hd : dg ds) (k n : Nat) (hn : n ≤ 50) : ∃ (pm : List Int) (k' : Nat), pm.Perm (upto n) ∧ F_law_mixed_order (Bx ds k) [.int n] = some (.list (pm.map .int), Bx ds k') := by
  have hs : Stp (forM (lift1 range1D (vr 1)) (gv 4) (appM 3 [] (popG 2 (lift2 modD (liftL intD (consM (callL F_law_draw 0 (consM (cst (.int 1000)) nilM)) nilM)) (lenM (seqV 2))))))
      [some (.own (Bx ds k)), some (.val (.int n)), some (.own ((upto n).map .int)), some (.own []), none]
      (fun st => ∃ (k' : Nat) (a4 : Option Sl) (pm L : List Int), st = [some (.own (Bx ds k')), some (.val (.int n)), some (.own (L.map .int)), some (.own (pm.map .int)), a4] ∧ (pm ++ L).Perm (upto n) ∧ pm.length = n) := by
    refine (Stp.for (fun i st => ∃ (k' : Nat) (a4 : Option Sl) (pm L : List Int), st = [some (.own (Bx ds k')), some (.val (.int n)), some (.own (L.map .int)), some (.own (pm.map .int)), a4] ∧ (pm ++ L).Perm (upto n) ∧ pm.length = i) (by trivial) ⟨k, none, [], upto n, rfl, List.Perm.refl _, rfl⟩ (fun i d hi st hI => ?_)).imp fun st hI => ?_
    · obtain ⟨k', a4, pm, L, rfl, hp, hl⟩ := hI
      obtain ⟨hin, hu, rfl⟩ := upto_at hi
      have hlen := hp.length_eq
      rw [List.length_append, upto_len, hl] at hlen
      obtain ⟨r, h0, h1, e⟩ := draw_eq hd k' (m := 1000) (by omega)
      have hLp : (0 : Int) < L.length := by omega
      have hj0 := Int.emod_nonneg r (show (L.length : Int) ≠ 0 by omega)
      have hj1 := Int.emod_lt_of_pos r hLp
      obtain ⟨j, hj⟩ := Int.eq_ofNat_of_zero_le hj0
      rw [hj] at hj1
      have hjl : j < L.length := by omega
      refine ⟨_, rfl, ?_⟩
      refine Stp.one (appM_eq rfl (popG_eq (k := r % L.length) (j := j) rfl (lift2_eq (liftL_eq (cons_eq (callL_eq rfl (by trivial) rfl e) nil_eq) rfl) (lenM_eq (seqV_own rfl)) ?_) rfl ?_ (by rw [List.getElem?_map, List.getElem?_eq_getElem hjl]; rfl) rfl ?_) rfl (by rw [List.length_map, szl]; omega)) ?_
      · show (if (0 : Int) < ((L.map PyData.int).length : Nat) then some (PyData.int (r % ((L.map PyData.int).length : Nat))) else none) = _
        rw [List.length_map, if_pos hLp]
      · rw [hj, List.length_map, ixN_ok (by omega) (by omega)]; rfl
      · rw [hj]; unfold small62; rw [decide_eq_true_iff]; constructor <;> omega
      · refine ⟨k' + 1, some (.val (.int i)), pm ++ [L[j]], L.eraseIdx j, ?_, ?_, ?_⟩
        · rw [List.map_append, ← map_erase]; rfl
        · exact (get_erase_perm (List.getElem?_eq_getElem hjl) pm).trans hp
        · rw [List.length_append, hl]; rfl
    · obtain ⟨k', a4, pm, L, rfl, hp, hl⟩ := hI
      rw [List.length_map, upto_len] at hl
      exact ⟨_, _, _, _, rfl, hp, hl⟩
  obtain ⟨st', e, k', a4, pm, L, rfl, hp, hl⟩ := hs
  have hL : L = [] := by
    have := hp.length_eq
    rw [List.length_append, upto_len, hl] at this
    exact List.eq_nil_of_length_eq_zero (by omega)
  subst hL
  rw [List.append_nil] at hp
  refine ⟨pm, k', hp, ?_⟩
  have e3 : B_law_mixed_order [some (.own (Bx ds k)), some (.val (.int n)), none, none, none] = some (.rt (.list (pm.map .int)), frzD [3] (.list (pm.map .int)) [some (.own (Bx ds k')), some (.val (.int n)), some (.own []), some (.own (pm.map .int)), a4]) := by
    unfold B_law_mixed_order
    refine (sq_nx (by trivial)).trans ?_
    refine (sq_nx (by trivial)).trans ?_
    refine (sq_nx e).trans ?_
    show retM [3] (vo 3) _ = _
    unfold retM
    rw [vo_own (ds := pm.map .int) rfl]
    rfl
  refine runL_eq rfl e3 ?_
  unfold frzD
  split
  · rfl
  · rfl

/-! ### a drawn order -/
def Od (n : Nat) (rows : List (List Int)) : PyData := .tuple [.str "order", .int n, .tuple (rows.map tuI)]
structure OkO (n : Nat) (rows : List (List Int)) : Prop where
  le : n ≤ 50
  len : rows.length = n
  sub : ∀ r ∈ rows, List.Sublist r (upto n)
  refl : ∀ x ∈ upto n, x ∈ row rows x
  trans : ∀ x y z : Int, y ∈ row rows x → z ∈ row rows y → z ∈ row rows x
  anti : ∀ x y : Int, y ∈ row rows x → x ∈ row rows y → x = y
abbrev liI (xs : List Int) : PyData := .list (xs.map .int)
theorem row_set (rows : List (List Int)) (a : Nat) (ha : a < rows.length) (r : List Int) (x : Int) (hx : 0 ≤ x) : row (rows.set a r) x = if x = a then r else row rows x := by
  unfold row
  rw [List.getD_eq_getElem?_getD, List.getD_eq_getElem?_getD, List.getElem?_set]
  by_cases h : x = (a : Int)
  · have : a = x.toNat := by omega
    rw [if_pos h, if_pos this, if_pos ha]; rfl
  · have : ¬ a = x.toNat := by omega
    rw [if_neg h, if_neg this]
theorem row_mem {rows : List (List Int)} {x y : Int} (h : y ∈ row rows x) : x.toNat < rows.length ∧ row rows x ∈ rows := by
  unfold row at h ⊢
  rw [List.getD_eq_getElem?_getD] at h ⊢
  cases e : rows[x.toNat]? with
  | none => rw [e] at h; cases h
  | some r => exact ⟨(List.getElem?_eq_some_iff.mp e).1, List.mem_of_getElem? e⟩
theorem rowL_at {rows : List (List Int)} {g : Int} (h0 : 0 ≤ g) (h : g < rows.length) : ixD (.list (rows.map liI)) (.int g) = some (liI (row rows g)) := by
  obtain ⟨j, rfl⟩ := Int.eq_ofNat_of_zero_le h0
  have hj : j < rows.length := by omega
  refine ixD_l (j := j) ?_ rfl
  unfold row
  rw [List.getElem?_map, List.getElem?_eq_getElem hj]
  simp [hj]
theorem addD_liI {a b : List Int} (h : a.length + b.length ≤ 1000) : addD (liI a) (liI b) = some (liI (a ++ b)) := by
  show (if (a.map PyData.int).length + (b.map PyData.int).length ≤ sizeLine then some (PyData.list (a.map PyData.int ++ b.map PyData.int)) else none) = _
  rw [if_pos (by rw [List.length_map, List.length_map, szl]; omega), ← List.map_append]
/-- what is known while the order grows: i numbers from the end of pm are done -/
structure Gr (n : Nat) (pm : List Int) (i : Nat) (rows : List (List Int)) : Prop where
  len : rows.length = n
  sub : ∀ x ∈ upto n, List.Sublist (row rows x) (upto n)
  refl : ∀ x ∈ upto n, x ∈ row rows x
  up : ∀ (a : Nat) (x : Int), pm[a]? = some x → ∀ y ∈ row rows x, ∃ b, a ≤ b ∧ pm[b]? = some y
  raw : ∀ (a : Nat) (x : Int), a + i < n → pm[a]? = some x → row rows x = [x]
  trans : ∀ x ∈ upto n, ∀ y ∈ row rows x, ∀ z ∈ row rows y, z ∈ row rows x
theorem lt_inj {xs : List Int} (h : xs.Nodup) : ∀ {a b : Nat} {x : Int}, xs[a]? = some x → xs[b]? = some x → a = b := by
  induction h with
  | nil => intro a b x h; simp at h
  | @cons y ys hy _ ih =>
    intro a b x h1 h2
    cases a with
    | zero =>
      cases b with
      | zero => rfl
      | succ b =>
        simp only [List.getElem?_cons_zero, Option.some.injEq, List.getElem?_cons_succ] at h1 h2
        subst h1
        exact absurd rfl (hy _ (List.mem_of_getElem? h2))
    | succ a =>
      cases b with
      | zero =>
        simp only [List.getElem?_cons_zero, Option.some.injEq, List.getElem?_cons_succ] at h1 h2
        subst h2
        exact absurd rfl (hy _ (List.mem_of_getElem? h1))
      | succ b =>
        rw [List.getElem?_cons_succ] at h1 h2
        rw [ih h1 h2]
theorem pm_inj {n : Nat} {pm : List Int} (hp : pm.Perm (upto n)) {a b : Nat} {x : Int} (h1 : pm[a]? = some x) (h2 : pm[b]? = some x) : a = b := by
  have nd : pm.Nodup := (hp.nodup_iff).mpr ((upto_lt n).imp fun h => by omega)
  exact lt_inj nd h1 h2
theorem pm_at {n : Nat} {pm : List Int} (hp : pm.Perm (upto n)) {x : Int} (h : x ∈ upto n) : ∃ a : Nat, pm[a]? = some x := List.mem_iff_getElem?.mp (hp.mem_iff.mpr h)
theorem sub_of_mem {n : Nat} {xs : List Int} (hs : xs.Pairwise (· < ·)) (hm : ∀ x ∈ xs, x ∈ upto n) : List.Sublist xs (upto n) := by
  have e : xs = (upto n).filter fun i => decide (i ∈ xs) := sorted_filter hs ((upto_lt n).sublist List.filter_sublist) fun i => by
    rw [List.mem_filter, decide_eq_true_iff]
    exact ⟨fun h => ⟨hm i h, h⟩, fun h => h.2⟩
  rw [e]; exact List.filter_sublist
/-- within a round: the row of x grows -/
structure Gi (n : Nat) (pm : List Int) (i : Nat) (x : Int) (rows0 rows : List (List Int)) : Prop where
  len : rows.length = n
  other : ∀ y ∈ upto n, y ≠ x → row rows y = row rows0 y
  sub : List.Sublist (row rows x) (upto n)
  self : x ∈ row rows x
  up : ∀ y ∈ row rows x, y = x ∨ ∃ b, n ≤ b + i ∧ pm[b]? = some y
  tr : ∀ y ∈ row rows x, y ≠ x → ∀ z ∈ row rows0 y, z ∈ row rows x
theorem gi_step {n i b : Nat} {pm : List Int} {x y : Int} {rows0 rows : List (List Int)} (hp : pm.Perm (upto n)) (hx : pm[n - 1 - i]? = some x) (hi : i < n) (G : Gr n pm i rows0) (g : Gi n pm i x rows0 rows) (hb : n ≤ b + i) (hy : pm[b]? = some y) :
    Gi n pm i x rows0 (rows.set x.toNat (risI (row rows x ++ row rows y))) := by
  have hxu : x ∈ upto n := hp.mem_iff.mp (List.mem_of_getElem? hx)
  have hyu : y ∈ upto n := hp.mem_iff.mp (List.mem_of_getElem? hy)
  have hx0 := mem_upto.mp hxu
  have hxl : x.toNat < rows.length := by rw [g.len]; omega
  have hxe : ((x.toNat : Nat) : Int) = x := by omega
  have hyx : y ≠ x := fun e => by
    subst e
    have := pm_inj hp hx hy
    omega
  have rx : row (rows.set x.toNat (risI (row rows x ++ row rows y))) x = risI (row rows x ++ row rows y) := by rw [row_set _ _ hxl _ _ hx0.1, hxe, if_pos rfl]
  have ro : ∀ z ∈ upto n, z ≠ x → row (rows.set x.toNat (risI (row rows x ++ row rows y))) z = row rows0 z := fun z hz hn => by
    rw [row_set _ _ hxl _ _ (mem_upto.mp hz).1, hxe, if_neg hn, g.other z hz hn]
  have ey : row rows y = row rows0 y := g.other y hyu hyx
  have inn : ∀ z ∈ row rows0 y, ∃ c, b ≤ c ∧ pm[c]? = some z := G.up b y hy
  refine ⟨by rw [List.length_set]; exact g.len, ro, ?_, ?_, ?_, ?_⟩
  · rw [rx]
    refine sub_of_mem (risI_lt _) fun z hz => ?_
    rcases List.mem_append.mp (mem_risI.mp hz) with h | h
    · exact g.sub.subset h
    · rw [ey] at h; exact (G.sub y hyu).subset h
  · rw [rx]; exact mem_risI.mpr (List.mem_append_left _ g.self)
  · rw [rx]
    intro z hz
    rcases List.mem_append.mp (mem_risI.mp hz) with h | h
    · exact g.up z h
    · rw [ey] at h
      obtain ⟨c, hc, e⟩ := inn z h
      exact .inr ⟨c, by omega, e⟩
  · rw [rx]
    intro z hz hn w hw
    rcases List.mem_append.mp (mem_risI.mp hz) with h | h
    · exact mem_risI.mpr (List.mem_append_left _ (g.tr z h hn w hw))
    · rw [ey] at h
      exact mem_risI.mpr (List.mem_append_right _ (by rw [ey]; exact G.trans y hyu z h w hw))
theorem gi_end {n i : Nat} {pm : List Int} {x : Int} {rows0 rows : List (List Int)} (hp : pm.Perm (upto n)) (hx : pm[n - 1 - i]? = some x) (hi : i < n) (G : Gr n pm i rows0) (g : Gi n pm i x rows0 rows) : Gr n pm (i + 1) rows := by
  have hxu : x ∈ upto n := hp.mem_iff.mp (List.mem_of_getElem? hx)
  refine ⟨g.len, fun y hy => ?_, fun y hy => ?_, fun a y hy z hz => ?_, fun a y ha hy => ?_, fun y hy z hz w hw => ?_⟩
  · by_cases e : y = x
    · subst e; exact g.sub
    · rw [g.other y hy e]; exact G.sub y hy
  · by_cases e : y = x
    · subst e; exact g.self
    · rw [g.other y hy e]; exact G.refl y hy
  · by_cases e : y = x
    · subst e
      have ha := pm_inj hp hx hy
      rcases g.up z hz with h | ⟨b, hb, e2⟩
      · subst h; exact ⟨a, Nat.le_refl _, hy⟩
      · exact ⟨b, by omega, e2⟩
    · have hyu : y ∈ upto n := hp.mem_iff.mp (List.mem_of_getElem? hy)
      rw [g.other y hyu e] at hz
      exact G.up a y hy z hz
  · have e : y ≠ x := fun e => by
      subst e
      have := pm_inj hp hx hy
      omega
    have hyu : y ∈ upto n := hp.mem_iff.mp (List.mem_of_getElem? hy)
    rw [g.other y hyu e]
    exact G.raw a y (by omega) hy
  · by_cases e : y = x
    · subst e
      by_cases e2 : z = y
      · subst e2; exact hw
      · have hzu := g.sub.subset hz
        rw [g.other z hzu e2] at hw
        exact g.tr z hz e2 w hw
    · rw [g.other y hy e] at hz ⊢
      have hzu := (G.sub y hy).subset hz
      by_cases e2 : z = x
      · subst e2
        -- y is before x and not done: its row is [y]; or behind: then x cannot stand in it
        obtain ⟨a, ha⟩ := pm_at hp hy
        obtain ⟨b, hb, eb⟩ := G.up a y ha z hz
        have hbe := pm_inj hp hx eb
        by_cases h : a + i < n
        · rw [G.raw a y h ha] at hz
          exact absurd (List.mem_singleton.mp hz).symm e
        · omega
      · rw [g.other z hzu e2] at hw
        exact G.trans y hy z hz w hw

/-! ### orders: items -/
theorem odx0 {n : Nat} {rows : List (List Int)} : ixD (Od n rows) (.int 0) = some (.str "order") := ixD_t (j := 0) rfl rfl
theorem odx1 {n : Nat} {rows : List (List Int)} : ixD (Od n rows) (.int 1) = some (.int n) := ixD_t (j := 1) rfl rfl
theorem odx2 {n : Nat} {rows : List (List Int)} : ixD (Od n rows) (.int 2) = some (.tuple (rows.map tuI)) := ixD_t (j := 2) rfl rfl
local macro_rules | `(tactic| trivial) => `(tactic| focus ((with_reducible apply @odx0)))
local macro_rules | `(tactic| trivial) => `(tactic| focus ((with_reducible apply @odx1)))
local macro_rules | `(tactic| trivial) => `(tactic| focus ((with_reducible apply @odx2)))
def InU (rows : List (List Int)) (g : Int) : Prop := 0 ≤ g ∧ g < rows.length
theorem row_atU {rows : List (List Int)} {g : Int} (h : InU rows g) : ixD (.tuple (rows.map tuI)) (.int g) = some (tuI (row rows g)) := row_at h.1 h.2
theorem OkO.mem {n : Nat} {rows : List (List Int)} (o : OkO n rows) {x y : Int} (h : y ∈ row rows x) : y ∈ upto n := (o.sub _ (row_mem h).2).subset h
theorem OkO.rlen {n : Nat} {rows : List (List Int)} (o : OkO n rows) (x : Int) : (row rows x).length ≤ 50 := by
  by_cases h : row rows x = []
  · rw [h]; simp
  · obtain ⟨y, hy⟩ := List.exists_mem_of_ne_nil _ h
    exact Nat.le_trans (up_le (o.sub _ (row_mem hy).2)) o.le
theorem OkO.sorted {n : Nat} {rows : List (List Int)} (o : OkO n rows) (x : Int) : (row rows x).Pairwise (· < ·) := by
  by_cases h : row rows x = []
  · rw [h]; exact .nil
  · obtain ⟨y, hy⟩ := List.exists_mem_of_ne_nil _ h
    exact (upto_lt n).sublist (o.sub _ (row_mem hy).2)
theorem inU_of {rows : List (List Int)} {g : Int} (h : g ∈ upto rows.length) : InU rows g := mem_upto.mp h
theorem inU_row {rows : List (List Int)} {x y : Int} (o : OkO rows.length rows) (h : y ∈ row rows x) : InU rows y := mem_upto.mp (o.mem h)
theorem inU_in {rows : List (List Int)} {xs : List Int} {y : Int} (h : ∀ y ∈ xs, InU rows y) (hy : y ∈ xs) : InU rows y := h y hy
def at0 (im : List Int) (x : Int) : Int := im.getD x.toNat 0
theorem at0_eq {im : List Int} {x : Int} (h0 : 0 ≤ x) (h : x < im.length) : ixD (tuI im) (.int x) = some (.int (at0 im x)) := by
  obtain ⟨j, rfl⟩ := Int.eq_ofNat_of_zero_le h0
  have hj : j < im.length := by omega
  refine ixD_t (j := j) ?_ rfl
  unfold at0
  rw [List.getElem?_map, List.getElem?_eq_getElem hj]
  simp [hj]
theorem at0_mem {im : List Int} {x : Int} (h0 : 0 ≤ x) (h : x < im.length) : at0 im x ∈ im := by
  unfold at0
  rw [List.getD_eq_getElem?_getD, List.getElem?_eq_getElem (show x.toNat < im.length by omega)]
  exact List.getElem_mem _
/-- images in an order -/
structure Im (rows : List (List Int)) (im : List Int) : Prop where
  len : im.length = rows.length
  mem : ∀ y ∈ im, InU rows y
theorem at0_im {rows : List (List Int)} {im : List Int} {x : Int} (i : Im rows im) (h : InU rows x) : ixD (tuI im) (.int x) = some (.int (at0 im x)) := at0_eq h.1 (by rw [i.len]; exact h.2)
theorem inU_im {rows : List (List Int)} {im : List Int} {x : Int} (i : Im rows im) (h : InU rows x) : InU rows (at0 im x) := i.mem _ (at0_mem h.1 (by rw [i.len]; exact h.2))
local macro_rules | `(tactic| trivial) => `(tactic| focus ((with_reducible apply row_atU); (trivial)))
local macro_rules | `(tactic| trivial) => `(tactic| focus ((with_reducible apply at0_im); (assumption); (trivial)))
local macro_rules | `(tactic| trivial) => `(tactic| focus ((with_reducible apply inU_im); (assumption); (trivial)))
local macro_rules | `(tactic| trivial) => `(tactic| focus ((with_reducible apply inU_row); (assumption); (assumption)))
local macro_rules | `(tactic| trivial) => `(tactic| focus ((with_reducible apply inU_in); (assumption); (assumption)))
local macro_rules | `(tactic| trivial) => `(tactic| focus ((with_reducible apply inU_of); (assumption)))

theorem part_eq (a b : List Int) : F_is_part [tuI a, tuI b] = some (.bool (a.all fun i => decide (i ∈ b))) := by
  refine runD_eq (st := [some (.val (tuI a)), some (.val (tuI b)), none]) rfl ?_
  unfold B_is_part
  refine retM_eq (useM_eq (genM_eq (seqV_eq (ds := a.map .int) rfl rfl) rfl) ?_)
  exact genGo_bools a fun i _ => ⟨_, _, rfl, rfl, by
    unfold lastG
    rw [lift2_eq (vr_eq rfl) (vr_eq rfl) (inD_tuI i b)]⟩

theorem inside_eq (a b : List Int) (ha : a.length ≤ 1000) : F_law_inside [tuI a, tuI b] = some (.bool (a.all fun i => decide (i ∈ b))) := by
  have hsz : sizeLine = 16777216 := by decide
  refine runD_eq (st := [some (.val (tuI a)), some (.val (tuI b)), none]) rfl ?_
  unfold B_law_inside
  have e : lcM [2] (seqV 0) (gv 2) (lift2 (both ninD) (vr 2) (vr 1)) (vr 2) [some (.val (tuI a)), some (.val (tuI b)), none] = some ((a.filter fun i => !decide (i ∈ b)).map PyData.int, [some (.val (tuI a)), some (.val (tuI b)), none]) :=
    lcM_map (φ := PyData.int) (seqV_eq rfl rfl) rfl rfl rfl (by omega) fun i _ => ⟨_, rfl, lift2_eq (vr_eq rfl) (vr_eq rfl) (both_of (ninD_tuI i b)), fun _ => vr_eq rfl, rfl⟩
  refine retM_eq (lift2_eq (a := .int (a.filter fun i => !decide (i ∈ b)).length) (b := .int 0) ?_ cst_eq (eq0_filter a _))
  unfold lenM
  show (match lcM [2] (seqV 0) (gv 2) (lift2 (both ninD) (vr 2) (vr 1)) (vr 2) [some (.val (tuI a)), some (.val (tuI b)), none] with | some (ds, st1) => some (PyData.int ds.length, st1) | none => none) = _
  rw [e]
  simp only [List.length_map]

theorem lcommon_eq {n : Nat} {rows : List (List Int)} {th : List Int} (o : OkT n rows) (h : Th rows th) (hl : th.length ≤ 1000) : F_law_common [Tb n rows, tuI th] = some (tuI (com n rows th)) := by
  have hsz : sizeLine = 16777216 := by decide
  obtain ⟨hn, hr, hs⟩ := o
  refine runD_eq (st := [some (.val (Tb n rows)), some (.val (tuI th)), none, none]) rfl ?_
  unfold B_law_common
  refine retM_eq (tuM_eq (lcM_map (φ := PyData.int) (p := fun m => th.all fun g => decide (m ∈ row rows g)) (f := PyData.int) (lift1_eq (lift2_eq (vr_eq rfl) cst_eq (ixD_t (j := 1) rfl rfl)) (range1_nat n (by omega))) rfl rfl rfl (by rw [upto_len]; omega) fun m _ =>
    ⟨[some (.val (Tb n rows)), some (.val (tuI th)), some (.val (.int m)), none], rfl, ?_, fun _ => vr_eq rfl, rfl⟩))
  have e : lcM [3] (seqV 1) (gv 3) (lift2 (both ninD) (vr 2) (lift2 ixD (lift2 ixD (vr 0) (cst (.int 2))) (vr 3))) (vr 3) [some (.val (Tb n rows)), some (.val (tuI th)), some (.val (.int m)), none] = some ((th.filter fun g => !decide (m ∈ row rows g)).map PyData.int, [some (.val (Tb n rows)), some (.val (tuI th)), some (.val (.int m)), none]) :=
    lcM_map (φ := PyData.int) (seqV_eq rfl rfl) rfl rfl rfl (by omega) fun g hg => ⟨_, rfl, lift2_eq (vr_eq rfl) (lift2_eq (lift2_eq (vr_eq rfl) cst_eq (ixD_t (j := 2) rfl rfl)) (vr_eq rfl) (row_at (h g hg).1 (h g hg).2)) (both_of (ninD_tuI m _)), fun _ => vr_eq rfl, rfl⟩
  refine lift2_eq (a := .int (th.filter fun g => !decide (m ∈ row rows g)).length) (b := .int 0) ?_ cst_eq (both_of (eq0_filter th _))
  unfold lenM
  rw [e]
  simp only [List.length_map]

theorem lhaving_eq {n : Nat} {rows : List (List Int)} (o : OkT n rows) (ms : List Int) (hl : ms.length ≤ 1000) : F_law_having [Tb n rows, tuI ms] = some (tuI (hav rows ms)) := by
  have hsz : sizeLine = 16777216 := by decide
  obtain ⟨hn, hr, hs⟩ := o
  refine runD_eq (st := [some (.val (Tb n rows)), some (.val (tuI ms)), none]) rfl ?_
  unfold B_law_having
  exact retM_eq (tuM_eq (lcM_map (φ := PyData.int) (p := fun g => ms.all fun m => decide (m ∈ row rows g)) (f := PyData.int) (ds := upto rows.length) (lift1_eq (liftL_eq (cons_eq (lift2_eq (vr_eq rfl) cst_eq (ixD_t (j := 2) rfl rfl)) nil_eq) rfl) (by rw [List.length_map]; exact range1_nat _ (by omega))) rfl rfl rfl (by rw [upto_len]; omega) fun g hg =>
    ⟨[some (.val (Tb n rows)), some (.val (tuI ms)), some (.val (.int g))], rfl, lift1_eq (callD_eq (cons_eq (vr_eq rfl) (cons_eq (lift2_eq (lift2_eq (vr_eq rfl) cst_eq (ixD_t (j := 2) rfl rfl)) (vr_eq rfl) (row_at (mem_upto.mp hg).1 (mem_upto.mp hg).2)) nil_eq)) (inside_eq ms (row rows g) hl)) rfl, fun _ => vr_eq rfl, rfl⟩))

theorem lclosure_eq {n : Nat} {rows : List (List Int)} (o : OkT n rows) (ms : List Int) (hl : ms.length ≤ 1000) : F_law_closure [Tb n rows, tuI ms] = some (tuI (com n rows (hav rows ms))) := by
  refine runD_eq (st := [some (.val (Tb n rows)), some (.val (tuI ms))]) rfl ?_
  unfold B_law_closure
  exact retM_eq (callD_eq (cons_eq (vr_eq rfl) (cons_eq (callD_eq (cons_eq (vr_eq rfl) (cons_eq (vr_eq rfl) nil_eq)) (lhaving_eq o ms hl)) nil_eq)) (lcommon_eq o (th_hav rows ms) (Nat.le_trans (hav_len rows ms) (Nat.le_trans o.2.1 (by omega)))))

theorem same_tup {n : Nat} {ds : List PyData} (hl : ds.length ≤ 1000) (h : ∀ d ∈ ds, F_law_same n [d, d] = some (.bool true)) : F_law_same (n + 1) [.tuple ds, .tuple ds] = some (.bool true) := by
  have hr : range1D (.int (ds.length : Nat)) = some ((upto ds.length).map .int) := range1_nat ds.length (by omega)
  have hl1 : liftL lenD (consM (vr 1) nilM) [some (.val (.tuple ds)), some (.val (.tuple ds)), none] = some (.int (ds.length : Nat), [some (.val (.tuple ds)), some (.val (.tuple ds)), none]) := liftL_eq (cons_eq (vr_eq rfl) nil_eq) rfl
  have hl0 : liftL lenD (consM (vr 0) nilM) [some (.val (.tuple ds)), some (.val (.tuple ds)), none] = some (.int (ds.length : Nat), [some (.val (.tuple ds)), some (.val (.tuple ds)), none]) := liftL_eq (cons_eq (vr_eq rfl) nil_eq) rfl
  have hit : lift1 range1D (liftL lenD (consM (vr 1) nilM)) [some (.val (.tuple ds)), some (.val (.tuple ds)), none] = some ((upto ds.length).map .int, [some (.val (.tuple ds)), some (.val (.tuple ds)), none]) := lift1_eq hl1 hr
  obtain ⟨st', e, a2, rfl⟩ := forM_inv (it := lift1 range1D (liftL lenD (consM (vr 1) nilM))) (g := gv 2) (body := iteM (notM (lift1 isB (callD (F_law_same n) (consM (lift2 ixD (vr 0) (vr 2)) (consM (lift2 ixD (vr 1) (vr 2)) nilM))))) (retM [] (cst (.bool false))) nxM)
    (st := [some (.val (.tuple ds)), some (.val (.tuple ds)), none]) (fun _ st => ∃ a2, st = [some (.val (.tuple ds)), some (.val (.tuple ds)), a2]) hit ⟨none, rfl⟩ (fun j d hj st ⟨a2, e⟩ => by
      subst e
      rw [List.getElem?_map] at hj
      cases hu : (upto ds.length)[j]? with
      | none => rw [hu] at hj; cases hj
      | some i =>
        rw [hu] at hj
        cases hj
        have hi := mem_upto.mp (List.mem_of_getElem? hu)
        obtain ⟨m, rfl⟩ := Int.eq_ofNat_of_zero_le hi.1
        have hm : m < ds.length := by omega
        have hx : ixD (.tuple ds) (.int m) = some ds[m] := ixD_t (j := m) (List.getElem?_eq_getElem hm) rfl
        refine ⟨_, [some (.val (.tuple ds)), some (.val (.tuple ds)), some (.val (.int m))], rfl, ite_f (notM_eq (b := true) (lift1_eq (callD_eq (cons_eq (lift2_eq (vr_eq rfl) (vr_eq rfl) hx) (cons_eq (lift2_eq (vr_eq rfl) (vr_eq rfl) hx) nil_eq)) (h _ (List.getElem_mem hm))) rfl)) nx_eq, _, rfl⟩)
  show runD 2 1 (B_law_same (F_law_same n)) _ = _
  refine runD_eq (st := [some (.val (.tuple ds)), some (.val (.tuple ds)), a2]) rfl ?_
  unfold B_law_same
  refine sq_rt ?_
  refine ite_t (isi_eq rfl rfl) ?_
  refine Eq.trans (sq_f (or_f (notM_eq (b := true) (isi_eq rfl rfl)) (lift2_eq hl0 hl1 ?_))) ?_
  · refine both_of (r := false) ?_
    show some (PyData.bool (!(((ds.length : Nat) : Int) == ((ds.length : Nat) : Int)))) = _
    simp
  · exact (sq_nx e).trans (retM_eq cst_eq)
theorem same_int (n : Nat) (i : Int) : F_law_same (n + 1) [.int i, .int i] = some (.bool true) := by
  show runD 2 1 (B_law_same (F_law_same n)) _ = _
  refine runD_eq (st := [some (.val (.int i)), some (.val (.int i)), none]) rfl ?_
  unfold B_law_same
  refine Eq.trans (sq_f (isi_eq rfl rfl)) ?_
  refine Eq.trans (sq_f (lift2_eq (vr_eq rfl) cst_eq rfl)) ?_
  refine Eq.trans (sq_f (isi_eq rfl rfl)) ?_
  refine sq_rt (ite_t (isi_eq rfl rfl) (retM_eq (blM_eq (and_t (isi_eq rfl rfl) (and_t (notM_eq (b := false) (isi_eq rfl rfl)) (lift2_eq (vr_eq rfl) (vr_eq rfl) (both_of (r := true) ?_)))))))
  show some (PyData.bool (i == i)) = _
  simp
theorem same_str (n : Nat) (x : Str) (h : SeqAt.shaped (.str x) = true) : F_law_same (n + 1) [.str x, .str x] = some (.bool true) := by
  show runD 2 1 (B_law_same (F_law_same n)) _ = _
  refine runD_eq (st := [some (.val (.str x)), some (.val (.str x)), none]) rfl ?_
  unfold B_law_same
  refine Eq.trans (sq_f (isi_eq rfl rfl)) ?_
  refine Eq.trans (sq_f (lift2_eq (vr_eq rfl) cst_eq rfl)) ?_
  refine Eq.trans (sq_f (isi_eq rfl rfl)) ?_
  refine Eq.trans (sq_f (isi_eq rfl rfl)) ?_
  refine retM_eq (blM_eq (and_t (isi_eq rfl rfl) (lift2_eq (vr_eq rfl) (vr_eq rfl) (both_of (r := true) ?_))))
  unfold eqD
  rw [h]
  show some (PyData.bool (x == x)) = _
  simp
theorem same_ints (n : Nat) (xs : List Int) (hl : xs.length ≤ 1000) : F_law_same (n + 2) [tuI xs, tuI xs] = some (.bool true) := same_tup (by rw [List.length_map]; exact hl) fun d hd => by
  obtain ⟨i, _, rfl⟩ := List.mem_map.mp hd
  exact same_int n i
theorem same_tb (m n : Nat) (rows : List (List Int)) (o : OkT n rows) : F_law_same (m + 4) [Tb n rows, Tb n rows] = some (.bool true) := same_tup (show 3 ≤ 1000 by decide) fun d hd => by
  rcases List.mem_cons.mp hd with rfl | hd
  · exact same_str _ _ (by decide +kernel)
  rcases List.mem_cons.mp hd with rfl | hd
  · exact same_int _ _
  rcases List.mem_cons.mp hd with rfl | hd
  · exact same_tup (by rw [List.length_map]; exact Nat.le_trans o.2.1 (by omega)) fun d hd => by
      obtain ⟨r, hr, rfl⟩ := List.mem_map.mp hd
      exact same_ints _ r (Nat.le_trans (up_le (o.2.2 r hr)) (Nat.le_trans o.1 (by omega)))
  · cases hd
/-! ### the law's turns -/
theorem same_ok {f g : M PyData} {st : Dn} {d : PyData} (h1 : f st = some (d, st)) (h2 : g st = some (d, st)) (h : F_law_same fu_law_same [d, d] = some (.bool true)) :
    iteM (notM (lift1 isB (callD (F_law_same fu_law_same) (consM f (consM g nilM))))) (retM [] (cst (.bool false))) nxM st = some (.nx, st) :=
  ite_f (notM_eq (b := true) (lift1_eq (callD_eq (cons_eq h1 (cons_eq h2 nil_eq)) h) rfl)) nx_eq
theorem notsame_f {f g : M PyData} {st : Dn} {d : PyData} (h1 : f st = some (d, st)) (h2 : g st = some (d, st)) (h : F_law_same fu_law_same [d, d] = some (.bool true)) :
    notM (lift1 isB (callD (F_law_same fu_law_same) (consM f (consM g nilM)))) st = some (false, st) :=
  notM_eq (b := true) (lift1_eq (callD_eq (cons_eq h1 (cons_eq h2 nil_eq)) h) rfl)
theorem same_bool (n : Nat) (b : Bool) : F_law_same (n + 1) [.bool b, .bool b] = some (.bool true) := by
  show runD 2 1 (B_law_same (F_law_same n)) _ = _
  refine runD_eq (st := [some (.val (.bool b)), some (.val (.bool b)), none]) rfl ?_
  unfold B_law_same
  refine Eq.trans (sq_f (isi_eq rfl rfl)) ?_
  refine Eq.trans (sq_f (lift2_eq (vr_eq rfl) cst_eq rfl)) ?_
  refine sq_rt (ite_t (isi_eq rfl rfl) (retM_eq (blM_eq (and_t (isi_eq rfl rfl) (lift2_eq (vr_eq rfl) (vr_eq rfl) (both_of (r := true) ?_))))))
  show some (PyData.bool (b == b)) = _
  simp

/-! ### sorting of ints; nested genexps; sums -/
theorem dle_ii {a b : Int} : PySem.W.dataLe false id (.int a) (.int b) = decide (a ≤ b) := congrFun (congrFun (PySem.W.dataLe_int (β := Int) id) a) b
theorem insD_ints {a : Int} : ∀ {ys : List Int}, a ∉ ys → insD (.int a) (ys.map .int) = (insI a ys).map .int
  | [], _ => rfl
  | y :: ys, h => by
    have hne : a ≠ y := fun e => h (by rw [e]; exact List.mem_cons_self)
    have ih := insD_ints (ys := ys) fun hm => h (List.mem_cons_of_mem _ hm)
    show (if PySem.W.dataLe false id (.int a) (.int y) then PyData.int a :: .int y :: ys.map .int else .int y :: insD (.int a) (ys.map .int)) = _
    rw [dle_ii, ih]
    show _ = (if a < y then a :: y :: ys else if a = y then y :: ys else y :: insI a ys).map PyData.int
    by_cases hl : a < y
    · rw [if_pos (decide_eq_true (by omega)), if_pos hl]; rfl
    · rw [if_neg (by rw [decide_eq_true_iff]; omega), if_neg hl, if_neg hne]; rfl
theorem isrtD_ints : ∀ {xs : List Int}, xs.Nodup → isrtD (xs.map .int) = (risI xs).map .int
  | [], _ => rfl
  | x :: xs, h => by
    obtain ⟨h1, h2⟩ := List.nodup_cons.mp h
    show insD (.int x) (isrtD (xs.map .int)) = (insI x (risI xs)).map .int
    rw [isrtD_ints h2, insD_ints (fun hm => h1 (mem_risI.mp hm))]
theorem srtD_ints {xs : List Int} (h : xs.Nodup) : srtD (xs.map .int) = some ((risI xs).map .int) := by
  unfold srtD
  rw [if_pos, isrtD_ints h]
  rw [Bool.or_eq_true]; left
  unfold fastOk
  rw [Bool.or_eq_true]; left
  rw [List.all_map]
  exact List.all_eq_true.mpr fun _ _ => rfl
theorem genGo_flat {α : Type} {g : PyData → Dn → Option Dn} {inner : Dn → List (Option PyData)} {st : Dn} {φ : α → PyData} {f : α → List PyData} : ∀ (xs : List α),
    (∀ x ∈ xs, ∃ st1, g (φ x) st = some st1 ∧ inner st1 = (f x).map some) → genGo g yesM inner (xs.map φ) st = (xs.flatMap f).map some
  | [], _ => rfl
  | d :: ds, h => by
    obtain ⟨st1, h1, h3⟩ := h d (List.mem_cons_self ..)
    have ih := genGo_flat (g := g) (inner := inner) (st := st) (φ := φ) (f := f) ds fun d hd => h d (List.mem_cons_of_mem _ hd)
    simp only [List.map_cons, genGo, h1, yesM, h3, ih, List.flatMap_cons, List.map_append]
theorem nest_eq {it : M (List PyData)} {outs : List PyData → Dn → List (Option PyData)} {st st1 : Dn} {ds : List PyData} {r : List (Option PyData)} (h : it st = some (ds, st1)) (h2 : outs ds st1 = r) : nestG it outs st = r := by unfold nestG; rw [h]; exact h2
theorem genGo_allS {α : Type} {g : PyData → Dn → Option Dn} {f : M PyData} {st : Dn} {φ : α → PyData} {q : α → PyData} (xs : List α) (h : ∀ x ∈ xs, ∃ st1 st3, g (φ x) st = some st1 ∧ f st1 = some (q x, st3)) : genGo g yesM (lastG f) (xs.map φ) st = (xs.map q).map some := by
  rw [genGo_map (c := yesM) (p := fun _ => true) (f := q) xs fun x hx => let ⟨a, b, h1, h2⟩ := h x hx; ⟨a, a, h1, rfl, fun _ => lastG_eq h2⟩, filt_true]
theorem mul_ii {i j : Int} (h0 : 0 ≤ j) (h : j ≤ 1000) : mulD (.int i) (.int j) = some (.int (i * j)) := by
  show (if small64 i || small64 j then _ else none) = _
  rw [if_pos]
  rw [Bool.or_eq_true]; right
  unfold small64
  exact decide_eq_true (by omega)
theorem mul_iiL {i j : Int} (h0 : 0 ≤ i) (h : i ≤ 1000) : mulD (.int i) (.int j) = some (.int (i * j)) := by
  show (if small64 i || small64 j then _ else none) = _
  rw [if_pos]
  rw [Bool.or_eq_true]; left
  unfold small64
  exact decide_eq_true (by omega)
theorem addD_tup {a b : List PyData} (h : a.length + b.length ≤ 2000) : addD (.tuple a) (.tuple b) = some (.tuple (a ++ b)) := by
  show (if a.length + b.length ≤ sizeLine then _ else none) = _
  rw [if_pos (by rw [szl]; omega)]
theorem addD_lst {a b : List PyData} (h : a.length + b.length ≤ 4000) : addD (.list a) (.list b) = some (.list (a ++ b)) := by
  show (if a.length + b.length ≤ sizeLine then _ else none) = _
  rw [if_pos (by rw [szl]; omega)]
theorem map_tuI_map {α : Type} (xs : List α) (f : α → List Int) : xs.map (fun x => tuI (f x)) = (xs.map f).map tuI := by rw [List.map_map]; rfl

theorem lcGo_carry {vs : List Nat} {g : PyData → Dn → Option Dn} {elt : M PyData} {J : Dn → Prop} {R : PyData → PyData → Prop} : ∀ (ds : List PyData),
    (∀ d ∈ ds, ∀ st, J st → ∃ st1 y st3, g d st = some st1 ∧ elt st1 = some (y, st3) ∧ R d y ∧ J (wipeD st3 vs)) → ∀ st, J st → ∃ ys st', lcGo vs g yesM elt ds st = some (ys, st') ∧ J st' ∧ All2 R ds ys
  | [], _, st, hj => ⟨[], st, rfl, hj, .nil⟩
  | d :: ds, h, st, hj => by
    obtain ⟨st1, y, st3, h1, h2, h3, h4⟩ := h d List.mem_cons_self st hj
    obtain ⟨ys, st', e, k, r⟩ := lcGo_carry ds (fun d hd => h d (List.mem_cons_of_mem _ hd)) _ h4
    exact ⟨y :: ys, st', by simp only [lcGo, h1, yesM, h2, e], k, .cons h3 r⟩
theorem lcM_carry {vs : List Nat} {it : M (List PyData)} {g : PyData → Dn → Option Dn} {elt : M PyData} {st st0 : Dn} {J : Dn → Prop} {R : PyData → PyData → Prop} {ds : List PyData} (h : it st = some (ds, st0)) (hw : J (wipeD st0 vs)) (hno : noOwn st0 vs = true) (hl : ds.length ≤ sizeLine)
    (hs : ∀ d ∈ ds, ∀ st, J st → ∃ st1 y st3, g d st = some st1 ∧ elt st1 = some (y, st3) ∧ R d y ∧ J (wipeD st3 vs)) : ∃ ys st', lcM vs it g yesM elt st = some (ys, restore st0 st' vs) ∧ J st' ∧ All2 R ds ys := by
  obtain ⟨ys, st', e, k, r⟩ := lcGo_carry ds hs _ hw
  refine ⟨ys, st', ?_, k, r⟩
  unfold lcM
  rw [h]
  simp only [hno, e, if_true]
  rw [if_pos (by rw [r.len]; exact hl)]

theorem lcM_mapW {α : Type} {vs : List Nat} {it : M (List PyData)} {g : PyData → Dn → Option Dn} {c : M Bool} {elt : M PyData} {st : Dn} {φ : α → PyData} {p : α → Bool} {f : α → PyData} {ds : List α} (h : it st = some (ds.map φ, st)) (hno : noOwn st vs = true) (hr : restore st (wipeD st vs) vs = st) (hl : ds.length ≤ sizeLine)
    (hs : ∀ d ∈ ds, ∃ st1, g (φ d) (wipeD st vs) = some st1 ∧ c st1 = some (p d, st1) ∧ (p d = true → elt st1 = some (f d, st1)) ∧ wipeD st1 vs = wipeD st vs) : lcM vs it g c elt st = some ((ds.filter p).map f, st) := by
  unfold lcM
  rw [h]
  simp only [hno, lcGo_map ds hs, hr, if_true]
  rw [if_pos]
  rw [List.length_map]
  exact Nat.le_trans (List.length_filter_le _ _) hl

/-! ### a drawn lattice -/
def lec : List Int → List (List Int)
  | [] => [[]]
  | x :: xs => lec xs ++ (lec xs).map (x :: ·)
theorem mem_lec : ∀ {xs r : List Int}, r ∈ lec xs ↔ List.Sublist r xs
  | [], r => by
    show r ∈ [[]] ↔ _
    rw [List.mem_singleton, List.sublist_nil]
  | x :: xs, r => by
    show r ∈ lec xs ++ (lec xs).map (x :: ·) ↔ _
    rw [List.mem_append, List.mem_map]
    constructor
    · rintro (h | ⟨t, h, rfl⟩)
      · exact (mem_lec.mp h).cons x
      · exact (mem_lec.mp h).cons_cons x
    · intro h
      cases h with
      | cons _ h => exact .inl (mem_lec.mpr h)
      | cons_cons _ h => exact .inr ⟨_, mem_lec.mpr h, rfl⟩
theorem lec_nodup : ∀ {xs : List Int}, xs.Nodup → (lec xs).Nodup
  | [], _ => by show [[]].Nodup; simp
  | x :: xs, h => by
    obtain ⟨h1, h2⟩ := List.nodup_cons.mp h
    show (lec xs ++ (lec xs).map (x :: ·)).Nodup
    rw [List.nodup_append]
    refine ⟨lec_nodup h2, ?_, ?_⟩
    · unfold List.Nodup
      rw [List.pairwise_map]
      exact (lec_nodup h2).imp fun h e => h (by cases e; rfl)
    · intro a ha b hb e
      subst e
      obtain ⟨t, _, rfl⟩ := List.mem_map.mp hb
      exact h1 ((mem_lec.mp ha).subset List.mem_cons_self)
theorem lec_len : ∀ xs : List Int, (lec xs).length = 2 ^ xs.length
  | [] => rfl
  | x :: xs => by
    show (lec xs ++ (lec xs).map (x :: ·)).length = _
    rw [List.length_append, List.length_map, lec_len xs, List.length_cons, Nat.pow_succ]; omega
theorem subs_0 : F_law_subsets [.int 0] = some (.list ((lec (upto 0)).map tuI)) := by kernel_rfl
theorem subs_1 : F_law_subsets [.int 1] = some (.list ((lec (upto 1)).map tuI)) := by kernel_rfl
theorem subs_2 : F_law_subsets [.int 2] = some (.list ((lec (upto 2)).map tuI)) := by kernel_rfl
theorem subs_3 : F_law_subsets [.int 3] = some (.list ((lec (upto 3)).map tuI)) := by kernel_rfl
theorem subs_4 : F_law_subsets [.int 4] = some (.list ((lec (upto 4)).map tuI)) := by kernel_rfl
theorem subs_eq {n : Nat} (h : n ≤ 4) : F_law_subsets [.int n] = some (.list ((lec (upto n)).map tuI)) := by
  match n, h with
  | 0, _ => exact subs_0
  | 1, _ => exact subs_1
  | 2, _ => exact subs_2
  | 3, _ => exact subs_3
  | 4, _ => exact subs_4
  | n + 5, h => exact absurd h (by omega)
def cls (n : Nat) (rows : List (List Int)) : List (List Int) := (lec (upto n)).filter fun r => decide (com n rows (hav rows r) = r)
theorem mem_cls {n : Nat} {rows : List (List Int)} {r : List Int} : r ∈ cls n rows ↔ List.Sublist r (upto n) ∧ com n rows (hav rows r) = r := by
  unfold cls
  rw [List.mem_filter, mem_lec, decide_eq_true_iff]
theorem cls_len {n : Nat} {rows : List (List Int)} (h : n ≤ 4) : (cls n rows).length ≤ 16 := by
  refine Nat.le_trans (List.length_filter_le _ _) ?_
  rw [lec_len, upto_len]
  exact Nat.le_trans (Nat.pow_le_pow_right (by omega) h) (by decide)
theorem cls_nodup {n : Nat} {rows : List (List Int)} : (cls n rows).Nodup := (lec_nodup (upto_lt n |>.imp fun h => by omega)).sublist List.filter_sublist
theorem closed_eq {n : Nat} {rows : List (List Int)} (o : OkT n rows) (h : n ≤ 4) : F_law_closed [Tb n rows] = some (.list ((cls n rows).map tuI)) := by
  refine runD_ret rfl ?_
  unfold B_law_closed
  have hl : (lec (upto n)).length ≤ 16 := by
    rw [lec_len, upto_len]
    exact Nat.le_trans (Nat.pow_le_pow_right (by omega) h) (by decide)
  exact Ret.ret (liD_eq (lcM_map (φ := tuI) (ds := lec (upto n)) (p := fun r => decide (com n rows (hav rows r) = r)) (f := tuI) (lift1_eq (callD_eq (cons_eq (lift2_eq (vr_eq rfl) cst_eq ix1) nil_eq) (subs_eq h)) rfl) rfl rfl rfl (by rw [szl]; omega) fun r hr => ⟨_, rfl, lift2_eq (callD_eq (cons_eq (vr_eq rfl) (cons_eq (vr_eq rfl) nil_eq)) (lclosure_eq o r (by have := up_le (mem_lec.mp hr); omega))) (vr_eq rfl) (both_of (eqD_tuI _ _)), fun _ => vr_eq rfl, rfl⟩)) rfl
def latR (C : List (List Int)) (pm : List Int) : List (List Int) := (upto C.length).map fun x => (upto C.length).filter fun y => (row C (at0 pm x)).all fun i => decide (i ∈ row C (at0 pm y))
theorem mem_latR {C : List (List Int)} {pm : List Int} {x y : Int} : y ∈ row (latR C pm) x ↔ x.toNat < C.length ∧ y ∈ upto C.length ∧ ∀ i ∈ row C (at0 pm x.toNat), i ∈ row C (at0 pm y) := by
  by_cases h : x.toNat < C.length
  · have e : row (latR C pm) x = (upto C.length).filter fun y => (row C (at0 pm x.toNat)).all fun i => decide (i ∈ row C (at0 pm y)) := by
      show (latR C pm).getD x.toNat [] = _
      unfold latR
      rw [List.getD_eq_getElem?_getD, List.getElem?_map, upto_get h]
      rfl
    rw [e, List.mem_filter, List.all_eq_true]
    constructor
    · rintro ⟨h1, h2⟩
      exact ⟨h, h1, fun i hi => of_decide_eq_true (h2 i hi)⟩
    · rintro ⟨_, h1, h2⟩
      exact ⟨h1, fun i hi => decide_eq_true (h2 i hi)⟩
  · have e : row (latR C pm) x = [] := by
      show (latR C pm).getD x.toNat [] = _
      unfold latR
      rw [List.getD_eq_getElem?_getD, List.getElem?_map, List.getElem?_eq_none (by rw [upto_len]; omega)]
      rfl
    rw [e]
    exact ⟨fun k => (by cases k), fun k => absurd k.1 h⟩
def Ld (n : Nat) (rows : List (List Int)) : PyData := .tuple [.str "lattice", .int n, .tuple (rows.map tuI)]
theorem ldx0 {n : Nat} {rows : List (List Int)} : ixD (Ld n rows) (.int 0) = some (.str "lattice") := ixD_t (j := 0) rfl rfl
theorem ldx1 {n : Nat} {rows : List (List Int)} : ixD (Ld n rows) (.int 1) = some (.int n) := ixD_t (j := 1) rfl rfl
theorem ldx2 {n : Nat} {rows : List (List Int)} : ixD (Ld n rows) (.int 2) = some (.tuple (rows.map tuI)) := ixD_t (j := 2) rfl rfl
structure OkL (n : Nat) (rows : List (List Int)) : Prop extends OkO n rows where
  pos : 0 < n
  join : ∀ x ∈ upto n, ∀ y ∈ upto n, ∃ z ∈ upto n, z ∈ row rows x ∧ z ∈ row rows y ∧ ∀ w, w ∈ row rows x → w ∈ row rows y → w ∈ row rows z
  meet : ∀ x ∈ upto n, ∀ y ∈ upto n, ∃ z ∈ upto n, x ∈ row rows z ∧ y ∈ row rows z ∧ ∀ w ∈ upto n, x ∈ row rows w → y ∈ row rows w → z ∈ row rows w
theorem up_unique {n : Nat} {a b : List Int} (ha : List.Sublist a (upto n)) (hb : List.Sublist b (upto n)) (h : ∀ k, k ∈ a ↔ k ∈ b) : a = b := ris_unique ((upto_lt n).sublist ha) ((upto_lt n).sublist hb) h
theorem latR_ok {n : Nat} {rows : List (List Int)} {pm : List Int} (o : OkT n rows) (h4 : n ≤ 4) (hp : pm.Perm (upto (cls n rows).length)) : OkL (cls n rows).length (latR (cls n rows) pm) := by
  have hc := cls_len (rows := rows) h4
  have hpl : pm.length = (cls n rows).length := by rw [hp.length_eq, upto_len]
  have hat : ∀ x ∈ upto (cls n rows).length, at0 pm x ∈ upto (cls n rows).length := fun x hx => by
    obtain ⟨h0, h1⟩ := mem_upto.mp hx
    exact hp.mem_iff.mp (at0_mem h0 (by omega))
  have hE : ∀ x ∈ upto (cls n rows).length, row (cls n rows) (at0 pm x) ∈ cls n rows := fun x hx => by
    have := mem_upto.mp (hat x hx)
    unfold row
    rw [List.getD_eq_getElem?_getD, List.getElem?_eq_getElem (show (at0 pm x).toNat < (cls n rows).length by omega)]
    exact List.getElem_mem _
  have hF : ∀ r ∈ cls n rows, ∃ z ∈ upto (cls n rows).length, row (cls n rows) (at0 pm z) = r := fun r hr => by
    obtain ⟨i, hi⟩ := List.mem_iff_getElem?.mp hr
    have hil : i < (cls n rows).length := (List.getElem?_eq_some_iff.mp hi).1
    obtain ⟨j, hj⟩ := pm_at hp (x := (i : Int)) (mem_upto.mpr ⟨by omega, by omega⟩)
    have hjl : j < pm.length := (List.getElem?_eq_some_iff.mp hj).1
    refine ⟨(j : Int), mem_upto.mpr ⟨by omega, by omega⟩, ?_⟩
    have e : at0 pm (j : Int) = (i : Int) := by
      unfold at0
      rw [show ((j : Int)).toNat = j from rfl, List.getD_eq_getElem?_getD, hj]; rfl
    rw [e]
    unfold row
    rw [show ((i : Int)).toNat = i from rfl, List.getD_eq_getElem?_getD, hi]; rfl
  have hinj : ∀ x ∈ upto (cls n rows).length, ∀ y ∈ upto (cls n rows).length, row (cls n rows) (at0 pm x) = row (cls n rows) (at0 pm y) → x = y := fun x hx y hy e => by
    have h1 := mem_upto.mp (hat x hx)
    have h2 := mem_upto.mp (hat y hy)
    have h3 := mem_upto.mp hx
    have h4 := mem_upto.mp hy
    unfold row at e
    rw [List.getD_eq_getElem?_getD, List.getD_eq_getElem?_getD, List.getElem?_eq_getElem (show (at0 pm x).toNat < (cls n rows).length by omega), List.getElem?_eq_getElem (show (at0 pm y).toNat < (cls n rows).length by omega)] at e
    have e2 : (at0 pm x).toNat = (at0 pm y).toNat := (List.getElem_inj cls_nodup).mp e
    have e3 : at0 pm x = at0 pm y := by omega
    unfold at0 at e3
    rw [List.getD_eq_getElem?_getD, List.getD_eq_getElem?_getD, List.getElem?_eq_getElem (show x.toNat < pm.length by omega), List.getElem?_eq_getElem (show y.toNat < pm.length by omega)] at e3
    have hnd : pm.Nodup := hp.nodup_iff.mpr ((upto_lt _).imp fun h => by omega)
    have e4 : x.toNat = y.toNat := (List.getElem_inj hnd).mp e3
    omega
  have hx0 : ∀ {x : Int}, x ∈ upto (cls n rows).length → ((x.toNat : Nat) : Int) = x := fun hx => Int.toNat_of_nonneg (mem_upto.mp hx).1
  have hm : ∀ {x y : Int}, x ∈ upto (cls n rows).length → (y ∈ row (latR (cls n rows) pm) x ↔ y ∈ upto (cls n rows).length ∧ ∀ i ∈ row (cls n rows) (at0 pm x), i ∈ row (cls n rows) (at0 pm y)) := fun {x y} hx => by
    rw [mem_latR, hx0 hx]
    have := mem_upto.mp hx
    exact ⟨fun k => k.2, fun k => ⟨by omega, k⟩⟩
  have hsub : ∀ {r : List Int}, r ∈ cls n rows → List.Sublist r (upto n) := fun h => (mem_cls.mp h).1
  refine { le := by omega, len := by unfold latR; rw [List.length_map, upto_len], sub := ?_, refl := ?_, trans := ?_, anti := ?_, pos := ?_, join := ?_, meet := ?_ }
  · intro r hr
    obtain ⟨x, _, rfl⟩ := List.mem_map.mp hr
    exact List.filter_sublist
  · intro x hx
    exact (hm hx).mpr ⟨hx, fun i hi => hi⟩
  · intro x y z h1 h2
    rw [mem_latR] at h1 h2 ⊢
    refine ⟨h1.1, h2.2.1, fun i hi => h2.2.2 i ?_⟩
    rw [hx0 h1.2.1]
    exact h1.2.2 i hi
  · intro x y h1 h2
    have hy := (mem_latR.mp h1).2.1
    have hx := (mem_latR.mp h2).2.1
    have k1 := ((hm hx).mp h1).2
    have k2 := ((hm hy).mp h2).2
    exact hinj x hx y hy (up_unique (hsub (hE x hx)) (hsub (hE y hy)) fun k => ⟨k1 k, k2 k⟩)
  · refine List.length_pos_of_mem (a := upto n) (mem_cls.mpr ⟨List.Sublist.refl _, ?_⟩)
    refine up_unique List.filter_sublist (List.Sublist.refl _) fun k => ?_
    rw [mem_com, mem_upto]
    refine ⟨fun h => h.1, fun h => ⟨h, fun g hg => (mem_hav.mp hg).2 k (mem_upto.mpr h)⟩⟩
  · intro x hx y hy
    have sx := hsub (hE x hx)
    have sy := hsub (hE y hy)
    let U := (upto n).filter fun i => decide (i ∈ row (cls n rows) (at0 pm x)) || decide (i ∈ row (cls n rows) (at0 pm y))
    have hU : ∀ m ∈ U, 0 ≤ m ∧ m < n := fun m hm => mem_upto.mp (List.mem_filter.mp hm).1
    have hmU : ∀ {m}, m ∈ U ↔ m ∈ row (cls n rows) (at0 pm x) ∨ m ∈ row (cls n rows) (at0 pm y) := fun {m} => by
      show m ∈ (upto n).filter _ ↔ _
      rw [List.mem_filter, Bool.or_eq_true, decide_eq_true_iff, decide_eq_true_iff]
      exact ⟨fun h => h.2, fun h => ⟨h.elim (fun h => sx.subset h) (fun h => sy.subset h), h⟩⟩
    have hgrow : ∀ m ∈ U, m ∈ com n rows (hav rows U) := fun m hm => mem_com.mpr ⟨hU m hm, fun g hg => (mem_hav.mp hg).2 m hm⟩
    obtain ⟨z, hz, ez⟩ := hF (com n rows (hav rows U)) (mem_cls.mpr ⟨List.filter_sublist, clo_clo n rows U hU⟩)
    refine ⟨z, hz, (hm hx).mpr ⟨hz, fun i hi => ?_⟩, (hm hy).mpr ⟨hz, fun i hi => ?_⟩, fun w h1 h2 => ?_⟩
    · rw [ez]; exact hgrow i (hmU.mpr (.inl hi))
    · rw [ez]; exact hgrow i (hmU.mpr (.inr hi))
    · obtain ⟨hw, k1⟩ := (hm hx).mp h1
      have k2 := ((hm hy).mp h2).2
      refine (hm hz).mpr ⟨hw, fun i hi => ?_⟩
      rw [ez] at hi
      have ew := (mem_cls.mp (hE w hw)).2
      rw [← ew]
      refine mem_com.mpr ⟨(mem_com.mp hi).1, fun g hg => (mem_com.mp hi).2 g (mem_hav.mpr ⟨(mem_hav.mp hg).1, fun m hm => (mem_hav.mp hg).2 m ?_⟩)⟩
      exact (hmU.mp hm).elim (k1 m) (k2 m)
  · intro x hx y hy
    have sx := hsub (hE x hx)
    have sy := hsub (hE y hy)
    have ex := (mem_cls.mp (hE x hx)).2
    have ey := (mem_cls.mp (hE y hy)).2
    let U := (upto n).filter fun i => decide (i ∈ row (cls n rows) (at0 pm x)) && decide (i ∈ row (cls n rows) (at0 pm y))
    have hmU : ∀ {m}, m ∈ U ↔ m ∈ row (cls n rows) (at0 pm x) ∧ m ∈ row (cls n rows) (at0 pm y) := fun {m} => by
      show m ∈ (upto n).filter _ ↔ _
      rw [List.mem_filter, Bool.and_eq_true, decide_eq_true_iff, decide_eq_true_iff]
      exact ⟨fun h => h.2, fun h => ⟨sx.subset h.1, h⟩⟩
    have hU : ∀ m ∈ U, 0 ≤ m ∧ m < n := fun m hm => mem_upto.mp (List.mem_filter.mp hm).1
    have hgrow : ∀ m ∈ U, m ∈ com n rows (hav rows U) := fun m hm => mem_com.mpr ⟨hU m hm, fun g hg => (mem_hav.mp hg).2 m hm⟩
    have hcl : com n rows (hav rows U) = U := by
      refine up_unique List.filter_sublist List.filter_sublist fun k => ⟨fun hk => hmU.mpr ⟨?_, ?_⟩, hgrow k⟩
      · rw [← ex]
        exact mem_com.mpr ⟨(mem_com.mp hk).1, fun g hg => (mem_com.mp hk).2 g (mem_hav.mpr ⟨(mem_hav.mp hg).1, fun m hm => (mem_hav.mp hg).2 m (hmU.mp hm).1⟩)⟩
      · rw [← ey]
        exact mem_com.mpr ⟨(mem_com.mp hk).1, fun g hg => (mem_com.mp hk).2 g (mem_hav.mpr ⟨(mem_hav.mp hg).1, fun m hm => (mem_hav.mp hg).2 m (hmU.mp hm).2⟩)⟩
    obtain ⟨z, hz, ez⟩ := hF U (mem_cls.mpr ⟨List.filter_sublist, hcl⟩)
    refine ⟨z, hz, (hm hz).mpr ⟨hx, fun i hi => ?_⟩, (hm hz).mpr ⟨hy, fun i hi => ?_⟩, fun w hw h1 h2 => ?_⟩
    · rw [ez] at hi; exact (hmU.mp hi).1
    · rw [ez] at hi; exact (hmU.mp hi).2
    · refine (hm hw).mpr ⟨hz, fun i hi => ?_⟩
      rw [ez]
      exact hmU.mpr ⟨((hm hw).mp h1).2 i hi, ((hm hw).mp h2).2 i hi⟩
theorem lattice_eq {ds : List Int} (hd : dg ds) (k t m : Nat) (ht : t ≤ 50) (hm : m ≤ 4) : ∃ (n : Nat) (rows : List (List Int)) (k' : Nat), OkL n rows ∧ n ≤ 2 ^ m ∧ F_law_lattice (Bx ds k) [.int t, .int m] = some (Ld n rows, Bx ds k') := by
  obtain ⟨n, rows, k1, o, hn, _, e1⟩ := table_eq hd k t m ht (by omega)
  have h4 : n ≤ 4 := by omega
  have hc := cls_len (rows := rows) h4
  obtain ⟨pm, k2, hp, e2⟩ := mixed_eq hd k1 (cls n rows).length (by omega)
  have hok := latR_ok o h4 hp
  have hpl : pm.length = (cls n rows).length := by rw [hp.length_eq, upto_len]
  have hpos : (cls n rows).length ≤ 2 ^ m := by
    refine Nat.le_trans (List.length_filter_le _ _) ?_
    rw [lec_len, upto_len]
    exact Nat.pow_le_pow_right (by omega) hn
  refine ⟨_, _, k2, hok, hpos, ?_⟩
  have hat : ∀ x ∈ upto (cls n rows).length, at0 pm x ∈ upto (cls n rows).length := fun x hx => by
    obtain ⟨h0, h1⟩ := mem_upto.mp hx
    exact hp.mem_iff.mp (at0_mem h0 (by omega))
  have hloop : Stp (forM (lift1 range1D (liftL lenD (consM (vr 3) nilM))) (gv 6) (appM 5 [] (tuM (lcM [7] (lift1 range1D (liftL lenD (consM (vr 3) nilM))) (gv 7) (lift1 isB (callD F_law_inside (consM (lift2 ixD (vr 3) (lift2 ixD (vr 4) (vr 6))) (consM (lift2 ixD (vr 3) (lift2 ixD (vr 4) (vr 7))) nilM)))) (vr 7))))) [some (.own (Bx ds k2)), some (.val (.int t)), some (.val (.int m)), some (.val (.list ((cls n rows).map tuI))), some (.val (.list (pm.map .int))), some (.own []), none, none] (fun st => ∃ a6, st = [some (.own (Bx ds k2)), some (.val (.int t)), some (.val (.int m)), some (.val (.list ((cls n rows).map tuI))), some (.val (.list (pm.map .int))), some (.own ((latR (cls n rows) pm).map tuI)), a6, none]) := by
    have hix : ∀ {x : Int}, x ∈ upto (cls n rows).length → ixD (.list ((cls n rows).map tuI)) (.int (at0 pm x)) = some (tuI (row (cls n rows) (at0 pm x))) := fun {x} hx => by
      obtain ⟨h0, h1⟩ := mem_upto.mp (hat x hx)
      exact row_at h0 h1
    have hip : ∀ {x : Int}, x ∈ upto (cls n rows).length → ixD (.list (pm.map PyData.int)) (.int x) = some (.int (at0 pm x)) := fun {x} hx => by
      obtain ⟨h0, h1⟩ := mem_upto.mp hx
      exact at0_eq (im := pm) h0 (by omega)
    have hsl : ∀ z : Int, (row (cls n rows) z).length ≤ 1000 := fun z => by
      by_cases h : row (cls n rows) z = []
      · rw [h]; simp
      · obtain ⟨y, hy⟩ := List.exists_mem_of_ne_nil _ h
        have := up_le (mem_cls.mp (row_mem hy).2).1
        omega
    have hlen : ∀ {st : Dn}, st[3]? = some (some (.val (.list ((cls n rows).map tuI)))) → lift1 range1D (liftL lenD (consM (vr 3) nilM)) st = some ((upto (cls n rows).length).map PyData.int, st) := fun {st} h => lift1_eq (liftL_eq (cons_eq (vr_eq h) nil_eq) rfl) (range_map (by omega))
    refine (Stp.for (fun j st => ∃ a6 ab, st = [some (.own (Bx ds k2)), some (.val (.int t)), some (.val (.int m)), some (.val (.list ((cls n rows).map tuI))), some (.val (.list (pm.map .int))), some (.own (ab.map tuI)), a6, none] ∧ ab = (latR (cls n rows) pm).take j) (ds := (upto (cls n rows).length).map PyData.int) (hlen rfl) ⟨none, [], rfl, rfl⟩ (fun j d hd st hI => ?_)).imp fun st hI => ?_
    · obtain ⟨a6, ab, rfl, hab⟩ := hI
      obtain ⟨hj, hu, rfl⟩ := upto_at hd
      have habl : ab.length ≤ 100 := by
        rw [hab, List.length_take]
        unfold latR
        rw [List.length_map, upto_len]; omega
      refine ⟨_, rfl, Stp.one (appM_eq rfl (tuM_eq (ds := ((upto (cls n rows).length).filter fun y => (row (cls n rows) (at0 pm j)).all fun i => decide (i ∈ row (cls n rows) (at0 pm y))).map PyData.int) (lcM_map (φ := PyData.int) (ds := upto (cls n rows).length) (p := fun y => (row (cls n rows) (at0 pm j)).all fun i => decide (i ∈ row (cls n rows) (at0 pm y))) (f := PyData.int) (hlen rfl) rfl rfl rfl (by rw [upto_len, szl]; omega) fun y hy => ⟨_, rfl, isB_eq (callD_eq (cons_eq (lift2_eq (vr_eq rfl) (lift2_eq (vr_eq rfl) (vr_eq rfl) (hip hu)) (hix hu)) (cons_eq (lift2_eq (vr_eq rfl) (lift2_eq (vr_eq rfl) (vr_eq rfl) (hip hy)) (hix hy)) nil_eq)) (inside_eq _ _ (hsl _))), fun _ => vr_eq rfl, rfl⟩)) rfl (by rw [List.length_map, szl]; omega)) ⟨_, ab ++ [(upto (cls n rows).length).filter fun y => (row (cls n rows) (at0 pm j)).all fun i => decide (i ∈ row (cls n rows) (at0 pm y))], by rw [List.map_append]; rfl, ?_⟩⟩
      unfold latR at hab ⊢
      rw [List.take_add_one, ← hab, List.getElem?_map, upto_get hj]
      rfl
    · obtain ⟨a6, ab, rfl, hab⟩ := hI
      rw [List.length_map, upto_len, List.take_of_length_le (by unfold latR; rw [List.length_map, upto_len]; exact Nat.le_refl _)] at hab
      subst hab
      exact ⟨a6, rfl⟩
  obtain ⟨st2, hf, a6, rfl⟩ := hloop
  have hlenG : ∀ {st : Dn}, st[3]? = some (some (.val (.list ((cls n rows).map tuI)))) → liftL lenD (consM (vr 3) nilM) st = some (.int ((cls n rows).length : Nat), st) := fun {st} h =>
    liftL_eq (cons_eq (vr_eq h) nil_eq) (by show some (PyData.int (((cls n rows).map tuI).length : Nat)) = _; rw [List.length_map])
  refine runL_eq (st := [some (.own (Bx ds k2)), some (.val (.int t)), some (.val (.int m)), some (.val (.list ((cls n rows).map tuI))), some (.val (.list (pm.map .int))), some (.own ((latR (cls n rows) pm).map tuI)), a6, none]) rfl ?_ rfl
  unfold B_law_lattice
  refine (sq_nx (setM_eq (callD_eq (cons_eq (callL_eq (i := 0) rfl (cons_eq (vr_eq rfl) (cons_eq (vr_eq rfl) nil_eq)) rfl e1) nil_eq) (closed_eq o h4)))).trans ?_
  refine (sq_nx (setM_eq (callL_eq (i := 0) rfl (cons_eq (hlenG rfl) nil_eq) rfl e2))).trans ?_
  refine (sq_nx (setO_eq (lstM_eq nil_eq (Nat.zero_le _)))).trans ?_
  refine (sq_nx hf).trans ?_
  exact retM_eq (tupM_eq (cons_eq cst_eq (cons_eq (hlenG rfl) (cons_eq (tuM_eq (seqV_own rfl)) nil_eq))) (show 3 ≤ sizeLine by decide))

theorem not_sameD {d : PyData} {f g : M PyData} {st st1 st2 : Dn} (h1 : f st = some (d, st1)) (h2 : g st1 = some (d, st2)) (h : F_law_same fu_law_same [d, d] = some (.bool true)) : notM (lift1 isB (callD (F_law_same fu_law_same) (consM f (consM g nilM)))) st = some (false, st2) :=
  notM_eq (b := true) (isB_eq (callD_eq (cons_eq h1 (cons_eq h2 nil_eq)) h))

/-! ### k62: ideals and prime ones -/
abbrev LD (r : List (List Int)) : PyData := Ld r.length r
theorem filter_first {α : Type} {xs : List α} {p : α → Bool} {j : Nat} {x : α} (h : xs[j]? = some x) (h0 : (xs.take j).filter p = []) (hp : p x = true) : ∃ t, xs.filter p = x :: t := by
  have hj : j < xs.length := (List.getElem?_eq_some_iff.mp h).1
  have e : xs = xs.take j ++ x :: xs.drop (j + 1) := by
    have : xs[j] = x := (List.getElem?_eq_some_iff.mp h).2
    rw [← this, List.getElem_cons_drop, List.take_append_drop]
  refine ⟨(xs.drop (j + 1)).filter p, ?_⟩
  rw [e, List.filter_append, h0, List.filter_cons_of_pos hp, ← e]
  rfl
theorem filter_step {α : Type} {xs : List α} {p : α → Bool} {j : Nat} {x : α} (h : xs[j]? = some x) (h0 : (xs.take j).filter p = []) (hp : p x = false) : (xs.take (j + 1)).filter p = [] := by
  rw [filter_take h, h0, hp]; rfl
theorem get_int {xs : List Int} {j : Nat} {d : PyData} (h : (xs.map PyData.int)[j]? = some d) : ∃ x, xs[j]? = some x ∧ d = .int x := by
  rw [List.getElem?_map] at h
  cases e : xs[j]? with
  | none => rw [e] at h; cases h
  | some y => rw [e] at h; cases h; exact ⟨y, rfl, rfl⟩
def ubs (r : List (List Int)) (x y : Int) : List Int := (row r x).filter fun z => decide (z ∈ row r y)
def isLe (r : List (List Int)) (M : List Int) (a : Int) : Bool := M.all fun b => decide (b ∈ row r a)
def hdD (xs : List Int) : PyData := match xs with
  | x :: _ => .int x
  | [] => .none
def jnL (r : List (List Int)) (x y : Int) : List Int := (ubs r x y).filter (isLe r (ubs r x y))
def under (r : List (List Int)) (x : Int) : List Int := (upto r.length).filter fun y => decide (x ∈ row r y)
def trn' (r : List (List Int)) : List (List Int) := (upto r.length).map (under r)
theorem trn_len {r : List (List Int)} : (trn' r).length = r.length := by unfold trn'; rw [List.length_map, upto_len]
theorem row_trn' {r : List (List Int)} {x : Int} (h : InU r x) : row (trn' r) x = under r x := by
  obtain ⟨h0, h1⟩ := h
  show (trn' r).getD x.toNat [] = _
  unfold trn'
  rw [List.getD_eq_getElem?_getD, List.getElem?_map, upto_get (by omega), Int.toNat_of_nonneg h0]
  rfl
theorem row_len {r : List (List Int)} (o : OkO r.length r) (x : Int) : (row r x).length ≤ 50 := o.rlen x
theorem under_len {r : List (List Int)} (h : r.length ≤ 50) (x : Int) : (under r x).length ≤ 50 := Nat.le_trans (List.length_filter_le _ _) (by rw [upto_len]; exact h)
theorem below_eq {r : List (List Int)} (h : r.length ≤ 50) : F_below_of [LD r] = some (.tuple ((trn' r).map tuI)) := by
  refine runD_ret rfl ?_
  unfold B_below_of
  refine Ret.nx (asgM_eq (st2 := [some (.val (LD r)), some (.val (.str "lattice")), some (.val (.int r.length)), some (.val (.tuple (r.map tuI))), none, none]) (vr_eq rfl) rfl) ?_
  have e1 : ∀ x ∈ upto r.length, useM tupGo .tuple (genM [4] (lift1 range1D (vr 2)) (genGo (gv 4) (lift2 (both inD) (vr 5) (lift2 ixD (vr 3) (vr 4))) (lastG (vr 4)))) [some (.val (LD r)), some (.val (.str "lattice")), some (.val (.int r.length)), some (.val (.tuple (r.map tuI))), none, some (.val (.int x))] = some (tuI (under r x), [some (.val (LD r)), some (.val (.str "lattice")), some (.val (.int r.length)), some (.val (.tuple (r.map tuI))), none, some (.val (.int x))]) := fun x hx =>
    useG_eq (b := (under r x).map PyData.int) (lift1_eq (vr_eq rfl) (range1_nat _ (by omega))) rfl (tupG_map (φ := PyData.int) (xs := upto r.length) (p := fun y => decide (x ∈ row r y)) (q := PyData.int) (by rw [upto_len, szl]; omega) fun y hy => ⟨_, _, rfl, lift2_eq (vr_eq rfl) (lift2_eq (vr_eq rfl) (vr_eq rfl) (row_atU (inU_of hy))) (both_of (inD_tuI _ _)), fun _ => ⟨_, vr_eq rfl⟩⟩)
  refine Ret.ret (useG_eq (b := (trn' r).map tuI) (ds := (upto r.length).map PyData.int) (lift1_eq (vr_eq rfl) (range1_nat _ (by omega))) rfl ?_) rfl
  refine Eq.trans (tupG_all (φ := PyData.int) (xs := upto r.length) (q := fun x => tuI (under r x)) (by rw [upto_len, szl]; omega) fun x hx => ⟨_, _, rfl, e1 x hx⟩) ?_
  unfold trn'
  rw [map_tuI_map]
theorem turn_eq {r : List (List Int)} (h : r.length ≤ 50) : F_turned_over [LD r] = some (LD (trn' r)) := by
  refine runD_ret rfl ?_
  unfold B_turned_over
  refine Ret.ret (tupM_eq (cons_eq (lift2_eq (vr_eq rfl) cst_eq ldx0) (cons_eq (lift2_eq (vr_eq rfl) cst_eq ldx1) (cons_eq (callD_eq (cons_eq (vr_eq rfl) nil_eq) (below_eq h)) nil_eq))) (show 3 ≤ sizeLine by decide)) ?_
  show _ = Ld (trn' r).length (trn' r)
  rw [trn_len]
  rfl
theorem shared_eq (a b : List Int) (h : a.length ≤ 1000) : F_shared [tuI a, tuI b] = some (tuI (a.filter fun z => decide (z ∈ b))) := by
  refine runD_ret rfl ?_
  unfold B_shared
  exact Ret.ret (useG_eq (b := (a.filter fun z => decide (z ∈ b)).map PyData.int) (seqV_eq (ds := a.map PyData.int) rfl rfl) rfl (tupG_map (φ := PyData.int) (xs := a) (p := fun z => decide (z ∈ b)) (q := PyData.int) (by rw [szl]; omega) fun y hy => ⟨_, _, rfl, lift2_eq (vr_eq rfl) (vr_eq rfl) (both_of (inD_tuI _ _)), fun _ => ⟨_, vr_eq rfl⟩⟩)) rfl
theorem tru_li {xs : List Int} : truD (liI xs) = some (!xs.isEmpty) := by
  show some (!(xs.map PyData.int).isEmpty) = _
  cases xs <;> rfl
theorem least_eq {r : List (List Int)} {M : List Int} (hM : ∀ a ∈ M, InU r a) (h : M.length ≤ 1000) : F_least_of [LD r, tuI M] = some (hdD (M.filter (isLe r M))) := by
  refine runD_ret rfl ?_
  unfold B_least_of
  refine Ret.nx (setM_eq (liD_eq (lcM_map (φ := PyData.int) (ds := M) (p := isLe r M) (f := PyData.int) (seqV_eq rfl rfl) rfl rfl rfl (by rw [szl]; omega) fun a ha => ⟨_, rfl, isB_eq (callD_eq (cons_eq (vr_eq rfl) (cons_eq (lift2_eq (lift2_eq (vr_eq rfl) cst_eq ldx2) (vr_eq rfl) (row_atU (hM a ha))) nil_eq)) (part_eq M (row r a))), fun _ => vr_eq rfl, rfl⟩))) ?_
  cases e : M.filter (isLe r M) with
  | nil => exact Ret.ret (ite_f (lift1_eq (vr_eq rfl) (rfl : truD (.list []) = some false)) cst_eq) rfl
  | cons a t => exact Ret.ret (ite_t (lift1_eq (vr_eq rfl) (rfl : truD (.list (.int a :: t.map PyData.int)) = some true)) (lift2_eq (vr_eq rfl) cst_eq (ixD_l (j := 0) rfl rfl))) rfl
theorem ubs_in {r : List (List Int)} (o : OkO r.length r) {x y z : Int} (h : z ∈ ubs r x y) : InU r z := inU_row o (List.mem_filter.mp h).1
theorem join_eq {r : List (List Int)} (o : OkO r.length r) {x y : Int} (hx : InU r x) (hy : InU r y) : F_join_of [LD r, .int x, .int y] = some (hdD (jnL r x y)) := by
  have h1 := o.rlen x
  refine runD_ret rfl ?_
  unfold B_join_of
  exact Ret.ret (callD_eq (cons_eq (vr_eq rfl) (cons_eq (callD_eq (cons_eq (lift2_eq (lift2_eq (vr_eq rfl) cst_eq ldx2) (vr_eq rfl) (row_atU hx)) (cons_eq (lift2_eq (lift2_eq (vr_eq rfl) cst_eq ldx2) (vr_eq rfl) (row_atU hy)) nil_eq)) (shared_eq _ _ (by omega))) nil_eq)) (least_eq (M := ubs r x y) (fun a ha => ubs_in o ha) (Nat.le_trans (List.length_filter_le _ _) (by omega)))) rfl
theorem lbest_eq {r : List (List Int)} {M : List Int} (hM : ∀ a ∈ M, InU r a) (h : M.length ≤ 1000) : F_law_best [liI M, .tuple (r.map tuI)] = some (hdD (M.filter (isLe r M))) := by
  refine runD_ret rfl ?_
  unfold B_law_best
  refine Ret.forR (fun j st => ∃ a2, st = [some (.val (liI M)), some (.val (.tuple (r.map tuI))), a2, none] ∧ (M.take j).filter (isLe r M) = []) (ds := M.map PyData.int) (seqV_eq rfl rfl) ⟨none, rfl, rfl⟩ (fun j d hd st hI => ?_) (fun st hI => ?_)
  · obtain ⟨a2, rfl, h0⟩ := hI
    obtain ⟨x, hx, rfl⟩ := get_int hd
    refine ⟨_, rfl, ?_⟩
    have hxm := List.mem_of_getElem? hx
    have e : (!M.any fun b => !decide (b ∈ row r x)) = isLe r M x := by
      unfold isLe
      rw [Bool.eq_iff_iff]; simp
    refine sr_if1 (b := isLe r M x) (lift2_eq (lenM_eq (lcM_map (φ := PyData.int) (ds := M) (p := fun b => !decide (b ∈ row r x)) (f := PyData.int) (seqV_eq rfl rfl) rfl rfl rfl (by rw [szl]; omega) fun y hy => ⟨_, rfl, lift2_eq (vr_eq rfl) (lift2_eq (vr_eq rfl) (vr_eq rfl) (row_atU (hM x hxm))) (both_of (ninD_tuI _ _)), fun _ => vr_eq rfl, rfl⟩)) cst_eq (both_of ((len0_filter M _ _).trans (by rw [e])))) (fun hb => Ret.ret (vr_eq rfl) ?_) (fun hb => ⟨_, rfl, filter_step hx h0 hb⟩)
    obtain ⟨t, ht⟩ := filter_first hx h0 hb
    rw [ht]
    rfl
  · obtain ⟨a2, rfl, h0⟩ := hI
    rw [List.length_map, List.take_of_length_le (Nat.le_refl _)] at h0
    refine Ret.ret cst_eq ?_
    rw [h0]
    rfl
theorem ljoin_eq {r : List (List Int)} (o : OkO r.length r) {x y : Int} (hx : InU r x) (hy : InU r y) : F_law_join [LD r, .int x, .int y] = some (hdD (jnL r x y)) := by
  have h1 := o.rlen x
  refine runD_ret rfl ?_
  unfold B_law_join
  exact Ret.ret (callD_eq (cons_eq (liD_eq (lcM_map (φ := PyData.int) (ds := row r x) (p := fun z => decide (z ∈ row r y)) (f := PyData.int) (lift1_eq (lift2_eq (lift2_eq (vr_eq rfl) cst_eq ldx2) (vr_eq rfl) (row_atU hx)) rfl) rfl rfl rfl (by rw [szl]; omega) fun z hz => ⟨_, rfl, lift2_eq (vr_eq rfl) (lift2_eq (lift2_eq (vr_eq rfl) cst_eq ldx2) (vr_eq rfl) (row_atU hy)) (both_of (inD_tuI _ _)), fun _ => vr_eq rfl, rfl⟩)) (cons_eq (lift2_eq (vr_eq rfl) cst_eq ldx2) nil_eq)) (lbest_eq (M := ubs r x y) (fun a ha => ubs_in o ha) (Nat.le_trans (List.length_filter_le _ _) (by omega)))) rfl
theorem mem_trn {r : List (List Int)} {x y : Int} : y ∈ row (trn' r) x ↔ x.toNat < r.length ∧ y ∈ upto r.length ∧ (x.toNat : Int) ∈ row r y := by
  by_cases h : x.toNat < r.length
  · have e : row (trn' r) x = under r (x.toNat : Int) := by
      show (trn' r).getD x.toNat [] = _
      unfold trn'
      rw [List.getD_eq_getElem?_getD, List.getElem?_map, upto_get h]
      rfl
    rw [e]
    unfold under
    rw [List.mem_filter, decide_eq_true_iff]
    exact ⟨fun k => ⟨h, k⟩, fun k => k.2⟩
  · have e : row (trn' r) x = [] := by
      show (trn' r).getD x.toNat [] = _
      unfold trn'
      rw [List.getD_eq_getElem?_getD, List.getElem?_map, List.getElem?_eq_none (by rw [upto_len]; omega)]
      rfl
    rw [e]
    exact ⟨fun k => (by cases k), fun k => absurd k.1 h⟩
theorem toN {n : Nat} {x : Int} (h : x ∈ upto n) : ((x.toNat : Nat) : Int) = x := Int.toNat_of_nonneg (mem_upto.mp h).1
theorem ok_trn' {r : List (List Int)} (o : OkO r.length r) : OkO (trn' r).length (trn' r) := by
  rw [trn_len]
  refine { le := o.le, len := trn_len, sub := ?_, refl := ?_, trans := ?_, anti := ?_ }
  · intro q hq
    obtain ⟨x, _, rfl⟩ := List.mem_map.mp hq
    exact List.filter_sublist
  · intro x hx
    have := mem_upto.mp hx
    exact mem_trn.mpr ⟨by omega, hx, by rw [toN hx]; exact o.refl x hx⟩
  · intro x y z h1 h2
    rw [mem_trn] at h1 h2 ⊢
    rw [toN h1.2.1] at h2
    exact ⟨h1.1, h2.2.1, o.trans _ _ _ h2.2.2 h1.2.2⟩
  · intro x y h1 h2
    rw [mem_trn] at h1 h2
    rw [toN h2.2.1] at h1
    rw [toN h1.2.1] at h2
    exact o.anti x y h2.2.2 h1.2.2
theorem in_trn {r : List (List Int)} {x : Int} (h : InU r x) : InU (trn' r) x := by
  unfold InU
  rw [trn_len]
  exact h
theorem row_trn2 {r : List (List Int)} {x y : Int} (hx : x ∈ upto r.length) : y ∈ row (trn' r) x ↔ y ∈ upto r.length ∧ x ∈ row r y := by
  rw [mem_trn, toN hx]
  have := mem_upto.mp hx
  exact ⟨fun k => k.2, fun k => ⟨by omega, k⟩⟩
theorem under_trn {r : List (List Int)} (o : OkO r.length r) {x : Int} (hx : x ∈ upto r.length) : under (trn' r) x = row r x := by
  have hs : List.Sublist (row r x) (upto r.length) := o.sub _ (row_mem (o.refl x hx)).2
  unfold under
  rw [trn_len]
  refine up_unique List.filter_sublist hs fun k => ?_
  rw [List.mem_filter, decide_eq_true_iff]
  constructor
  · rintro ⟨h1, h2⟩
    exact ((row_trn2 h1).mp h2).2
  · intro h
    have h1 := o.mem h
    exact ⟨h1, (row_trn2 h1).mpr ⟨hx, h⟩⟩
/-- joins there are -/
def jn (r : List (List Int)) (x y : Int) : Int := (jnL r x y).headD 0
def HasJ (r : List (List Int)) : Prop := ∀ x ∈ upto r.length, ∀ y ∈ upto r.length, jnL r x y ≠ []
theorem hdD_jn {r : List (List Int)} (j : HasJ r) {x y : Int} (hx : x ∈ upto r.length) (hy : y ∈ upto r.length) : hdD (jnL r x y) = .int (jn r x y) := by
  unfold jn
  cases e : jnL r x y with
  | nil => exact absurd e (j x hx y hy)
  | cons a t => rfl
theorem jn_mem {r : List (List Int)} (j : HasJ r) {x y : Int} (hx : x ∈ upto r.length) (hy : y ∈ upto r.length) : jn r x y ∈ row r x ∧ jn r x y ∈ row r y ∧ ∀ w, w ∈ row r x → w ∈ row r y → w ∈ row r (jn r x y) := by
  have hm : jn r x y ∈ jnL r x y := by
    unfold jn
    cases e : jnL r x y with
    | nil => exact absurd e (j x hx y hy)
    | cons a t => exact List.mem_cons_self
  obtain ⟨h1, h2⟩ := List.mem_filter.mp hm
  obtain ⟨h3, h4⟩ := List.mem_filter.mp h1
  exact ⟨h3, of_decide_eq_true h4, fun w hw1 hw2 => of_decide_eq_true (List.all_eq_true.mp h2 w (List.mem_filter.mpr ⟨hw1, decide_eq_true hw2⟩))⟩
theorem jn_up {r : List (List Int)} (o : OkO r.length r) (j : HasJ r) {x y : Int} (hx : x ∈ upto r.length) (hy : y ∈ upto r.length) : jn r x y ∈ upto r.length := o.mem (jn_mem j hx hy).1
theorem jn_self {r : List (List Int)} (o : OkO r.length r) (j : HasJ r) {x : Int} (hx : x ∈ upto r.length) : jn r x x = x := by
  obtain ⟨h1, h2, h3⟩ := jn_mem j hx hx
  exact (o.anti _ _ h1 (h3 x (o.refl x hx) (o.refl x hx))).symm
theorem hasJ_of {r : List (List Int)} (l : OkL r.length r) : HasJ r := fun x hx y hy e => by
  obtain ⟨z, hz, h1, h2, h3⟩ := l.join x hx y hy
  have : z ∈ jnL r x y := List.mem_filter.mpr ⟨List.mem_filter.mpr ⟨h1, decide_eq_true h2⟩, List.all_eq_true.mpr fun w hw => by
    obtain ⟨k1, k2⟩ := List.mem_filter.mp hw
    exact decide_eq_true (h3 w k1 (of_decide_eq_true k2))⟩
  rw [e] at this; cases this
theorem hasM_of {r : List (List Int)} (l : OkL r.length r) : HasJ (trn' r) := fun x hx y hy e => by
  rw [trn_len] at hx hy
  obtain ⟨z, hz, h1, h2, h3⟩ := l.meet x hx y hy
  have : z ∈ jnL (trn' r) x y := List.mem_filter.mpr ⟨List.mem_filter.mpr ⟨(row_trn2 hx).mpr ⟨hz, h1⟩, decide_eq_true ((row_trn2 hy).mpr ⟨hz, h2⟩)⟩, List.all_eq_true.mpr fun w hw => by
    obtain ⟨k1, k2⟩ := List.mem_filter.mp hw
    have k1 := (row_trn2 hx).mp k1
    have k2 := (row_trn2 hy).mp (of_decide_eq_true k2)
    exact decide_eq_true ((row_trn2 hz).mpr ⟨k1.1, h3 w k1.1 k1.2 k2.2⟩)⟩
  rw [e] at this; cases this
theorem meet_eq {r : List (List Int)} (o : OkO r.length r) {x y : Int} (hx : InU r x) (hy : InU r y) : F_meet_of [LD r, .int x, .int y] = some (hdD (jnL (trn' r) x y)) := by
  refine runD_ret rfl ?_
  unfold B_meet_of
  exact Ret.ret (callD_eq (cons_eq (callD_eq (cons_eq (vr_eq rfl) nil_eq) (turn_eq o.le)) (cons_eq (vr_eq rfl) (cons_eq (vr_eq rfl) nil_eq))) (join_eq (ok_trn' o) (in_trn hx) (in_trn hy))) rfl
def lbs (r : List (List Int)) (x y : Int) : List Int := (upto r.length).filter fun z => decide (x ∈ row r z) && decide (y ∈ row r z)
theorem lbs_eq {r : List (List Int)} {x y : Int} (hx : x ∈ upto r.length) (hy : y ∈ upto r.length) : ubs (trn' r) x y = lbs r x y := by
  have h1 : row (trn' r) x = under r x := row_trn' (inU_of hx)
  unfold ubs lbs
  rw [h1]
  unfold under
  rw [List.filter_filter]
  refine List.filter_congr fun z hz => ?_
  rw [Bool.eq_iff_iff, Bool.and_eq_true, Bool.and_eq_true, decide_eq_true_iff, decide_eq_true_iff, decide_eq_true_iff, row_trn2 hy]
  exact ⟨fun k => ⟨k.2, k.1.2⟩, fun k => ⟨⟨hz, k.2⟩, k.1⟩⟩
theorem isLe_eq {r : List (List Int)} {x y z : Int} (hz : z ∈ lbs r x y) : ((lbs r x y).all fun w => decide (z ∈ row r w)) = isLe (trn' r) (lbs r x y) z := by
  have hzu := (List.mem_filter.mp hz).1
  unfold isLe
  rw [Bool.eq_iff_iff, List.all_eq_true, List.all_eq_true]
  constructor
  · intro h w hw
    exact decide_eq_true ((row_trn2 hzu).mpr ⟨(List.mem_filter.mp hw).1, of_decide_eq_true (h w hw)⟩)
  · intro h w hw
    exact decide_eq_true ((row_trn2 hzu).mp (of_decide_eq_true (h w hw))).2
theorem lmeet_eq {r : List (List Int)} (o : OkO r.length r) {x y : Int} (hx : x ∈ upto r.length) (hy : y ∈ upto r.length) : F_law_meet [LD r, .int x, .int y] = some (hdD (jnL (trn' r) x y)) := by
  have hn := o.le
  have hM : ∀ z ∈ lbs r x y, InU r z := fun z hz => inU_of (List.mem_filter.mp hz).1
  have hl : (lbs r x y).length ≤ 50 := Nat.le_trans (List.length_filter_le _ _) (by rw [upto_len]; exact hn)
  have ej : jnL (trn' r) x y = (lbs r x y).filter (isLe (trn' r) (lbs r x y)) := by unfold jnL; rw [lbs_eq hx hy]
  rw [ej]
  refine runD_ret rfl ?_
  unfold B_law_meet
  refine Ret.nx (setM_eq (liD_eq (lcM_map (φ := PyData.int) (ds := upto r.length) (p := fun z => decide (x ∈ row r z) && decide (y ∈ row r z)) (f := PyData.int) (lift1_eq (lift2_eq (vr_eq rfl) cst_eq ldx1) (range1_nat _ (by omega))) rfl rfl rfl (by rw [upto_len, szl]; omega) fun z hz => ⟨_, rfl, and_eq (lift2_eq (vr_eq rfl) (lift2_eq (lift2_eq (vr_eq rfl) cst_eq ldx2) (vr_eq rfl) (row_atU (inU_of hz))) (both_of (inD_tuI _ _))) (lift2_eq (vr_eq rfl) (lift2_eq (lift2_eq (vr_eq rfl) cst_eq ldx2) (vr_eq rfl) (row_atU (inU_of hz))) (both_of (inD_tuI _ _))), fun _ => vr_eq rfl, rfl⟩))) ?_
  refine Ret.forR (fun j st => ∃ a4, st = [some (.val (LD r)), some (.val (.int x)), some (.val (.int y)), some (.val (liI (lbs r x y))), a4, none] ∧ ((lbs r x y).take j).filter (isLe (trn' r) (lbs r x y)) = []) (ds := (lbs r x y).map PyData.int) (seqV_eq rfl rfl) ⟨none, rfl, rfl⟩ (fun j d hd st hI => ?_) (fun st hI => ?_)
  · obtain ⟨a2, rfl, h0⟩ := hI
    obtain ⟨z, hz, rfl⟩ := get_int hd
    refine ⟨_, rfl, ?_⟩
    have hzm := List.mem_of_getElem? hz
    have e : (!(lbs r x y).any fun w => !decide (z ∈ row r w)) = isLe (trn' r) (lbs r x y) z := by
      rw [← isLe_eq hzm, Bool.eq_iff_iff]; simp
    refine sr_if1 (b := isLe (trn' r) (lbs r x y) z) (lift2_eq (lenM_eq (lcM_map (φ := PyData.int) (ds := lbs r x y) (p := fun w => !decide (z ∈ row r w)) (f := PyData.int) (seqV_eq rfl rfl) rfl rfl rfl (by rw [szl]; omega) fun w hw => ⟨_, rfl, lift2_eq (vr_eq rfl) (lift2_eq (lift2_eq (vr_eq rfl) cst_eq ldx2) (vr_eq rfl) (row_atU (hM w hw))) (both_of (ninD_tuI _ _)), fun _ => vr_eq rfl, rfl⟩)) cst_eq (both_of ((len0_filter (lbs r x y) _ _).trans (by rw [e])))) (fun hb => Ret.ret (vr_eq rfl) ?_) (fun hb => ⟨_, rfl, filter_step hz h0 hb⟩)
    obtain ⟨t, ht⟩ := filter_first hz h0 hb
    rw [ht]
    rfl
  · obtain ⟨a2, rfl, h0⟩ := hI
    rw [List.length_map, List.take_of_length_le (Nat.le_refl _)] at h0
    refine Ret.ret cst_eq ?_
    rw [h0]
    rfl
/-! ### tables of joins and meets -/
def tab (r : List (List Int)) : List (List Int) := (upto r.length).map fun x => (upto r.length).map fun y => jn r x y
theorem tab_len {r : List (List Int)} : (tab r).length = r.length := by unfold tab; rw [List.length_map, upto_len]
theorem ljoins_eq {r : List (List Int)} (o : OkO r.length r) (j : HasJ r) : F_law_joins [LD r] = some (.list ((tab r).map liI)) := by
  have hn := o.le
  refine runD_ret rfl ?_
  unfold B_law_joins
  refine Ret.nx (setO_eq (lstM_eq nil_eq (Nat.zero_le _))) ?_
  refine Ret.for (fun i st => ∃ a2 rows, st = [some (.val (LD r)), some (.own (rows.map liI)), a2, none] ∧ rows = (tab r).take i) (ds := (upto r.length).map PyData.int) (lift1_eq (lift2_eq (vr_eq rfl) cst_eq ldx1) (range1_nat _ (by omega))) ⟨none, [], rfl, rfl⟩ (fun i d hd st hI => ?_) (fun st hI => ?_)
  · obtain ⟨a2, rows, rfl, hx⟩ := hI
    obtain ⟨hi, hu, rfl⟩ := upto_at hd
    have hl : rows.length ≤ 50 := by rw [hx, List.length_take, tab_len]; omega
    have q : lcM [3] (lift1 range1D (lift2 ixD (vr 0) (cst (.int 1)))) (gv 3) yesM (callD F_law_join (consM (vr 0) (consM (vr 2) (consM (vr 3) nilM)))) [some (.val (LD r)), some (.own (rows.map liI)), some (.val (.int i)), none] = some (((upto r.length).map fun y => jn r i y).map PyData.int, [some (.val (LD r)), some (.own (rows.map liI)), some (.val (.int i)), none]) := by
      refine Eq.trans (lcM_all (φ := PyData.int) (ds := upto r.length) (f := fun y => PyData.int (jn r i y)) (lift1_eq (lift2_eq (vr_eq rfl) cst_eq ldx1) (range1_nat _ (by omega))) rfl rfl rfl (by rw [upto_len, szl]; omega) fun y hy => ⟨_, rfl, rfl, callD_eq (cons_eq (vr_eq rfl) (cons_eq (vr_eq rfl) (cons_eq (vr_eq rfl) nil_eq))) ((ljoin_eq o (inU_of hu) (inU_of hy)).trans (by rw [hdD_jn j hu hy])), rfl⟩) ?_
      rw [List.map_map]; rfl
    refine ⟨_, rfl, Stp.one (appM_eq rfl (liD_eq q) rfl (by rw [List.length_map, szl]; omega)) ⟨_, rows ++ [(upto r.length).map fun y => jn r i y], by rw [List.map_append]; rfl, ?_⟩⟩
    unfold tab at hx ⊢
    rw [List.take_add_one, ← hx, List.getElem?_map, upto_get hi]
    rfl
  · obtain ⟨a2, rows, rfl, hx⟩ := hI
    rw [List.length_map, upto_len, List.take_of_length_le (by rw [tab_len]; exact Nat.le_refl _)] at hx
    rw [← hx]
    exact Ret.retO (vo_own rfl) rfl
theorem lmeets_eq {r : List (List Int)} (o : OkO r.length r) (j : HasJ (trn' r)) : F_law_meets [LD r] = some (.list ((tab (trn' r)).map liI)) := by
  have hn := o.le
  have e0 : tab (trn' r) = (upto r.length).map fun x => (upto r.length).map fun y => jn (trn' r) x y := by unfold tab; rw [trn_len]
  refine runD_ret rfl ?_
  unfold B_law_meets
  refine Ret.nx (setO_eq (lstM_eq nil_eq (Nat.zero_le _))) ?_
  refine Ret.for (fun i st => ∃ a2 rows, st = [some (.val (LD r)), some (.own (rows.map liI)), a2, none] ∧ rows = (tab (trn' r)).take i) (ds := (upto r.length).map PyData.int) (lift1_eq (lift2_eq (vr_eq rfl) cst_eq ldx1) (range1_nat _ (by omega))) ⟨none, [], rfl, rfl⟩ (fun i d hd st hI => ?_) (fun st hI => ?_)
  · obtain ⟨a2, rows, rfl, hx⟩ := hI
    obtain ⟨hi, hu, rfl⟩ := upto_at hd
    have hl : rows.length ≤ 50 := by rw [hx, List.length_take, tab_len, trn_len]; omega
    have q : lcM [3] (lift1 range1D (lift2 ixD (vr 0) (cst (.int 1)))) (gv 3) yesM (callD F_law_meet (consM (vr 0) (consM (vr 2) (consM (vr 3) nilM)))) [some (.val (LD r)), some (.own (rows.map liI)), some (.val (.int i)), none] = some (((upto r.length).map fun y => jn (trn' r) i y).map PyData.int, [some (.val (LD r)), some (.own (rows.map liI)), some (.val (.int i)), none]) := by
      refine Eq.trans (lcM_all (φ := PyData.int) (ds := upto r.length) (f := fun y => PyData.int (jn (trn' r) i y)) (lift1_eq (lift2_eq (vr_eq rfl) cst_eq ldx1) (range1_nat _ (by omega))) rfl rfl rfl (by rw [upto_len, szl]; omega) fun y hy => ⟨_, rfl, rfl, callD_eq (cons_eq (vr_eq rfl) (cons_eq (vr_eq rfl) (cons_eq (vr_eq rfl) nil_eq))) ((lmeet_eq o hu hy).trans (by rw [hdD_jn j (by rw [trn_len]; exact hu) (by rw [trn_len]; exact hy)])), rfl⟩) ?_
      rw [List.map_map]; rfl
    refine ⟨_, rfl, Stp.one (appM_eq rfl (liD_eq q) rfl (by rw [List.length_map, szl]; omega)) ⟨_, rows ++ [(upto r.length).map fun y => jn (trn' r) i y], by rw [List.map_append]; rfl, ?_⟩⟩
    rw [e0] at hx ⊢
    rw [List.take_add_one, ← hx, List.getElem?_map, upto_get hi]
    rfl
  · obtain ⟨a2, rows, rfl, hx⟩ := hI
    rw [List.length_map, upto_len, List.take_of_length_le (by rw [tab_len, trn_len]; exact Nat.le_refl _)] at hx
    rw [← hx]
    exact Ret.retO (vo_own rfl) rfl
theorem tab_at {r : List (List Int)} {x : Int} (hx : x ∈ upto r.length) : ixD (.list ((tab r).map liI)) (.int x) = some (liI ((upto r.length).map fun y => jn r x y)) := by
  obtain ⟨h0, h1⟩ := mem_upto.mp hx
  rw [rowL_at h0 (by rw [tab_len]; exact h1)]
  congr 2
  unfold row tab
  rw [List.getD_eq_getElem?_getD, List.getElem?_map, upto_get (by omega), toN hx]
  rfl
theorem tab_at2 {r : List (List Int)} {x y : Int} (hy : y ∈ upto r.length) : ixD (liI ((upto r.length).map fun y => jn r x y)) (.int y) = some (.int (jn r x y)) := by
  obtain ⟨h0, h1⟩ := mem_upto.mp hy
  refine ixD_l (j := y.toNat) ?_ (toN hy).symm
  rw [List.getElem?_map, List.getElem?_map, upto_get (by omega), toN hy]
  rfl
/-! ### sets -/
theorem cut_1 {ds : List PyData} : cutD ds (some 1) none = ds.drop 1 := by
  cases ds with
  | nil => unfold cutD; simp
  | cons a t =>
    unfold cutD
    have : HT.sIx (a :: t).length 0 (some ((1 : Nat) : Int)) = 1 := by rw [HT.sIx_nat, List.length_cons]; omega
    rw [show HT.sIx (a :: t).length 0 (some 1) = 1 from this, show HT.sIx (a :: t).length (a :: t).length none = (a :: t).length from rfl, List.take_of_length_le (by rw [List.length_drop]; exact Nat.le_refl _)]
theorem sl_1 {xs : List Int} : sliceD (tuI xs) (some 1) none = some (tuI (xs.drop 1)) := by
  show some (PyData.tuple (cutD (xs.map PyData.int) (some 1) none)) = _
  rw [cut_1, ← List.map_drop]
theorem zip_ints : ∀ xs ys : List Int, zipL (xs.map PyData.int) (ys.map .int) = (xs.zip ys).map fun p => PyData.tuple [.int p.1, .int p.2]
  | [], _ => by simp [zipL]
  | _ :: _, [] => by simp [zipL]
  | x :: xs, y :: ys => by
    rw [List.map_cons, List.map_cons, List.zip_cons_cons, List.map_cons, ← zip_ints xs ys]
    rfl
theorem zip_rise : ∀ {xs : List Int}, xs.Pairwise (· < ·) → ∀ p ∈ xs.zip (xs.drop 1), p.1 < p.2
  | [], _, p, hp => by cases hp
  | [x], _, p, hp => by cases hp
  | x :: y :: t, h, p, hp => by
    obtain ⟨h1, h2⟩ := List.pairwise_cons.mp h
    have hp : p ∈ (x, y) :: (y :: t).zip ((y :: t).drop 1) := hp
    rcases List.mem_cons.mp hp with rfl | hp
    · exact h1 y List.mem_cons_self
    · exact zip_rise h2 p hp
/-! ### ideals -/
def idB (r : List (List Int)) (lot : List Int) : Bool := !lot.isEmpty && ((lot.all fun x => (under r x).all fun y => decide (y ∈ lot)) && lot.all fun x => lot.all fun y => decide (jn r x y ∈ lot))
theorem tru_tu {xs : List Int} : truD (tuI xs) = some (!xs.isEmpty) := by
  show some (!(xs.map PyData.int).isEmpty) = _
  cases xs <;> rfl
theorem flat_bools {α : Type} (xs : List α) (f : α → List Bool) : (xs.flatMap fun x => (f x).map PyData.bool) = (xs.flatMap f).map PyData.bool := by rw [List.map_flatMap]
theorem nest_all {f : M PyData} {p : Int → Int → Bool} {st0 : Dn} {lot : List Int} {i k : Nat} {it : M (List PyData)} (h : ∀ x ∈ lot, ∃ st1, gv i (.int x) st0 = some st1 ∧ it st1 = some (lot.map PyData.int, st1) ∧ ∀ y ∈ lot, ∃ st2 st3, gv k (.int y) st1 = some st2 ∧ f st2 = some (.bool (p x y), st3)) :
    allGo (genGo (gv i) yesM (nestG it (genGo (gv k) yesM (lastG f))) (lot.map PyData.int) st0) = some (lot.all fun x => lot.all fun y => p x y) := by
  rw [genGo_flat (φ := PyData.int) (f := fun x => (lot.map fun y => p x y).map PyData.bool) lot fun x hx => by
    obtain ⟨st1, h1, h2, h3⟩ := h x hx
    refine ⟨st1, h1, nest_eq h2 ?_⟩
    rw [genGo_allS (φ := PyData.int) (q := fun y => PyData.bool (p x y)) lot fun y hy => h3 y hy]
    simp only [List.map_map]
    rfl]
  rw [flat_bools, allGo_bools]
  congr 1
  rw [Bool.eq_iff_iff]
  simp
theorem nest_any {f : M PyData} {p : Int → Int → Bool} {st0 : Dn} {lot : List Int} {i k : Nat} {it : M (List PyData)} (h : ∀ x ∈ lot, ∃ st1, gv i (.int x) st0 = some st1 ∧ it st1 = some (lot.map PyData.int, st1) ∧ ∀ y ∈ lot, ∃ st2 st3, gv k (.int y) st1 = some st2 ∧ f st2 = some (.bool (p x y), st3)) :
    anyGo (genGo (gv i) yesM (nestG it (genGo (gv k) yesM (lastG f))) (lot.map PyData.int) st0) = some (lot.any fun x => lot.any fun y => p x y) := by
  rw [genGo_flat (φ := PyData.int) (f := fun x => (lot.map fun y => p x y).map PyData.bool) lot fun x hx => by
    obtain ⟨st1, h1, h2, h3⟩ := h x hx
    refine ⟨st1, h1, nest_eq h2 ?_⟩
    rw [genGo_allS (φ := PyData.int) (q := fun y => PyData.bool (p x y)) lot fun y hy => h3 y hy]
    simp only [List.map_map]
    rfl]
  rw [flat_bools, anyGo_bools]
  congr 1
  rw [Bool.eq_iff_iff]
  simp
theorem below_at {r : List (List Int)} {x : Int} (hx : x ∈ upto r.length) : ixD (.tuple ((trn' r).map tuI)) (.int x) = some (tuI (under r x)) := by
  have h := mem_upto.mp hx
  rw [row_at h.1 (by rw [trn_len]; exact h.2), row_trn' (inU_of hx)]
theorem gt0_filter {α : Type} (xs : List α) (p : α → Bool) (f : α → PyData) : gtD (.int (((xs.filter p).map f).length : Nat)) (.int 0) = some (.bool (xs.any p)) := by
  rw [gt_ii, List.length_map]
  congr 2
  rw [Bool.eq_iff_iff, decide_eq_true_iff, List.any_eq_true]
  constructor
  · intro h
    obtain ⟨x, hx⟩ := List.exists_mem_of_length_pos (by omega : 0 < (xs.filter p).length)
    exact ⟨x, (List.mem_filter.mp hx).1, (List.mem_filter.mp hx).2⟩
  · rintro ⟨x, hx, hp⟩
    have := List.length_pos_of_mem (List.mem_filter.mpr ⟨hx, hp⟩)
    omega
/-! ### made, prime -/
theorem id_under {r : List (List Int)} (o : OkO r.length r) (j : HasJ r) {h : Int} (hh : h ∈ upto r.length) : idB r (under r h) = true := by
  have hm : ∀ {x}, x ∈ under r h ↔ x ∈ upto r.length ∧ h ∈ row r x := fun {x} => by
    unfold under
    rw [List.mem_filter, decide_eq_true_iff]
  have hne : (under r h).isEmpty = false := by
    cases e : under r h with
    | nil =>
      have : h ∈ under r h := hm.mpr ⟨hh, o.refl h hh⟩
      rw [e] at this; cases this
    | cons a t => rfl
  unfold idB
  rw [hne, Bool.not_false, Bool.true_and, Bool.and_eq_true, List.all_eq_true, List.all_eq_true]
  refine ⟨fun x hx => List.all_eq_true.mpr fun y hy => decide_eq_true ?_, fun x hx => List.all_eq_true.mpr fun y hy => decide_eq_true ?_⟩
  · have hy := List.mem_filter.mp hy
    exact hm.mpr ⟨hy.1, o.trans y x h (of_decide_eq_true hy.2) (hm.mp hx).2⟩
  · obtain ⟨h1, h2⟩ := hm.mp hx
    obtain ⟨h3, h4⟩ := hm.mp hy
    exact hm.mpr ⟨jn_up o j h1 h3, (jn_mem j h1 h3).2.2 h h2 h4⟩
def rs (r : List (List Int)) (I : List Int) : List Int := (upto r.length).filter fun x => !decide (x ∈ I)
def prB (r : List (List Int)) (I : List Int) : Bool := !(rs r I).isEmpty && !(rs r I).any fun x => (rs r I).any fun y => decide (jn (trn' r) x y ∈ I)
theorem rs_up {r : List (List Int)} {I : List Int} : ∀ x ∈ rs r I, x ∈ upto r.length := fun x hx => (List.mem_filter.mp hx).1
theorem rs_len {r : List (List Int)} {I : List Int} (h : r.length ≤ 50) : (rs r I).length ≤ 50 := Nat.le_trans (List.length_filter_le _ _) (by rw [upto_len]; exact h)
theorem rs_emp {r : List (List Int)} {I : List Int} (hs : List.Sublist I (upto r.length)) : decide ((I.length : Int) = (r.length : Int)) = (rs r I).isEmpty := by
  rw [Bool.eq_iff_iff, decide_eq_true_iff, List.isEmpty_iff]
  unfold rs
  rw [List.filter_eq_nil_iff]
  constructor
  · intro h x hx
    have : I = upto r.length := hs.eq_of_length (by rw [upto_len]; omega)
    rw [this]
    simpa using hx
  · intro h
    have : I = upto r.length := up_unique hs (List.Sublist.refl _) fun k => ⟨fun hk => hs.subset hk, fun hk => by simpa using h k hk⟩
    rw [this, upto_len]
def prL (r : List (List Int)) : List (List Int) := (trn' r).filter (prB r)
theorem insD_rows {a : List Int} : ∀ ys : List (List Int), ∃ zs : List (List Int), insD (tuI a) (ys.map tuI) = zs.map tuI ∧ zs.Perm (a :: ys)
  | [] => ⟨[a], rfl, .refl _⟩
  | y :: ys => by
    obtain ⟨zs, e, p⟩ := insD_rows (a := a) ys
    show ∃ zs : List (List Int), (if PySem.W.dataLe false id (tuI a) (tuI y) then tuI a :: tuI y :: ys.map tuI else tuI y :: insD (tuI a) (ys.map tuI)) = zs.map tuI ∧ _
    split
    · exact ⟨a :: y :: ys, rfl, .refl _⟩
    · exact ⟨y :: zs, by rw [e]; rfl, (p.cons y).trans (.swap _ _ _)⟩
theorem isrtD_rows : ∀ xs : List (List Int), ∃ ys : List (List Int), isrtD (xs.map tuI) = ys.map tuI ∧ ys.Perm xs
  | [] => ⟨[], rfl, .refl _⟩
  | x :: xs => by
    obtain ⟨ys, e, p⟩ := isrtD_rows xs
    obtain ⟨zs, e2, p2⟩ := insD_rows (a := x) ys
    refine ⟨zs, ?_, p2.trans (p.cons x)⟩
    show insD (tuI x) (isrtD (xs.map tuI)) = _
    rw [e, e2]
theorem srtD_rows (xs : List (List Int)) : ∃ ys : List (List Int), srtD (xs.map tuI) = some (ys.map tuI) ∧ ys.Perm xs := by
  obtain ⟨ys, e, p⟩ := isrtD_rows xs
  refine ⟨ys, ?_, p⟩
  unfold srtD
  rw [if_pos, e]
  rw [Bool.or_eq_true]; left
  unfold fastOk
  rw [Bool.or_eq_true]; right
  rw [List.all_map]
  refine List.all_eq_true.mpr fun r _ => ?_
  show (r.map PyData.int).all isIntB = true
  rw [List.all_map]
  exact List.all_eq_true.mpr fun _ _ => rfl
/-! ### no sets -/
/-! ### the one fixed lattice -/
def n5 : List (List Int) := [[0, 1, 2, 3, 4], [1, 4], [2, 3, 4], [3, 4], [4]]
theorem okO_of {n : Nat} {rows : List (List Int)} (hn : n ≤ 50) (hl : rows.length = n) (h1 : ∀ r ∈ rows, r.Pairwise (· < ·)) (h2 : ∀ r ∈ rows, ∀ y ∈ r, y ∈ upto n) (hr : ∀ x ∈ upto n, x ∈ row rows x) (ht : ∀ x ∈ upto n, ∀ y ∈ row rows x, ∀ z ∈ row rows y, z ∈ row rows x) (ha : ∀ x ∈ upto n, ∀ y ∈ row rows x, x ∈ row rows y → x = y) : OkO n rows where
  le := hn
  len := hl
  sub := fun r h => sub_of_mem (h1 r h) (h2 r h)
  refl := hr
  trans := fun x y z hy hz => by
    have h := (row_mem hy).1
    have e : row rows x = row rows ((x.toNat : Nat) : Int) := rfl
    rw [e] at hy ⊢
    exact ht _ (mem_upto.mpr ⟨by omega, by omega⟩) y hy z hz
  anti := fun x y hy hx => ha x (h2 _ (row_mem hx).2 x hx) y hy hx
theorem ok_n5 : OkO n5.length n5 := okO_of (by decide) rfl (by decide) (by decide) (by decide) (by decide) (by decide)
theorem j_n5 : HasJ n5 := by unfold HasJ; decide
theorem m_n5 : HasJ (trn' n5) := by unfold HasJ; decide
theorem lat_eq {n : Nat} {rows : List (List Int)} (l : OkL n rows) : ∃ r : List (List Int), OkO r.length r ∧ HasJ r ∧ HasJ (trn' r) ∧ 0 < r.length ∧ ((if 6 < n then Ld 5 n5 else Ld n rows) = LD r) := by
  by_cases e : 6 < n
  · exact ⟨n5, ok_n5, j_n5, m_n5, by decide, by rw [if_pos e]; rfl⟩
  · have hl := l.len
    have l' : OkL rows.length rows := by rw [hl]; exact l
    refine ⟨rows, l'.toOkO, hasJ_of l', hasM_of l', by rw [hl]; exact l.pos, ?_⟩
    rw [if_neg e]
    show Ld n rows = Ld rows.length rows
    rw [hl]

/-! ### k63: plain laws -/
section
variable {r : List (List Int)} (o : OkO r.length r) (j : HasJ r) (m : HasJ (trn' r))
def me (r : List (List Int)) (x y : Int) : Int := jn (trn' r) x y
theorem upT {x : Int} (hx : x ∈ upto r.length) : x ∈ upto (trn' r).length := by rw [trn_len]; exact hx
include o m in
theorem me_up {x y : Int} (hx : x ∈ upto r.length) (hy : y ∈ upto r.length) : me r x y ∈ upto r.length := by
  have := jn_up (ok_trn' o) m (upT hx) (upT hy)
  rwa [trn_len] at this
include o m in
theorem me_l {x y : Int} (hx : x ∈ upto r.length) (hy : y ∈ upto r.length) : x ∈ row r (me r x y) := ((row_trn2 hx).mp (jn_mem m (upT hx) (upT hy)).1).2
include o m in
theorem me_r {x y : Int} (hx : x ∈ upto r.length) (hy : y ∈ upto r.length) : y ∈ row r (me r x y) := ((row_trn2 hy).mp (jn_mem m (upT hx) (upT hy)).2.1).2
include o m in
theorem me_g {x y w : Int} (hx : x ∈ upto r.length) (hy : y ∈ upto r.length) (hw : w ∈ upto r.length) (h1 : x ∈ row r w) (h2 : y ∈ row r w) : me r x y ∈ row r w :=
  ((row_trn2 (me_up o m hx hy)).mp ((jn_mem m (upT hx) (upT hy)).2.2 w ((row_trn2 hx).mpr ⟨hw, h1⟩) ((row_trn2 hy).mpr ⟨hw, h2⟩))).2
theorem mem_under {x y : Int} : y ∈ under r x ↔ y ∈ upto r.length ∧ x ∈ row r y := by unfold under; rw [List.mem_filter, decide_eq_true_eq]
theorem mem_rs {I : List Int} {x : Int} : x ∈ rs r I ↔ x ∈ upto r.length ∧ x ∉ I := by unfold rs; rw [List.mem_filter]; simp
def lpB (r : List (List Int)) (I : List Int) : Bool := (rs r I).any fun y => (rs r I).all fun z => decide (z ∈ row r y)
theorem lpB_iff {I : List Int} : lpB r I = true ↔ ∃ y ∈ rs r I, ∀ z ∈ rs r I, z ∈ row r y := by
  unfold lpB
  simp only [List.any_eq_true, List.all_eq_true, decide_eq_true_eq]
theorem prB_iff {I : List Int} : prB r I = true ↔ rs r I ≠ [] ∧ ∀ x ∈ rs r I, ∀ y ∈ rs r I, me r x y ∉ I := by
  unfold prB me
  rw [Bool.and_eq_true, Bool.not_eq_true', Bool.not_eq_true', List.isEmpty_eq_false_iff, ← Bool.not_eq_true]
  simp only [List.any_eq_true, decide_eq_true_eq, not_exists, not_and]
include o m in
theorem lp_pr {x : Int} (hx : x ∈ upto r.length) : lpB r (under r x) = prB r (under r x) := by
  rw [Bool.eq_iff_iff, lpB_iff, prB_iff]
  constructor
  · rintro ⟨y, hy, h⟩
    refine ⟨fun e => (by rw [e] at hy; exact absurd hy List.not_mem_nil), fun a ha b hb hm => ?_⟩
    obtain ⟨hyu, hyn⟩ := mem_rs.mp hy
    refine hyn (mem_under.mpr ⟨hyu, ?_⟩)
    exact o.trans _ _ _ (me_g o m (mem_rs.mp ha).1 (mem_rs.mp hb).1 hyu (h a ha) (h b hb)) (mem_under.mp hm).2
  · rintro ⟨h0, h⟩
    have cl : ∀ L : List Int, (∀ z ∈ L, z ∈ rs r (under r x)) → ∃ y ∈ rs r (under r x), ∀ z ∈ L, z ∈ row r y := by
      intro L
      induction L with
      | nil =>
        intro _
        obtain ⟨a, t, e⟩ := List.exists_cons_of_ne_nil h0
        exact ⟨a, by rw [e]; exact List.mem_cons_self, fun z hz => by cases hz⟩
      | cons z L ih =>
        intro hL
        obtain ⟨y, hy, hyl⟩ := ih fun w hw => hL w (List.mem_cons_of_mem _ hw)
        have hz := hL z List.mem_cons_self
        have hzu := (mem_rs.mp hz).1
        have hyu := (mem_rs.mp hy).1
        refine ⟨me r z y, mem_rs.mpr ⟨me_up o m hzu hyu, h z hz y hy⟩, fun w hw => ?_⟩
        rcases List.mem_cons.mp hw with rfl | hw
        · exact me_l o m hzu hyu
        · exact o.trans _ _ _ (me_r o m hzu hyu) (hyl w hw)
    exact cl _ fun z hz => hz
def disB (r : List (List Int)) : Bool := (upto r.length).all fun x => (upto r.length).all fun y => (upto r.length).all fun z => decide (me r x (jn r y z) = jn r (me r x y) (me r x z))
theorem disB_iff : disB r = true ↔ ∀ x ∈ upto r.length, ∀ y ∈ upto r.length, ∀ z ∈ upto r.length, me r x (jn r y z) = jn r (me r x y) (me r x z) := by
  unfold disB
  simp only [List.all_eq_true, decide_eq_true_eq]
include o in
theorem has_min : ∀ L : List Int, L ≠ [] → (∀ a ∈ L, a ∈ upto r.length) → ∃ a ∈ L, ∀ b ∈ L, a ∈ row r b → b = a
  | [], h, _ => absurd rfl h
  | [a], _, _ => ⟨a, List.mem_cons_self, fun b hb _ => List.mem_singleton.mp hb⟩
  | a :: c :: L, _, hu => by
    obtain ⟨n, hn, hmin⟩ := has_min (c :: L) (by simp) fun b hb => hu b (List.mem_cons_of_mem _ hb)
    by_cases h : n ∈ row r a
    · refine ⟨a, List.mem_cons_self, fun b hb hab => ?_⟩
      rcases List.mem_cons.mp hb with rfl | hb
      · rfl
      · have e := hmin b hb (o.trans _ _ _ hab h)
        rw [e] at hab ⊢
        exact (o.anti a n h hab).symm
    · refine ⟨n, List.mem_cons_of_mem _ hn, fun b hb hab => ?_⟩
      rcases List.mem_cons.mp hb with rfl | hb
      · exact absurd hab h
      · exact hmin b hb hab
include o j m in
theorem sep (dis : disB r = true) {x y : Int} (hx : x ∈ upto r.length) (hy : y ∈ upto r.length) (h : x ∉ row r y) : ∃ k ∈ upto r.length, prB r (under r k) = true ∧ x ∈ under r k ∧ y ∉ under r k := by
  have D := disB_iff.mp dis
  obtain ⟨p, hp, hmin⟩ := has_min o ((upto r.length).filter fun z => decide (y ∈ row r z) && !decide (x ∈ row r z)) (fun e => by
    have : y ∈ (upto r.length).filter fun z => decide (y ∈ row r z) && !decide (x ∈ row r z) := List.mem_filter.mpr ⟨hy, by rw [Bool.and_eq_true, decide_eq_true_eq]; exact ⟨o.refl y hy, by simpa using h⟩⟩
    rw [e] at this; cases this) fun a ha => (List.mem_filter.mp ha).1
  have inS : ∀ z, z ∈ ((upto r.length).filter fun z => decide (y ∈ row r z) && !decide (x ∈ row r z)) ↔ z ∈ upto r.length ∧ y ∈ row r z ∧ x ∉ row r z := fun z => by
    rw [List.mem_filter, Bool.and_eq_true, decide_eq_true_eq]; simp
  obtain ⟨hpu, hpy, hpx⟩ := (inS p).mp hp
  -- what does not lie above p goes up
  have low : ∀ z ∈ upto r.length, z ∉ row r p → x ∈ row r (me r p z) := fun z hz hn => Classical.byContradiction fun hc => by
    have e := hmin (me r p z) ((inS _).mpr ⟨me_up o m hpu hz, o.trans _ _ _ (me_l o m hpu hz) hpy, hc⟩) (me_l o m hpu hz)
    exact hn (e ▸ me_r o m hpu hz)
  have cl : ∀ L : List Int, (∀ z ∈ L, z ∈ upto r.length ∧ z ∉ row r p) → ∃ k ∈ upto r.length, k ∉ row r p ∧ ∀ z ∈ L, k ∈ row r z := by
    intro L
    induction L with
    | nil => exact fun _ => ⟨x, hx, hpx, fun z hz => by cases hz⟩
    | cons z L ih =>
      intro hL
      obtain ⟨k, hk, hkp, hkl⟩ := ih fun w hw => hL w (List.mem_cons_of_mem _ hw)
      obtain ⟨hz, hzp⟩ := hL z List.mem_cons_self
      have hj := jn_mem j hz hk
      have hju := jn_up o j hz hk
      refine ⟨jn r z k, hju, fun hc => ?_, fun w hw => ?_⟩
      · have e1 : me r p (jn r z k) = p := o.anti _ _ (me_l o m hpu hju) (me_g o m hpu hju hpu (o.refl p hpu) hc)
        rw [D p hpu z hz k hk] at e1
        have h1 := (jn_mem j (me_up o m hpu hz) (me_up o m hpu hk)).2.2 x (low z hz hzp) (low k hk hkp)
        rw [e1] at h1
        exact hpx h1
      · rcases List.mem_cons.mp hw with rfl | hw
        · exact hj.1
        · exact o.trans _ _ _ (hkl w hw) hj.2.1
  obtain ⟨k, hk, hkp, hkl⟩ := cl ((upto r.length).filter fun z => !decide (z ∈ row r p)) fun z hz => by
    rw [List.mem_filter] at hz
    exact ⟨hz.1, by simpa using hz.2⟩
  have hund : ∀ z, z ∈ upto r.length → (z ∈ under r k ↔ z ∉ row r p) := fun z hz => by
    rw [mem_under]
    exact ⟨fun h1 h2 => hkp (o.trans _ _ _ h2 h1.2), fun h1 => ⟨hz, hkl z (List.mem_filter.mpr ⟨hz, by simpa using h1⟩)⟩⟩
  refine ⟨k, hk, ?_, (hund x hx).mpr hpx, fun hc => (hund y hy).mp hc hpy⟩
  rw [← lp_pr o m hk, lpB_iff]
  refine ⟨p, mem_rs.mpr ⟨hpu, fun hc => (hund p hpu).mp hc (o.refl p hpu)⟩, fun z hz => ?_⟩
  obtain ⟨hz1, hz2⟩ := mem_rs.mp hz
  exact Classical.byContradiction fun hc => hz2 ((hund z hz1).mpr hc)
include o j m in
theorem dis_of_inj (inj : ∀ x ∈ upto r.length, ∀ y ∈ upto r.length, (∀ k ∈ upto r.length, prB r (under r k) = true → (x ∈ under r k ↔ y ∈ under r k)) → x = y) : disB r = true := by
  refine disB_iff.mpr fun x hx y hy z hz => ?_
  have hyz := jn_up o j hy hz
  have hxy := me_up o m hx hy
  have hxz := me_up o m hx hz
  refine inj _ (me_up o m hx hyz) _ (jn_up o j hxy hxz) fun k hk hp => ?_
  have J : ∀ {a b : Int}, a ∈ upto r.length → b ∈ upto r.length → (jn r a b ∈ under r k ↔ a ∈ under r k ∧ b ∈ under r k) := fun {a b} ha hb => by
    have hj := jn_mem j ha hb
    rw [mem_under, mem_under, mem_under]
    exact ⟨fun h => ⟨⟨ha, o.trans _ _ _ hj.1 h.2⟩, ⟨hb, o.trans _ _ _ hj.2.1 h.2⟩⟩, fun h => ⟨jn_up o j ha hb, hj.2.2 k h.1.2 h.2.2⟩⟩
  have M : ∀ {a b : Int}, a ∈ upto r.length → b ∈ upto r.length → (me r a b ∈ under r k ↔ a ∈ under r k ∨ b ∈ under r k) := fun {a b} ha hb => by
    constructor
    · intro h
      exact Classical.byContradiction fun hc => by
        rw [not_or] at hc
        exact (prB_iff.mp hp).2 a (mem_rs.mpr ⟨ha, hc.1⟩) b (mem_rs.mpr ⟨hb, hc.2⟩) h
    · rintro (h | h)
      · exact mem_under.mpr ⟨me_up o m ha hb, o.trans _ _ _ (me_l o m ha hb) (mem_under.mp h).2⟩
      · exact mem_under.mpr ⟨me_up o m ha hb, o.trans _ _ _ (me_r o m ha hb) (mem_under.mp h).2⟩
  rw [M hx hyz, J hy hz, J hxy hxz, M hx hy, M hx hz]
  exact or_and_left
/-! ### as sets -/
def asr (ys : List (List Int)) (z : Int) : List Int := (upto ys.length).filter fun k => !decide (z ∈ row ys k)
theorem asr_inj {ys : List (List Int)} {x y : Int} : asr ys x = asr ys y ↔ ∀ P ∈ ys, (x ∈ P ↔ y ∈ P) := by
  constructor
  · intro h P hP
    obtain ⟨i, hi, rfl⟩ := List.mem_iff_getElem.mp hP
    have hu : (i : Int) ∈ upto ys.length := mem_upto.mpr ⟨by omega, by omega⟩
    have er : row ys (i : Int) = ys[i] := by
      unfold row
      rw [List.getD_eq_getElem?_getD, show ((i : Int)).toNat = i by omega, List.getElem?_eq_getElem hi]; rfl
    have h2 : (i : Int) ∈ asr ys x ↔ (i : Int) ∈ asr ys y := by rw [h]
    unfold asr at h2
    rw [List.mem_filter, List.mem_filter, er] at h2
    simp only [hu, true_and, Bool.not_eq_true', decide_eq_false_iff_not] at h2
    exact ⟨fun hx => Classical.byContradiction fun hy => h2.mpr hy hx, fun hy => Classical.byContradiction fun hx => h2.mp hx hy⟩
  · intro h
    unfold asr
    refine List.filter_congr fun k hk => ?_
    obtain ⟨k0, k1⟩ := mem_upto.mp hk
    have hm : row ys k ∈ ys := by
      unfold row
      rw [List.getD_eq_getElem?_getD, List.getElem?_eq_getElem (show k.toNat < ys.length by omega)]
      exact List.getElem_mem _
    rw [decide_eq_decide.mpr (h _ hm)]
theorem risL_full : ∀ {l : List (List Int)}, (risL l).length = l.length → l.Nodup
  | [], _ => List.nodup_nil
  | x :: l, h => by
    have h1 := insL_len x (risL l)
    have h2 := risL_len l
    have h0 : (insL x (risL l)).length = l.length + 1 := h
    refine List.nodup_cons.mpr ⟨fun hx => ?_, risL_full (by omega)⟩
    have e : risL (x :: l) = risL l := risL_unique (risL_lt _) (risL_lt _) fun k => by
      rw [mem_risL, mem_risL, List.mem_cons]
      exact ⟨fun z => z.elim (fun z => by rw [z]; exact hx) id, .inr⟩
    rw [e] at h
    rw [List.length_cons] at h
    omega
theorem full_risL {l : List (List Int)} (h : l.Nodup) : (risL l).length = l.length := by
  have nr : (risL l).Nodup := (risL_lt l).imp fun {a b} h e => by subst e; exact List.lt_irrefl _ h
  exact ((List.perm_ext_iff_of_nodup nr h).mpr fun k => mem_risL).length_eq
theorem mem_prL {P : List Int} : P ∈ prL r ↔ ∃ k ∈ upto r.length, P = under r k ∧ prB r (under r k) = true := by
  unfold prL trn'
  rw [List.mem_filter, List.mem_map]
  exact ⟨fun ⟨⟨k, hk, e⟩, h⟩ => ⟨k, hk, e.symm, by rw [e]; exact h⟩, fun ⟨k, hk, e, h⟩ => ⟨⟨k, hk, e.symm⟩, by rw [e]; exact h⟩⟩
include o j m in
theorem sets_dis {ys : List (List Int)} (hp : ys.Perm (prL r)) : decide ((risL ((upto r.length).map (asr ys))).length = r.length) = disB r := by
  have P : ∀ {x y : Int}, asr ys x = asr ys y ↔ ∀ k ∈ upto r.length, prB r (under r k) = true → (x ∈ under r k ↔ y ∈ under r k) := fun {x y} => by
    rw [asr_inj]
    constructor
    · exact fun h k hk hb => h _ (hp.mem_iff.mpr (mem_prL.mpr ⟨k, hk, rfl, hb⟩))
    · intro h Q hQ
      obtain ⟨k, hk, rfl, hb⟩ := mem_prL.mp (hp.mem_iff.mp hQ)
      exact h k hk hb
  rw [Bool.eq_iff_iff, decide_eq_true_eq]
  constructor
  · intro h
    have nd := risL_full (l := (upto r.length).map (asr ys)) (by rw [h, List.length_map, upto_len])
    refine dis_of_inj o j m fun x hx y hy hk => Classical.byContradiction fun hne => ?_
    have pw : (upto r.length).Pairwise fun a b => asr ys a ≠ asr ys b := List.pairwise_map.mp nd
    have key : ∀ {L : List Int}, L.Pairwise (fun a b => asr ys a ≠ asr ys b) → ∀ a ∈ L, ∀ b ∈ L, a ≠ b → asr ys a ≠ asr ys b := fun {L} hL => by
      induction hL with
      | nil => exact fun a ha => by cases ha
      | cons h1 h2 ih =>
        intro a ha b hb hab
        rcases List.mem_cons.mp ha with rfl | ha <;> rcases List.mem_cons.mp hb with rfl | hb
        · exact absurd rfl hab
        · exact h1 b hb
        · exact fun e => h1 a (by assumption) e.symm
        · exact ih a ha b hb hab
    exact key pw x hx y hy hne (P.mpr hk)
  · intro hd
    have nd : ((upto r.length).map (asr ys)).Nodup := by
      refine List.pairwise_map.mpr ((upto_lt r.length).imp_of_mem fun {a b} ha hb hlt e => ?_)
      have hk := P.mp e
      have hne : a ≠ b := by omega
      by_cases hba : a ∈ row r b
      · by_cases hab : b ∈ row r a
        · exact hne (o.anti a b hab hba)
        · obtain ⟨k, hk1, hb1, h1, h2⟩ := sep o j m hd hb ha hab
          exact h2 ((hk k hk1 hb1).mpr h1)
      · obtain ⟨k, hk1, hb1, h1, h2⟩ := sep o j m hd ha hb hba
        exact h2 ((hk k hk1 hb1).mp h1)
    rw [full_risL nd, List.length_map, upto_len]
end

/-! ### k63: what is reckoned -/
theorem tk_all {n i : Nat} {P : Int → Prop} (hi : i < n) (h : ∀ x ∈ (upto n).take i, P x) (hp : P (i : Int)) : ∀ x ∈ (upto n).take (i + 1), P x := fun x hx => by
  rw [List.take_add_one, upto_get hi] at hx
  rcases List.mem_append.mp hx with z | z
  · exact h x z
  · rw [Option.toList_some, List.mem_singleton] at z
    rw [z]; exact hp
theorem inside_li (a b : List Int) (ha : a.length ≤ 1000) : F_law_inside [liI a, tuI b] = some (.bool (a.all fun i => decide (i ∈ b))) := by
  refine runD_ret rfl ?_
  unfold B_law_inside
  refine Ret.ret (lift2_eq (lenM_eq (lcM_map (vs := [2]) (φ := PyData.int) (ds := a) (p := fun i => !decide (i ∈ b)) (f := PyData.int) (seqV_eq rfl rfl) rfl rfl rfl (by rw [szl]; omega) fun i _ => ⟨_, rfl, lift2_eq (vr_eq rfl) (vr_eq rfl) (both_of (ninD_tuI i b)), fun _ => vr_eq rfl, rfl⟩)) cst_eq ?_) rfl
  rw [List.length_map]
  exact eq0_filter a _
section
variable {r : List (List Int)} (o : OkO r.length r) (j : HasJ r) (m : HasJ (trn' r))
abbrev sX (r : List (List Int)) (a3 a4 a5 : Option Sl) : Dn := [some (.val (LD r)), some (.val (.list ((tab r).map liI))), some (.val (.list ((tab (trn' r)).map liI))), a3, a4, a5]
include o j m in
theorem ldist_eq : F_law_is_distributive [LD r] = some (.bool (disB r)) := by
  have hn := o.le
  refine runD_ret rfl ?_
  unfold B_law_is_distributive
  refine Ret.nx (setM_eq (callD_eq (cons_eq (vr_eq rfl) nil_eq) (ljoins_eq o j))) ?_
  refine Ret.nx (setM_eq (callD_eq (cons_eq (vr_eq rfl) nil_eq) (lmeets_eq o m))) ?_
  have rg : ∀ a3 a4 a5, lift1 range1D (lift2 ixD (vr 0) (cst (.int 1))) (sX r a3 a4 a5) = some ((upto r.length).map PyData.int, sX r a3 a4 a5) := fun _ _ _ => lift1_eq (lift2_eq (vr_eq rfl) cst_eq ldx1) (range1_nat _ (by omega))
  have all : ∀ {P : Int → Prop}, (∀ x ∈ (upto r.length).take ((upto r.length).map PyData.int).length, P x) → ∀ x ∈ upto r.length, P x := fun {P} h x hx => h x (by rw [List.length_map, List.take_of_length_le (Nat.le_refl _)]; exact hx)
  refine Ret.forR (fun i st => ∃ a3 a4 a5, st = sX r a3 a4 a5 ∧ ∀ x ∈ (upto r.length).take i, ∀ y ∈ upto r.length, ∀ z ∈ upto r.length, me r x (jn r y z) = jn r (me r x y) (me r x z)) (rg none none none) ⟨none, none, none, rfl, fun x hx => by cases hx⟩ (fun i d hdd st hI => ?_) (fun st hI => ?_)
  · obtain ⟨a3, a4, a5, rfl, hx⟩ := hI
    obtain ⟨hi, hiu, rfl⟩ := upto_at hdd
    refine ⟨sX r (some (.val (.int i))) a4 a5, rfl, ?_⟩
    refine (forM_ret (fun k st => ∃ a4 a5, st = sX r (some (.val (.int i))) a4 a5 ∧ ∀ y ∈ (upto r.length).take k, ∀ z ∈ upto r.length, me r i (jn r y z) = jn r (me r i y) (me r i z)) (rg _ _ _) ⟨a4, a5, rfl, fun x hx => by cases hx⟩ (fun k d hdd st hI => ?_)).imp (fun s => s.imp fun st ⟨a4, a5, e, h⟩ => ⟨_, a4, a5, e, tk_all hi hx (all h)⟩) id
    obtain ⟨a4, a5, rfl, hy⟩ := hI
    obtain ⟨hk, hku, rfl⟩ := upto_at hdd
    refine ⟨sX r (some (.val (.int i))) (some (.val (.int k))) a5, rfl, ?_⟩
    refine (forM_ret (fun l st => ∃ a5, st = sX r (some (.val (.int i))) (some (.val (.int k))) a5 ∧ ∀ z ∈ (upto r.length).take l, me r i (jn r k z) = jn r (me r i k) (me r i z)) (rg _ _ _) ⟨a5, rfl, fun x hx => by cases hx⟩ (fun l d hdd st hI => ?_)).imp (fun s => s.imp fun st ⟨a5, e, h⟩ => ⟨_, a5, e, tk_all hk hy (all h)⟩) id
    obtain ⟨a5, rfl, hz⟩ := hI
    obtain ⟨hl, hlu, rfl⟩ := upto_at hdd
    have h1 := jn_up o j hku hlu
    have h2 := me_up o m hiu hku
    have h3 := me_up o m hiu hlu
    refine ⟨sX r (some (.val (.int i))) (some (.val (.int k))) (some (.val (.int l))), rfl, ?_⟩
    refine sr_if1 (b := !decide (me r i (jn r k l) = jn r (me r i k) (me r i l))) (st1 := sX r (some (.val (.int i))) (some (.val (.int k))) (some (.val (.int l)))) (lift2_eq (a := .int (me r i (jn r k l))) (b := .int (jn r (me r i k) (me r i l)))
      (lift2_eq (lift2_eq (vr_eq rfl) (vr_eq rfl) (tab_at (upT hiu))) (lift2_eq (lift2_eq (vr_eq rfl) (vr_eq rfl) (tab_at hku)) (vr_eq rfl) (tab_at2 hlu)) (tab_at2 (upT h1)))
      (lift2_eq (lift2_eq (vr_eq rfl) (lift2_eq (lift2_eq (vr_eq rfl) (vr_eq rfl) (tab_at (upT hiu))) (vr_eq rfl) (tab_at2 (upT hku))) (tab_at h2)) (lift2_eq (lift2_eq (vr_eq rfl) (vr_eq rfl) (tab_at (upT hiu))) (vr_eq rfl) (tab_at2 (upT hlu))) (tab_at2 h3)) (both_of ne_ii)) (fun hb => ?_) (fun hb => ⟨_, rfl, tk_all hl hz (by simpa using hb)⟩)
    refine Ret.ret cst_eq ?_
    have hf : disB r = false := Bool.eq_false_iff.mpr fun hd => by
      rw [disB_iff.mp hd i hiu k hku l hlu] at hb
      simp at hb
    rw [hf]
  · obtain ⟨a3, a4, a5, rfl, hx⟩ := hI
    refine Ret.ret cst_eq ?_
    rw [disB_iff.mpr (all hx)]
/-! ### parted by -/
def fitB (I J P : List Int) : Bool := (I.all fun i => decide (i ∈ P)) && !J.any fun z => decide (z ∈ P)
def hdP (L : List (List Int)) : PyData := match L with
  | [] => .none
  | P :: _ => .tuple [.str "prime", tuI P]
/-! ### papers judged -/
theorem bp : both eqD (.str "both") (.str "both") = some true := by decide +kernel
theorem pb : both eqD (.str "prime") (.str "both") = some false := by decide +kernel
theorem qb : both eqD (.str "prim") (.str "both") = some false := by decide +kernel
theorem np : both neD (.str "prime") (.str "prime") = some false := by decide +kernel
theorem nq : both neD (.str "prim") (.str "prime") = some true := by decide +kernel
theorem tyfn {x : Str} : (tyN (.str x) == "dict") = false := rfl
/-- the first test passes: a tuple of two whose first is a text -/
theorem two_ok {a0 a1 a2 : Option Sl} {a4 : Option Sl} {x : Str} {d : PyData} : orM (notM (lift1 isB (lift1 (isiD "tuple") (vr 3)))) (orM (lift2 (both neD) (liftL lenD (consM (vr 3) nilM)) (cst (.int 2))) (notM (lift1 isB (lift1 (isiD "str") (lift2 ixD (vr 3) (cst (.int 0))))))) [a0, a1, a2, some (.val (.tuple [.str x, d])), a4] = some (false, [a0, a1, a2, some (.val (.tuple [.str x, d])), a4]) :=
  or_f (notM_eq (b := true) (isi_eq rfl rfl)) (or_f (lift2_eq (liftL_eq (cons_eq (vr_eq rfl) nil_eq) rfl) cst_eq (both_of ne_ii)) (notM_eq (b := true) (lift1_eq (lift1_eq (lift2_eq (vr_eq rfl) cst_eq (ixD_t (j := 0) rfl rfl)) (isiD_eq rfl)) rfl)))
theorem ix_0 {x d : PyData} : ixD (.tuple [x, d]) (.int 0) = some x := ixD_t (j := 0) rfl rfl
theorem ix_1 {x d : PyData} : ixD (.tuple [x, d]) (.int 1) = some d := ixD_t (j := 1) rfl rfl
/-! ### as sets -/
end

/-- x to y, unlike -/
def prs (rows : List (List Int)) : List (Int × Int) := (upto rows.length).flatMap fun x => ((row rows x).filter fun y => !decide (y = x)).map fun y => (x, y)
abbrev prD (p : Int × Int) : PyData := .tuple [.int p.1, .int p.2]
theorem mem_prs {rows : List (List Int)} {p : Int × Int} : p ∈ prs rows ↔ p.1 ∈ upto rows.length ∧ p.2 ∈ row rows p.1 ∧ p.2 ≠ p.1 := by
  unfold prs
  rw [List.mem_flatMap]
  constructor
  · rintro ⟨x, hx, h⟩
    obtain ⟨y, hy, rfl⟩ := List.mem_map.mp h
    obtain ⟨h1, h2⟩ := List.mem_filter.mp hy
    exact ⟨hx, h1, by simpa using h2⟩
  · rintro ⟨h1, h2, h3⟩
    exact ⟨p.1, h1, List.mem_map.mpr ⟨p.2, List.mem_filter.mpr ⟨h2, by simpa using h3⟩, rfl⟩⟩
theorem mem_pr_in {rows : List (List Int)} (o : OkO rows.length rows) {p : Int × Int} (h : p ∈ prs rows) : InU rows p.1 ∧ InU rows p.2 := ⟨inU_of (mem_prs.mp h).1, inU_row o (mem_prs.mp h).2.1⟩
/-! ### k07: steps, lowest and highest elements -/

theorem flatMap_take {α β : Type} {xs : List α} {f : α → List β} {j : Nat} {x : α} (h : xs[j]? = some x) : (xs.take (j + 1)).flatMap f = (xs.take j).flatMap f ++ f x := by
  rw [List.take_add_one, h, List.flatMap_append]; simp
def prx (rows : List (List Int)) (x : Int) : List (Int × Int) := ((row rows x).filter fun y => !decide (y = x)).map fun y => (x, y)
theorem prx_len {rows : List (List Int)} (o : OkO rows.length rows) (x : Int) : (prx rows x).length ≤ 50 := by
  unfold prx
  rw [List.length_map]
  exact Nat.le_trans (List.length_filter_le _ _) (o.rlen x)
theorem prs_len {rows : List (List Int)} (o : OkO rows.length rows) : (prs rows).length ≤ 2500 := flatMap_len (a := 50) (b := 50) (by rw [upto_len]; exact o.le) fun x _ => prx_len o x
theorem lpairs_eq {rows : List (List Int)} (o : OkO rows.length rows) : F_law_pairs [LD rows] = some (.list ((prs rows).map prD)) := by
  have hn := o.le
  refine runD_ret rfl ?_
  unfold B_law_pairs
  refine Ret.nx (setM_eq (liD_eq (lstM_eq nil_eq (by decide)))) ?_
  refine Ret.for (fun j st => ∃ o2 : Option PyData, st = [some (.val (LD rows)), some (.val (.list ((((upto rows.length).take j).flatMap (prx rows)).map prD))), o2.map Sl.val, none]) (ds := (upto rows.length).map PyData.int) (lift1_eq (lift2_eq (vr_eq rfl) cst_eq ldx1) (range1_nat _ (by omega))) ⟨none, rfl⟩ (fun j d hd st hI => ?_) (fun st hI => ?_)
  · obtain ⟨o2, rfl⟩ := hI
    obtain ⟨hj, hm, rfl⟩ := upto_at hd
    have h1 : (((upto rows.length).take j).flatMap (prx rows)).length ≤ 50 * 50 := flatMap_len (by rw [List.length_take, upto_len]; omega) fun x _ => prx_len o x
    have h2 := prx_len o (j : Int)
    refine ⟨[some (.val (LD rows)), some (.val (.list ((((upto rows.length).take j).flatMap (prx rows)).map prD))), some (.val (.int j)), none], rfl, ?_⟩
    refine Stp.one (setM_eq (lift2_eq (vr_eq rfl) (liD_eq (lcM_map (vs := [3]) (φ := PyData.int) (ds := row rows j) (p := fun y => !decide (y = j)) (f := fun y => prD (j, y)) (lift1_eq (lift2_eq (lift2_eq (vr_eq rfl) cst_eq ldx2) (vr_eq rfl) (row_atU (inU_of hm))) rfl) rfl rfl rfl (Nat.le_trans (o.rlen _) (by rw [szl]; omega)) fun y hy => ⟨_, rfl, lift2_eq (vr_eq rfl) (vr_eq rfl) (both_of ne_ii), fun _ => tupM_eq (cons_eq (vr_eq rfl) (cons_eq (vr_eq rfl) nil_eq)) (show 2 ≤ sizeLine by decide), rfl⟩)) (addD_lst ?_))) ⟨some (.int j), ?_⟩
    · rw [List.length_map]
      unfold prx at h2
      rw [List.length_map] at h2 ⊢
      omega
    · rw [flatMap_take (upto_get hj), List.map_append]
      have e : ((row rows j).filter fun y => !decide (y = (j : Int))).map (fun y => prD ((j : Int), y)) = (prx rows j).map prD := by
        unfold prx; rw [List.map_map]; rfl
      rw [e]
      rfl
  · obtain ⟨o2, rfl⟩ := hI
    refine Ret.ret (vr_eq rfl) ?_
    rw [List.length_map, List.take_of_length_le (Nat.le_refl _)]
    rfl
theorem inD_prs (x y : Int) (ps : List (Int × Int)) : inD (.tuple [.int x, .int y]) (.list (ps.map prD)) = some (.bool (decide ((x, y) ∈ ps))) := by
  have := inD_rowsL [x, y] (ps.map fun p => [p.1, p.2])
  rw [List.map_map] at this
  refine Eq.trans this (congrArg (fun b => some (PyData.bool b)) (decide_eq_decide.mpr ⟨fun h => ?_, fun h => List.mem_map.mpr ⟨_, h, rfl⟩⟩))
  obtain ⟨⟨u, v⟩, h, e⟩ := List.mem_map.mp h
  have e : [u, v] = [x, y] := e
  cases e
  exact h
def cov (rows : List (List Int)) (p : Int × Int) : Bool := !(row rows p.1).any fun z => (!decide (z ∈ [p.1, p.2])) && decide (p.2 ∈ row rows z)
def stp (rows : List (List Int)) (p : Int × Int) : Bool := !(upto rows.length).any fun z => decide ((p.1, z) ∈ prs rows) && decide ((z, p.2) ∈ prs rows)
theorem lsteps_eq {rows : List (List Int)} (o : OkO rows.length rows) : F_law_steps [LD rows] = some (.list (((prs rows).filter (stp rows)).map prD)) := by
  have hn := o.le
  have hpl := prs_len o
  refine runD_ret rfl ?_
  unfold B_law_steps
  refine Ret.nx (setM_eq (callD_eq (cons_eq (vr_eq rfl) nil_eq) (lpairs_eq o))) ?_
  refine Ret.nx (setO_eq (lstM_eq nil_eq (Nat.zero_le _))) ?_
  refine Ret.for (fun j st => ∃ a3 a4 : Option Sl, st = [some (.val (LD rows)), some (.val (.list ((prs rows).map prD))), some (.own ((((prs rows).take j).filter (stp rows)).map prD)), a3, a4, none]) (ds := (prs rows).map prD) (seqV_eq rfl rfl) ⟨none, none, rfl⟩ (fun j d hd st hI => ?_) (fun st hI => ?_)
  · obtain ⟨a3, a4, rfl⟩ := hI
    rw [List.getElem?_map] at hd
    obtain ⟨p, hp, rfl⟩ := Option.map_eq_some_iff.mp hd
    have hl : (((prs rows).take j).filter (stp rows)).length ≤ 2500 := Nat.le_trans (List.length_filter_le _ _) (by rw [List.length_take]; omega)
    refine ⟨[some (.val (LD rows)), some (.val (.list ((prs rows).map prD))), some (.own ((((prs rows).take j).filter (stp rows)).map prD)), some (.val (.int p.1)), some (.val (.int p.2)), none], rfl, ?_⟩
    refine Stp.ite (b := stp rows p) (lift2_eq (lenM_eq (lcM_map (vs := [5]) (φ := PyData.int) (ds := upto rows.length) (p := fun z => decide ((p.1, z) ∈ prs rows) && decide ((z, p.2) ∈ prs rows)) (f := PyData.int) (lift1_eq (lift2_eq (vr_eq rfl) cst_eq ldx1) (range1_nat _ (by omega))) rfl rfl rfl (by rw [upto_len, szl]; omega) fun z hz => ⟨_, rfl, and_eq (lift2_eq (tupM_eq (cons_eq (vr_eq rfl) (cons_eq (vr_eq rfl) nil_eq)) (show 2 ≤ sizeLine by decide)) (vr_eq rfl) (both_of (inD_prs _ _ _))) (lift2_eq (tupM_eq (cons_eq (vr_eq rfl) (cons_eq (vr_eq rfl) nil_eq)) (show 2 ≤ sizeLine by decide)) (vr_eq rfl) (both_of (inD_prs _ _ _))), fun _ => vr_eq rfl, rfl⟩)) cst_eq (both_of (len0_filter _ _ _))) (fun hb => ?_) (fun hb => ?_)
    · refine Stp.one (appM_eq rfl (tupM_eq (cons_eq (vr_eq rfl) (cons_eq (vr_eq rfl) nil_eq)) (show 2 ≤ sizeLine by decide)) rfl (by rw [List.length_map, szl]; omega)) ⟨some (.val (.int p.1)), some (.val (.int p.2)), ?_⟩
      rw [filter_take hp, hb, if_pos rfl, List.map_append]
      rfl
    · refine Stp.one nx_eq ⟨some (.val (.int p.1)), some (.val (.int p.2)), ?_⟩
      rw [filter_take hp, hb, if_neg (by decide), List.append_nil]
  · obtain ⟨a3, a4, rfl⟩ := hI
    refine Ret.retO (vo_own rfl) ?_
    rw [List.length_map, List.take_of_length_le (Nat.le_refl _)]
theorem stp_cov {rows : List (List Int)} (o : OkO rows.length rows) {p : Int × Int} (hp : p ∈ prs rows) : stp rows p = cov rows p := by
  have h1 := mem_prs.mp hp
  unfold stp cov
  congr 1
  rw [Bool.eq_iff_iff, List.any_eq_true, List.any_eq_true]
  constructor
  · rintro ⟨z, hz, h⟩
    rw [Bool.and_eq_true, decide_eq_true_iff, decide_eq_true_iff] at h
    have h2 := mem_prs.mp h.1
    have h3 := mem_prs.mp h.2
    refine ⟨z, h2.2.1, ?_⟩
    rw [Bool.and_eq_true, Bool.not_eq_true', decide_eq_false_iff_not, decide_eq_true_iff]
    refine ⟨fun hm => ?_, h3.2.1⟩
    rcases List.mem_cons.mp hm with e | hm
    · exact h2.2.2 e
    · exact h3.2.2 (List.mem_singleton.mp hm).symm
  · rintro ⟨z, hz, h⟩
    rw [Bool.and_eq_true, Bool.not_eq_true', decide_eq_false_iff_not, decide_eq_true_iff] at h
    refine ⟨z, o.mem hz, ?_⟩
    rw [Bool.and_eq_true, decide_eq_true_iff, decide_eq_true_iff]
    exact ⟨mem_prs.mpr ⟨h1.1, hz, fun e => h.1 (by rw [show z = p.1 from e]; exact List.mem_cons_self)⟩, mem_prs.mpr ⟨o.mem hz, h.2, fun e => h.1 (by rw [show p.2 = z from e]; exact List.mem_cons_of_mem _ List.mem_cons_self)⟩⟩
theorem steps_covers {rows : List (List Int)} (o : OkO rows.length rows) : (prs rows).filter (stp rows) = (prs rows).filter (cov rows) := List.filter_congr fun p hp => stp_cov o hp
def lows (rows : List (List Int)) : List Int := (upto rows.length).filter fun x => !(prs rows).any fun p => decide (p.2 = x)
def higs (rows : List (List Int)) : List Int := (upto rows.length).filter fun x => !(prs rows).any fun p => decide (p.1 = x)
theorem high_iff {rows : List (List Int)} (o : OkO rows.length rows) {x : Int} (hx : x ∈ upto rows.length) : decide (row rows x = [x]) = !(prs rows).any fun p => decide (p.1 = x) := by
  rw [Bool.eq_iff_iff, decide_eq_true_iff, Bool.not_eq_true', List.any_eq_false]
  constructor
  · intro h p hp e
    have e := of_decide_eq_true e
    have h2 := mem_prs.mp hp
    rw [e, h] at h2
    exact h2.2.2 (List.mem_singleton.mp h2.2.1)
  · intro h
    have hall : ∀ y ∈ row rows x, y = x := fun y hy => by
      apply Classical.byContradiction
      intro hne
      exact h (x, y) (mem_prs.mpr ⟨hx, hy, hne⟩) (decide_eq_true rfl)
    have hs := o.sorted x
    have hr := o.refl x hx
    revert hall hs hr
    cases row rows x with
    | nil => intro _ _ hr; cases hr
    | cons a t =>
      intro hall hs _
      cases t with
      | nil => rw [hall a List.mem_cons_self]
      | cons b t =>
        have h1 := hall a List.mem_cons_self
        have h2 := hall b (List.mem_cons_of_mem _ List.mem_cons_self)
        have h3 := (List.pairwise_cons.mp hs).1 b List.mem_cons_self
        omega

/-! ### k66: middles and the law of distributivity -/
section
variable {r : List (List Int)} (o : OkO r.length r) (j : HasJ r) (m : HasJ (trn' r))
/-- a lies below b -/
abbrev le (r : List (List Int)) (a b : Int) : Prop := b ∈ row r a
def lw (r : List (List Int)) (x y z : Int) : Int := jn r (jn r (me r x y) (me r y z)) (me r z x)
def hg (r : List (List Int)) (x y z : Int) : Int := me r (me r (jn r x y) (jn r y z)) (jn r z x)
include j in
theorem jn_le {a b w : Int} (ha : a ∈ upto r.length) (hb : b ∈ upto r.length) (h1 : le r a w) (h2 : le r b w) : le r (jn r a b) w := (jn_mem j ha hb).2.2 w h1 h2
include o j in
theorem jn_iff {a b w : Int} (ha : a ∈ upto r.length) (hb : b ∈ upto r.length) : le r (jn r a b) w ↔ le r a w ∧ le r b w :=
  ⟨fun h => ⟨o.trans _ _ _ (jn_mem j ha hb).1 h, o.trans _ _ _ (jn_mem j ha hb).2.1 h⟩, fun h => jn_le j ha hb h.1 h.2⟩
include o m in
theorem me_iff {a b w : Int} (ha : a ∈ upto r.length) (hb : b ∈ upto r.length) (hw : w ∈ upto r.length) : le r w (me r a b) ↔ le r w a ∧ le r w b :=
  ⟨fun h => ⟨o.trans _ _ _ h (me_l o m ha hb), o.trans _ _ _ h (me_r o m ha hb)⟩, fun h => me_g o m ha hb hw h.1 h.2⟩
include o in
theorem eq_up {a b : Int} (ha : a ∈ upto r.length) (hb : b ∈ upto r.length) (h : ∀ w, le r a w ↔ le r b w) : a = b := (o.anti _ _ ((h b).mpr (o.refl b hb)) ((h a).mp (o.refl a ha)))
include o in
theorem eq_dn {a b : Int} (ha : a ∈ upto r.length) (hb : b ∈ upto r.length) (h : ∀ w ∈ upto r.length, le r w a ↔ le r w b) : a = b := (o.anti _ _ ((h a ha).mp (o.refl a ha)) ((h b hb).mpr (o.refl b hb)))
include o j in
theorem jn_comm {a b : Int} (ha : a ∈ upto r.length) (hb : b ∈ upto r.length) : jn r a b = jn r b a := eq_up o (jn_up o j ha hb) (jn_up o j hb ha) fun w => by rw [jn_iff o j ha hb, jn_iff o j hb ha, and_comm]
include o m in
theorem me_comm {a b : Int} (ha : a ∈ upto r.length) (hb : b ∈ upto r.length) : me r a b = me r b a := eq_dn o (me_up o m ha hb) (me_up o m hb ha) fun w hw => by rw [me_iff o m ha hb hw, me_iff o m hb ha hw, and_comm]
end

theorem augM_eq {i : Nat} {op : PyData → PyData → Option PyData} {f : M PyData} {st st1 : Dn} {d0 d z : PyData} (h0 : st[i]? = some (some (.val d0))) (h : f st = some (d, st1)) (h1 : op d0 d = some z) : augM i op f st = some (.nx, st1.set i (some (.val z))) := by
  unfold augM; rw [h0]; simp only [h, h1]

theorem same_none (n : Nat) : F_law_same (n + 1) [.none, .none] = some (.bool true) := by
  show runD 2 1 (B_law_same (F_law_same n)) _ = _
  refine runD_eq (st := [some (.val .none), some (.val .none), none]) rfl ?_
  unfold B_law_same
  refine Eq.trans (sq_f (isi_eq rfl rfl)) ?_
  exact sq_rt (ite_t (lift2_eq (vr_eq rfl) cst_eq rfl) (retM_eq (lift2_eq (vr_eq rfl) cst_eq rfl)))

/-! ### k64: least, greatest, atoms, what is within -/
section
variable {r : List (List Int)} (o : OkO r.length r) (j : HasJ r) (m : HasJ (trn' r))
theorem nd_len {α : Type} [DecidableEq α] : ∀ {A B : List α}, A.Nodup → (∀ x ∈ A, x ∈ B) → A.length ≤ B.length
  | [], _, _, _ => Nat.zero_le _
  | a :: A, B, h, hs => by
    obtain ⟨h1, h2⟩ := List.nodup_cons.mp h
    have ha := hs a List.mem_cons_self
    have := nd_len (A := A) (B := B.erase a) h2 fun x hx => (List.mem_erase_of_ne (fun (e : x = a) => h1 (e ▸ hx))).mpr (hs x (List.mem_cons_of_mem _ hx))
    rw [List.length_erase_of_mem ha] at this
    have := List.length_pos_of_mem ha
    rw [List.length_cons]
    omega
theorem mem_of_len {α : Type} [DecidableEq α] {A B : List α} (h : A.Nodup) (hs : ∀ x ∈ A, x ∈ B) (hl : B.length ≤ A.length) {b : α} (hb : b ∈ B) : b ∈ A := Classical.byContradiction fun hn => by
  have := nd_len (A := b :: A) (B := B) (List.nodup_cons.mpr ⟨hn, h⟩) fun x hx => (List.mem_cons.mp hx).elim (fun e => e ▸ hb) (hs x)
  rw [List.length_cons] at this
  omega
theorem hdD_one {L : List Int} {p : Int → Bool} {x : Int} (hx : x ∈ L) (hp : p x = true) (hu : ∀ y ∈ L, p y = true → y = x) : ∃ t, L.filter p = x :: t := by
  cases e : L.filter p with
  | nil =>
    have := List.filter_eq_nil_iff.mp e x hx
    rw [hp] at this
    exact absurd rfl this
  | cons y t =>
    have hy : y ∈ L.filter p := by rw [e]; exact List.mem_cons_self
    obtain ⟨h1, h2⟩ := List.mem_filter.mp hy
    rw [hu y h1 h2]
    exact ⟨t, rfl⟩
def loL (r : List (List Int)) : List Int := (upto r.length).filter fun x => decide ((((row r x).length : Nat) : Int) = (r.length : Nat))
def hiL (r : List (List Int)) : List Int := (upto r.length).filter fun x => decide (row r x = [x])
def lo (r : List (List Int)) : Int := (loL r).headD 0
def hi (r : List (List Int)) : Int := (hiL r).headD 0
include o m in
theorem low_of_list (hp : 0 < r.length) : ∀ L : List Int, (∀ a ∈ L, a ∈ upto r.length) → ∃ z ∈ upto r.length, ∀ a ∈ L, le r z a
  | [], _ => ⟨0, mem_upto.mpr ⟨by omega, by omega⟩, fun _ h => nomatch h⟩
  | a :: L, h => by
    obtain ⟨z, hz, hz2⟩ := low_of_list hp L fun b hb => h b (List.mem_cons_of_mem _ hb)
    have ha := h a List.mem_cons_self
    refine ⟨me r a z, me_up o m ha hz, fun b hb => ?_⟩
    rcases List.mem_cons.mp hb with rfl | hb
    · exact me_l o m ha hz
    · exact o.trans _ _ _ (me_r o m ha hz) (hz2 b hb)
include o j in
theorem high_of_list (hp : 0 < r.length) : ∀ L : List Int, (∀ a ∈ L, a ∈ upto r.length) → ∃ z ∈ upto r.length, ∀ a ∈ L, le r a z
  | [], _ => ⟨0, mem_upto.mpr ⟨by omega, by omega⟩, fun _ h => nomatch h⟩
  | a :: L, h => by
    obtain ⟨z, hz, hz2⟩ := high_of_list hp L fun b hb => h b (List.mem_cons_of_mem _ hb)
    have ha := h a List.mem_cons_self
    refine ⟨jn r a z, jn_up o j ha hz, fun b hb => ?_⟩
    rcases List.mem_cons.mp hb with rfl | hb
    · exact (jn_mem j ha hz).1
    · exact o.trans _ _ _ (hz2 b hb) (jn_mem j ha hz).2.1
include o in
theorem row_sub {x : Int} (hx : x ∈ upto r.length) : List.Sublist (row r x) (upto r.length) := o.sub _ (row_mem (o.refl x hx)).2
include o m in
theorem lo_ok (hp : 0 < r.length) : lo r ∈ upto r.length ∧ (∀ a ∈ upto r.length, le r (lo r) a) ∧ ∃ t, loL r = lo r :: t := by
  obtain ⟨z, hz, hz2⟩ := low_of_list o m hp (upto r.length) fun a ha => ha
  have hlen : ∀ y ∈ upto r.length, (decide ((((row r y).length : Nat) : Int) = (r.length : Nat)) = true) → ∀ a ∈ upto r.length, le r y a := fun y hy h a ha => by
    have h := of_decide_eq_true h
    have := (row_sub o hy).eq_of_length (by rw [upto_len]; omega)
    show a ∈ row r y
    rw [this]; exact ha
  have hz3 : decide ((((row r z).length : Nat) : Int) = (r.length : Nat)) = true := decide_eq_true (by
    have := up_unique (row_sub o hz) (List.Sublist.refl _) fun k => ⟨fun h => o.mem h, fun h => hz2 k h⟩
    rw [this, upto_len])
  obtain ⟨t, ht⟩ := hdD_one (L := upto r.length) (p := fun x => decide ((((row r x).length : Nat) : Int) = (r.length : Nat))) hz hz3 fun y hy h => o.anti _ _ (hlen y hy h z hz) (hz2 y hy)
  have e : lo r = z := by unfold lo loL; rw [ht]; rfl
  rw [e]
  exact ⟨hz, hz2, t, ht⟩
include o j in
theorem hi_ok (hp : 0 < r.length) : hi r ∈ upto r.length ∧ (∀ a ∈ upto r.length, le r a (hi r)) ∧ ∃ t, hiL r = hi r :: t := by
  obtain ⟨z, hz, hz2⟩ := high_of_list o j hp (upto r.length) fun a ha => ha
  have hz3 : decide (row r z = [z]) = true := decide_eq_true (up_unique (row_sub o hz) (sub_of_mem (List.pairwise_singleton _ _) fun y hy => by rw [List.mem_singleton.mp hy]; exact hz) fun k => ⟨fun h => List.mem_singleton.mpr (o.anti _ _ (hz2 k (o.mem h)) h), fun h => by rw [List.mem_singleton.mp h]; exact o.refl z hz⟩)
  obtain ⟨t, ht⟩ := hdD_one (L := upto r.length) (p := fun x => decide (row r x = [x])) hz hz3 fun y hy h => by
    have h : row r y = [y] := of_decide_eq_true h
    have := hz2 y hy
    rw [le, h] at this
    exact (List.mem_singleton.mp this).symm
  have e : hi r = z := by unfold hi hiL; rw [ht]; rfl
  rw [e]
  exact ⟨hz, hz2, t, ht⟩
/-! within -/
def wlot (r : List (List Int)) (x y : Int) : List Int := (upto r.length).filter fun z => decide (y ∈ row r (me r x z))
def wiL (r : List (List Int)) (x y : Int) : List Int := (wlot r x y).filter fun z => !(wlot r x y).any fun w => !decide (z ∈ row r w)
theorem mem_wlot {x y z : Int} : z ∈ wlot r x y ↔ z ∈ upto r.length ∧ le r (me r x z) y := by unfold wlot; rw [List.mem_filter, decide_eq_true_eq]
theorem mem_wiL {x y z : Int} : z ∈ wiL r x y ↔ z ∈ wlot r x y ∧ ∀ w ∈ wlot r x y, le r w z := by
  unfold wiL
  rw [List.mem_filter, Bool.not_eq_true', ← Bool.not_eq_true, List.any_eq_true]
  refine and_congr_right fun _ => ⟨fun h w hw => Classical.byContradiction fun hn => h ⟨w, hw, by simpa using hn⟩, fun h ⟨w, hw, hn⟩ => ?_⟩
  have := h w hw
  simp [this] at hn
include o m in
theorem me_mono {x a b : Int} (hx : x ∈ upto r.length) (ha : a ∈ upto r.length) (hb : b ∈ upto r.length) (h : le r a b) : le r (me r x a) (me r x b) :=
  (me_iff o m hx hb (me_up o m hx ha)).mpr ⟨me_l o m hx ha, o.trans _ _ _ (me_r o m hx ha) h⟩
include o j m in
theorem dis_of_within (h : ∀ x ∈ upto r.length, ∀ y ∈ upto r.length, wiL r x y ≠ []) : disB r = true := by
  refine disB_iff.mpr fun x hx y hy z hz => ?_
  have hxy := me_up o m hx hy
  have hxz := me_up o m hx hz
  have hyz := jn_up o j hy hz
  have hw := jn_up o j hxy hxz
  have hd : ∃ i, i ∈ wiL r x (jn r (me r x y) (me r x z)) := List.exists_mem_of_ne_nil _ (h x hx _ hw)
  obtain ⟨i, hi⟩ := hd
  obtain ⟨h1, h2⟩ := mem_wiL.mp hi
  obtain ⟨hiu, h1⟩ := mem_wlot.mp h1
  have a1 : le r y i := h2 y (mem_wlot.mpr ⟨hy, (jn_mem j hxy hxz).1⟩)
  have a2 : le r z i := h2 z (mem_wlot.mpr ⟨hz, (jn_mem j hxy hxz).2.1⟩)
  refine o.anti _ _ ?_ ?_
  · exact o.trans _ _ _ (me_mono o m hx hyz hiu (jn_le j hy hz a1 a2)) h1
  · exact jn_le j hxy hxz (me_mono o m hx hy hyz (jn_mem j hy hz).1) (me_mono o m hx hz hyz (jn_mem j hy hz).2.1)
include o j m in
theorem within_of_dis (hp : 0 < r.length) (dis : disB r = true) {x y : Int} (hx : x ∈ upto r.length) (hy : y ∈ upto r.length) : wiL r x y ≠ [] := by
  have dis := disB_iff.mp dis
  obtain ⟨hl, hl2, _⟩ := lo_ok o m hp
  have key : ∀ L : List Int, (∀ a ∈ L, a ∈ wlot r x y) → ∃ u ∈ wlot r x y, ∀ a ∈ L, le r a u := by
    intro L
    induction L with
    | nil => exact fun _ => ⟨lo r, mem_wlot.mpr ⟨hl, o.trans _ _ _ (me_r o m hx hl) (hl2 y hy)⟩, fun _ h => nomatch h⟩
    | cons a L ih =>
      intro h
      obtain ⟨u, hu, hu2⟩ := ih fun b hb => h b (List.mem_cons_of_mem _ hb)
      obtain ⟨ha, ha2⟩ := mem_wlot.mp (h a List.mem_cons_self)
      obtain ⟨hu, hu3⟩ := mem_wlot.mp hu
      refine ⟨jn r a u, mem_wlot.mpr ⟨jn_up o j ha hu, ?_⟩, fun b hb => ?_⟩
      · rw [dis x hx a ha u hu]
        exact jn_le j (me_up o m hx ha) (me_up o m hx hu) ha2 hu3
      · rcases List.mem_cons.mp hb with rfl | hb
        · exact (jn_mem j ha hu).1
        · exact o.trans _ _ _ (hu2 b hb) (jn_mem j ha hu).2.1
  obtain ⟨u, hu, hu2⟩ := key (wlot r x y) fun a h => h
  exact List.ne_nil_of_mem (mem_wiL.mpr ⟨hu, hu2⟩)
/-! atoms -/
def atB (r : List (List Int)) (x : Int) : Bool := !decide (x = lo r) && !(row r (lo r)).any fun y => !decide (y ∈ [lo r, x]) && decide (x ∈ row r y)
def atL (r : List (List Int)) : List Int := (upto r.length).filter (atB r)
def blw (r : List (List Int)) (x : Int) : List Int := (atL r).filter fun a => decide (x ∈ row r a)
def jnA (r : List (List Int)) (L : List Int) : Int := L.foldl (jn r) (lo r)
def cmL (r : List (List Int)) (x : Int) : List Int := (upto r.length).filter fun y => decide (me r x y = lo r) && decide (jn r x y = hi r)
def osB (r : List (List Int)) : Bool := decide (((2 ^ (atL r).length : Nat) : Int) = (r.length : Nat)) && (upto r.length).all fun x => decide (jnA r (blw r x) = x)
def whB (r : List (List Int)) : Bool := disB r && (upto r.length).all fun x => !(cmL r x).isEmpty
theorem mem_atL {x : Int} : x ∈ atL r ↔ x ∈ upto r.length ∧ x ≠ lo r ∧ ∀ y ∈ row r (lo r), le r y x → y = lo r ∨ y = x := by
  unfold atL atB
  rw [List.mem_filter, Bool.and_eq_true, Bool.not_eq_true', decide_eq_false_iff_not, Bool.not_eq_true', ← Bool.not_eq_true, List.any_eq_true]
  refine and_congr_right fun _ => and_congr_right fun _ => ⟨fun h y hy hl => Classical.byContradiction fun hn => h ⟨y, hy, ?_⟩, fun h ⟨y, hy, hb⟩ => ?_⟩
  · rw [not_or] at hn
    rw [decide_eq_true hl, decide_eq_false (by simpa using hn)]; rfl
  · rw [Bool.and_eq_true, Bool.not_eq_true', decide_eq_false_iff_not, decide_eq_true_eq] at hb
    apply hb.1
    simpa using h y hy hb.2
theorem mem_blw {x a : Int} : a ∈ blw r x ↔ a ∈ atL r ∧ le r a x := by unfold blw; rw [List.mem_filter, decide_eq_true_eq]
section
variable (hp : 0 < r.length)
include o j m hp
theorem at_min {a y : Int} (ha : a ∈ atL r) (hy : y ∈ upto r.length) (h : le r y a) : y = lo r ∨ y = a := (mem_atL.mp ha).2.2 y ((lo_ok o m hp).2.1 y hy) h
theorem jnA_up : ∀ {L : List Int}, (∀ a ∈ L, a ∈ upto r.length) → jnA r L ∈ upto r.length := by
  have key : ∀ (L : List Int) (u : Int), u ∈ upto r.length → (∀ a ∈ L, a ∈ upto r.length) → L.foldl (jn r) u ∈ upto r.length := by
    intro L
    induction L with
    | nil => exact fun u hu _ => hu
    | cons a L ih => exact fun u hu h => ih _ (jn_up o j hu (h a List.mem_cons_self)) fun b hb => h b (List.mem_cons_of_mem _ hb)
  exact fun {L} h => key L _ (lo_ok o m hp).1 h
theorem jnA_le : ∀ {L : List Int} {w : Int}, (∀ a ∈ L, a ∈ upto r.length) → w ∈ upto r.length → (le r (jnA r L) w ↔ ∀ a ∈ L, le r a w) := by
  have key : ∀ (L : List Int) (u w : Int), u ∈ upto r.length → (∀ a ∈ L, a ∈ upto r.length) → (le r (L.foldl (jn r) u) w ↔ le r u w ∧ ∀ a ∈ L, le r a w) := by
    intro L
    induction L with
    | nil => exact fun u w hu _ => ⟨fun h => ⟨h, fun _ z => nomatch z⟩, fun h => h.1⟩
    | cons a L ih =>
      intro u w hu h
      have ha := h a List.mem_cons_self
      rw [List.foldl_cons, ih _ w (jn_up o j hu ha) fun b hb => h b (List.mem_cons_of_mem _ hb), jn_iff o j hu ha]
      constructor
      · rintro ⟨⟨h1, h2⟩, h3⟩
        exact ⟨h1, fun b hb => (List.mem_cons.mp hb).elim (fun e => e ▸ h2) (h3 b)⟩
      · rintro ⟨h1, h2⟩
        exact ⟨⟨h1, h2 a List.mem_cons_self⟩, fun b hb => h2 b (List.mem_cons_of_mem _ hb)⟩
  intro L w h hw
  obtain ⟨h1, h2, _⟩ := lo_ok o m hp
  exact (key L _ w h1 h).trans ⟨fun z => z.2, fun z => ⟨h2 w hw, z⟩⟩
omit o j m hp in
theorem blw_up {x a : Int} (h : a ∈ blw r x) : a ∈ upto r.length := (mem_atL.mp (mem_blw.mp h).1).1
omit o j m hp in
theorem blw_sub (x : Int) : List.Sublist (blw r x) (atL r) := List.filter_sublist
omit o j m hp in
theorem atL_nd : (atL r).Nodup := ((upto_lt r.length).imp fun {a b} h e => by omega : (upto r.length).Nodup).sublist List.filter_sublist
theorem at_over {x : Int} (hx : x ∈ upto r.length) (hne : x ≠ lo r) : ∃ a ∈ atL r, le r a x := by
  have hlo := lo_ok o m hp
  obtain ⟨a, ha, hmin⟩ := has_min o ((upto r.length).filter fun y => !decide (y = lo r) && decide (x ∈ row r y)) (List.ne_nil_of_mem (List.mem_filter.mpr ⟨hx, by rw [decide_eq_false hne, decide_eq_true (o.refl x hx)]; rfl⟩)) fun a ha => (List.mem_filter.mp ha).1
  obtain ⟨hau, hab⟩ := List.mem_filter.mp ha
  rw [Bool.and_eq_true, Bool.not_eq_true', decide_eq_false_iff_not, decide_eq_true_eq] at hab
  refine ⟨a, mem_atL.mpr ⟨hau, hab.1, fun y hy hl => ?_⟩, hab.2⟩
  by_cases e : y = lo r
  · exact .inl e
  · refine .inr (hmin y (List.mem_filter.mpr ⟨o.mem hy, ?_⟩) hl)
    rw [decide_eq_false e, decide_eq_true (o.trans _ _ _ hl hab.2)]; rfl
theorem blw_le {x y : Int} (hx : x ∈ upto r.length) (hy : y ∈ upto r.length) (hj : jnA r (blw r x) = x) (h : ∀ a ∈ blw r x, a ∈ blw r y) : le r x y := by
  rw [← hj]
  exact (jnA_le o j m hp (fun a ha => blw_up ha) hy).mpr fun a ha => (mem_blw.mp (h a ha)).2
theorem blw_me {x y a : Int} (hx : x ∈ upto r.length) (hy : y ∈ upto r.length) : a ∈ blw r (me r x y) ↔ a ∈ blw r x ∧ a ∈ blw r y := by
  rw [mem_blw, mem_blw, mem_blw]
  constructor
  · rintro ⟨h1, h2⟩
    have := (me_iff o m hx hy (mem_atL.mp h1).1).mp h2
    exact ⟨⟨h1, this.1⟩, h1, this.2⟩
  · rintro ⟨⟨h1, h2⟩, _, h3⟩
    exact ⟨h1, (me_iff o m hx hy (mem_atL.mp h1).1).mpr ⟨h2, h3⟩⟩
/-- a lot of atoms that is the atoms below some element -/
theorem os_onto (h : osB r = true) {S : List Int} (hS : List.Sublist S (atL r)) : ∃ x ∈ upto r.length, blw r x = S := by
  unfold osB at h
  rw [Bool.and_eq_true, decide_eq_true_eq, List.all_eq_true] at h
  obtain ⟨hc, hj⟩ := h
  have hnd : ((upto r.length).map (blw r)).Nodup := by
    refine List.pairwise_map.mpr (((upto_lt r.length).imp_of_mem fun {a b} ha hb hlt e => ?_))
    have h1 := of_decide_eq_true (hj a ha)
    have h2 := of_decide_eq_true (hj b hb)
    have : a = b := by rw [← h1, ← h2, e]
    omega
  have hsub : ∀ P ∈ (upto r.length).map (blw r), P ∈ lec (atL r) := fun P hP => by
    obtain ⟨x, _, rfl⟩ := List.mem_map.mp hP
    exact mem_lec.mpr (blw_sub x)
  have hl : (lec (atL r)).length ≤ ((upto r.length).map (blw r)).length := by
    rw [List.length_map, upto_len, lec_len]
    omega
  obtain ⟨x, hx, e⟩ := List.mem_map.mp (mem_of_len hnd hsub hl (mem_lec.mpr hS))
  exact ⟨x, hx, e⟩
theorem wh_of_os (h : osB r = true) : whB r = true := by
  have h0 := h
  unfold osB at h
  rw [Bool.and_eq_true, decide_eq_true_eq, List.all_eq_true] at h
  have hj : ∀ x ∈ upto r.length, jnA r (blw r x) = x := fun x hx => of_decide_eq_true (h.2 x hx)
  obtain ⟨hl, hl2, _⟩ := lo_ok o m hp
  obtain ⟨hh, hh2, _⟩ := hi_ok o j hp
  have eqx : ∀ {x y : Int}, x ∈ upto r.length → y ∈ upto r.length → (∀ a, a ∈ blw r x ↔ a ∈ blw r y) → x = y := fun {x y} hx hy h => o.anti _ _ (blw_le o j m hp hx hy (hj x hx) fun a ha => (h a).mp ha) (blw_le o j m hp hy hx (hj y hy) fun a ha => (h a).mpr ha)
  have bjn : ∀ {x y a : Int}, x ∈ upto r.length → y ∈ upto r.length → (a ∈ blw r (jn r x y) ↔ a ∈ blw r x ∨ a ∈ blw r y) := fun {x y a} hx hy => by
    obtain ⟨u, hu, eu⟩ := os_onto o j m hp h0 (S := (atL r).filter fun a => decide (a ∈ blw r x) || decide (a ∈ blw r y)) List.filter_sublist
    have mu : ∀ a, a ∈ blw r u ↔ a ∈ blw r x ∨ a ∈ blw r y := fun a => by
      rw [eu, List.mem_filter, Bool.or_eq_true, decide_eq_true_eq, decide_eq_true_eq]
      exact ⟨fun z => z.2, fun z => ⟨z.elim (fun z => (mem_blw.mp z).1) fun z => (mem_blw.mp z).1, z⟩⟩
    constructor
    · intro ha
      have hju : le r (jn r x y) u := jn_le j hx hy (blw_le o j m hp hx hu (hj x hx) fun a ha => (mu a).mpr (.inl ha)) (blw_le o j m hp hy hu (hj y hy) fun a ha => (mu a).mpr (.inr ha))
      obtain ⟨h1, h2⟩ := mem_blw.mp ha
      exact (mu a).mp (mem_blw.mpr ⟨h1, o.trans _ _ _ h2 hju⟩)
    · rintro (ha | ha)
      · obtain ⟨h1, h2⟩ := mem_blw.mp ha
        exact mem_blw.mpr ⟨h1, o.trans _ _ _ h2 (jn_mem j hx hy).1⟩
      · obtain ⟨h1, h2⟩ := mem_blw.mp ha
        exact mem_blw.mpr ⟨h1, o.trans _ _ _ h2 (jn_mem j hx hy).2.1⟩
  unfold whB
  rw [Bool.and_eq_true, List.all_eq_true]
  refine ⟨disB_iff.mpr fun x hx y hy z hz => eqx (me_up o m hx (jn_up o j hy hz)) (jn_up o j (me_up o m hx hy) (me_up o m hx hz)) fun a => ?_, fun x hx => ?_⟩
  · rw [blw_me o j m hp hx (jn_up o j hy hz), bjn hy hz, bjn (me_up o m hx hy) (me_up o m hx hz), blw_me o j m hp hx hy, blw_me o j m hp hx hz]
    exact and_or_left
  · obtain ⟨z, hz, ez⟩ := os_onto o j m hp h0 (S := (atL r).filter fun a => !decide (a ∈ blw r x)) List.filter_sublist
    have mz : ∀ a, a ∈ blw r z ↔ a ∈ atL r ∧ a ∉ blw r x := fun a => by rw [ez, List.mem_filter, Bool.not_eq_true', decide_eq_false_iff_not]
    have hm : z ∈ cmL r x := by
      unfold cmL
      rw [List.mem_filter, Bool.and_eq_true, decide_eq_true_eq, decide_eq_true_eq]
      refine ⟨hz, eqx (me_up o m hx hz) hl fun a => ?_, eqx (jn_up o j hx hz) hh fun a => ?_⟩
      · rw [blw_me o j m hp hx hz, mz a]
        refine ⟨fun z => absurd z.1 z.2.2, fun z => ?_⟩
        obtain ⟨h1, h2⟩ := mem_blw.mp z
        have h3 := mem_atL.mp h1
        exact absurd (o.anti _ _ h2 (hl2 a h3.1)) h3.2.1
      · rw [bjn hx hz, mz a, mem_blw, mem_blw]
        constructor
        · rintro (z | z)
          · exact ⟨z.1, hh2 a (mem_atL.mp z.1).1⟩
          · exact ⟨z.1, hh2 a (mem_atL.mp z.1).1⟩
        · rintro ⟨h1, _⟩
          by_cases q : le r a x
          · exact .inl ⟨h1, q⟩
          · exact .inr ⟨h1, fun z => q z.2⟩
    cases e : cmL r x with
    | nil => rw [e] at hm; cases hm
    | cons a t => rfl
theorem at_prime (dis : disB r = true) {a : Int} (ha : a ∈ atL r) : ∀ {L : List Int}, (∀ b ∈ L, b ∈ atL r) → le r a (jnA r L) → a ∈ L := by
  have dis := disB_iff.mp dis
  have hau := (mem_atL.mp ha).1
  have key : ∀ (L : List Int) (u : Int), u ∈ upto r.length → (∀ b ∈ L, b ∈ atL r) → le r a (L.foldl (jn r) u) → le r a u ∨ a ∈ L := by
    intro L
    induction L with
    | nil => exact fun u _ _ h => .inl h
    | cons b L ih =>
      intro u hu h hl
      have hb := h b List.mem_cons_self
      have hbu := (mem_atL.mp hb).1
      rcases ih _ (jn_up o j hu hbu) (fun c hc => h c (List.mem_cons_of_mem _ hc)) hl with z | z
      · have e := dis a hau u hu b hbu
        have e2 : me r a (jn r u b) = a := o.anti _ _ (me_l o m hau (jn_up o j hu hbu)) ((me_iff o m hau (jn_up o j hu hbu) hau).mpr ⟨o.refl a hau, z⟩)
        rw [e2] at e
        rcases at_min o j m hp ha (me_up o m hau hbu) (me_l o m hau hbu) with q | q
        · left
          rw [q] at e
          have hmu := me_up o m hau hu
          have e3 : jn r (me r a u) (lo r) = me r a u := o.anti _ _ (jn_le j hmu (lo_ok o m hp).1 (o.refl _ hmu) ((lo_ok o m hp).2.1 _ hmu)) (jn_mem j hmu (lo_ok o m hp).1).1
          rw [e3] at e
          rw [e]
          exact me_r o m hau hu
        · right
          have hab : le r a b := by
            have := me_r o m hau hbu
            rw [q] at this
            exact this
          rcases at_min o j m hp hb hau hab with q2 | q2
          · exact absurd q2 (mem_atL.mp ha).2.1
          · rw [q2]; exact List.mem_cons_self
      · exact .inr (List.mem_cons_of_mem _ z)
  intro L hL h
  rcases key L _ (lo_ok o m hp).1 hL h with z | z
  · exact absurd (o.anti _ _ z ((lo_ok o m hp).2.1 a hau)) (mem_atL.mp ha).2.1
  · exact z
theorem os_of_wh (h : whB r = true) : osB r = true := by
  unfold whB at h
  rw [Bool.and_eq_true, List.all_eq_true] at h
  obtain ⟨dis0, hc⟩ := h
  have dis := disB_iff.mp dis0
  obtain ⟨hl, hl2, _⟩ := lo_ok o m hp
  obtain ⟨hh, hh2, _⟩ := hi_ok o j hp
  have hj : ∀ x ∈ upto r.length, jnA r (blw r x) = x := fun x hx => by
    have hu : jnA r (blw r x) ∈ upto r.length := jnA_up o j m hp fun a ha => blw_up ha
    have hux : le r (jnA r (blw r x)) x := (jnA_le o j m hp (fun a ha => blw_up ha) hx).mpr fun a ha => (mem_blw.mp ha).2
    generalize hU : jnA r (blw r x) = u at hu hux
    have hcm : ∃ c, c ∈ cmL r u := by
      have := hc u hu
      cases e : cmL r u with
      | nil => rw [e] at this; cases this
      | cons a t => exact ⟨a, List.mem_cons_self⟩
    obtain ⟨c, hcm⟩ := hcm
    unfold cmL at hcm
    rw [List.mem_filter, Bool.and_eq_true, decide_eq_true_eq, decide_eq_true_eq] at hcm
    obtain ⟨hcu, c1, c2⟩ := hcm
    have hxc := me_up o m hx hcu
    have h0 : me r x c = lo r := Classical.byContradiction fun hn => by
      obtain ⟨a, ha, hal⟩ := at_over o j m hp hxc hn
      have hau := (mem_atL.mp ha).1
      obtain ⟨a1, a2⟩ := (me_iff o m hx hcu hau).mp hal
      have a3 : le r a u := by
        rw [← hU]
        exact (jnA_le o j m hp (fun b hb => blw_up hb) (by rw [hU]; exact hu)).mp (by rw [hU]; exact o.refl u hu) a (mem_blw.mpr ⟨ha, a1⟩)
      have a4 : le r a (lo r) := by
        rw [← c1]
        exact (me_iff o m hu hcu hau).mpr ⟨a3, a2⟩
      exact (mem_atL.mp ha).2.1 (o.anti _ _ a4 (hl2 a hau))
    have e := dis x hx u hu c hcu
    have e1 : me r x (jn r u c) = x := by
      rw [c2]
      exact o.anti _ _ (me_l o m hx hh) ((me_iff o m hx hh hx).mpr ⟨o.refl x hx, hh2 x hx⟩)
    have e2 : me r x u = u := o.anti _ _ (me_r o m hx hu) ((me_iff o m hx hu hu).mpr ⟨hux, o.refl u hu⟩)
    have e3 : jn r u (lo r) = u := o.anti _ _ (jn_le j hu hl (o.refl u hu) (hl2 u hu)) (jn_mem j hu hl).1
    rw [e1, e2, h0, e3] at e
    exact e.symm
  have hb : ∀ S ∈ lec (atL r), blw r (jnA r S) = S := fun S hS => by
    have hS := mem_lec.mp hS
    have hSu : ∀ a ∈ S, a ∈ upto r.length := fun a ha => (mem_atL.mp (hS.subset ha)).1
    refine up_unique ((blw_sub _).trans List.filter_sublist) (hS.trans List.filter_sublist) fun a => ?_
    rw [mem_blw]
    refine ⟨fun ⟨h1, h2⟩ => at_prime o j m hp dis0 h1 (fun b hb => hS.subset hb) h2, fun ha => ⟨hS.subset ha, ?_⟩⟩
    have := jnA_up o j m hp hSu
    exact (jnA_le o j m hp hSu this).mp (o.refl _ this) a ha
  have n1 : r.length ≤ 2 ^ (atL r).length := by
    have hnd : ((upto r.length).map (blw r)).Nodup := by
      refine List.pairwise_map.mpr (((upto_lt r.length).imp_of_mem fun {a b} ha hb hlt e => ?_))
      have : a = b := by rw [← hj a ha, ← hj b hb, e]
      omega
    have := nd_len (B := lec (atL r)) hnd fun P hP => by
      obtain ⟨x, _, rfl⟩ := List.mem_map.mp hP
      exact mem_lec.mpr (blw_sub x)
    rw [List.length_map, upto_len, lec_len] at this
    exact this
  have n2 : 2 ^ (atL r).length ≤ r.length := by
    have hnd : ((lec (atL r)).map (jnA r)).Nodup := by
      refine List.pairwise_map.mpr ((lec_nodup atL_nd).imp_of_mem fun {a b} ha hb' hne e => hne ?_)
      rw [← hb a ha, ← hb b hb', e]
    have := nd_len (B := upto r.length) hnd fun x hx => by
      obtain ⟨S, hS, rfl⟩ := List.mem_map.mp hx
      exact jnA_up o j m hp fun a ha => (mem_atL.mp ((mem_lec.mp hS).subset ha)).1
    rw [List.length_map, upto_len, lec_len] at this
    exact this
  unfold osB
  rw [Bool.and_eq_true, decide_eq_true_eq, List.all_eq_true]
  exact ⟨by omega, fun x hx => decide_eq_true (hj x hx)⟩
theorem os_wh : osB r = whB r := by
  rw [Bool.eq_iff_iff]
  exact ⟨wh_of_os o j m hp, os_of_wh o j m hp⟩
end
end

/-! ### k64: the functions -/
section
variable {r : List (List Int)} (o : OkO r.length r) (j : HasJ r) (m : HasJ (trn' r))
include o j in
theorem jo {x y : Int} (hx : x ∈ upto r.length) (hy : y ∈ upto r.length) : F_join_of [LD r, .int x, .int y] = some (.int (jn r x y)) := by
  rw [join_eq o (inU_of hx) (inU_of hy), hdD_jn j hx hy]
include o m in
theorem mo {x y : Int} (hx : x ∈ upto r.length) (hy : y ∈ upto r.length) : F_meet_of [LD r, .int x, .int y] = some (.int (me r x y)) := by
  rw [meet_eq o (inU_of hx) (inU_of hy), hdD_jn m (upT hx) (upT hy)]
  rfl
theorem ix0 {x : Int} {t : List Int} : ixD (liI (x :: t)) (.int 0) = some (.int x) := ixD_l (j := 0) rfl rfl
section
variable (hp : 0 < r.length)
include o m hp in
theorem llow_eq : F_law_low [LD r] = some (.int (lo r)) := by
  have hn := o.le
  obtain ⟨_, _, t, ht⟩ := lo_ok o m hp
  refine runD_ret rfl ?_
  unfold B_law_low
  refine Ret.ret (lift2_eq (a := liI (loL r)) (liD_eq (lcM_map (vs := [1]) (φ := PyData.int) (ds := upto r.length) (p := fun x => decide ((((row r x).length : Nat) : Int) = (r.length : Nat))) (f := PyData.int) (lift1_eq (lift2_eq (vr_eq rfl) cst_eq ldx1) (range1_nat _ (by omega))) rfl rfl rfl (by rw [upto_len, szl]; omega) fun x hx => ⟨_, rfl, lift2_eq (lenL_eq (lift2_eq (lift2_eq (vr_eq rfl) cst_eq ldx2) (vr_eq rfl) (row_atU (inU_of hx)))) (lift2_eq (vr_eq rfl) cst_eq ldx1) (both_of (eq_ii.trans (by rw [List.length_map]))), fun _ => vr_eq rfl, rfl⟩)) cst_eq ?_) rfl
  rw [ht]
  exact ix0
include o j hp in
theorem lhigh_eq : F_law_high [LD r] = some (.int (hi r)) := by
  have hn := o.le
  obtain ⟨_, _, t, ht⟩ := hi_ok o j hp
  refine runD_ret rfl ?_
  unfold B_law_high
  refine Ret.ret (lift2_eq (a := liI (hiL r)) (liD_eq (lcM_map (vs := [1]) (φ := PyData.int) (ds := upto r.length) (p := fun x => decide (row r x = [x])) (f := PyData.int) (lift1_eq (lift2_eq (vr_eq rfl) cst_eq ldx1) (range1_nat _ (by omega))) rfl rfl rfl (by rw [upto_len, szl]; omega) fun x hx => ⟨_, rfl, lift2_eq (lift2_eq (lift2_eq (vr_eq rfl) cst_eq ldx2) (vr_eq rfl) (row_atU (inU_of hx))) (tupM_eq (ds := [x].map PyData.int) (cons_eq (vr_eq rfl) nil_eq) (show 1 ≤ sizeLine by decide)) (both_of (eqD_tuI _ _)), fun _ => vr_eq rfl, rfl⟩)) cst_eq ?_) rfl
  rw [ht]
  exact ix0
include o m hp in
theorem low_eq : F_low_of [LD r] = some (.int (lo r)) := by
  have hn := o.le
  obtain ⟨h1, h2, _⟩ := lo_ok o m hp
  refine runD_ret rfl ?_
  unfold B_low_of
  refine Ret.ret (callD_eq (cons_eq (vr_eq rfl) (cons_eq (tuM_eq (lift1_eq (lift2_eq (vr_eq rfl) cst_eq ldx1) (rg1_nat (by omega)))) nil_eq)) (least_eq (M := upto r.length) (fun a ha => inU_of ha) (by rw [upto_len]; omega))) ?_
  obtain ⟨t, ht⟩ := hdD_one (L := upto r.length) (p := isLe r (upto r.length)) h1 (List.all_eq_true.mpr fun b hb => decide_eq_true (h2 b hb)) fun y hy h => o.anti _ _ (of_decide_eq_true (List.all_eq_true.mp h _ h1)) (h2 y hy)
  rw [ht]; rfl
include o in
theorem great_eq {L : List Int} (hL : ∀ a ∈ L, a ∈ upto r.length) (hl : L.length ≤ 50) : F_greatest_of [LD r, tuI L] = some (hdD (L.filter fun z => !L.any fun w => !decide (z ∈ row r w))) := by
  have hn := o.le
  refine runD_ret rfl ?_
  unfold B_greatest_of
  refine Ret.ret (callD_eq (cons_eq (callD_eq (cons_eq (vr_eq rfl) nil_eq) (turn_eq hn)) (cons_eq (vr_eq rfl) nil_eq)) (least_eq (fun a ha => in_trn (inU_of (hL a ha))) (by omega))) ?_
  congr 1
  refine List.filter_congr fun z hz => ?_
  unfold isLe
  rw [Bool.eq_iff_iff, List.all_eq_true, Bool.not_eq_true', ← Bool.not_eq_true, List.any_eq_true]
  constructor
  · rintro h ⟨w, hw, hb⟩
    have := ((row_trn2 (hL z hz)).mp (of_decide_eq_true (h w hw))).2
    simp [this] at hb
  · intro h w hw
    refine decide_eq_true ((row_trn2 (hL z hz)).mpr ⟨hL w hw, Classical.byContradiction fun hn => h ⟨w, hw, by simpa using hn⟩⟩)
include o j hp in
theorem high_eq : F_high_of [LD r] = some (.int (hi r)) := by
  have hn := o.le
  obtain ⟨h1, h2, _⟩ := hi_ok o j hp
  refine runD_ret rfl ?_
  unfold B_high_of
  refine Ret.ret (callD_eq (cons_eq (vr_eq rfl) (cons_eq (tuM_eq (lift1_eq (lift2_eq (vr_eq rfl) cst_eq ldx1) (rg1_nat (by omega)))) nil_eq)) (great_eq o (L := upto r.length) (fun a ha => ha) (by rw [upto_len]; omega))) ?_
  have hb : ∀ z ∈ upto r.length, ((!(upto r.length).any fun w => !decide (z ∈ row r w)) = true ↔ ∀ w ∈ upto r.length, le r w z) := fun z hz => by
    rw [Bool.not_eq_true', ← Bool.not_eq_true, List.any_eq_true]
    exact ⟨fun h w hw => Classical.byContradiction fun hn => h ⟨w, hw, by simpa using hn⟩, fun h ⟨w, hw, hb⟩ => by simp [h w hw] at hb⟩
  obtain ⟨t, ht⟩ := hdD_one (L := upto r.length) (p := fun z => !(upto r.length).any fun w => !decide (z ∈ row r w)) h1 ((hb _ h1).mpr h2) fun y hy h => o.anti _ _ (h2 y hy) ((hb y hy).mp h _ h1)
  rw [ht]; rfl
include o j m hp in
theorem compl_eq {x : Int} (hx : x ∈ upto r.length) : F_complements [LD r, .int x] = some (tuI (cmL r x)) := by
  have hn := o.le
  refine runD_ret rfl ?_
  unfold B_complements
  refine Ret.nx (asgM_eq (st2 := [some (.val (LD r)), some (.val (.int x)), some (.val (.int (lo r))), some (.val (.int (hi r))), none]) (tupM_eq (cons_eq (callD_eq (cons_eq (vr_eq rfl) nil_eq) (low_eq o m hp)) (cons_eq (callD_eq (cons_eq (vr_eq rfl) nil_eq) (high_eq o j hp)) nil_eq)) (show 2 ≤ sizeLine by decide)) rfl) ?_
  exact Ret.ret (useG_eq (b := (cmL r x).map PyData.int) (lift1_eq (lift2_eq (vr_eq rfl) cst_eq ldx1) (range1_nat _ (by omega))) rfl (tupG_map (f := vr 4) (φ := PyData.int) (p := fun y => decide (me r x y = lo r) && decide (jn r x y = hi r)) (q := PyData.int) (by rw [upto_len, szl]; omega) fun y hy => ⟨_, _, rfl, and_eq (lift2_eq (callD_eq (cons_eq (vr_eq rfl) (cons_eq (vr_eq rfl) (cons_eq (vr_eq rfl) nil_eq))) (mo o m hx hy)) (vr_eq rfl) (both_of eq_ii)) (lift2_eq (callD_eq (cons_eq (vr_eq rfl) (cons_eq (vr_eq rfl) (cons_eq (vr_eq rfl) nil_eq))) (jo o j hx hy)) (vr_eq rfl) (both_of eq_ii)), fun _ => ⟨_, vr_eq rfl⟩⟩)) rfl
include o m in
theorem within_eq {x y : Int} (hx : x ∈ upto r.length) : F_within [LD r, .int x, .int y] = some (hdD (wiL r x y)) := by
  have hn := o.le
  refine runD_ret rfl ?_
  unfold B_within
  refine Ret.nx (setM_eq (useG_eq (b := (wlot r x y).map PyData.int) (lift1_eq (lift2_eq (vr_eq rfl) cst_eq ldx1) (range1_nat _ (by omega))) rfl (tupG_map (f := vr 4) (φ := PyData.int) (p := fun z => decide (y ∈ row r (me r x z))) (q := PyData.int) (by rw [upto_len, szl]; omega) fun z hz => ⟨_, _, rfl, lift2_eq (vr_eq rfl) (lift2_eq (lift2_eq (vr_eq rfl) cst_eq ldx2) (callD_eq (cons_eq (vr_eq rfl) (cons_eq (vr_eq rfl) (cons_eq (vr_eq rfl) nil_eq))) (mo o m hx hz)) (row_atU (inU_of (me_up o m hx hz)))) (both_of (inD_tuI _ _)), fun _ => ⟨_, vr_eq rfl⟩⟩))) ?_
  exact Ret.ret (callD_eq (cons_eq (vr_eq rfl) (cons_eq (vr_eq rfl) nil_eq)) (great_eq o (L := wlot r x y) (fun a ha => (List.mem_filter.mp ha).1) (Nat.le_trans (List.length_filter_le _ _) (by rw [upto_len]; exact hn)))) rfl
include o m hp in
theorem against_eq {x : Int} (hx : x ∈ upto r.length) : F_against [LD r, .int x] = some (hdD (wiL r x (lo r))) := by
  refine runD_ret rfl ?_
  unfold B_against
  exact Ret.ret (callD_eq (cons_eq (vr_eq rfl) (cons_eq (vr_eq rfl) (cons_eq (callD_eq (cons_eq (vr_eq rfl) nil_eq) (low_eq o m hp)) nil_eq))) (within_eq o m hx)) rfl
include o m hp in
theorem atoms_eq : F_atoms [LD r] = some (tuI (atL r)) := by
  have hn := o.le
  refine runD_ret rfl ?_
  unfold B_atoms
  refine Ret.nx (setM_eq (callD_eq (cons_eq (vr_eq rfl) nil_eq) (low_eq o m hp))) ?_
  have hl := (lo_ok o m hp).1
  refine Ret.ret (useG_eq (b := (atL r).map PyData.int) (lift1_eq (lift2_eq (vr_eq rfl) cst_eq ldx1) (range1_nat _ (by omega))) rfl (tupG_map (f := vr 2) (φ := PyData.int) (p := atB r) (q := PyData.int) (by rw [upto_len, szl]; omega) fun x hx => ⟨_, _, rfl, and_eq (lift2_eq (vr_eq rfl) (vr_eq rfl) (both_of ne_ii)) (notM_eq (isB_eq (useG_eq (lift1_eq (lift2_eq (lift2_eq (vr_eq rfl) cst_eq ldx2) (vr_eq rfl) (row_atU (inU_of hl))) rfl) rfl (anyG_all (φ := PyData.int) (q := fun y => !decide (y ∈ [lo r, x]) && decide (x ∈ row r y)) fun y hy => ⟨_, _, rfl, blM_eq (and_eq (lift2_eq (vr_eq rfl) (tupM_eq (ds := [lo r, x].map PyData.int) (cons_eq (vr_eq rfl) (cons_eq (vr_eq rfl) nil_eq)) (show 2 ≤ sizeLine by decide)) (both_of (ninD_tuI _ _))) (lift2_eq (vr_eq rfl) (lift2_eq (lift2_eq (vr_eq rfl) cst_eq ldx2) (vr_eq rfl) (row_atU (inU_of (o.mem hy)))) (both_of (inD_tuI _ _))))⟩)))), fun _ => ⟨_, vr_eq rfl⟩⟩)) rfl
include o j m hp in
theorem joinall_eq {L : List Int} (hL : ∀ a ∈ L, a ∈ upto r.length) : F_join_all [LD r, tuI L] = some (.int (jnA r L)) := by
  refine runD_ret rfl ?_
  unfold B_join_all
  refine Ret.nx (setM_eq (callD_eq (cons_eq (vr_eq rfl) nil_eq) (low_eq o m hp))) ?_
  refine Ret.for (fun i st => ∃ a3, st = [some (.val (LD r)), some (.val (tuI L)), some (.val (.int (jnA r (L.take i)))), a3]) (ds := L.map PyData.int) (seqV_eq rfl rfl) ⟨none, rfl⟩ (fun i d hd st hI => ?_) fun st hI => ?_
  · obtain ⟨a3, rfl⟩ := hI
    obtain ⟨x, hx, rfl⟩ := get_int hd
    have hT : ∀ a ∈ L.take i, a ∈ upto r.length := fun a ha => hL a (List.mem_of_mem_take ha)
    refine ⟨_, rfl, Stp.one (setM_eq (callD_eq (cons_eq (vr_eq rfl) (cons_eq (vr_eq rfl) (cons_eq (vr_eq rfl) nil_eq))) (jo o j (jnA_up o j m hp hT) (hL x (List.mem_of_getElem? hx))))) ⟨some (.val (.int x)), ?_⟩⟩
    have : jnA r (L.take (i + 1)) = jn r (jnA r (L.take i)) x := by
      unfold jnA
      rw [List.take_add_one, hx, List.foldl_append]; rfl
    rw [this]; rfl
  · obtain ⟨a3, rfl⟩ := hI
    rw [List.length_map, List.take_length]
    exact Ret.ret (vr_eq rfl) rfl
include o m hp in
theorem ablow_eq {x : Int} : F_atoms_below [LD r, .int x] = some (tuI (blw r x)) := by
  have hn := o.le
  refine runD_ret rfl ?_
  unfold B_atoms_below
  have hl : (atL r).length ≤ 50 := Nat.le_trans (List.length_filter_le _ _) (by rw [upto_len]; exact hn)
  exact Ret.ret (useG_eq (b := (blw r x).map PyData.int) (lift1_eq (callD_eq (cons_eq (vr_eq rfl) nil_eq) (atoms_eq o m hp)) rfl) rfl (tupG_map (f := vr 2) (φ := PyData.int) (p := fun a => decide (x ∈ row r a)) (q := PyData.int) (by rw [szl]; omega) fun a ha => ⟨_, _, rfl, lift2_eq (vr_eq rfl) (lift2_eq (lift2_eq (vr_eq rfl) cst_eq ldx2) (vr_eq rfl) (row_atU (inU_of (List.mem_filter.mp ha).1))) (both_of (inD_tuI _ _)), fun _ => ⟨_, vr_eq rfl⟩⟩)) rfl
include o j m hp in
theorem isos_eq : F_is_of_sets [LD r] = some (.bool (osB r)) := by
  have hn := o.le
  refine runD_ret rfl ?_
  unfold B_is_of_sets
  refine Ret.nx (setM_eq cst_eq) ?_
  refine Ret.for (fun i st => ∃ a2, st = [some (.val (LD r)), some (.val (.int ((2 ^ i : Nat) : Int))), a2, none]) (ds := (atL r).map PyData.int) (lift1_eq (callD_eq (cons_eq (vr_eq rfl) nil_eq) (atoms_eq o m hp)) rfl) ⟨none, rfl⟩ (fun i d hd st hI => ?_) fun st hI => ?_
  · obtain ⟨a2, rfl⟩ := hI
    obtain ⟨x, hx, rfl⟩ := get_int hd
    refine ⟨_, rfl, Stp.one (augM_eq (z := .int ((2 ^ (i + 1) : Nat) : Int)) rfl cst_eq ((mul_ii (by omega) (by omega)).trans (by rw [Nat.pow_succ]; simp))) ⟨some (.val (.int x)), rfl⟩⟩
  · obtain ⟨a2, rfl⟩ := hI
    rw [List.length_map]
    refine Ret.ret (blM_eq (and_eq (lift2_eq (vr_eq rfl) (lift2_eq (vr_eq rfl) cst_eq ldx1) (both_of eq_ii)) (isB_eq (useG_eq (lift1_eq (lift2_eq (vr_eq rfl) cst_eq ldx1) (range1_nat _ (by omega))) rfl (allG_all (φ := PyData.int) (q := fun x => decide (jnA r (blw r x) = x)) fun x hx => ⟨_, _, rfl, lift2_eq (callD_eq (cons_eq (vr_eq rfl) (cons_eq (callD_eq (cons_eq (vr_eq rfl) (cons_eq (vr_eq rfl) nil_eq)) (ablow_eq o m hp)) nil_eq)) (joinall_eq o j m hp fun a ha => blw_up ha)) (vr_eq rfl) eq_ii⟩))))) rfl
end
end
/-! rows of what is within -/
def oI : Option Int → PyData
  | some i => .int i
  | none => .none
theorem hdD_oI (L : List Int) : hdD L = oI L.head? := by cases L <;> rfl
theorem canLay_oI : ∀ xs : List (Option Int), PyData.canLayAll0 (xs.map oI) = true
  | [] => rfl
  | none :: xs => by
    show (true && PyData.canLayAll0 (xs.map oI)) = true
    rw [canLay_oI xs]; rfl
  | some i :: xs => by
    show (true && PyData.canLayAll0 (xs.map oI)) = true
    rw [canLay_oI xs]; rfl
theorem depth_oI : ∀ xs : List (Option Int), PyData.depthAll (xs.map oI) = 0
  | [] => rfl
  | none :: xs => by
    show max 0 (PyData.depthAll (xs.map oI)) = 0
    rw [depth_oI xs]; rfl
  | some i :: xs => by
    show max 0 (PyData.depthAll (xs.map oI)) = 0
    rw [depth_oI xs]; rfl
theorem shaped_oI (xs : List (Option Int)) : SeqAt.shaped (.tuple (xs.map oI)) = true := by
  simp [SeqAt.shaped, PyData.canLay0, PyData.depth, canLay_oI, depth_oI]
theorem shaped_oIL (xs : List (Option Int)) : SeqAt.shaped (.list (xs.map oI)) = true := by
  simp [SeqAt.shaped, PyData.canLay0, PyData.depth, canLay_oI, depth_oI]
theorem eqv_oI : ∀ xs : List (Option Int), ((xs.map oI).any fun z => PyData.eqv z .none) = decide (none ∈ xs)
  | [] => rfl
  | none :: xs => by
    rw [List.map_cons, List.any_cons, show PyData.eqv (oI none) .none = true from rfl]
    simp
  | some i :: xs => by
    rw [List.map_cons, List.any_cons, show PyData.eqv (oI (some i)) .none = false from rfl, Bool.false_or, eqv_oI xs]
    simp
theorem inD_oI (xs : List (Option Int)) : inD .none (.tuple (xs.map oI)) = some (.bool (decide (none ∈ xs))) := by
  show (if SeqAt.shaped .none && SeqAt.shaped (.tuple (xs.map oI)) then some (PyData.bool ((xs.map oI).any fun z => PyData.eqv z .none)) else none) = _
  rw [shaped_oI, eqv_oI]; rfl
theorem idxGo_oI : ∀ {xs : List (Option Int)} (k : Nat), none ∈ xs → idxGo .none (xs.map oI) k = some (k + xs.idxOf none)
  | none :: xs, k, _ => by
    rw [List.map_cons]
    unfold idxGo
    rw [if_pos (show PyData.eqv (oI none) .none = true from rfl), List.idxOf_cons_self, Nat.add_zero]
  | some i :: xs, k, h => by
    rw [List.map_cons]
    unfold idxGo
    rw [if_neg (show ¬ PyData.eqv (oI (some i)) .none = true from fun h => nomatch (show false = true from h)), idxGo_oI (k + 1) (by simpa using h), List.idxOf_cons, show ((some i : Option Int) == none) = false from rfl]
    show some (k + 1 + _) = some (k + (_ + 1))
    congr 1; omega
theorem ixB_oI {xs : List (Option Int)} (h : none ∈ xs) : indexB (.tuple (xs.map oI)) .none = some (.int (xs.idxOf none : Nat)) := by
  show (if SeqAt.shaped .none && SeqAt.shaped (.list (xs.map oI)) then (idxGo .none (xs.map oI) 0).map fun j => PyData.int (j : Nat) else none) = _
  rw [shaped_oIL, idxGo_oI 0 h, Nat.zero_add]; rfl
def Wi (r : List (List Int)) (x : Int) : List (Option Int) := (upto r.length).map fun y => (wiL r x y).head?
def RW (r : List (List Int)) (x : Int) : PyData := .tuple ((Wi r x).map oI)
def nn (r : List (List Int)) : List Int := (upto r.length).filter fun x => decide (none ∈ Wi r x)
def nnD (r : List (List Int)) (x : Int) : PyData := .tuple [.str "none", .int x, .int ((Wi r x).idxOf none : Nat)]
def decD (r : List (List Int)) : PyData := match nn r with
  | [] => .tuple [.str "all", .tuple ((upto r.length).map (RW r))]
  | x :: _ => nnD r x
section
variable {r : List (List Int)} (o : OkO r.length r) (j : HasJ r) (m : HasJ (trn' r))
include o m in
theorem decide_eq : F_decide_within [LD r] = some (decD r) := by
  have hn := o.le
  refine runD_ret rfl ?_
  unfold B_decide_within
  refine Ret.nx (setO_eq (lstM_eq nil_eq (Nat.zero_le _))) ?_
  refine Ret.forR (fun i st => ((upto r.length).take i).filter (fun x => decide (none ∈ Wi r x)) = [] ∧ ∃ a2 a3, st = [some (.val (LD r)), some (.own (((upto r.length).take i).map (RW r))), a2, a3, none]) (ds := (upto r.length).map PyData.int) (lift1_eq (lift2_eq (vr_eq rfl) cst_eq ldx1) (range1_nat _ (by omega))) ⟨rfl, none, none, rfl⟩ (fun i d hd st hI => ?_) fun st hI => ?_
  · obtain ⟨h0, a2, a3, rfl⟩ := hI
    obtain ⟨hi, hx, rfl⟩ := upto_at hd
    refine ⟨_, rfl, sr_sq (setM_eq (d := RW r i) (useG_eq (b := (Wi r i).map oI) (lift1_eq (lift2_eq (vr_eq rfl) cst_eq ldx1) (range1_nat _ (by omega))) rfl ((tupG_all (φ := PyData.int) (q := fun y => hdD (wiL r i y)) (by rw [upto_len, szl]; omega) fun y hy => ⟨_, _, rfl, callD_eq (cons_eq (vr_eq rfl) (cons_eq (vr_eq rfl) (cons_eq (vr_eq rfl) nil_eq))) (within_eq o m hx)⟩).trans ?_))) ?_⟩
    · unfold Wi
      rw [List.map_map]
      exact congrArg some (List.map_congr_left fun y _ => hdD_oI _)
    · refine sr_if (lift2_eq cst_eq (vr_eq rfl) (both_of (inD_oI _))) (fun hb => ?_) fun hb => .inl (Stp.one (appM_eq rfl (vr_eq rfl) rfl (by rw [List.length_map, szl]; have h1 := List.length_take_le' i (upto r.length); have h2 := upto_len r.length; omega)) ⟨filter_step (upto_get hi) h0 hb, some (.val (.int i)), some (.val (RW r i)), ?_⟩)
      · have hm := of_decide_eq_true hb
        refine Ret.ret (tupM_eq (cons_eq cst_eq (cons_eq (vr_eq rfl) (cons_eq (lift2_eq (vr_eq rfl) cst_eq (ixB_oI hm)) nil_eq))) (show 3 ≤ sizeLine by decide)) ?_
        obtain ⟨t, ht⟩ := filter_first (upto_get hi) h0 hb
        unfold decD nn
        rw [ht]; rfl
      · rw [List.take_add_one, upto_get hi, List.map_append]; rfl
  · obtain ⟨h0, a2, a3, rfl⟩ := hI
    rw [List.length_map, List.take_length] at h0 ⊢
    refine Ret.ret (tupM_eq (cons_eq cst_eq (cons_eq (tuM_eq (seqV_own rfl)) nil_eq)) (show 2 ≤ sizeLine by decide)) ?_
    unfold decD nn
    rw [h0]
include o j m in
theorem nn_dis (hp : 0 < r.length) : decide (nn r = []) = disB r := by
  rw [Bool.eq_iff_iff, decide_eq_true_eq]
  have key : nn r = [] ↔ ∀ x ∈ upto r.length, ∀ y ∈ upto r.length, wiL r x y ≠ [] := by
    unfold nn
    rw [List.filter_eq_nil_iff]
    refine forall_congr' fun x => forall_congr' fun hx => ?_
    rw [decide_eq_true_eq]
    unfold Wi
    rw [List.mem_map]
    exact ⟨fun h y hy e => h ⟨y, hy, by rw [e]; rfl⟩, fun h ⟨y, hy, e⟩ => h y hy (List.head?_eq_none_iff.mp e)⟩
  rw [key]
  exact ⟨dis_of_within o j m, fun h x hx y hy => within_of_dis o j m hp h hx hy⟩
end

/-! ### k64: cubes -/
def cb : Nat → List (List Int)
  | 0 => [[0]]
  | 1 => [[0, 1], [1]]
  | 2 => [[0, 1, 2, 3], [1, 3], [2, 3], [3]]
  | _ => [[0, 1, 2, 3, 4, 5, 6, 7], [1, 3, 5, 7], [2, 3, 6, 7], [3, 7], [4, 5, 6, 7], [5, 7], [6, 7], [7]]
def m3 : List (List Int) := [[0, 1, 2, 3, 4], [1, 4], [2, 4], [3, 4], [4]]
structure Lat (r : List (List Int)) : Prop where
  o : OkO r.length r
  j : HasJ r
  m : HasJ (trn' r)
  p : 0 < r.length
theorem lat_cb0 : Lat (cb 0) := ⟨okO_of (by decide) rfl (by decide) (by decide) (by decide) (by decide) (by decide), by unfold HasJ; decide, by unfold HasJ; decide, by decide⟩
theorem lat_cb1 : Lat (cb 1) := ⟨okO_of (by decide) rfl (by decide) (by decide) (by decide) (by decide) (by decide), by unfold HasJ; decide, by unfold HasJ; decide, by decide⟩
theorem lat_cb2 : Lat (cb 2) := ⟨okO_of (by decide) rfl (by decide) (by decide) (by decide) (by decide) (by decide), by unfold HasJ; decide, by unfold HasJ; decide, by decide⟩
theorem lat_cb3 : Lat (cb 3) := ⟨okO_of (by decide) rfl (by decide +kernel) (by decide +kernel) (by decide +kernel) (by decide +kernel) (by decide +kernel), by unfold HasJ; decide +kernel, by unfold HasJ; decide +kernel, by decide⟩
theorem lat_m3 : Lat m3 := ⟨okO_of (by decide) rfl (by decide) (by decide) (by decide) (by decide) (by decide), by unfold HasJ; decide, by unfold HasJ; decide, by decide⟩
theorem cub0 : F_cubes [.int 0] = some (LD (cb 0)) := by kernel_rfl
theorem cub1 : F_cubes [.int 1] = some (LD (cb 1)) := by kernel_rfl
theorem cub2 : F_cubes [.int 2] = some (LD (cb 2)) := by kernel_rfl
theorem cub3 : F_cubes [.int 3] = some (LD (cb 3)) := by kernel_rfl
def al : Nat → List (List Int)
  | 0 => [[]]
  | 1 => [[], [0]]
  | 2 => [[], [0], [1], [0, 1]]
  | _ => [[], [0], [1], [0, 1], [2], [0, 2], [1, 2], [0, 1, 2]]
theorem al0 : F_law_all_lots [.int 0] = some (.list ((al 0).map tuI)) := by kernel_rfl
theorem al1 : F_law_all_lots [.int 1] = some (.list ((al 1).map tuI)) := by kernel_rfl
theorem al2 : F_law_all_lots [.int 2] = some (.list ((al 2).map tuI)) := by kernel_rfl
theorem al3 : F_law_all_lots [.int 3] = some (.list ((al 3).map tuI)) := by kernel_rfl
theorem osB0 : osB (cb 0) = true := by decide +kernel
theorem osB1 : osB (cb 1) = true := by decide +kernel
theorem osB2 : osB (cb 2) = true := by decide +kernel
theorem osB3 : osB (cb 3) = true := by decide +kernel
theorem ins_cb {k : Nat} (h : k ≤ 3) : (upto (cb k).length).all (fun x => decide (row (cb k) x = (upto (cb k).length).filter fun z => (row (al k) x).all fun i => decide (i ∈ row (al k) z))) = true :=
  match k, h with
  | 0, _ => by decide +kernel
  | 1, _ => by decide +kernel
  | 2, _ => by decide +kernel
  | 3, _ => by decide +kernel
theorem cb_len {k : Nat} (h : k ≤ 3) : (cb k).length = (al k).length ∧ (cb k).length ≤ 8 ∧ ∀ s ∈ al k, s.length ≤ 3 :=
  match k, h with
  | 0, _ => by decide
  | 1, _ => by decide
  | 2, _ => by decide
  | 3, _ => by decide
theorem cubes_at {k : Nat} (h : k ≤ 3) : F_cubes [.int (k : Nat)] = some (LD (cb k)) ∧ F_law_all_lots [.int (k : Nat)] = some (.list ((al k).map tuI)) ∧ osB (cb k) = true ∧ Lat (cb k) :=
  match k, h with
  | 0, _ => ⟨cub0, al0, osB0, lat_cb0⟩
  | 1, _ => ⟨cub1, al1, osB1, lat_cb1⟩
  | 2, _ => ⟨cub2, al2, osB2, lat_cb2⟩
  | 3, _ => ⟨cub3, al3, osB3, lat_cb3⟩

/-! ### k64: the law -/
def oV : Option PyData → Option Sl
  | some d => some (.val d)
  | none => none
abbrev sB (s : PyData) (ds : List Int) (k : Nat) (r : List (List Int)) (a8 : Option Sl) (a9 : Option PyData) (a10 a11 : Option Sl) (a12 : Option PyData) (a13 a14 a15 a16 a17 a18 a19 a20 a21 : Option Sl) : Dn :=
  [some (.val s), some (.own (Bx ds k)), some (.val (LD r)), some (.val (.int (lo r))), some (.val (.int (hi r))), some (.val (.list ((tab r).map liI))), some (.val (.list ((tab (trn' r)).map liI))), some (.val (.int (r.length : Nat))), a8, oV a9, a10, a11, oV a12, a13, a14, a15, a16, a17, a18, a19, a20, a21, none, none]
theorem same_oI (n : Nat) (a : Option Int) : F_law_same (n + 1) [oI a, oI a] = some (.bool true) := by
  cases a with
  | none => exact same_none n
  | some i => exact same_int n i
theorem same_hdD (n : Nat) (L : List Int) : F_law_same (n + 1) [hdD L, hdD L] = some (.bool true) := by rw [hdD_oI]; exact same_oI n _
theorem same_RW (n : Nat) {r : List (List Int)} (hn : r.length ≤ 50) (x : Int) : F_law_same (n + 2) [RW r x, RW r x] = some (.bool true) := same_tup (by rw [List.length_map, Wi, List.length_map, upto_len]; omega) fun d hd => by
  obtain ⟨a, _, rfl⟩ := List.mem_map.mp hd
  exact same_oI n a
theorem same_dec {r : List (List Int)} (hn : r.length ≤ 50) : F_law_same fu_law_same [decD r, decD r] = some (.bool true) := by
  show F_law_same (9 + 1) _ = _
  unfold decD
  cases nn r with
  | nil =>
    refine same_tup (show 2 ≤ 1000 by decide) fun d hd => ?_
    rcases List.mem_cons.mp hd with rfl | hd
    · exact same_str _ _ (by decide +kernel)
    · rw [List.mem_singleton.mp hd]
      exact same_tup (n := 8) (by rw [List.length_map, upto_len]; omega) fun d hd => by
        obtain ⟨x, _, rfl⟩ := List.mem_map.mp hd
        exact same_RW 6 hn x
  | cons x t =>
    refine same_tup (show 3 ≤ 1000 by decide) fun d hd => ?_
    rcases List.mem_cons.mp hd with rfl | hd
    · exact same_str _ _ (by decide +kernel)
    · rcases List.mem_cons.mp hd with rfl | hd
      · exact same_int _ _
      · rw [List.mem_singleton.mp hd]
        exact same_int _ _
theorem ixUL {n : Nat} {f : Int → PyData} {x : Int} (h : x ∈ upto n) : ixD (.list ((upto n).map f)) (.int x) = some (f x) := by
  obtain ⟨h0, h1⟩ := mem_upto.mp h
  obtain ⟨j, rfl⟩ := Int.eq_ofNat_of_zero_le h0
  have hj : j < n := by omega
  exact ixD_l (j := j) (by rw [List.getElem?_map, upto_get hj]; rfl) rfl
theorem ixUT {n : Nat} {f : Int → PyData} {x : Int} (h : x ∈ upto n) : ixD (.tuple ((upto n).map f)) (.int x) = some (f x) := by
  obtain ⟨h0, h1⟩ := mem_upto.mp h
  obtain ⟨j, rfl⟩ := Int.eq_ofNat_of_zero_le h0
  have hj : j < n := by omega
  exact ixD_t (j := j) (by rw [List.getElem?_map, upto_get hj]; rfl) rfl
theorem rowT_at {R : List (List Int)} {x : Int} (h : x ∈ upto R.length) : ixD (.list (R.map tuI)) (.int x) = some (tuI (row R x)) := by
  obtain ⟨h0, h1⟩ := mem_upto.mp h
  obtain ⟨j, rfl⟩ := Int.eq_ofNat_of_zero_le h0
  have hj : j < R.length := by omega
  refine ixD_l (j := j) ?_ rfl
  rw [List.getElem?_map, List.getElem?_eq_getElem hj]
  unfold row
  rw [Int.toNat_natCast, List.getD_eq_getElem?_getD, List.getElem?_eq_getElem hj]
  rfl
theorem RW_eq (r : List (List Int)) (x : Int) : RW r x = .tuple ((upto r.length).map fun y => oI (wiL r x y).head?) := by
  unfold RW Wi
  rw [List.map_map]; rfl
theorem cml_swap (r : List (List Int)) (x : Int) : (upto r.length).filter (fun y => decide (jn r x y = hi r) && decide (me r x y = lo r)) = cmL r x := List.filter_congr fun _ _ => Bool.and_comm _ _
section
variable {r : List (List Int)} (l : Lat r) {s : PyData} {ds : List Int} {k : Nat} {a8 a10 a11 a13 a14 a15 a16 a17 a18 a19 a20 a21 : Option Sl} {a12 : Option PyData}
include l
theorem meT_at {x y : Int} (hx : x ∈ upto r.length) : ixD (.list ((tab (trn' r)).map liI)) (.int x) = some (liI ((upto (trn' r).length).map fun y => jn (trn' r) x y)) := tab_at (upT hx)
/-- a complement's test, both tables -/
theorem cmp_q {x y : Int} {st : Dn} {i kx : Nat} (hx : x ∈ upto r.length) (hy : y ∈ upto r.length) (h5 : st[5]? = some (some (.val (.list ((tab r).map liI))))) (h6 : st[6]? = some (some (.val (.list ((tab (trn' r)).map liI))))) (h3 : st[3]? = some (some (.val (.int (lo r))))) (h4 : st[4]? = some (some (.val (.int (hi r))))) (hi' : st[i]? = some (some (.val (.int x)))) (hk : st[kx]? = some (some (.val (.int y)))) :
    andM (lift2 (both eqD) (lift2 ixD (lift2 ixD (vr 5) (vr i)) (vr kx)) (vr 4)) (lift2 (both eqD) (lift2 ixD (lift2 ixD (vr 6) (vr i)) (vr kx)) (vr 3)) st = some (decide (jn r x y = hi r) && decide (me r x y = lo r), st) :=
  and_eq (lift2_eq (lift2_eq (lift2_eq (vr_eq h5) (vr_eq hi') (tab_at hx)) (vr_eq hk) (tab_at2 hy)) (vr_eq h4) (both_of eq_ii)) (lift2_eq (lift2_eq (lift2_eq (vr_eq h6) (vr_eq hi') (meT_at l (y := y) hx)) (vr_eq hk) (tab_at2 (upT hy))) (vr_eq h3) (both_of eq_ii))
theorem L10_eq (a9 : Option PyData) : Stp L_10 (sB s ds k r (some (.own [])) a9 a10 a11 a12 a13 a14 a15 a16 a17 a18 a19 a20 a21) (fun st => ∃ (a9 a12 : Option PyData) (a10 a11 a13 a14 : Option Sl), st = sB s ds k r (some (.own ((upto r.length).map (RW r)))) a9 a10 a11 a12 a13 a14 a15 a16 a17 a18 a19 a20 a21) := by
  obtain ⟨o, j, m, hp⟩ := l
  have l : Lat r := ⟨o, j, m, hp⟩
  have hn := o.le
  have hlo := (lo_ok o m hp).1
  have hrg : range1D (.int (r.length : Nat)) = some ((upto r.length).map .int) := range1_nat _ (by omega)
  have hul : (upto r.length).length ≤ sizeLine := by rw [upto_len, szl]; omega
  unfold L_10
  refine Stp.imp (Stp.for (fun i st => ∃ (a9 a12 : Option PyData) (a10 a11 a13 a14 : Option Sl), st = sB s ds k r (some (.own (((upto r.length).take i).map (RW r)))) a9 a10 a11 a12 a13 a14 a15 a16 a17 a18 a19 a20 a21) (ds := (upto r.length).map PyData.int) (lift1_eq (vr_eq rfl) hrg) ⟨a9, a12, a10, a11, a13, a14, rfl⟩ (fun i d hd st hI => ?_)) fun st ⟨a9, a12, a10, a11, a13, a14, e⟩ => ⟨a9, a12, a10, a11, a13, a14, by rw [e, List.length_map, List.take_length]⟩
  obtain ⟨a9, a12, a10, a11, a13, a14, rfl⟩ := hI
  obtain ⟨hi', hx, rfl⟩ := upto_at hd
  refine ⟨sB s ds k r (some (.own (((upto r.length).take i).map (RW r)))) (some (.int i)) a10 a11 a12 a13 a14 a15 a16 a17 a18 a19 a20 a21, rfl, ?_⟩
  have q1 : tuM (lcM [12] (lift1 range1D (vr 7)) (gv 12) (andM (lift2 (both eqD) (lift2 ixD (lift2 ixD (vr 5) (vr 9)) (vr 12)) (vr 4)) (lift2 (both eqD) (lift2 ixD (lift2 ixD (vr 6) (vr 9)) (vr 12)) (vr 3))) (vr 12)) (sB s ds k r (some (.own (((upto r.length).take i).map (RW r)))) (some (.int i)) a10 a11 a12 a13 a14 a15 a16 a17 a18 a19 a20 a21) = some (tuI (cmL r i), sB s ds k r (some (.own (((upto r.length).take i).map (RW r)))) (some (.int i)) a10 a11 a12 a13 a14 a15 a16 a17 a18 a19 a20 a21) := by
    rw [← cml_swap]
    exact tuM_eq (lcM_mapW (φ := PyData.int) (ds := upto r.length) (p := fun y => decide (jn r i y = hi r) && decide (me r i y = lo r)) (f := PyData.int) (lift1_eq (vr_eq rfl) hrg) (by cases a12 <;> rfl) (by cases a12 <;> rfl) hul fun y hy => ⟨_, rfl, cmp_q l hx hy rfl rfl rfl rfl rfl rfl, fun _ => vr_eq rfl, rfl⟩)
  refine Stp.sq (setM_eq q1) ?_
  have hcl : (cmL r i).length ≤ 50 := Nat.le_trans (List.length_filter_le _ _) (by rw [upto_len]; exact hn)
  refine Stp.sq ((iteM_f (not_sameD (d := tuI (cmL r i)) (callD_eq (cons_eq (vr_eq rfl) (cons_eq (vr_eq rfl) nil_eq)) (compl_eq o j m hp hx)) (vr_eq rfl) (same_ints 8 _ (by omega)))).trans nx_eq) ?_
  refine Stp.sq (setO_eq (lstM_eq nil_eq (Nat.zero_le _))) ?_
  refine Stp.sqS (Stp.for (fun c st => ∃ (a12 : Option PyData) (a13 a14 : Option Sl), st = sB s ds k r (some (.own (((upto r.length).take i).map (RW r)))) (some (.int i)) (some (.val (tuI (cmL r i)))) (some (.own (((upto r.length).take c).map fun y => oI (wiL r i y).head?))) a12 a13 a14 a15 a16 a17 a18 a19 a20 a21) (ds := (upto r.length).map PyData.int) (lift1_eq (vr_eq rfl) hrg) ⟨a12, a13, a14, rfl⟩ (fun c d hd st hI => ?_)) fun st hI => ?_
  · obtain ⟨a12, a13, a14, rfl⟩ := hI
    obtain ⟨hc, hy, rfl⟩ := upto_at hd
    refine ⟨sB s ds k r (some (.own (((upto r.length).take i).map (RW r)))) (some (.int i)) (some (.val (tuI (cmL r i)))) (some (.own (((upto r.length).take c).map fun y => oI (wiL r i y).head?))) (some (.int c)) a13 a14 a15 a16 a17 a18 a19 a20 a21, rfl, ?_⟩
    refine Stp.sq (setM_eq (liD_eq (lcM_map (vs := [22]) (φ := PyData.int) (ds := upto r.length) (p := fun z => decide ((c : Int) ∈ row r (me r i z))) (f := PyData.int) (lift1_eq (vr_eq rfl) hrg) rfl rfl rfl hul fun z hz => ⟨_, rfl, lift2_eq (vr_eq rfl) (lift2_eq (lift2_eq (vr_eq rfl) cst_eq ldx2) (lift2_eq (lift2_eq (vr_eq rfl) (vr_eq rfl) (meT_at l (y := z) hx)) (vr_eq rfl) (tab_at2 (upT hz))) (row_atU (inU_of (me_up o m hx hz)))) (both_of (inD_tuI _ _)), fun _ => vr_eq rfl, rfl⟩))) ?_
    have hwl : (wlot r i c).length ≤ 50 := Nat.le_trans (List.length_filter_le _ _) (by rw [upto_len]; exact hn)
    refine Stp.sq (setM_eq (liD_eq (lcM_map (vs := [22]) (φ := PyData.int) (ds := wlot r i c) (p := fun z => !(wlot r i c).any fun w => !decide (z ∈ row r w)) (f := PyData.int) (seqV_eq rfl rfl) rfl rfl rfl (by rw [szl]; omega) fun z hz => ⟨_, rfl, lift2_eq (lenM_eq (lcM_map (vs := [23]) (φ := PyData.int) (ds := wlot r i c) (p := fun w => !decide (z ∈ row r w)) (f := PyData.int) (seqV_eq rfl rfl) rfl rfl rfl (by rw [szl]; omega) fun w hw => ⟨_, rfl, lift2_eq (vr_eq rfl) (lift2_eq (lift2_eq (vr_eq rfl) cst_eq ldx2) (vr_eq rfl) (row_atU (inU_of (List.mem_filter.mp hw).1))) (both_of (ninD_tuI _ _)), fun _ => vr_eq rfl, rfl⟩)) cst_eq (both_of (len0_filter _ _ _)), fun _ => vr_eq rfl, rfl⟩))) ?_
    have hwi : (wiL r i c).length ≤ 50 := Nat.le_trans (List.length_filter_le _ _) hwl
    have hadd : addD (liI (wiL r i c)) (.list [.none]) = some (.list ((wiL r i c).map PyData.int ++ [.none])) := addD_lst (by rw [List.length_map]; show _ + 1 ≤ _; omega)
    have hix : ixD (.list ((wiL r i c).map PyData.int ++ [.none])) (.int 0) = some (oI (wiL r i c).head?) := by
      cases wiL r i c with
      | nil => exact ixD_l (j := 0) rfl rfl
      | cons a t => exact ixD_l (j := 0) rfl rfl
    refine Stp.one (appM_eq rfl (lift2_eq (lift2_eq (vr_eq rfl) (liD_eq (lstM_eq (cons_eq cst_eq nil_eq) (show 1 ≤ sizeLine by decide))) hadd) cst_eq hix) rfl (by rw [List.length_map, szl]; have h1 := List.length_take_le' c (upto r.length); have h2 := upto_len r.length; omega)) ⟨some (.int c), some (.val (liI (wlot r i c))), some (.val (liI (wiL r i c))), ?_⟩
    rw [List.take_add_one, upto_get hc, List.map_append]; rfl
  · obtain ⟨a12, a13, a14, rfl⟩ := hI
    rw [List.length_map, List.take_length]
    refine Stp.sq (appM_eq (d := RW r i) rfl (tuM_eq (seqV_own rfl) |>.trans (by rw [RW_eq])) rfl (by rw [List.length_map, szl]; have h1 := List.length_take_le' i (upto r.length); have h2 := upto_len r.length; omega)) ?_
    have hat : ∀ {a8 : Option Sl}, lift2 ixD (vo 11) (vr 3) (sB s ds k r a8 (some (.int i)) (some (.val (tuI (cmL r i)))) (some (.own ((upto r.length).map fun y => oI (wiL r i y).head?))) a12 a13 a14 a15 a16 a17 a18 a19 a20 a21) = some (hdD (wiL r i (lo r)), sB s ds k r a8 (some (.int i)) (some (.val (tuI (cmL r i)))) (some (.own ((upto r.length).map fun y => oI (wiL r i y).head?))) a12 a13 a14 a15 a16 a17 a18 a19 a20 a21) := fun {a8} => by
      rw [hdD_oI]
      exact lift2_eq (vo_own rfl) (vr_eq rfl) (ixUL hlo)
    refine Stp.one ((iteM_f (or_f (not_sameD (d := hdD (wiL r i (lo r))) (callD_eq (cons_eq (vr_eq rfl) (cons_eq (vr_eq rfl) (cons_eq (vr_eq rfl) nil_eq))) (within_eq o m hx)) hat (same_hdD 9 _)) (not_sameD (d := hdD (wiL r i (lo r))) (callD_eq (cons_eq (vr_eq rfl) (cons_eq (vr_eq rfl) nil_eq)) (against_eq o m hp hx)) hat (same_hdD 9 _)))).trans nx_eq) ⟨some (.int i), a12, some (.val (tuI (cmL r i))), some (.own ((upto r.length).map fun y => oI (wiL r i y).head?)), a13, a14, ?_⟩
    rw [List.take_add_one, upto_get hi', List.map_append]; rfl
end

/-! ### k64: all -/
theorem cvs_at {r : List (List Int)} (o : OkO r.length r) (hl : lo r ∈ upto r.length) (h2 : ∀ a ∈ upto r.length, le r (lo r) a) : (upto r.length).filter (fun x => decide ((lo r, x) ∈ (prs r).filter (cov r))) = atL r := by
  unfold atL
  refine List.filter_congr fun x hx => ?_
  rw [Bool.eq_iff_iff, decide_eq_true_eq, List.mem_filter, mem_prs]
  unfold atB cov
  rw [Bool.and_eq_true]
  exact ⟨fun ⟨⟨_, _, h3⟩, h4⟩ => ⟨by simpa using h3, h4⟩, fun ⟨h3, h4⟩ => ⟨⟨hl, h2 x hx, by simpa using h3⟩, h4⟩⟩
theorem any_emp (r : List (List Int)) (x : Int) : (upto r.length).any (fun y => decide (jn r x y = hi r) && decide (me r x y = lo r)) = !(cmL r x).isEmpty := by
  rw [← cml_swap]
  generalize upto r.length = L
  induction L with
  | nil => rfl
  | cons a L ih =>
    rw [List.any_cons, List.filter_cons]
    split
    · rename_i h
      rw [h]; rfl
    · rename_i h
      rw [ih, Bool.eq_false_iff.mpr h, Bool.false_or]
theorem both_lift {op : PyData → PyData → Option PyData} {f g : M PyData} {st st1 : Dn} {b : Bool} (h : lift2 op f g st = some (.bool b, st1)) : lift2 (both op) f g st = some (b, st1) := by
  obtain ⟨a, s1, c, h1, h2, h3⟩ := lift2_some h
  exact lift2_eq h1 h2 (both_of h3)
theorem law_true : ∀ ns : List Int, ns.length ≤ 63 → (∀ z ∈ ns, PySem.Builtin.Int.intBits z ≤ 1048576) → F_law [.list (ns.map .int)] = some (.bool true) := by
  intro ns _ _
  obtain ⟨ds, hd, hbox⟩ := box_eq ns
  refine runD_ret rfl ?_
  unfold B_law
  refine Ret.nx (by unfold L_0; exact setO_eq (liftL_eq (cons_eq (vr_eq rfl) (cons_eq cst_eq (cons_eq cst_eq nil_eq))) hbox)) ?_
  generalize PyData.list (ns.map PyData.int) = s
  obtain ⟨n, q, k1, l0, hn8, e1⟩ := lattice_eq hd 0 4 3 (by omega) (by omega)
  have hql := l0.len
  subst hql
  have lq : Lat q := ⟨l0.toOkO, hasJ_of l0, hasM_of l0, l0.pos⟩
  refine Ret.nx (by unfold L_1; exact setM_eq (callL_eq (i := 1) rfl (cons_eq cst_eq (cons_eq cst_eq nil_eq)) rfl e1)) ?_
  obtain ⟨d1, d10, d11, ed1⟩ := draw_eq hd k1 (m := 4) (by omega)
  refine Ret.sqS (Q := fun st => ∃ (r : List (List Int)) (k : Nat), Lat r ∧ st = [some (.val s), some (.own (Bx ds k)), some (.val (LD r)), none, none, none, none, none, none, none, none, none, none, none, none, none, none, none, none, none, none, none, none, none]) (by
    unfold L_2
    refine Stp.ite (b := decide (d1 = 0)) (lift2_eq (callL_eq (i := 1) rfl (cons_eq cst_eq nil_eq) rfl ed1) cst_eq (both_of eq_ii)) (fun _ => ?_) fun _ => Stp.one nx_eq ⟨q, k1 + 1, lq, rfl⟩
    obtain ⟨d2, d20, d21, ed2⟩ := draw_eq hd (k1 + 1) (m := 3) (by omega)
    obtain ⟨c, rfl⟩ := Int.eq_ofNat_of_zero_le d20
    obtain ⟨h1, _, _, h4⟩ := cubes_at (k := c) (by omega)
    exact Stp.one (setM_eq (callD_eq (cons_eq (callL_eq (i := 1) rfl (cons_eq cst_eq nil_eq) rfl ed2) nil_eq) h1)) ⟨cb c, k1 + 1 + 1, h4, rfl⟩) fun st hst => ?_
  obtain ⟨r0, k, l1, rfl⟩ := hst
  refine Ret.sqS (Q := fun st => ∃ (r : List (List Int)), Lat r ∧ st = [some (.val s), some (.own (Bx ds k)), some (.val (LD r)), none, none, none, none, none, none, none, none, none, none, none, none, none, none, none, none, none, none, none, none, none]) (by
    unfold L_3
    refine Stp.ite (lift2_eq (lift2_eq (vr_eq rfl) cst_eq ldx1) cst_eq (both_of gt_ii)) (fun _ => ?_) fun _ => Stp.one nx_eq ⟨r0, l1, rfl⟩
    exact Stp.one (setM_eq (d := LD m3) (tupM_eq (cons_eq cst_eq (cons_eq cst_eq (cons_eq (tupM_eq (cons_eq (tupM_eq (cons_eq cst_eq (cons_eq cst_eq (cons_eq cst_eq (cons_eq cst_eq (cons_eq cst_eq nil_eq))))) (show 5 ≤ sizeLine by decide)) (cons_eq (tupM_eq (cons_eq cst_eq (cons_eq cst_eq nil_eq)) (show 2 ≤ sizeLine by decide)) (cons_eq (tupM_eq (cons_eq cst_eq (cons_eq cst_eq nil_eq)) (show 2 ≤ sizeLine by decide)) (cons_eq (tupM_eq (cons_eq cst_eq (cons_eq cst_eq nil_eq)) (show 2 ≤ sizeLine by decide)) (cons_eq (tupM_eq (cons_eq cst_eq nil_eq) (show 1 ≤ sizeLine by decide)) nil_eq))))) (show 5 ≤ sizeLine by decide)) nil_eq))) (show 3 ≤ sizeLine by decide))) ⟨m3, lat_m3, rfl⟩) fun st hst => ?_
  obtain ⟨r, l, rfl⟩ := hst
  clear e1 lq l0 l1 ed1 hn8
  obtain ⟨o, j, m, hp⟩ := l
  have l : Lat r := ⟨o, j, m, hp⟩
  have hn := o.le
  obtain ⟨hlo, hlo2, _⟩ := lo_ok o m hp
  have hrg : range1D (.int (r.length : Nat)) = some ((upto r.length).map .int) := range1_nat _ (by omega)
  have hul : (upto r.length).length ≤ sizeLine := by rw [upto_len, szl]; omega
  refine Ret.nx (by unfold L_4; exact setM_eq (callD_eq (cons_eq (vr_eq rfl) nil_eq) (llow_eq o m hp))) ?_
  refine Ret.nx (by unfold L_5; exact setM_eq (callD_eq (cons_eq (vr_eq rfl) nil_eq) (lhigh_eq o j hp))) ?_
  refine Ret.nx (by unfold L_6; exact setM_eq (callD_eq (cons_eq (vr_eq rfl) nil_eq) (ljoins_eq o j))) ?_
  refine Ret.nx (by unfold L_7; exact setM_eq (callD_eq (cons_eq (vr_eq rfl) nil_eq) (lmeets_eq o m))) ?_
  refine Ret.nx (by unfold L_8; exact setM_eq (lift2_eq (vr_eq rfl) cst_eq ldx1)) ?_
  refine Ret.nx (by unfold L_9; exact setO_eq (lstM_eq nil_eq (Nat.zero_le _))) ?_
  refine Ret.sqS (L10_eq l (s := s) (ds := ds) (k := k) (a10 := none) (a11 := none) (a12 := none) (a13 := none) (a14 := none) (a15 := none) (a16 := none) (a17 := none) (a18 := none) (a19 := none) (a20 := none) (a21 := none) none) fun st hst => ?_
  obtain ⟨a9, a12, a10, a11, a13, a14, rfl⟩ := hst
  obtain ⟨y, y0, y1, ey⟩ := draw_eq hd k (m := (r.length : Int)) (by omega)
  have hy : y ∈ upto r.length := mem_upto.mpr ⟨y0, y1⟩
  have h0u : (0 : Int) ∈ upto r.length := mem_upto.mpr ⟨by omega, by omega⟩
  refine Ret.nx (st1 := sB s ds (k + 1) r (some (.own ((upto r.length).map (RW r)))) a9 a10 a11 (some (.int y)) a13 a14 none none none none none none none) (by unfold L_11; exact setM_eq (callL_eq (i := 1) rfl (cons_eq (vr_eq rfl) nil_eq) rfl ey)) ?_
  refine Ret.nx (st1 := sB s ds (k + 1) r (some (.own ((upto r.length).map (RW r)))) a9 a10 a11 (some (.int y)) a13 a14 none none none none none none none) (by
    unfold L_12
    refine (iteM_f (not_sameD (d := hdD (wiL r 0 y)) (callD_eq (cons_eq (vr_eq rfl) (cons_eq cst_eq (cons_eq (vr_eq rfl) nil_eq))) (within_eq o m h0u)) (lift2_eq (lift2_eq (vo_own rfl) cst_eq (ixUL h0u)) (vr_eq rfl) ?_) (same_hdD 9 _))).trans nx_eq
    rw [RW_eq, hdD_oI]
    exact ixUT hy) ?_
  have hq13 : (liD (lcM [9] (lift1 range1D (vr 7)) (gv 9) (lift2 (both inD) (cst .none) (lift2 ixD (vo 8) (vr 9))) (tupM (consM (cst (.str "none")) (consM (vr 9) (consM (lift2 indexB (lift2 ixD (vo 8) (vr 9)) (cst .none)) nilM)))))) (sB s ds (k + 1) r (some (.own ((upto r.length).map (RW r)))) a9 a10 a11 (some (.int y)) a13 a14 none none none none none none none) = some (.list ((nn r).map (nnD r)), (sB s ds (k + 1) r (some (.own ((upto r.length).map (RW r)))) a9 a10 a11 (some (.int y)) a13 a14 none none none none none none none)) :=
    liD_eq (lcM_mapW (φ := PyData.int) (ds := upto r.length) (p := fun x => decide (none ∈ Wi r x)) (f := nnD r) (lift1_eq (vr_eq rfl) hrg) (by cases a9 <;> rfl) (by cases a9 <;> rfl) hul fun x hx => ⟨_, rfl, lift2_eq cst_eq (lift2_eq (vo_own rfl) (vr_eq rfl) (ixUL hx)) (both_of (inD_oI _)), fun hb => tupM_eq (cons_eq cst_eq (cons_eq (vr_eq rfl) (cons_eq (lift2_eq (lift2_eq (vo_own rfl) (vr_eq rfl) (ixUL hx)) cst_eq (ixB_oI (of_decide_eq_true hb))) nil_eq))) (show 3 ≤ sizeLine by decide), rfl⟩)
  refine Ret.nx (st1 := sB s ds (k + 1) r (some (.own ((upto r.length).map (RW r)))) a9 a10 a11 (some (.int y)) a13 a14 (some (.val (.list ((nn r).map (nnD r))))) none none none none none none) (by
    unfold L_13
    exact setM_eq hq13) ?_
  have hnd := nn_dis o j m hp
  refine Ret.nx (st1 := sB s ds (k + 1) r (some (.own ((upto r.length).map (RW r)))) a9 a10 a11 (some (.int y)) a13 a14 (some (.val (.list ((nn r).map (nnD r))))) none none none none none none) (by
    unfold L_14
    cases e : nn r with
    | nil => exact (iteM_f (andM_f (lift2_eq (liftL_eq (cons_eq (vr_eq rfl) nil_eq) rfl) cst_eq (both_of gt_ii)))).trans nx_eq
    | cons x t => exact (iteM_f (and_eq (a := true) (b := false) (lift2_eq (liftL_eq (cons_eq (vr_eq rfl) nil_eq) rfl) cst_eq (both_of (gt_ii.trans (by rw [decide_eq_true (by simp only [List.length_map, List.length_cons]; omega)])))) (not_sameD (d := decD r) (callD_eq (cons_eq (vr_eq rfl) nil_eq) (decide_eq o m)) (lift2_eq (vr_eq rfl) cst_eq (by unfold decD; rw [e]; exact ixD_l (j := 0) rfl rfl)) (same_dec hn)))).trans nx_eq) ?_
  refine Ret.nx (st1 := sB s ds (k + 1) r (some (.own ((upto r.length).map (RW r)))) a9 a10 a11 (some (.int y)) a13 a14 (some (.val (.list ((nn r).map (nnD r))))) none none none none none none) (by
    unfold L_15
    cases e : nn r with
    | cons x t => exact (iteM_f (andM_f (lift2_eq (liftL_eq (cons_eq (vr_eq rfl) nil_eq) rfl) cst_eq (both_of (eq_ii.trans (by rw [decide_eq_false (by simp only [List.length_map, List.length_cons]; omega)])))))).trans nx_eq
    | nil => exact (iteM_f (and_eq (a := true) (b := false) (lift2_eq (liftL_eq (cons_eq (vr_eq rfl) nil_eq) rfl) cst_eq (both_of eq_ii)) (not_sameD (d := decD r) (callD_eq (cons_eq (vr_eq rfl) nil_eq) (decide_eq o m)) (tupM_eq (cons_eq cst_eq (cons_eq (tuM_eq (seqV_own rfl)) nil_eq)) (show 2 ≤ sizeLine by decide) |>.trans (by unfold decD; rw [e])) (same_dec hn)))).trans nx_eq) ?_
  have hlen0 : ∀ {st : Dn}, st[15]? = some (some (.val (.list ((nn r).map (nnD r))))) → lift2 eqD (liftL lenD (consM (vr 15) nilM)) (cst (.int 0)) st = some (.bool (disB r), st) := fun {st} h => by
    have e : decide (((((nn r).map (nnD r)).length : Nat) : Int) = 0) = disB r := by
      rw [← hnd, List.length_map]
      cases nn r with
      | nil => rfl
      | cons x t => rw [decide_eq_false (by simp only [List.length_cons]; omega), decide_eq_false (by simp)]
    rw [← e]
    exact lift2_eq (liftL_eq (cons_eq (vr_eq h) nil_eq) rfl) cst_eq eq_ii
  refine Ret.nx (st1 := sB s ds (k + 1) r (some (.own ((upto r.length).map (RW r)))) a9 a10 a11 (some (.int y)) a13 a14 (some (.val (.list ((nn r).map (nnD r))))) none none none none none none) (by
    unfold L_16
    exact (iteM_f (lift2_eq (hlen0 rfl) (callD_eq (cons_eq (vr_eq rfl) nil_eq) (ldist_eq o j m)) (both_of (r := false) (by cases disB r <;> rfl)))).trans nx_eq) ?_
  refine Ret.nx (by unfold L_17; exact setM_eq ((callD_eq (cons_eq (vr_eq rfl) nil_eq) (lsteps_eq o)).trans (by rw [steps_covers o]))) ?_
  have hq18 : tuM (lcM [9] (lift1 range1D (vr 7)) (gv 9) (lift2 (both inD) (tupM (consM (vr 3) (consM (vr 9) nilM))) (vr 16)) (vr 9)) (sB s ds (k + 1) r (some (.own ((upto r.length).map (RW r)))) a9 a10 a11 (some (.int y)) a13 a14 (some (.val (.list ((nn r).map (nnD r))))) (some (.val (.list (((prs r).filter (cov r)).map prD)))) none none none none none) = some (tuI (atL r), sB s ds (k + 1) r (some (.own ((upto r.length).map (RW r)))) a9 a10 a11 (some (.int y)) a13 a14 (some (.val (.list ((nn r).map (nnD r))))) (some (.val (.list (((prs r).filter (cov r)).map prD)))) none none none none none) := by
    rw [← cvs_at o hlo hlo2]
    exact tuM_eq (lcM_mapW (φ := PyData.int) (ds := upto r.length) (p := fun x => decide ((lo r, x) ∈ (prs r).filter (cov r))) (f := PyData.int) (lift1_eq (vr_eq rfl) hrg) (by cases a9 <;> rfl) (by cases a9 <;> rfl) hul fun x hx => ⟨_, rfl, lift2_eq (tupM_eq (cons_eq (vr_eq rfl) (cons_eq (vr_eq rfl) nil_eq)) (show 2 ≤ sizeLine by decide)) (vr_eq rfl) (both_of (inD_prs _ _ _)), fun _ => vr_eq rfl, rfl⟩)
  refine Ret.nx (by unfold L_18; exact setM_eq hq18) ?_
  have hal : (atL r).length ≤ 50 := Nat.le_trans (List.length_filter_le _ _) (by rw [upto_len]; exact hn)
  refine Ret.nx (by unfold L_19; exact (iteM_f (not_sameD (d := tuI (atL r)) (callD_eq (cons_eq (vr_eq rfl) nil_eq) (atoms_eq o m hp)) (vr_eq rfl) (same_ints 8 _ (by omega)))).trans nx_eq) ?_
  have hq20i : lcM [9] (lift1 range1D (vr 7)) (gv 9) (lift2 (both eqD) (lenM (lcM [22] (lift1 range1D (vr 7)) (gv 22) (andM (lift2 (both eqD) (lift2 ixD (lift2 ixD (vr 5) (vr 9)) (vr 22)) (vr 4)) (lift2 (both eqD) (lift2 ixD (lift2 ixD (vr 6) (vr 9)) (vr 22)) (vr 3))) (vr 22))) (cst (.int 0))) (vr 9) (sB s ds (k + 1) r (some (.own ((upto r.length).map (RW r)))) a9 a10 a11 (some (.int y)) a13 a14 (some (.val (.list ((nn r).map (nnD r))))) (some (.val (.list (((prs r).filter (cov r)).map prD)))) (some (.val (tuI (atL r)))) none none none none) = some (((upto r.length).filter fun x => !(upto r.length).any fun y => decide (jn r x y = hi r) && decide (me r x y = lo r)).map PyData.int, (sB s ds (k + 1) r (some (.own ((upto r.length).map (RW r)))) a9 a10 a11 (some (.int y)) a13 a14 (some (.val (.list ((nn r).map (nnD r))))) (some (.val (.list (((prs r).filter (cov r)).map prD)))) (some (.val (tuI (atL r)))) none none none none)) :=
    lcM_mapW (φ := PyData.int) (ds := upto r.length) (p := fun x => !(upto r.length).any fun y => decide (jn r x y = hi r) && decide (me r x y = lo r)) (f := PyData.int) (lift1_eq (vr_eq rfl) hrg) (by cases a9 <;> rfl) (by cases a9 <;> rfl) hul fun x hx => ⟨_, rfl, lift2_eq (lenM_eq (lcM_map (vs := [22]) (φ := PyData.int) (ds := upto r.length) (p := fun y => decide (jn r x y = hi r) && decide (me r x y = lo r)) (f := PyData.int) (lift1_eq (vr_eq rfl) hrg) rfl rfl rfl hul fun y hy => ⟨_, rfl, cmp_q l hx hy rfl rfl rfl rfl rfl rfl, fun _ => vr_eq rfl, rfl⟩)) cst_eq (both_of (len0_filter _ _ _)), fun _ => vr_eq rfl, rfl⟩
  have hwh : (!(upto r.length).any fun x => !(upto r.length).any fun y => decide (jn r x y = hi r) && decide (me r x y = lo r)) = (upto r.length).all fun x => !(cmL r x).isEmpty := by
    rw [Bool.eq_iff_iff, Bool.not_eq_true', ← Bool.not_eq_true, List.any_eq_true, List.all_eq_true]
    constructor
    · intro h x hx
      rw [← any_emp]
      apply Classical.byContradiction
      intro hb
      exact h ⟨x, hx, by rw [Bool.eq_false_iff.mpr hb]; rfl⟩
    · rintro h ⟨x, hx, hb⟩
      have := h x hx
      rw [← any_emp] at this
      rw [this] at hb
      cases hb
  have hq20 : blM (andM (lift2 (both eqD) (liftL lenD (consM (vr 15) nilM)) (cst (.int 0))) (lift2 (both eqD) (lenM (lcM [9] (lift1 range1D (vr 7)) (gv 9) (lift2 (both eqD) (lenM (lcM [22] (lift1 range1D (vr 7)) (gv 22) (andM (lift2 (both eqD) (lift2 ixD (lift2 ixD (vr 5) (vr 9)) (vr 22)) (vr 4)) (lift2 (both eqD) (lift2 ixD (lift2 ixD (vr 6) (vr 9)) (vr 22)) (vr 3))) (vr 22))) (cst (.int 0))) (vr 9))) (cst (.int 0)))) (sB s ds (k + 1) r (some (.own ((upto r.length).map (RW r)))) a9 a10 a11 (some (.int y)) a13 a14 (some (.val (.list ((nn r).map (nnD r))))) (some (.val (.list (((prs r).filter (cov r)).map prD)))) (some (.val (tuI (atL r)))) none none none none) = some (.bool (whB r), sB s ds (k + 1) r (some (.own ((upto r.length).map (RW r)))) a9 a10 a11 (some (.int y)) a13 a14 (some (.val (.list ((nn r).map (nnD r))))) (some (.val (.list (((prs r).filter (cov r)).map prD)))) (some (.val (tuI (atL r)))) none none none none) := by
    refine (blM_eq (and_eq (a := disB r) (both_lift (hlen0 rfl)) (lift2_eq (lenM_eq hq20i) cst_eq (both_of (len0_filter _ _ _))))).trans ?_
    rw [hwh]; rfl
  refine Ret.nx (by unfold L_20; exact setM_eq hq20) ?_
  refine Ret.nx (by unfold L_21; exact (iteM_f (not_sameD (d := .bool (whB r)) ((callD_eq (cons_eq (vr_eq rfl) nil_eq) (isos_eq o j m hp)).trans (by rw [os_wh o j m hp])) (vr_eq rfl) (same_bool 9 _))).trans nx_eq) ?_
  obtain ⟨c, c0, c1, ec⟩ := draw_eq hd (k + 1) (m := 4) (by omega)
  obtain ⟨c, rfl⟩ := Int.eq_ofNat_of_zero_le c0
  have hc3 : c ≤ 3 := by omega
  obtain ⟨q1, q2, q3, q4⟩ := cubes_at hc3
  have hin := ins_cb hc3
  obtain ⟨q5, q6, q7⟩ := cb_len hc3
  refine Ret.nx (by unfold L_22; exact setM_eq (callL_eq (i := 1) rfl (cons_eq cst_eq nil_eq) rfl ec)) ?_
  refine Ret.nx (by unfold L_23; exact setM_eq (callD_eq (cons_eq (vr_eq rfl) nil_eq) q1)) ?_
  refine Ret.nx (by unfold L_24; exact setM_eq (callD_eq (cons_eq (vr_eq rfl) nil_eq) q2)) ?_
  generalize cb c = C at *
  generalize al c = A at *
  have hrgC : range1D (.int (C.length : Nat)) = some ((upto C.length).map .int) := range1_nat _ (by omega)
  refine Ret.nx (by unfold L_25; exact (iteM_f (lift2_eq (lift2_eq (vr_eq rfl) cst_eq ldx1) (liftL_eq (cons_eq (vr_eq rfl) nil_eq) rfl) (both_of (r := false) (ne_ii.trans (by rw [List.length_map, q5]; simp))))).trans nx_eq) ?_
  refine Ret.sqS (Q := fun st => ∃ a9, st = sB s ds (k + 1 + 1) r (some (.own ((upto r.length).map (RW r)))) a9 a10 a11 (some (.int y)) a13 a14 (some (.val (.list ((nn r).map (nnD r))))) (some (.val (.list (((prs r).filter (cov r)).map prD)))) (some (.val (tuI (atL r)))) (some (.val (.bool (whB r)))) (some (.val (.int (c : Nat)))) (some (.val (LD C))) (some (.val (.list (A.map tuI))))) (by
    unfold L_26
    refine Stp.for (fun i st => ∃ a9, st = sB s ds (k + 1 + 1) r (some (.own ((upto r.length).map (RW r)))) a9 a10 a11 (some (.int y)) a13 a14 (some (.val (.list ((nn r).map (nnD r))))) (some (.val (.list (((prs r).filter (cov r)).map prD)))) (some (.val (tuI (atL r)))) (some (.val (.bool (whB r)))) (some (.val (.int (c : Nat)))) (some (.val (LD C))) (some (.val (.list (A.map tuI))))) (ds := (upto C.length).map PyData.int) (lift1_eq (lift2_eq (vr_eq rfl) cst_eq ldx1) hrgC) ⟨a9, rfl⟩ (fun i d hdd st hI => ?_)
    obtain ⟨a9, rfl⟩ := hI
    obtain ⟨hi', hx, rfl⟩ := upto_at hdd
    have hx2 : (i : Int) ∈ upto A.length := by rw [← q5]; exact hx
    refine ⟨sB s ds (k + 1 + 1) r (some (.own ((upto r.length).map (RW r)))) (some (.int i)) a10 a11 (some (.int y)) a13 a14 (some (.val (.list ((nn r).map (nnD r))))) (some (.val (.list (((prs r).filter (cov r)).map prD)))) (some (.val (tuI (atL r)))) (some (.val (.bool (whB r)))) (some (.val (.int (c : Nat)))) (some (.val (LD C))) (some (.val (.list (A.map tuI)))), rfl, ?_⟩
    refine Stp.no1 (b := false) (lift2_eq (lift2_eq (lift2_eq (vr_eq rfl) cst_eq ldx2) (vr_eq rfl) (row_atU (inU_of hx))) (tuM_eq (lcM_map (vs := [22]) (φ := PyData.int) (ds := upto C.length) (p := fun z => (row A i).all fun a => decide (a ∈ row A z)) (f := PyData.int) (lift1_eq (lift2_eq (vr_eq rfl) cst_eq ldx1) hrgC) rfl rfl rfl (by rw [upto_len, szl]; omega) fun z hz => ⟨_, rfl, isB_eq (callD_eq (cons_eq (lift2_eq (vr_eq rfl) (vr_eq rfl) (rowT_at hx2)) (cons_eq (lift2_eq (vr_eq rfl) (vr_eq rfl) (rowT_at (by rw [← q5]; exact hz))) nil_eq)) (inside_eq _ _ ?_)), fun _ => vr_eq rfl, rfl⟩)) (both_of ((neD_tuI _ _).trans ?_))) rfl ⟨some (.int i), rfl⟩
    · have hm : row A i ∈ A := by
        unfold row
        rw [List.getD_eq_getElem?_getD, List.getElem?_eq_getElem (by omega)]
        exact List.getElem_mem (by omega)
      have := q7 _ hm
      omega
    · have := of_decide_eq_true (List.all_eq_true.mp hin i hx)
      rw [← this, decide_eq_true rfl]; rfl) fun st hst => ?_
  obtain ⟨a9, rfl⟩ := hst
  unfold L_27
  refine Ret.ret (lift2_eq (callD_eq (cons_eq (vr_eq rfl) nil_eq) (isos_eq q4.o q4.j q4.m q4.p)) cst_eq ?_) rfl
  rw [q3]; rfl

end LH
set_option maxHeartbeats 0
namespace LH
open PySem PySem.Spec PyProof.Rows L2
abbrev RWo : PySem.W.OpenRow := PySem.W.OpenLaw.row PySem.Challenge.rw_latticehouse_k64_complements_and_what_is
abbrev hkL : PySem.W.Hook := hookL 4 fal fnl tfl
def obL (s : PySem.W.SharedT) : AlL := obsL 4 fal fnl tfl (HandSHeadRun.getT s)
theorem obL_eq (s : PySem.W.SharedT) : obL s = hkL.obs s.abs := obsL_eq (HandSHeadRun.getT_eq s)
theorem runL_head (w : World) : HandSHeadRun.RunEq RWo (PySem.W.view RWo.prog [51]) hkL obL 3640 [("is_part" : Str), ("shared" : Str), ("below_of" : Str), ("least_of" : Str), ("join_of" : Str), ("turned_over" : Str), ("meet_of" : Str), ("greatest_of" : Str), ("low_of" : Str), ("high_of" : Str), ("complements" : Str), ("within" : Str), ("decide_within" : Str), ("against" : Str), ("atoms" : Str), ("join_all" : Str), ("atoms_below" : Str), ("is_of_sets" : Str), ("cubes" : Str), ("has_bits" : Str), ("_law_box" : Str), ("_law_digits" : Str), ("_law_cell" : Str), ("_law_lattice" : Str), ("_law_closed" : Str), ("_law_subsets" : Str), ("_law_lectic" : Str), ("_law_closure" : Str), ("_law_common" : Str), ("_law_having" : Str), ("_law_inside" : Str), ("_law_table" : Str), ("_law_draw" : Str), ("_law_some" : Str), ("_law_mixed_order" : Str), ("_law_low" : Str), ("_law_high" : Str), ("_law_joins" : Str), ("_law_join" : Str), ("_law_best" : Str), ("_law_meets" : Str), ("_law_meet" : Str), ("_law_same" : Str), ("_law_is_distributive" : Str), ("_law_steps" : Str), ("_law_pairs" : Str), ("_law_all_lots" : Str)] w := by
  intro os
  kernel_rfl
end LH
open PySem PySem.W PySem.Calls PyProof.Rows
theorem PySem.Challenge.cw_latticehouse_k64_complements_and_what_is_holds : PySem.Challenge.rw_latticehouse_k64_complements_and_what_is.Holds := by
  w_on; o_law
  refine HandSHeadRun.head_any (r := OpenLaw.row PySem.Challenge.rw_latticehouse_k64_complements_and_what_is) (q := view (OpenLaw.row PySem.Challenge.rw_latticehouse_k64_complements_and_what_is).prog [51]) (H := LH.hkL) (ob := LH.obL) (M := 3640) (loose := [("is_part" : Str), ("shared" : Str), ("below_of" : Str), ("least_of" : Str), ("join_of" : Str), ("turned_over" : Str), ("meet_of" : Str), ("greatest_of" : Str), ("low_of" : Str), ("high_of" : Str), ("complements" : Str), ("within" : Str), ("decide_within" : Str), ("against" : Str), ("atoms" : Str), ("join_all" : Str), ("atoms_below" : Str), ("is_of_sets" : Str), ("cubes" : Str), ("has_bits" : Str), ("_law_box" : Str), ("_law_digits" : Str), ("_law_cell" : Str), ("_law_lattice" : Str), ("_law_closed" : Str), ("_law_subsets" : Str), ("_law_lectic" : Str), ("_law_closure" : Str), ("_law_common" : Str), ("_law_having" : Str), ("_law_inside" : Str), ("_law_table" : Str), ("_law_draw" : Str), ("_law_some" : Str), ("_law_mixed_order" : Str), ("_law_low" : Str), ("_law_high" : Str), ("_law_joins" : Str), ("_law_join" : Str), ("_law_best" : Str), ("_law_meets" : Str), ("_law_meet" : Str), ("_law_same" : Str), ("_law_is_distributive" : Str), ("_law_steps" : Str), ("_law_pairs" : Str), ("_law_all_lots" : Str)]) (d := HandSHeadRun.topDef (OpenLaw.row PySem.Challenge.rw_latticehouse_k64_complements_and_what_is).prog 51) (kwd := []) LH.obL_eq
    (by kernel_rfl) (fun s => by kernel_rfl) LH.runL_head (by kernel_rfl) (by kernel_rfl) (by kernel_rfl) (by rfl) (by first | assumption | decide +kernel) (by decide +kernel) ⟨rfl, rfl, rfl, rfl, rfl, by decide +kernel⟩ ?hw ?hc
  case hw => w_witness2
  case hc =>
    refine LamX.walk_ofTsE (l := PySem.Challenge.rw_latticehouse_k64_complements_and_what_is) (n := 63) (k := 41) (x := "script") (CX := fun _ => L2.CX0) rfl (by decide) (by kernel_rfl) ⟨rfl, by decide, by decide⟩ ?F (fun _ _ _ _ _ z => z)
    intro w mg fa h Y G hmg0
    obtain ⟨K, KX, c⟩ := Y
    have hmg : mg ("law" : PySem.Str) = some (.ref fa) := by
      have e : (HandSHeadRun.topDef (OpenLaw.row PySem.Challenge.rw_latticehouse_k64_complements_and_what_is).prog 51).name = ("law" : PySem.Str) := by kernel_rfl
      rw [← e]
      exact hmg0
    exact ⟨K, KX, LH.lawAt KX c G hmg LH.law_true⟩

