import PyProof.Rows.All
import Wide.All
import OpenK.AllK
import Wide.FinOn
import HandS.ForMost
import HandS.ForExc
import HandS.TupAny
import HandS.TupMul
import HandS.Deep
import HandS.IsInst
import HandS.More
import HandS.RaiseMore
import HandS.Style
import PyProof.ReprRoads
import KE.GoesMore
import KE.GoesEnum
import HandS.Walk
import HandS.Comp
import HandS.Flow
import HandS.Property
import HandS.Defaults
import Wide.Txt
import KE.IntBitsLaws
import PyProof.StrLawsReplace
import HandS.EndBits
import HandS.ExcCtx
import HandS.MakeKw
import HandS.DictSub
import HandS.Star
import PySem.Challenge.RW_dittorows_k52_cells_written_and_adopted
set_option Elab.async false
set_option linter.all false
set_option maxRecDepth 100000
set_option maxHeartbeats 4000000
/-! D: the data layer: values as trees, what may change as addresses. -/
namespace DL
open PySem L2

/-- data: what never changes as a tree; what may change by its address -/
inductive D where
  | non | bl (b : Bool) | int (i : Int) | str (x : Str) | tup (xs : List D) | lst (xs : List D) | dct | scr (ns : List Int) | ref (a : Addr)
/-- what may change -/
inductive DO where
  | lst (xs : List D)
  | ins (C : Addr) (fs : List (Str × D))
abbrev DH := Addr → Option DO
def dupd (h : DH) (a : Addr) (o : DO) : DH := fun b => if b = a then some o else h b
def ddel (h : DH) (a : Addr) : DH := fun b => if b = a then none else h b
theorem dupd_same {h : DH} {a : Addr} {o : DO} : dupd h a o a = some o := by unfold dupd; rw [if_pos rfl]
theorem dupd_ne {h : DH} {a b : Addr} {o : DO} (e : b ≠ a) : dupd h a o b = h b := by unfold dupd; rw [if_neg e]
theorem dupd_dupd {h : DH} {a : Addr} {o u : DO} : dupd (dupd h a o) a u = dupd h a u := by
  funext b; unfold dupd; split <;> rfl
theorem ddel_ne {h : DH} {a b : Addr} (e : b ≠ a) : ddel h a b = h b := by unfold ddel; rw [if_neg e]
theorem ddel_same {h : DH} {a : Addr} : ddel h a a = none := by unfold ddel; rw [if_pos rfl]
/-- the part of h -/
def DSub (h h' : DH) : Prop := ∀ a o, h a = some o → h' a = some o
theorem DSub.refl (h : DH) : DSub h h := fun _ _ e => e
theorem DSub.trans {h h1 h2 : DH} (a : DSub h h1) (b : DSub h1 h2) : DSub h h2 := fun x o e => b x o (a x o e)
theorem DSub.new {h h' : DH} {a : Addr} {o : DO} (s : DSub h h') (n : h a = none) : DSub h (dupd h' a o) := fun b u e => by
  have hb : b ≠ a := fun q => by subst q; rw [n] at e; cases e
  rw [dupd_ne hb]
  exact s b u e
theorem DSub.del {h h' : DH} {a : Addr} (s : DSub h h') (n : h a = none) : DSub h (ddel h' a) := fun b u e => by
  have hb : b ≠ a := fun q => by subst q; rw [n] at e; cases e
  rw [ddel_ne hb]
  exact s b u e
theorem DSub.none {h h' : DH} {a : Addr} (s : DSub h h') (n : h' a = .none) : h a = .none := by
  cases e : h a with
  | none => rfl
  | some o => rw [s a o e] at n; cases n

abbrev NS := Addr → Prop
section
variable (K : PySem.W.Frag)
/-- a list, a tuple of the written part -/
def KL (a : Addr) (xs : List V) : Prop := ∃ (o : Obj) (its : Array Value) (n : Nat), K.lookup a = some o ∧ o.cls = .type "list" ∧ o.dict = none ∧ o.data = .seq its n ∧ its.size ≤ sizeLine ∧ Vals xs its.toList
def KT (a : Addr) (xs : List V) : Prop := ∃ (o : Obj) (its : Array Value) (n : Nat), K.lookup a = some o ∧ o.cls = .type "tuple" ∧ o.data = .seq its n ∧ its.size ≤ sizeLine ∧ Vals xs its.toList
def FzL (H : Hp) (N : NS) (a : Addr) (xs : List V) : Prop := (¬ N a ∧ Rd H a (.lst xs)) ∨ KL K a xs
def FzT (H : Hp) (N : NS) (a : Addr) (xs : List V) : Prop := (¬ N a ∧ Rd H a (.tup xs)) ∨ KT K a xs
mutual
def Rep (H : Hp) (N : NS) : D → V → Prop
  | .non, v => v = .non
  | .bl b, v => v = .bl b
  | .int i, v => v = .int i
  | .str x, v => v = .str x
  | .tup ds, v => ∃ a xs, v = .ref a ∧ FzT K H N a xs ∧ RepL H N ds xs
  | .lst ds, v => ∃ a xs, v = .ref a ∧ (¬ N a ∧ Rd H a (.lst xs)) ∧ RepL H N ds xs
  | .dct, v => ∃ a, v = .ref a ∧ ¬ N a ∧ Rd H a (.dK [])
  | .scr ns, v => ∃ a, v = .ref a ∧ FzL K H N a (ns.map V.int)
  | .ref a, v => v = .ref a
def RepL (H : Hp) (N : NS) : List D → List V → Prop
  | [], xs => xs = []
  | d :: ds, xs => ∃ x r, xs = x :: r ∧ Rep H N d x ∧ RepL H N ds r
end
def FRep (H : Hp) (N : NS) (fs : List (Str × D)) (gs : List (Str × V)) : Prop := gs.map (·.1) = fs.map (·.1) ∧ RepL K H N (fs.map (·.2)) (gs.map (·.2))
def ORep (H : Hp) (h : DH) (N : NS) (a : Addr) : DO → Prop
  | .lst ds => ∃ xs, H a = some (.lst xs) ∧ RepL K H N ds xs
  | .ins C fs => ∃ dx gs, H a = some (.ins C dx gs) ∧ FRep K H N fs gs
structure HRep (H : Hp) (h : DH) (N : NS) : Prop where
  at_ : ∀ a o, h a = some o → ORep K H h N a o
  un : ∀ a o, h a = some o → N a
end
/-- what was tracked and not in h stays, frozen or not as it was -/
def Ext (H : Hp) (h : DH) (N : NS) (H' : Hp) (h' : DH) (N' : NS) : Prop := ∀ a u, H a = some u → h a = none → H' a = some u ∧ h' a = none ∧ (N' a ↔ N a)
theorem Ext.refl (H : Hp) (h : DH) (N : NS) : Ext H h N H h N := fun _ _ e n => ⟨e, n, Iff.rfl⟩
theorem Ext.trans {H H1 H2 : Hp} {h h1 h2 : DH} {N N1 N2 : NS} (a : Ext H h N H1 h1 N1) (b : Ext H1 h1 N1 H2 h2 N2) : Ext H h N H2 h2 N2 := fun x u e n => by
  obtain ⟨e1, n1, i1⟩ := a x u e n
  obtain ⟨e2, n2, i2⟩ := b x u e1 n1
  exact ⟨e2, n2, i2.trans i1⟩

section
variable {K : PySem.W.Frag} {H H' : Hp} {h h' : DH} {N N' : NS}
theorem FzL.sq {a : Addr} {xs : List V} (f : FzL K H N a xs) : SqL K H a xs := f.elim (fun z => .inl z.2) .inr
theorem FzT.sq {a : Addr} {xs : List V} (f : FzT K H N a xs) : SqT K H a xs := f.elim (fun z => .inl z.2) .inr
theorem rd_ext {a : Addr} {u : HO} (un : ∀ a o, h a = some o → N a) (e : Ext H h N H' h' N') (n : ¬ N a) (r : Rd H a u) : ¬ N' a ∧ Rd H' a u := by
  have hn : h a = none := by
    cases q : h a with
    | none => rfl
    | some o => exact absurd (un a o q) n
  rcases r with r | ⟨o, r⟩
  · obtain ⟨e1, _, i⟩ := e a _ r hn
    exact ⟨fun z => n (i.mp z), .inl e1⟩
  · obtain ⟨e1, _, i⟩ := e a _ r hn
    exact ⟨fun z => n (i.mp z), .inr ⟨o, e1⟩⟩
mutual
theorem Rep.ext (un : ∀ a o, h a = some o → N a) (e : Ext H h N H' h' N') : ∀ (d : D) (v : V), Rep K H N d v → Rep K H' N' d v
  | .non, _, r => r
  | .bl _, _, r => r
  | .int _, _, r => r
  | .str _, _, r => r
  | .tup ds, v, r => by
    simp only [Rep] at r ⊢
    obtain ⟨a, xs, e1, f, r⟩ := r
    exact ⟨a, xs, e1, f.elim (fun z => .inl (rd_ext un e z.1 z.2)) .inr, RepL.ext un e ds xs r⟩
  | .lst ds, v, r => by
    simp only [Rep] at r ⊢
    obtain ⟨a, xs, e1, f, r⟩ := r
    exact ⟨a, xs, e1, rd_ext un e f.1 f.2, RepL.ext un e ds xs r⟩
  | .scr ns, v, r => by
    simp only [Rep] at r ⊢
    obtain ⟨a, e1, f⟩ := r
    exact ⟨a, e1, f.elim (fun z => .inl (rd_ext un e z.1 z.2)) .inr⟩
  | .dct, v, r => by
    simp only [Rep] at r ⊢
    obtain ⟨a, e1, n, r⟩ := r
    obtain ⟨n', r'⟩ := rd_ext un e n r
    exact ⟨a, e1, n', r'⟩
  | .ref _, _, r => r
theorem RepL.ext (un : ∀ a o, h a = some o → N a) (e : Ext H h N H' h' N') : ∀ (ds : List D) (xs : List V), RepL K H N ds xs → RepL K H' N' ds xs
  | [], _, r => r
  | d :: ds, xs, r => by
    simp only [RepL] at r ⊢
    obtain ⟨x, t, e1, r1, r2⟩ := r
    exact ⟨x, t, e1, Rep.ext un e d x r1, RepL.ext un e ds t r2⟩
end
theorem FRep.ext (un : ∀ a o, h a = some o → N a) (e : Ext H h N H' h' N') {fs : List (Str × D)} {gs : List (Str × V)} (r : FRep K H N fs gs) : FRep K H' N' fs gs := ⟨r.1, RepL.ext un e _ _ r.2⟩

/-! lists of representations -/
theorem RepL.nil : RepL K H N [] [] := rfl
theorem RepL.cons {d : D} {v : V} {ds : List D} {vs : List V} (a : Rep K H N d v) (b : RepL K H N ds vs) : RepL K H N (d :: ds) (v :: vs) := ⟨v, vs, rfl, a, b⟩
theorem RepL.length : ∀ {ds : List D} {vs : List V}, RepL K H N ds vs → vs.length = ds.length
  | [], _, r => by cases (show _ = _ from r); rfl
  | d :: ds, vs, r => by
    obtain ⟨x, t, rfl, _, r2⟩ := r
    rw [List.length_cons, List.length_cons, RepL.length r2]
theorem RepL.get : ∀ {ds : List D} {vs : List V} {i : Nat} {v : V}, RepL K H N ds vs → vs[i]? = some v → ∃ d, ds[i]? = some d ∧ Rep K H N d v
  | [], _, _, _, r, e => by cases (show _ = _ from r); simp at e
  | d :: ds, vs, 0, v, r, e => by
    obtain ⟨x, t, rfl, r1, r2⟩ := r
    simp at e; subst e
    exact ⟨d, rfl, r1⟩
  | d :: ds, vs, i + 1, v, r, e => by
    obtain ⟨x, t, rfl, r1, r2⟩ := r
    simp at e
    obtain ⟨d', h1, h2⟩ := RepL.get r2 e
    exact ⟨d', by simpa using h1, h2⟩
theorem RepL.getD : ∀ {ds : List D} {vs : List V} {i : Nat} {d : D}, RepL K H N ds vs → ds[i]? = some d → ∃ v, vs[i]? = some v ∧ Rep K H N d v
  | [], _, _, _, _, e => by simp at e
  | d :: ds, vs, 0, d', r, e => by
    obtain ⟨x, t, rfl, r1, r2⟩ := r
    simp at e; subst e
    exact ⟨x, rfl, r1⟩
  | d :: ds, vs, i + 1, d', r, e => by
    obtain ⟨x, t, rfl, r1, r2⟩ := r
    simp at e
    obtain ⟨v, h1, h2⟩ := RepL.getD r2 e
    exact ⟨v, by simpa using h1, h2⟩
theorem RepL.append : ∀ {ds es : List D} {vs ws : List V}, RepL K H N ds vs → RepL K H N es ws → RepL K H N (ds ++ es) (vs ++ ws)
  | [], _, _, _, r, s => by cases (show _ = _ from r); exact s
  | d :: ds, es, vs, ws, r, s => by
    obtain ⟨x, t, rfl, r1, r2⟩ := r
    exact ⟨x, t ++ ws, rfl, r1, RepL.append r2 s⟩
theorem RepL.take : ∀ {ds : List D} {vs : List V} (n : Nat), RepL K H N ds vs → RepL K H N (ds.take n) (vs.take n)
  | _, _, 0, _ => rfl
  | [], _, _ + 1, r => by cases (show _ = _ from r); rfl
  | d :: ds, vs, n + 1, r => by
    obtain ⟨x, t, rfl, r1, r2⟩ := r
    exact ⟨x, t.take n, rfl, r1, RepL.take n r2⟩
theorem RepL.drop : ∀ {ds : List D} {vs : List V} (n : Nat), RepL K H N ds vs → RepL K H N (ds.drop n) (vs.drop n)
  | _, _, 0, r => r
  | [], _, _ + 1, r => by cases (show _ = _ from r); rfl
  | d :: ds, vs, n + 1, r => by
    obtain ⟨x, t, rfl, r1, r2⟩ := r
    exact RepL.drop n r2
theorem RepL.set : ∀ {ds : List D} {vs : List V} {d : D} {v : V} (i : Nat), Rep K H N d v → RepL K H N ds vs → RepL K H N (ds.set i d) (vs.set i v)
  | [], _, _, _, _, _, r => by cases (show _ = _ from r); exact rfl
  | _ :: ds, vs, d, v, 0, a, r => by
    obtain ⟨x, t, rfl, r1, r2⟩ := r
    exact ⟨v, t, rfl, a, r2⟩
  | c :: ds, vs, d, v, i + 1, a, r => by
    obtain ⟨x, t, rfl, r1, r2⟩ := r
    exact ⟨x, t.set i v, rfl, r1, RepL.set i a r2⟩
theorem RepL.reverse {ds : List D} {vs : List V} (r : RepL K H N ds vs) : RepL K H N ds.reverse vs.reverse := by
  induction ds generalizing vs with
  | nil => cases (show _ = _ from r); rfl
  | cons d ds ih =>
    obtain ⟨x, t, rfl, r1, r2⟩ := r
    rw [List.reverse_cons, List.reverse_cons]
    exact (ih r2).append ⟨x, [], rfl, r1, rfl⟩
theorem RepL.eraseIdx : ∀ {ds : List D} {vs : List V} (i : Nat), RepL K H N ds vs → RepL K H N (ds.eraseIdx i) (vs.eraseIdx i)
  | [], _, _, r => by cases (show _ = _ from r); exact rfl
  | _ :: ds, vs, 0, r => by
    obtain ⟨x, t, rfl, r1, r2⟩ := r
    exact r2
  | c :: ds, vs, i + 1, r => by
    obtain ⟨x, t, rfl, r1, r2⟩ := r
    exact ⟨x, t.eraseIdx i, rfl, r1, RepL.eraseIdx i r2⟩
theorem RepL.ints : ∀ {is : List Int} {vs : List V}, RepL K H N (is.map D.int) vs → vs = is.map V.int
  | [], _, r => r
  | i :: is, vs, r => by
    obtain ⟨x, t, rfl, r1, r2⟩ := r
    cases (show x = _ from r1)
    rw [RepL.ints r2]
    rfl
theorem RepL.of_ints : ∀ (is : List Int), RepL K H N (is.map D.int) (is.map V.int)
  | [] => rfl
  | i :: is => ⟨_, _, rfl, rfl, RepL.of_ints is⟩
theorem RepL.strs : ∀ {is : List Str} {vs : List V}, RepL K H N (is.map D.str) vs → vs = is.map V.str
  | [], _, r => r
  | i :: is, vs, r => by
    obtain ⟨x, t, rfl, r1, r2⟩ := r
    cases (show x = _ from r1)
    rw [RepL.strs r2]
    rfl
theorem RepL.of_strs : ∀ (is : List Str), RepL K H N (is.map D.str) (is.map V.str)
  | [] => rfl
  | i :: is => ⟨_, _, rfl, rfl, RepL.of_strs is⟩
theorem RepL.bls : ∀ {is : List Bool} {vs : List V}, RepL K H N (is.map D.bl) vs → vs = is.map V.bl
  | [], _, r => r
  | i :: is, vs, r => by
    obtain ⟨x, t, rfl, r1, r2⟩ := r
    cases (show x = _ from r1)
    rw [RepL.bls r2]
    rfl

/-! the heaps -/
theorem HRep.none (R : HRep K H h N) {a : Addr} (n : H a = none) : h a = none := by
  cases q : h a with
  | none => rfl
  | some o =>
    have z := R.at_ a o q
    cases o with
    | lst ds => obtain ⟨xs, e, _⟩ := z; rw [n] at e; cases e
    | ins C fs => obtain ⟨dx, gs, e, _⟩ := z; rw [n] at e; cases e
/-- ORep at other heaps -/
theorem ORep.ext (un : ∀ a o, h a = some o → N a) (e : Ext H h N H' h' N') {a : Addr} {o : DO} (keep : ∀ u, H a = some u → H' a = some u) (r : ORep K H h N a o) : ORep K H' h' N' a o := by
  cases o with
  | lst ds => obtain ⟨xs, q, r⟩ := r; exact ⟨xs, keep _ q, RepL.ext un e _ _ r⟩
  | ins C fs => obtain ⟨dx, gs, q, r⟩ := r; exact ⟨dx, gs, keep _ q, r.ext un e⟩
/-- a new thing that is not tracked here: frozen -/
theorem HRep.new (R : HRep K H h N) {p : Addr} {o : HO} (n : H p = .none) : HRep K (upd H p o) h (fun a => N a ∧ a ≠ p) ∧ Ext H h N (upd H p o) h (fun a => N a ∧ a ≠ p) := by
  have e : Ext H h N (upd H p o) h (fun a => N a ∧ a ≠ p) := fun a u q hn => by
    have hp : a ≠ p := ne_of_none q n
    exact ⟨by rw [upd_ne hp]; exact q, hn, ⟨fun z => z.1, fun z => ⟨z, hp⟩⟩⟩
  have np : ∀ a o, h a = some o → a ≠ p := fun a o q z => by subst z; rw [R.none n] at q; cases q
  exact ⟨⟨fun a o q => (R.at_ a o q).ext R.un e fun u z => by rw [upd_ne (np a o q)]; exact z, fun a o q => ⟨R.un a o q, np a o q⟩⟩, e⟩
/-- a new thing that may change -/
theorem HRep.newM (R : HRep K H h N) {p : Addr} {o : HO} {d : DO} (n : H p = .none) (ho : ORep K (upd H p o) (dupd h p d) (fun a => N a ∨ a = p) p d) :
    HRep K (upd H p o) (dupd h p d) (fun a => N a ∨ a = p) ∧ Ext H h N (upd H p o) (dupd h p d) (fun a => N a ∨ a = p) := by
  have e : Ext H h N (upd H p o) (dupd h p d) (fun a => N a ∨ a = p) := fun a u q hn => by
    have hp : a ≠ p := ne_of_none q n
    exact ⟨by rw [upd_ne hp]; exact q, by rw [dupd_ne hp]; exact hn, ⟨fun z => z.elim id fun z => absurd z hp, .inl⟩⟩
  refine ⟨⟨fun a u q => ?_, fun a u q => ?_⟩, e⟩
  · by_cases hp : a = p
    · subst hp; rw [dupd_same] at q; cases q; exact ho
    · rw [dupd_ne hp] at q
      exact (R.at_ a u q).ext R.un e fun w z => by rw [upd_ne hp]; exact z
  · by_cases hp : a = p
    · exact .inr hp
    · rw [dupd_ne hp] at q
      exact .inl (R.un a u q)
/-- a thing of h is changed -/
theorem HRep.mut (R : HRep K H h N) {p : Addr} {o : HO} {d d' : DO} (hp : h p = some d) (ho : ORep K (upd H p o) (dupd h p d') N p d') :
    HRep K (upd H p o) (dupd h p d') N ∧ Ext H h N (upd H p o) (dupd h p d') N := by
  have e : Ext H h N (upd H p o) (dupd h p d') N := fun a u q hn => by
    have hne : a ≠ p := fun z => by subst z; rw [hp] at hn; cases hn
    exact ⟨by rw [upd_ne hne]; exact q, by rw [dupd_ne hne]; exact hn, Iff.rfl⟩
  refine ⟨⟨fun a u q => ?_, fun a u q => ?_⟩, e⟩
  · by_cases hne : a = p
    · subst hne; rw [dupd_same] at q; cases q; exact ho
    · rw [dupd_ne hne] at q
      exact (R.at_ a u q).ext R.un e fun w z => by rw [upd_ne hne]; exact z
  · by_cases hne : a = p
    · subst hne; exact R.un _ _ hp
    · rw [dupd_ne hne] at q
      exact R.un a u q
/-- less is tracked -/
theorem HRep.sub (R : HRep K H h' N) (s : DSub h h') : HRep K H h N := by
  have e : Ext H h' N H h N := fun a u q hn => ⟨q, s.none hn, Iff.rfl⟩
  exact ⟨fun a o q => (R.at_ a o (s a o q)).ext R.un e fun _ z => z, fun a o q => R.un a o (s a o q)⟩
theorem Ext.sub {H0 : Hp} {h0 : DH} {N0 : NS} (e : Ext H0 h0 N0 H h' N) (s : DSub h h') : Ext H0 h0 N0 H h N := fun a u q hn => by
  obtain ⟨e1, n1, i⟩ := e a u q hn
  exact ⟨e1, s.none n1, i⟩
/-- a list is frozen -/
theorem HRep.freeze (R : HRep K H h N) {p : Addr} {ds : List D} (hp : h p = some (.lst ds)) :
    HRep K H (ddel h p) (fun a => N a ∧ a ≠ p) ∧ Ext H h N H (ddel h p) (fun a => N a ∧ a ≠ p) ∧ Rep K H (fun a => N a ∧ a ≠ p) (.lst ds) (.ref p) := by
  have e : Ext H h N H (ddel h p) (fun a => N a ∧ a ≠ p) := fun a u q hn => by
    have hne : a ≠ p := fun z => by subst z; rw [hp] at hn; cases hn
    exact ⟨q, by rw [ddel_ne hne]; exact hn, ⟨fun z => z.1, fun z => ⟨z, hne⟩⟩⟩
  refine ⟨⟨fun a u q => ?_, fun a u q => ?_⟩, e, ?_⟩
  · by_cases hne : a = p
    · subst hne; rw [ddel_same] at q; cases q
    · rw [ddel_ne hne] at q
      exact (R.at_ a u q).ext R.un e fun _ z => z
  · by_cases hne : a = p
    · subst hne; rw [ddel_same] at q; cases q
    · rw [ddel_ne hne] at q
      exact ⟨R.un a u q, hne⟩
  · obtain ⟨xs, q, r⟩ := R.at_ p _ hp
    exact ⟨p, xs, rfl, ⟨fun z => z.2 rfl, .inl q⟩, RepL.ext R.un e _ _ r⟩
end

/-! ### readings over data -/
abbrev DSt := List (Option D)
abbrev FS := List (Str × D)
abbrev DK := D → DH → Prop
/-- an exception: its class, its fields, the heap -/
abbrev DX := Addr → FS → DH → Prop
abbrev DE := DSt → DH → DK → DX → Prop
abbrev DT := DSt → DH → (Bool → DH → Prop) → DX → Prop
abbrev DA := DSt → DH → (List D → DH → Prop) → DX → Prop
structure DEnds where
  nx : DSt → DH → Prop
  rt : DK
  bk : DSt → DH → Prop := fun _ _ => False
  ct : DSt → DH → Prop := fun _ _ => False
  ex : Addr → FS → DSt → DH → Prop := fun _ _ _ _ => False
abbrev DS := DEnds → DSt → DH → Prop
abbrev DSp := List D → DH → DK → DX → Prop

section
variable (K : PySem.W.Frag)
structure SRep (H : Hp) (N : NS) (τ : DSt) (σ : L2.St) : Prop where
  len : σ.length = τ.length
  get : ∀ (i : Nat) d, τ[i]? = some (some d) → ∃ v, σ[i]? = some (some v) ∧ Rep K H N d v
def XRep (H : Hp) (N : NS) (fs : FS) : Option Addr → Prop
  | none => fs = []
  | some dx => fs ≠ [] ∧ ∃ gs, H dx = some (.xd gs) ∧ FRep K H N fs gs
def EXc (W : WX) (σ : L2.St) (H : Hp) (h : DH) (N : NS) (X0 : DX) : Prop := ∀ C fs h' N' H' d, X0 C fs h' → Ext H h N H' h' N' → HRep K H' h' N' → XRep K H' N' fs d → W (.ref C) d σ H'
def Post (H : Hp) (h : DH) (N : NS) (Q0 : DK) (Q : VK) : Prop := ∀ d h' N' v H', Q0 d h' → Ext H h N H' h' N' → HRep K H' h' N' → Rep K H' N' d v → Q v H'
def PostT (H : Hp) (h : DH) (N : NS) (Q0 : Bool → DH → Prop) (Q : Bool → Hp → Prop) : Prop := ∀ d h' N' H', Q0 d h' → Ext H h N H' h' N' → HRep K H' h' N' → Q d H'
def PostA (H : Hp) (h : DH) (N : NS) (Q0 : List D → DH → Prop) (Q : List V → Hp → Prop) : Prop := ∀ d h' N' v H', Q0 d h' → Ext H h N H' h' N' → HRep K H' h' N' → RepL K H' N' d v → Q v H'
def liftE (W : WX) (t : DE) : TE := fun σ H Q => ∃ τ h N Q0 X0, SRep K H N τ σ ∧ HRep K H h N ∧ t τ h Q0 X0 ∧ Post K H h N Q0 Q ∧ EXc K W σ H h N X0
def liftT (W : WX) (t : DT) : TT := fun σ H Q => ∃ τ h N Q0 X0, SRep K H N τ σ ∧ HRep K H h N ∧ t τ h Q0 X0 ∧ PostT K H h N Q0 Q ∧ EXc K W σ H h N X0
def liftA (W : WX) (t : DA) : TA := fun σ H Q => ∃ τ h N Q0 X0, SRep K H N τ σ ∧ HRep K H h N ∧ t τ h Q0 X0 ∧ PostA K H h N Q0 Q ∧ EXc K W σ H h N X0
structure Under (W : WX) (H : Hp) (h : DH) (N : NS) (D0 : DEnds) (D : Ends) : Prop where
  nx : ∀ τ' h' N' σ' H', D0.nx τ' h' → Ext H h N H' h' N' → SRep K H' N' τ' σ' → HRep K H' h' N' → D.nx σ' H'
  rt : Post K H h N D0.rt D.rt
  bk : ∀ τ' h' N' σ' H', D0.bk τ' h' → Ext H h N H' h' N' → SRep K H' N' τ' σ' → HRep K H' h' N' → D.bk σ' H'
  ct : ∀ τ' h' N' σ' H', D0.ct τ' h' → Ext H h N H' h' N' → SRep K H' N' τ' σ' → HRep K H' h' N' → D.ct σ' H'
  ex : ∀ C fs τ' h' N' σ' H' d, D0.ex C fs τ' h' → Ext H h N H' h' N' → SRep K H' N' τ' σ' → HRep K H' h' N' → XRep K H' N' fs d → W (.ref C) d σ' H'
def liftS (W : WX) (t : DS) : TS := fun D σ H => ∃ τ h N D0, SRep K H N τ σ ∧ HRep K H h N ∧ t D0 τ h ∧ Under K W H h N D0 D
def liftSp (sp : DSp) : Sp := fun vs H Q E => ∃ ds h N Q0 X0, RepL K H N ds vs ∧ HRep K H h N ∧ sp ds h Q0 X0 ∧ Post K H h N Q0 Q ∧ EXc K (fun c d _ H => E c d H) [] H h N X0
end
section
variable {K : PySem.W.Frag} {W : WX} {H H' H1 : Hp} {h h' h1 : DH} {N N' N1 : NS} {τ : DSt} {σ : L2.St}
theorem SRep.ext (un : ∀ a o, h a = some o → N a) (e : Ext H h N H' h' N') (r : SRep K H N τ σ) : SRep K H' N' τ σ := ⟨r.len, fun i d q => by
  obtain ⟨v, e1, r1⟩ := r.get i d q
  exact ⟨v, e1, Rep.ext un e _ _ r1⟩⟩
theorem SRep.set {i : Nat} {d : D} {v : V} (r : SRep K H N τ σ) (rv : Rep K H N d v) : SRep K H N (τ.set i (some d)) (σ.set i (some v)) := ⟨by rw [List.length_set, List.length_set]; exact r.len, fun j d' q => by
  by_cases hj : i = j
  · subst hj
    by_cases hi : i < τ.length
    · rw [List.getElem?_set_self hi] at q
      cases q
      exact ⟨v, List.getElem?_set_self (by rw [r.len]; exact hi), rv⟩
    · rw [List.getElem?_eq_none_iff.mpr (by rw [List.length_set]; omega)] at q
      cases q
  · rw [List.getElem?_set_ne hj] at q
    obtain ⟨v', e1, r1⟩ := r.get j d' q
    exact ⟨v', by rw [List.getElem?_set_ne hj]; exact e1, r1⟩⟩
theorem Post.ext (e : Ext H h N H1 h1 N1) {Q0 : DK} {Q : VK} (p : Post K H h N Q0 Q) : Post K H1 h1 N1 Q0 Q := fun d h' N' v H' q e' R r => p d h' N' v H' q (e.trans e') R r
theorem PostT.ext (e : Ext H h N H1 h1 N1) {Q0 : Bool → DH → Prop} {Q : Bool → Hp → Prop} (p : PostT K H h N Q0 Q) : PostT K H1 h1 N1 Q0 Q := fun d h' N' H' q e' R => p d h' N' H' q (e.trans e') R
theorem PostA.ext (e : Ext H h N H1 h1 N1) {Q0 : List D → DH → Prop} {Q : List V → Hp → Prop} (p : PostA K H h N Q0 Q) : PostA K H1 h1 N1 Q0 Q := fun d h' N' v H' q e' R r => p d h' N' v H' q (e.trans e') R r
theorem EXc.ext (e : Ext H h N H1 h1 N1) {X0 : DX} (p : EXc K W σ H h N X0) : EXc K W σ H1 h1 N1 X0 := fun C fs h' N' H' d q e' R r => p C fs h' N' H' d q (e.trans e') R r
theorem Under.ext (e : Ext H h N H1 h1 N1) {D0 : DEnds} {D : Ends} (u : Under K W H h N D0 D) : Under K W H1 h1 N1 D0 D :=
  ⟨fun τ' h' N' σ' H' q e' => u.nx τ' h' N' σ' H' q (e.trans e'), u.rt.ext e, fun τ' h' N' σ' H' q e' => u.bk τ' h' N' σ' H' q (e.trans e'), fun τ' h' N' σ' H' q e' => u.ct τ' h' N' σ' H' q (e.trans e'), fun C fs τ' h' N' σ' H' d q e' => u.ex C fs τ' h' N' σ' H' d q (e.trans e')⟩
/-- a wish of an expression out of the wish of a statement -/
theorem Under.exc {D0 : DEnds} {D : Ends} (u : Under K W H h N D0 D) (S : SRep K H N τ σ) (un : ∀ a o, h a = some o → N a) : EXc K W σ H h N (fun C fs h' => D0.ex C fs τ h') := fun C fs h' N' H' d q e R r =>
  u.ex C fs τ h' N' σ H' d q e (S.ext un e) R r
end

/-! weaker readings -/
theorem PE.imp {X : Cx} {e : Expr} {t t' : TE} (p : PE X e t) (i : ∀ σ H Q, t' σ H Q → t σ H Q) : PE X e t' := ⟨fun pins s σ H Q I h => p.run pins s σ H Q I (i σ H Q h)⟩
theorem PT.imp {X : Cx} {e : Expr} {t t' : TT} (p : PT X e t) (i : ∀ σ H Q, t' σ H Q → t σ H Q) : PT X e t' := ⟨fun pins s σ H Q I h => p.run pins s σ H Q I (i σ H Q h)⟩
theorem PA.imp {X : Cx} {e : List Expr} {t t' : TA} (p : PA X e t) (i : ∀ σ H Q, t' σ H Q → t σ H Q) : PA X e t' := ⟨fun pos pins s σ H Q I h => p.run pos pins s σ H Q I (i σ H Q h)⟩
theorem PS.imp {X : Cx} {e : Stmt} {t t' : TS} (p : PS X e t) (i : ∀ D σ H, t' D σ H → t D σ H) : PS X e t' := ⟨fun pins s σ H D I h => p.run pins s σ H D I (i D σ H h)⟩
theorem PSs.imp {X : Cx} {e : List Stmt} {t t' : TS} (p : PSs X e t) (i : ∀ D σ H, t' D σ H → t D σ H) : PSs X e t' := ⟨fun pins s σ H D I h => p.run pins s σ H D I (i D σ H h)⟩
end DL

/-! D2: expressions over data. -/
namespace DL
open PySem PySem.Spec L2 PyProof.Rows

/-! ### combinators -/
def dVar (i : Nat) : DE := fun τ h Q _ => match τ[i]? with | some (some d) => Q d h | _ => False
def dC (d : D) : DE := fun _ h Q _ => Q d h
def dOp (r : D → D → DH → DK → Prop) (ta tb : DE) : DE := fun τ h Q X => ta τ h (fun x h1 => tb τ h1 (fun y h2 => r x y h2 Q) X) X
def dUn (r : D → DH → DK → Prop) (ta : DE) : DE := fun τ h Q X => ta τ h (fun x h1 => r x h1 Q) X
def dTest (t : DE) : DT := fun τ h Q X => t τ h (fun x h1 => match x with | .bl b => Q b h1 | _ => False) X
def dAnd (t u : DT) : DT := fun τ h Q X => t τ h (fun c h1 => (c = true → u τ h1 Q X) ∧ (c = false → Q false h1)) X
def dOr (t u : DT) : DT := fun τ h Q X => t τ h (fun c h1 => (c = true → Q true h1) ∧ (c = false → u τ h1 Q X)) X
def dNot (t : DT) : DT := fun τ h Q X => t τ h (fun c h1 => Q (!c) h1) X
def dAndV (t u : DE) : DE := fun τ h Q X => t τ h (fun x h1 => match x with | .bl c => (c = true → u τ h1 Q X) ∧ (c = false → Q (.bl false) h1) | _ => False) X
def dOrV (t u : DE) : DE := fun τ h Q X => t τ h (fun x h1 => match x with | .bl c => (c = true → Q (.bl true) h1) ∧ (c = false → u τ h1 Q X) | _ => False) X
def dNotV (t : DE) : DE := fun τ h Q X => t τ h (fun x h1 => match x with | .bl c => Q (.bl (!c)) h1 | _ => False) X
def dIfE (t : DT) (ta tb : DE) : DE := fun τ h Q X => t τ h (fun c h1 => (c = true → ta τ h1 Q X) ∧ (c = false → tb τ h1 Q X)) X
def dChain (r r' : D → D → DH → DK → Prop) (ta tb tc : DE) : DE := fun τ h Q X => ta τ h (fun x h1 => tb τ h1 (fun y h2 => r x y h2 (fun z h3 => match z with
  | .bl k => (k = true → tc τ h3 (fun w h4 => r' y w h4 Q) X) ∧ (k = false → Q (.bl false) h3)
  | _ => False)) X) X
def dNil : DA := fun _ h Q _ => Q [] h
def dCons (ta : DE) (tr : DA) : DA := fun τ h Q X => ta τ h (fun x h1 => tr τ h1 (fun xs h2 => Q (x :: xs) h2) X) X
def dTup (t : DA) : DE := fun τ h Q X => t τ h (fun xs h1 => xs.length ≤ sizeLine ∧ Q (.tup xs) h1) X
/-- a new list, never changed | one that will change -/
def dLst (t : DA) : DE := fun τ h Q X => t τ h (fun xs h1 => xs.length ≤ sizeLine ∧ Q (.lst xs) h1) X
def dLstM (t : DA) : DE := fun τ h Q X => t τ h (fun xs h1 => xs.length ≤ sizeLine ∧ ∀ p, h1 p = none → Q (.ref p) (dupd h1 p (.lst xs))) X
def dCB (r : List D → DH → DK → Prop) (t : DA) : DE := fun τ h Q X => t τ h (fun xs h1 => r xs h1 Q) X
def dTy (T : String) (x : D) (h : DH) : Prop := match x with
  | .str _ => T = "str"
  | .int _ => T = "int"
  | .lst _ => T = "list"
  | .scr _ => T = "list"
  | .ref a => T = "list" ∧ ∃ ds, h a = some (.lst ds)
  | _ => False
def dBM (T : String) (r : D → List D → DH → DK → Prop) (to : DE) (t : DA) : DE := fun τ h Q X => to τ h (fun x h1 => dTy T x h1 ∧ t τ h1 (fun xs h2 => r x xs h2 Q) X) X
/-- a tracked list is never changed from here on -/
def dFrz (t : DE) : DE := fun τ h Q X => t τ h (fun x h1 => match x with
  | .ref a => (match h1 a with | some (.lst ds) => Q (.lst ds) (ddel h1 a) | _ => False)
  | x => Q x h1) X
abbrev DO' := DSt → DH → (Option Int → DH → Prop) → DX → Prop
def dNoPart : DO' := fun _ h Q _ => Q none h
def dPart (t : DE) : DO' := fun τ h Q X => t τ h (fun x h1 => match x with | .int i => Q (some i) h1 | _ => False) X
def dSl (r : D → Option Int → Option Int → DH → DK → Prop) (te : DE) (tl th : DO') : DE := fun τ h Q X => te τ h (fun x h1 => tl τ h1 (fun l h2 => th τ h2 (fun u h3 => r x l u h3 Q) X) X) X

/-! ### by values -/
section
variable (K : PySem.W.Frag)
def lift2 (r : D → D → DH → DK → Prop) : R2 := fun v u H Q => ∃ x y h N Q0, Rep K H N x v ∧ Rep K H N y u ∧ HRep K H h N ∧ r x y h Q0 ∧ Post K H h N Q0 Q
def lift1 (r : D → DH → DK → Prop) : V → Hp → VK → Prop := fun v H Q => ∃ x h N Q0, Rep K H N x v ∧ HRep K H h N ∧ r x h Q0 ∧ Post K H h N Q0 Q
def liftC (r : List D → DH → DK → Prop) : List V → Hp → VK → Prop := fun vs H Q => ∃ xs h N Q0, RepL K H N xs vs ∧ HRep K H h N ∧ r xs h Q0 ∧ Post K H h N Q0 Q
def liftM (r : D → List D → DH → DK → Prop) : V → List V → Hp → VK → Prop := fun v vs H Q => ∃ x xs h N Q0, Rep K H N x v ∧ RepL K H N xs vs ∧ HRep K H h N ∧ r x xs h Q0 ∧ Post K H h N Q0 Q
def liftSl (r : D → Option Int → Option Int → DH → DK → Prop) : V → Option Int → Option Int → Hp → VK → Prop := fun v lo hi H Q => ∃ x h N Q0, Rep K H N x v ∧ HRep K H h N ∧ r x lo hi h Q0 ∧ Post K H h N Q0 Q
def liftO (W : WX) (t : DO') : TO := fun σ H Q => ∃ τ h N Q0 X0, SRep K H N τ σ ∧ HRep K H h N ∧ t τ h Q0 X0 ∧ (∀ o h' N' H', Q0 o h' → Ext H h N H' h' N' → HRep K H' h' N' → Q o H') ∧ EXc K W σ H h N X0
end

section
variable {X : Cx} {W : WX} {a b c e o : Expr} {es rest : List Expr} {ta tb tc te : DE} {t u : DT} {pos pos' : Pos} {r r' : D → D → DH → DK → Prop} {tr : DA}
abbrev DEp (X : Cx) (W : WX) (e : Expr) (t : DE) : Prop := PE X e (liftE X.K W t)
abbrev DTp (X : Cx) (W : WX) (e : Expr) (t : DT) : Prop := PT X e (liftT X.K W t)
abbrev DTw (X : Cx) (W : WX) (e : Expr) (t : DT) : Prop := PW X e (liftT X.K W t)
abbrev DAp (X : Cx) (W : WX) (e : List Expr) (t : DA) : Prop := PA X e (liftA X.K W t)
abbrev DSp' (X : Cx) (W : WX) (e : Stmt) (t : DS) : Prop := PS X e (liftS X.K W t)
abbrev DSs (X : Cx) (W : WX) (e : List Stmt) (t : DS) : Prop := PSs X e (liftS X.K W t)
abbrev DOp (X : Cx) (W : WX) (e : Option Expr) (t : DO') : Prop := PO X e (liftO X.K W t)
abbrev OpD (X : Cx) (f : Value → Value → Sem Value) (r : D → D → DH → DK → Prop) : Prop := OpR X f (lift2 X.K r)
abbrev CallD (X : Cx) (f : Value) (r : List D → DH → DK → Prop) : Prop := CallR X f (liftC X.K r)
abbrev MtD (X : Cx) (id : String) (r : D → List D → DH → DK → Prop) : Prop := MtR X id (liftM X.K r)
abbrev SlD (X : Cx) (r : D → Option Int → Option Int → DH → DK → Prop) : Prop := SlR X (liftSl X.K r)
abbrev IxD (X : Cx) (r : D → D → DH → DK → Prop) : Prop := IxR X (lift2 X.K r)

theorem PW.imp {X : Cx} {e : Expr} {t t' : TT} (p : PW X e t) (i : ∀ σ H Q, t' σ H Q → t σ H Q) : PW X e t' := ⟨fun wh pins s σ H Q I h => p.run wh pins s σ H Q I (i σ H Q h)⟩
theorem PO.imp {X : Cx} {e : Option Expr} {t t' : TO} (p : PO X e t) (i : ∀ σ H Q, t' σ H Q → t σ H Q) : PO X e t' := ⟨fun pins s σ H Q I h => p.run pins s σ H Q I (i σ H Q h)⟩

/-- a value that costs nothing -/
theorem post_at {K : PySem.W.Frag} {H : Hp} {h : DH} {N : NS} {Q0 : DK} {Q : VK} (p : Post K H h N Q0 Q) (R : HRep K H h N) {d : D} {v : V} (q : Q0 d h) (r : Rep K H N d v) : Q v H := p d h N v H q (Ext.refl _ _ _) R r

theorem d_var (i : Nat) {x : Str} {pos : Pos} (hN : X.N[i]? = some x := by rfl) (hv : Vis X.env.scope x := by first | exact Or.inl rfl | exact Or.inr (Or.inl rfl) | exact Or.inr (Or.inr rfl)) (hd : (x == ("__debug__" : Str)) = false := by decide)
    (hcd : (x == ("__classdict__" : Str)) = false := by decide) : DEp X W (.Name x pos) (dVar i) := PE.imp (pe_var hN hv hd hcd) fun σ H Q ⟨τ, h, N, Q0, X0, S, R, t, p, ex⟩ => by
  unfold dVar at t
  cases e : τ[i]? with
  | none => rw [e] at t; exact t.elim
  | some o =>
    cases o with
    | none => rw [e] at t; exact t.elim
    | some d =>
      rw [e] at t
      obtain ⟨v, ev, rv⟩ := S.get i d e
      exact ⟨v, ev, post_at p R t rv⟩
theorem d_const {d : D} {v : V} (he : PE X e (tC v)) (r : ∀ (H : Hp) N, Rep X.K H N d v) : DEp X W e (dC d) := PE.imp he fun σ H Q ⟨τ, h, N, Q0, X0, S, R, t, p, ex⟩ => post_at p R t (r H N)
theorem d_int {i : Int} {j pos} : DEp X W (.Constant (.int i) j pos) (dC (.int i)) := d_const pe_int fun _ _ => rfl
theorem d_bl {b j pos} : DEp X W (.Constant (.bool b) j pos) (dC (.bl b)) := d_const pe_bl fun _ _ => rfl
theorem d_non {j pos} : DEp X W (.Constant .none j pos) (dC .non) := d_const pe_non fun _ _ => rfl
theorem d_str {x j pos} : DEp X W (.Constant (.str x) j pos) (dC (.str x)) := d_const pe_str fun _ _ => rfl
/-- a module's constant -/
theorem d_globI {x : Str} {i : Int} {u : Value} {pos : Pos} (hg : Gl X x) (hm : X.mg x = some u) (r : RelV (.int i) u) (hd : (x == ("__debug__" : Str)) = false := by decide) : DEp X W (.Name x pos) (dC (.int i)) := d_const (pe_glob hg hm r hd) fun _ _ => rfl
theorem d_globS {x z : Str} {u : Value} {pos : Pos} (hg : Gl X x) (hm : X.mg x = some u) (r : RelV (.str z) u) (hd : (x == ("__debug__" : Str)) = false := by decide) : DEp X W (.Name x pos) (dC (.str z)) := d_const (pe_glob hg hm r hd) fun _ _ => rfl

theorem lift_op {K : PySem.W.Frag} {σ : L2.St} {H : Hp} {Q : VK} (z : liftE K W (dOp r ta tb) σ H Q) : tOp (lift2 K r) (liftE K W ta) (liftE K W tb) σ H Q := by
  obtain ⟨τ, h, N, Q0, X0, S, R, t, p, ex⟩ := z
  refine ⟨τ, h, N, _, X0, S, R, t, fun x h1 N1 v H1 q e R1 rx => ⟨τ, h1, N1, _, X0, S.ext R.un e, R1, q, fun y h2 N2 u H2 q2 e2 R2 ry => ?_, ex.ext e⟩, ex⟩
  exact ⟨x, y, h2, N2, Q0, Rep.ext R1.un e2 _ _ rx, ry, R2, q2, p.ext (e.trans e2)⟩
theorem d_op {op : Operator} (ho : OpD X (binaryOp op) r) (ha : DEp X W a ta) (hb : DEp X W b tb) : DEp X W (.BinOp a op b pos) (dOp r ta tb) := PE.imp (pe_op ho ha hb) fun _ _ _ z => lift_op z
theorem d_cmp {op : CmpOp} (ho : OpD X (compareOp op) r) (ha : DEp X W a ta) (hb : DEp X W b tb) (hm : behindInMarks op b = false := by first | exact nomark _ | with_unfolding_all rfl) : DEp X W (.Compare a [op] [b] pos) (dOp r ta tb) := PE.imp (pe_cmpR ho ha hb hm) fun _ _ _ z => lift_op z
theorem lift_test {K : PySem.W.Frag} {σ : L2.St} {H : Hp} {Q : Bool → Hp → Prop} {T : TE} (hT : ∀ Q, liftE K W te σ H Q → T σ H Q) (z : liftT K W (dTest te) σ H Q) : tTest T σ H Q := by
  obtain ⟨τ, h, N, Q0, X0, S, R, t, p, ex⟩ := z
  refine hT _ ⟨τ, h, N, _, X0, S, R, t, fun x h1 N1 v H1 q e R1 rx => ?_, ex⟩
  cases x with
  | bl b =>
    cases (show v = _ from rx)
    exact ⟨b, rfl, p b h1 N1 H1 q e R1⟩
  | _ => exact q.elim
theorem d_cmpT {op : CmpOp} (ho : OpD X (compareOp op) r) (ha : DEp X W a ta) (hb : DEp X W b tb) (hm : behindInMarks op b = false := by first | exact nomark _ | with_unfolding_all rfl) : DTp X W (.Compare a [op] [b] pos) (dTest (dOp r ta tb)) :=
  PT.imp (pt_cmpR ho ha hb hm) fun _ _ _ z => lift_test (fun _ y => lift_op y) z
theorem lift_chain {K : PySem.W.Frag} {σ : L2.St} {H : Hp} {Q : VK} (z : liftE K W (dChain r r' ta tb tc) σ H Q) : tChain (lift2 K r) (lift2 K r') (liftE K W ta) (liftE K W tb) (liftE K W tc) σ H Q := by
  obtain ⟨τ, h, N, Q0, X0, S, R, t, p, ex⟩ := z
  refine ⟨τ, h, N, _, X0, S, R, t, fun x h1 N1 v H1 q e R1 rx => ⟨τ, h1, N1, _, X0, S.ext R.un e, R1, q, fun y h2 N2 u H2 q2 e2 R2 ry => ?_, ex.ext e⟩, ex⟩
  refine ⟨x, y, h2, N2, _, Rep.ext R1.un e2 _ _ rx, ry, R2, q2, fun z h3 N3 w H3 q3 e3 R3 rz => ?_⟩
  cases z with
  | bl k =>
    cases (show w = _ from rz)
    refine ⟨k, rfl, ?_⟩
    cases k with
    | true =>
      rw [if_pos rfl]
      refine ⟨τ, h3, N3, _, X0, (S.ext R.un e).ext R1.un (e2.trans e3), R3, q3.1 rfl, fun w h4 N4 wv H4 q4 e4 R4 rw' => ?_, ex.ext (e.trans (e2.trans e3))⟩
      exact ⟨y, w, h4, N4, Q0, Rep.ext R2.un (e3.trans e4) _ _ ry, rw', R4, q4, p.ext (e.trans (e2.trans (e3.trans e4)))⟩
    | false =>
      rw [if_neg Bool.false_ne_true]
      exact p (.bl false) h3 N3 _ H3 (q3.2 rfl) (e.trans (e2.trans e3)) R3 rfl
  | _ => exact q3.elim
theorem d_chain {op op' : CmpOp} (ho : OpD X (compareOp op) r) (ho' : OpD X (compareOp op') r') (ha : DEp X W a ta) (hb : DEp X W b tb) (hc : DEp X W c tc) (hm : lastMarks [op, op'] [b, c] = false := by with_unfolding_all rfl) :
    DEp X W (.Compare a [op, op'] [b, c] pos) (dChain r r' ta tb tc) := PE.imp (pe_chain ho ho' ha hb hc hm) fun _ _ _ z => lift_chain z
theorem d_chainT {op op' : CmpOp} (ho : OpD X (compareOp op) r) (ho' : OpD X (compareOp op') r') (ha : DEp X W a ta) (hb : DEp X W b tb) (hc : DEp X W c tc) (hm : lastMarks [op, op'] [b, c] = false := by with_unfolding_all rfl) :
    DTp X W (.Compare a [op, op'] [b, c] pos) (dTest (dChain r r' ta tb tc)) := PT.imp (pt_chain ho ho' ha hb hc hm) fun _ _ _ z => lift_test (fun _ y => lift_chain y) z
theorem tB_eq {T : TE} {σ : L2.St} {H : Hp} {Q : Bool → Hp → Prop} (z : tTest T σ H Q) : tB T σ H Q := z
/-- an expression that gives a bool, as a test -/
theorem d_val (he : DEp X W e te) (hw : ∀ whole, isTrue e X.env whole = (do let v ← whole; standAt e.pos; holding [v] (truthy v)) := by intro _; rfl) : DTp X W e (dTest te) := PT.imp (pt_val he hw) fun _ _ _ z => tB_eq (lift_test (fun _ y => y) z)

theorem d_not (ha : DTp X W a t) : DTp X W (.UnaryOp .Not a pos) (dNot t) := PT.imp (pt_not ha) fun σ H Q ⟨τ, h, N, Q0, X0, S, R, z, p, ex⟩ => ⟨τ, h, N, _, X0, S, R, z, fun c h1 N1 H1 q e R1 => p (!c) h1 N1 H1 q e R1, ex⟩
theorem d_and1 (ha : DTp X W a t) : DTw X W (.BoolOp .And [a] pos) t := pw_and1 ha
theorem d_or1 (ha : DTp X W a t) : DTw X W (.BoolOp .Or [a] pos) t := pw_or1 ha
theorem d_and (ha : DTp X W a t) (hb : DTw X W (.BoolOp .And (b :: rest) pos) u) : DTw X W (.BoolOp .And (a :: b :: rest) pos) (dAnd t u) := PW.imp (pw_and ha hb) fun σ H Q ⟨τ, h, N, Q0, X0, S, R, z, p, ex⟩ => by
  refine ⟨τ, h, N, _, X0, S, R, z, fun c h1 N1 H1 q e R1 => ?_, ex⟩
  cases c with
  | true => rw [if_pos rfl]; exact ⟨τ, h1, N1, Q0, X0, S.ext R.un e, R1, q.1 rfl, p.ext e, ex.ext e⟩
  | false => rw [if_neg Bool.false_ne_true]; exact p false h1 N1 H1 (q.2 rfl) e R1
theorem d_or (ha : DTp X W a t) (hb : DTw X W (.BoolOp .Or (b :: rest) pos) u) : DTw X W (.BoolOp .Or (a :: b :: rest) pos) (dOr t u) := PW.imp (pw_or ha hb) fun σ H Q ⟨τ, h, N, Q0, X0, S, R, z, p, ex⟩ => by
  refine ⟨τ, h, N, _, X0, S, R, z, fun c h1 N1 H1 q e R1 => ?_, ex⟩
  cases c with
  | true => rw [if_pos rfl]; exact p true h1 N1 H1 (q.1 rfl) e R1
  | false => rw [if_neg Bool.false_ne_true]; exact ⟨τ, h1, N1, Q0, X0, S.ext R.un e, R1, q.2 rfl, p.ext e, ex.ext e⟩
theorem d_one (op : BoolOp) (ha : DEp X W a ta) (h : PE X (.BoolOp op [a] pos) (liftE X.K W ta)) : DEp X W (.BoolOp op [a] pos) ta := h
theorem d_andV (ha : DEp X W a ta) (hb : DEp X W (.BoolOp .And (b :: rest) pos) tb) : DEp X W (.BoolOp .And (a :: b :: rest) pos) (dAndV ta tb) := PE.imp (pe_and ha hb) fun σ H Q ⟨τ, h, N, Q0, X0, S, R, z, p, ex⟩ => by
  refine ⟨τ, h, N, _, X0, S, R, z, fun x h1 N1 v H1 q e R1 rx => ?_, ex⟩
  cases x with
  | bl c =>
    cases (show v = _ from rx)
    refine ⟨c, rfl, ?_⟩
    cases c with
    | true => rw [if_pos rfl]; exact ⟨τ, h1, N1, Q0, X0, S.ext R.un e, R1, q.1 rfl, p.ext e, ex.ext e⟩
    | false => rw [if_neg Bool.false_ne_true]; exact p (.bl false) h1 N1 _ H1 (q.2 rfl) e R1 rfl
  | _ => exact q.elim
theorem d_orV (ha : DEp X W a ta) (hb : DEp X W (.BoolOp .Or (b :: rest) pos) tb) : DEp X W (.BoolOp .Or (a :: b :: rest) pos) (dOrV ta tb) := PE.imp (pe_or ha hb) fun σ H Q ⟨τ, h, N, Q0, X0, S, R, z, p, ex⟩ => by
  refine ⟨τ, h, N, _, X0, S, R, z, fun x h1 N1 v H1 q e R1 rx => ?_, ex⟩
  cases x with
  | bl c =>
    cases (show v = _ from rx)
    refine ⟨c, rfl, ?_⟩
    cases c with
    | true => rw [if_pos rfl]; exact p (.bl true) h1 N1 _ H1 (q.1 rfl) e R1 rfl
    | false => rw [if_neg Bool.false_ne_true]; exact ⟨τ, h1, N1, Q0, X0, S.ext R.un e, R1, q.2 rfl, p.ext e, ex.ext e⟩
  | _ => exact q.elim
theorem d_notV (ha : DEp X W a ta) : DEp X W (.UnaryOp .Not a pos) (dNotV ta) := PE.imp (pe_not ha) fun σ H Q ⟨τ, h, N, Q0, X0, S, R, z, p, ex⟩ => by
  refine ⟨τ, h, N, _, X0, S, R, z, fun x h1 N1 v H1 q e R1 rx => ?_, ex⟩
  cases x with
  | bl c =>
    cases (show v = _ from rx)
    exact ⟨c, rfl, p (.bl (!c)) h1 N1 _ H1 q e R1 rfl⟩
  | _ => exact q.elim
theorem d_ifE (hc : DTp X W c t) (ha : DEp X W a ta) (hb : DEp X W b tb) : DEp X W (.IfExp c a b pos) (dIfE t ta tb) := PE.imp (pe_ifExp hc ha hb) fun σ H Q ⟨τ, h, N, Q0, X0, S, R, z, p, ex⟩ => by
  refine ⟨τ, h, N, _, X0, S, R, z, fun c h1 N1 H1 q e R1 => ?_, ex⟩
  cases c with
  | true => rw [if_pos rfl]; exact ⟨τ, h1, N1, Q0, X0, S.ext R.un e, R1, q.1 rfl, p.ext e, ex.ext e⟩
  | false => rw [if_neg Bool.false_ne_true]; exact ⟨τ, h1, N1, Q0, X0, S.ext R.un e, R1, q.2 rfl, p.ext e, ex.ext e⟩

/-! ### arguments, displays -/
theorem d_nil : DAp X W [] dNil := PA.imp pa_nil fun σ H Q ⟨τ, h, N, Q0, X0, S, R, z, p, ex⟩ => p [] h N [] H z (Ext.refl _ _ _) R rfl
theorem d_cons (ha : DEp X W e ta) (hr : DAp X W es tr) (hs : starEach (e :: es) X.env = (false, eval e X.env) :: starEach es X.env := by rfl) : DAp X W (e :: es) (dCons ta tr) := PA.imp (pa_cons ha hr hs) fun σ H Q ⟨τ, h, N, Q0, X0, S, R, z, p, ex⟩ =>
  ⟨τ, h, N, _, X0, S, R, z, fun x h1 N1 v H1 q e R1 rx => ⟨τ, h1, N1, _, X0, S.ext R.un e, R1, q, fun xs h2 N2 vs H2 q2 e2 R2 rs => p (x :: xs) h2 N2 (v :: vs) H2 q2 (e.trans e2) R2 (.cons (Rep.ext R1.un e2 _ _ rx) rs), ex.ext e⟩, ex⟩
theorem tup_new {K : PySem.W.Frag} {H : Hp} {h : DH} {N : NS} {xs : List D} {vs : List V} {p : Addr} (R : HRep K H h N) (n : H p = none) (rs : RepL K H N xs vs) :
    HRep K (upd H p (.tup vs)) h (fun a => N a ∧ a ≠ p) ∧ Ext H h N (upd H p (.tup vs)) h (fun a => N a ∧ a ≠ p) ∧ Rep K (upd H p (.tup vs)) (fun a => N a ∧ a ≠ p) (.tup xs) (.ref p) := by
  obtain ⟨R1, e1⟩ := R.new (o := .tup vs) n
  exact ⟨R1, e1, p, vs, rfl, .inl ⟨fun z => z.2 rfl, .inl upd_same⟩, RepL.ext R.un e1 _ _ rs⟩
theorem lst_new {K : PySem.W.Frag} {H : Hp} {h : DH} {N : NS} {xs : List D} {vs : List V} {p : Addr} (R : HRep K H h N) (n : H p = none) (rs : RepL K H N xs vs) :
    HRep K (upd H p (.lst vs)) h (fun a => N a ∧ a ≠ p) ∧ Ext H h N (upd H p (.lst vs)) h (fun a => N a ∧ a ≠ p) ∧ Rep K (upd H p (.lst vs)) (fun a => N a ∧ a ≠ p) (.lst xs) (.ref p) := by
  obtain ⟨R1, e1⟩ := R.new (o := .lst vs) n
  exact ⟨R1, e1, p, vs, rfl, ⟨fun z => z.2 rfl, .inl upd_same⟩, RepL.ext R.un e1 _ _ rs⟩
theorem lst_newM {K : PySem.W.Frag} {H : Hp} {h : DH} {N : NS} {xs : List D} {vs : List V} {p : Addr} (R : HRep K H h N) (n : H p = none) (rs : RepL K H N xs vs) :
    HRep K (upd H p (.lst vs)) (dupd h p (.lst xs)) (fun a => N a ∨ a = p) ∧ Ext H h N (upd H p (.lst vs)) (dupd h p (.lst xs)) (fun a => N a ∨ a = p) := by
  have e : Ext H h N (upd H p (.lst vs)) (dupd h p (.lst xs)) (fun a => N a ∨ a = p) := fun a u q hn => by
    have hp : a ≠ p := ne_of_none q n
    exact ⟨by rw [upd_ne hp]; exact q, by rw [dupd_ne hp]; exact hn, ⟨fun z => z.elim id fun z => absurd z hp, .inl⟩⟩
  exact R.newM n ⟨vs, upd_same, RepL.ext R.un e _ _ rs⟩
theorem d_tup {x1} (ht : DAp X W es tr) : DEp X W (.Tuple es x1 pos) (dTup tr) := PE.imp (pe_tup ht) fun σ H Q ⟨τ, h, N, Q0, X0, S, R, z, p, ex⟩ =>
  ⟨τ, h, N, _, X0, S, R, z, fun xs h1 N1 vs H1 q e R1 rs => ⟨by rw [rs.length]; exact q.1, fun a n => by
    obtain ⟨R2, e2, r2⟩ := tup_new R1 n rs
    exact p (.tup xs) h1 _ _ _ q.2 (e.trans e2) R2 r2⟩, ex⟩
theorem d_lst (ht : DAp X W es tr) : DEp X W (.List es pos) (dLst tr) := PE.imp (pe_lst ht) fun σ H Q ⟨τ, h, N, Q0, X0, S, R, z, p, ex⟩ =>
  ⟨τ, h, N, _, X0, S, R, z, fun xs h1 N1 vs H1 q e R1 rs => ⟨by rw [rs.length]; exact q.1, fun a n => by
    obtain ⟨R2, e2, r2⟩ := lst_new R1 n rs
    exact p (.lst xs) h1 _ _ _ q.2 (e.trans e2) R2 r2⟩, ex⟩
theorem d_lstM (ht : DAp X W es tr) : DEp X W (.List es pos) (dLstM tr) := PE.imp (pe_lst ht) fun σ H Q ⟨τ, h, N, Q0, X0, S, R, z, p, ex⟩ =>
  ⟨τ, h, N, _, X0, S, R, z, fun xs h1 N1 vs H1 q e R1 rs => ⟨by rw [rs.length]; exact q.1, fun a n => by
    obtain ⟨R2, e2⟩ := lst_newM R1 n rs
    exact p (.ref a) _ _ _ _ (q.2 a (R1.none n)) (e.trans e2) R2 rfl⟩, ex⟩
theorem d_frz (he : DEp X W e te) : DEp X W e (dFrz te) := PE.imp he fun σ H Q ⟨τ, h, N, Q0, X0, S, R, z, p, ex⟩ =>
  ⟨τ, h, N, _, X0, S, R, z, fun x h1 N1 v H1 q e R1 rx => by
    cases x with
    | ref a =>
      cases (show v = _ from rx)
      cases ea : h1 a with
      | none => simp only [ea] at q
      | some o =>
        cases o with
        | lst ds =>
          simp only [ea] at q
          obtain ⟨R2, e2, r2⟩ := R1.freeze ea
          exact p _ _ _ _ _ q (e.trans e2) R2 r2
        | ins C fs => simp only [ea] at q
    | _ => exact p _ _ _ _ _ q e R1 rx, ex⟩

/-! ### calls of built-ins -/
section
variable {x : Str} {id T : String} {rc : List D → DH → DK → Prop} {p : Pos}
theorem lift_cb {K : PySem.W.Frag} {σ : L2.St} {H : Hp} {Q : VK} (z : liftE K W (dCB rc tr) σ H Q) : tCB (liftC K rc) (liftA K W tr) σ H Q := by
  obtain ⟨τ, h, N, Q0, X0, S, R, z, p, ex⟩ := z
  exact ⟨τ, h, N, _, X0, S, R, z, fun xs h1 N1 vs H1 q e R1 rs => ⟨xs, h1, N1, Q0, rs, R1, q, p.ext e⟩, ex⟩
theorem d_callB (hc : CallD X (.builtin id) rc) (hg : Gl X x) (hm : X.mg x = none) (hv : bootBuiltins x = some (.builtin id)) (ha : DAp X W (e :: es) tr) (hn : x ≠ "__name__" := by decide) (hdb : (x == ("__debug__" : Str)) = false := by decide)
    (he : starEach (e :: es) X.env = (false, eval e X.env) :: starEach es X.env := by rfl) (hpl : (backTo pos (starEach es X.env)).any (·.1) = false := by rfl) : DEp X W (.Call (.Name x p) (e :: es) [] pos) (dCB rc tr) :=
  PE.imp (pe_callB hc hg hm hv ha hn hdb he hpl) fun _ _ _ z => lift_cb z
theorem d_callTy (hc : CallD X (.type T) rc) (hg : Gl X x) (hm : X.mg x = none) (hv : bootBuiltins x = some (.type T)) (ha : DAp X W (e :: es) tr) (hn : x ≠ "__name__" := by decide) (hdb : (x == ("__debug__" : Str)) = false := by decide)
    (he : starEach (e :: es) X.env = (false, eval e X.env) :: starEach es X.env := by rfl) (hpl : (backTo pos (starEach es X.env)).any (·.1) = false := by rfl) : DEp X W (.Call (.Name x p) (e :: es) [] pos) (dCB rc tr) :=
  PE.imp (pe_callTy hc hg hm hv ha hn hdb he hpl) fun _ _ _ z => lift_cb z
end

/-! ### subscripts, slices, methods -/
theorem d_ix (hr : IxD X r) (ha : DEp X W a ta) (hb : DEp X W b tb) (hs : PlainIx b := by intro _ _; rfl) : DEp X W (.Subscript a b pos) (dOp r ta tb) := PE.imp (pe_ix hr ha hb hs) fun _ _ _ z => lift_op z
theorem d_noPart : DOp X W none dNoPart := PO.imp po_none fun σ H Q ⟨τ, h, N, Q0, X0, S, R, z, p, ex⟩ => p none h N H z (Ext.refl _ _ _) R
theorem d_slice {rs : D → Option Int → Option Int → DH → DK → Prop} {lo hi : Option Expr} {tl th : DO'} {p2 : Pos} (hr : SlD X rs) (he : DEp X W e te) (hl : DOp X W lo tl) (hu : DOp X W hi th) : DEp X W (.Subscript e (.Slice lo hi none p2) pos) (dSl rs te tl th) :=
  PE.imp (pe_slice hr he hl hu) fun σ H Q ⟨τ, h, N, Q0, X0, S, R, z, p, ex⟩ =>
    ⟨τ, h, N, _, X0, S, R, z, fun x h1 N1 v H1 q e R1 rx => ⟨τ, h1, N1, _, X0, S.ext R.un e, R1, q, fun l h2 N2 H2 q2 e2 R2 => ⟨τ, h2, N2, _, X0, (S.ext R.un e).ext R1.un e2, R2, q2, fun u h3 N3 H3 q3 e3 R3 =>
      ⟨x, h3, N3, Q0, Rep.ext R1.un (e2.trans e3) _ _ rx, R3, q3, p.ext (e.trans (e2.trans e3))⟩, ex.ext (e.trans e2)⟩, ex.ext e⟩, ex⟩
theorem dty {K : PySem.W.Frag} {H : Hp} {h : DH} {N : NS} {T : String} {x : D} {v : V} (R : HRep K H h N) (r : Rep K H N x v) (ty : dTy T x h) : tyV K T v H := by
  cases x with
  | str z => cases (show v = _ from r); exact ty
  | int z => cases (show v = _ from r); exact ty
  | lst ds =>
    obtain ⟨a, xs, rfl, f, _⟩ := r
    exact .inl ⟨ty, xs, .inl f.2⟩
  | scr ns =>
    obtain ⟨a, rfl, f⟩ := r
    exact .inl ⟨ty, _, f.sq⟩
  | ref a =>
    cases (show v = _ from r)
    obtain ⟨e, ds, q⟩ := ty
    obtain ⟨xs, e2, _⟩ := R.at_ a _ q
    exact .inl ⟨e, xs, .of e2⟩
  | _ => exact ty.elim
theorem d_bm {name : Str} {apos cpos : Pos} {T id : String} {rm : D → List D → DH → DK → Prop} {to : DE} (pa : PlainAttrs T) (slot : Slot T name id) (hty : typeOf (.builtin id) = pure (.type "method_descriptor")) (hm : MtD X id rm) (ho : DEp X W o to) (ha : DAp X W (e :: es) tr)
    (hbase : attributeBase o name X.env (eval o X.env) = eval o X.env := by rfl)
    (hfew : ((backTo cpos (starEach (e :: es) X.env)).all (fun x => !x.1) && (backToKw cpos (keywordEach [] X.env)).all (fun x => x.1.isSome)
      && decide ((e :: es).length + ([] : List Keyword).length + (if ([] : List Keyword).isEmpty then 0 else 1) < 30)) = true := by rfl)
    (hline : (apos.endLine == cpos.line) = true := by rfl) (hs : starEach (e :: es) X.env = (false, eval e X.env) :: starEach es X.env := by rfl) (hplain : (backTo cpos (starEach es X.env)).any (·.1) = false := by rfl) :
    DEp X W (.Call (.Attribute o name apos) (e :: es) [] cpos) (dBM T rm to tr) := PE.imp (pe_bm pa slot hty hm ho ha hbase hfew hline hs hplain) fun σ H Q ⟨τ, h, N, Q0, X0, S, R, z, p, ex⟩ =>
  ⟨τ, h, N, _, X0, S, R, z, fun x h1 N1 v H1 q e R1 rx => ⟨dty R1 rx q.1, τ, h1, N1, _, X0, S.ext R.un e, R1, q.2, fun xs h2 N2 vs H2 q2 e2 R2 rs => ⟨x, xs, h2, N2, Q0, Rep.ext R1.un e2 _ _ rx, rs, R2, q2, p.ext (e.trans e2)⟩, ex.ext e⟩, ex⟩
theorem d_bm0 {name : Str} {apos cpos : Pos} {T id : String} {rm : D → List D → DH → DK → Prop} {to : DE} (pa : PlainAttrs T) (slot : Slot T name id) (hty : typeOf (.builtin id) = pure (.type "method_descriptor")) (hm : MtD X id rm) (ho : DEp X W o to)
    (hbase : attributeBase o name X.env (eval o X.env) = eval o X.env := by rfl) (hline : (apos.endLine == cpos.line) = true := by rfl) :
    DEp X W (.Call (.Attribute o name apos) [] [] cpos) (dBM T rm to dNil) := PE.imp (pe_bm0 pa slot hty hm ho hbase hline) fun σ H Q ⟨τ, h, N, Q0, X0, S, R, z, p, ex⟩ =>
  ⟨τ, h, N, _, X0, S, R, z, fun x h1 N1 v H1 q e R1 rx => ⟨dty R1 rx q.1, x, [], h1, N1, Q0, rx, rfl, R1, q.2, p.ext e⟩, ex⟩
end
end DL

/-! D3: operations over data, by values. -/
namespace DL
open PySem PySem.Spec L2 PyProof.Rows

/-! ### data as PyData -/
mutual
def py : D → PyData
  | .non => .none
  | .bl b => .bool b
  | .int i => .int i
  | .str x => .str x
  | .tup xs => .tuple (pyL xs)
  | .lst xs => .list (pyL xs)
  | .dct => .dict []
  | .scr _ => .none
  | .ref _ => .none
def pyL : List D → List PyData
  | [] => []
  | x :: xs => py x :: pyL xs
end
/-- plain data of at most that depth, no dict, no object -/
def dn : Nat → D → Bool
  | _, .non => true
  | _, .bl _ => true
  | _, .int _ => true
  | _, .str x => PyData.strOk x
  | 0, .tup _ => false
  | n + 1, .tup xs => xs.all (dn n)
  | 0, .lst _ => false
  | n + 1, .lst xs => xs.all (dn n)
  | _, .dct => false
  | _, .scr _ => false
  | _, .ref _ => false
/-- .. for repr: ints below 2 ^ 1920, the empty dict -/
def rn : Nat → D → Bool
  | _, .non => true
  | _, .bl _ => true
  | _, .int i => decide (i.natAbs.log2 < 1920)
  | _, .str x => PyData.strOk x
  | 0, .tup _ => false
  | n + 1, .tup xs => xs.all (rn n)
  | 0, .lst _ => false
  | n + 1, .lst xs => xs.all (rn n)
  | _, .dct => false
  | _, .scr _ => false
  | _, .ref _ => false
/-- a bound of the length of repr -/
def wt : D → Nat
  | .non => 4
  | .bl _ => 5
  | .int i => i.natAbs.log2 + 3
  | .str x => 10 * x.length + 2
  | .tup xs => wtL xs + 4
  | .lst xs => wtL xs + 4
  | .dct => 2
  | .scr _ => 0
  | .ref _ => 0
where wtL : List D → Nat
  | [] => 0
  | x :: xs => wt x + 2 + wtL xs
theorem pyL_map : ∀ xs : List D, pyL xs = xs.map py
  | [] => rfl
  | x :: xs => by simp only [pyL, List.map_cons, pyL_map xs]

theorem dn_lay : ∀ (n : Nat) (d : D), dn n d = true → (py d).canLay0 = true ∧ (py d).depth ≤ n := by
  intro n
  induction n with
  | zero =>
    intro d h
    cases d <;> simp only [dn, py, PyData.canLay0, PyData.depth] at h ⊢ <;> first | exact ⟨h, Nat.zero_le _⟩ | exact ⟨trivial, Nat.zero_le _⟩ | exact ⟨rfl, Nat.zero_le _⟩ | (exact absurd h Bool.false_ne_true)
  | succ n ih =>
    have all : ∀ xs : List D, xs.all (dn n) = true → PyData.canLayAll0 (pyL xs) = true ∧ PyData.depthAll (pyL xs) ≤ n := by
      intro xs
      induction xs with
      | nil => intro _; simp only [pyL, PyData.canLayAll0, PyData.depthAll]; exact ⟨trivial, Nat.zero_le _⟩
      | cons x xs ih2 =>
        intro h
        rw [List.all_cons, Bool.and_eq_true] at h
        obtain ⟨a1, a2⟩ := ih x h.1
        obtain ⟨b1, b2⟩ := ih2 h.2
        simp only [pyL, PyData.canLayAll0, PyData.depthAll]
        exact ⟨by rw [a1, b1]; rfl, Nat.max_le.mpr ⟨a2, b2⟩⟩
    intro d h
    cases d with
    | tup xs =>
      simp only [dn] at h
      obtain ⟨a, b⟩ := all xs h
      simp only [py, PyData.canLay0, PyData.depth]
      exact ⟨a, by omega⟩
    | lst xs =>
      simp only [dn] at h
      obtain ⟨a, b⟩ := all xs h
      simp only [py, PyData.canLay0, PyData.depth]
      exact ⟨a, by omega⟩
    | _ => simp only [dn, py, PyData.canLay0, PyData.depth] at h ⊢ <;> first | exact ⟨h, Nat.zero_le _⟩ | exact ⟨trivial, Nat.zero_le _⟩ | exact ⟨rfl, Nat.zero_le _⟩ | (exact absurd h Bool.false_ne_true)
theorem dn_shaped {n : Nat} {d : D} (h : dn n d = true) (hn : n ≤ 64) : SeqAt.shaped (py d) = true := by
  obtain ⟨a, b⟩ := dn_lay n d h
  unfold SeqAt.shaped
  rw [a, decide_eq_true (Nat.le_trans b hn)]
  rfl
section
variable {K : PySem.W.Frag} {H : Hp} {h : DH} {N : NS}
theorem rep_dp : ∀ (n : Nat) (d : D) (v : V), dn n d = true → Rep K H N d v → Dp K H v (py d) := by
  intro n
  induction n with
  | zero =>
    intro d v hd r
    cases d with
    | non => cases (show v = _ from r); exact .non
    | bl b => cases (show v = _ from r); exact .bl b
    | int b => cases (show v = _ from r); exact .int b
    | str b => cases (show v = _ from r); exact .str b
    | _ => simp only [dn] at hd; exact absurd hd Bool.false_ne_true
  | succ n ih =>
    have all : ∀ (xs : List D) (vs : List V), xs.all (dn n) = true → RepL K H N xs vs → DpAll K H vs (pyL xs) := by
      intro xs
      induction xs with
      | nil => intro vs _ r; cases (show vs = _ from r); exact .nil
      | cons x xs ih2 =>
        intro vs hd r
        rw [List.all_cons, Bool.and_eq_true] at hd
        obtain ⟨v, t, rfl, r1, r2⟩ := r
        exact .cons (ih x v hd.1 r1) (ih2 t hd.2 r2)
    intro d v hd r
    cases d with
    | non => cases (show v = _ from r); exact .non
    | bl b => cases (show v = _ from r); exact .bl b
    | int b => cases (show v = _ from r); exact .int b
    | str b => cases (show v = _ from r); exact .str b
    | tup xs =>
      simp only [dn] at hd
      obtain ⟨a, vs, rfl, f, r⟩ := r
      exact .tup f.sq (all xs vs hd r)
    | lst xs =>
      simp only [dn] at hd
      obtain ⟨a, vs, rfl, f, r⟩ := r
      exact .lst (.inl f.2) (all xs vs hd r)
    | dct => simp only [dn] at hd; exact absurd hd Bool.false_ne_true
    | scr a => simp only [dn] at hd; exact absurd hd Bool.false_ne_true
    | ref a => simp only [dn] at hd; exact absurd hd Bool.false_ne_true
end

/-- a list that is tracked is read as it stands -/
def view (h : DH) : D → D
  | .ref a => match h a with
    | some (.lst ds) => .lst ds
    | _ => .ref a
  | x => x
section
variable {K : PySem.W.Frag} {H : Hp} {h : DH} {N : NS}
theorem view_dp (R : HRep K H h N) {n : Nat} {d : D} {v : V} (r : Rep K H N d v) (hd : dn n (view h d) = true) : Dp K H v (py (view h d)) := by
  cases d with
  | ref a =>
    cases (show v = _ from r)
    unfold view at hd ⊢
    cases e : h a with
    | none => simp only [e] at hd; simp only [dn] at hd; exact absurd hd Bool.false_ne_true
    | some o =>
      cases o with
      | ins C fs => simp only [e] at hd; simp only [dn] at hd; exact absurd hd Bool.false_ne_true
      | lst ds =>
        simp only [e] at hd ⊢
        obtain ⟨xs, q, rs⟩ := R.at_ a _ e
        cases n with
        | zero => simp only [dn] at hd; exact absurd hd Bool.false_ne_true
        | succ n =>
          simp only [dn] at hd
          simp only [py]
          refine .lst (.of q) ?_
          clear e q
          induction ds generalizing xs with
          | nil => cases (show xs = _ from rs); exact .nil
          | cons x ds ih =>
            rw [List.all_cons, Bool.and_eq_true] at hd
            obtain ⟨v, t, rfl, r1, r2⟩ := rs
            exact .cons (rep_dp n x v hd.1 r1) (ih _ r2 hd.2)
  | _ => exact rep_dp n _ _ hd r
end

/-! ### == -/
def eqvD (x y : D) : Bool := PyData.eqv (py x) (py y)
def dEq (x y : D) (h : DH) (Q : DK) : Prop := match x, y with
  | .str a, .str b => Q (.bl (decide (a = b))) h
  | x, y => dn 12 (view h x) = true ∧ dn 12 (view h y) = true ∧ Q (.bl (eqvD (view h x) (view h y))) h
def dNe (x y : D) (h : DH) (Q : DK) : Prop := match x, y with
  | .str a, .str b => Q (.bl (!decide (a = b))) h
  | x, y => dn 12 (view h x) = true ∧ dn 12 (view h y) = true ∧ Q (.bl (!eqvD (view h x) (view h y))) h
section
variable {X : Cx}
theorem od_eq (hu : X.A.units + 64 < cLine) : OpD X (compareOp .Eq) dEq := by
  intro pins s σ H v u vv uu Q I rv ru ⟨x, y, h, N, Q0, rx, ry, R, q, p⟩
  unfold dEq at q
  split at q
  · rename_i a b
    cases (show v = V.str a from rx)
    cases (show u = V.str b from ry)
    refine op_eq pins s σ H _ _ vv uu Q I rv ru ⟨rfl, ?_⟩
    rw [dec_str, show (a == b) = decide (a = b) by by_cases e : a = b <;> simp [e]]
    exact post_at p R q rfl
  obtain ⟨hx, hy, q⟩ := q
  exact op_eqD hu pins s σ H v u vv uu Q I rv ru ⟨_, _, view_dp R rx hx, view_dp R ry hy, dn_shaped hx (by decide), dn_shaped hy (by decide), post_at p R q rfl⟩
theorem od_ne (hu : X.A.units + 64 < cLine) : OpD X (compareOp .NotEq) dNe := by
  intro pins s σ H v u vv uu Q I rv ru ⟨x, y, h, N, Q0, rx, ry, R, q, p⟩
  unfold dNe at q
  split at q
  · rename_i a b
    cases (show v = V.str a from rx)
    cases (show u = V.str b from ry)
    refine op_ne pins s σ H _ _ vv uu Q I rv ru ⟨rfl, ?_⟩
    rw [dec_str, show (a == b) = decide (a = b) by by_cases e : a = b <;> simp [e]]
    exact post_at p R q rfl
  obtain ⟨hx, hy, q⟩ := q
  exact op_neD hu pins s σ H v u vv uu Q I rv ru ⟨_, _, view_dp R rx hx, view_dp R ry hy, dn_shaped hx (by decide), dn_shaped hy (by decide), post_at p R q rfl⟩
end

/-! ### ints, is None -/
def dLt : D → D → DH → DK → Prop
  | .int i, .int j, h, Q => Q (.bl (decide (i < j))) h
  | _, _, _, _ => False
def dLe : D → D → DH → DK → Prop
  | .int i, .int j, h, Q => Q (.bl (decide (i ≤ j))) h
  | _, _, _, _ => False
def dGt : D → D → DH → DK → Prop
  | .int i, .int j, h, Q => Q (.bl (decide (j < i))) h
  | _, _, _, _ => False
def dGe : D → D → DH → DK → Prop
  | .int i, .int j, h, Q => Q (.bl (decide (j ≤ i))) h
  | _, _, _, _ => False
def isN : D → Bool
  | .non => true
  | _ => false
def dIsN (x y : D) (h : DH) (Q : DK) : Prop := match y with
  | .non => Q (.bl (isN x)) h
  | _ => False
def dIsNN (x y : D) (h : DH) (Q : DK) : Prop := match y with
  | .non => Q (.bl (!isN x)) h
  | _ => False
def dSub : D → D → DH → DK → Prop
  | .int i, .int j, h, Q => Q (.int (i - j)) h
  | _, _, _, _ => False
def dMod : D → D → DH → DK → Prop
  | .int i, .int j, h, Q => 0 < j ∧ Q (.int (i % j)) h
  | _, _, _, _ => False
def dFdiv : D → D → DH → DK → Prop
  | .int i, .int j, h, Q => 0 < j ∧ j.natAbs.log2 < 9000 ∧ Q (.int (i / j)) h
  | _, _, _, _ => False
def dPow : D → D → DH → DK → Prop
  | .int i, .int j, h, Q => 0 ≤ j ∧ (Builtin.Int.intBits i : Int) * j ≤ 2 ^ 27 ∧ Q (.int (i ^ j.toNat)) h
  | _, _, _, _ => False
def dAdd : D → D → DH → DK → Prop
  | .int i, .int j, h, Q => Q (.int (i + j)) h
  | .str a, .str b, h, Q => a.length + b.length ≤ sizeLine ∧ Q (.str (a ++ b)) h
  | .tup a, .tup b, h, Q => a.length + b.length ≤ sizeLine ∧ Q (.tup (a ++ b)) h
  | .lst a, .lst b, h, Q => a.length + b.length ≤ sizeLine ∧ Q (.lst (a ++ b)) h
  | _, _, _, _ => False
def rpt (k : Int) (xs : List D) : List D := (List.replicate k.toNat xs).flatten
def dMul : D → D → DH → DK → Prop
  | .int i, .int j, h, Q => IntMulOk i j ∧ Q (.int (i * j)) h
  | .tup a, .int k, h, Q => a ≠ [] ∧ 0 ≤ k ∧ k ≤ 1000 ∧ a.length ≤ 1000 ∧ Q (.tup (rpt k a)) h
  | .lst a, .int k, h, Q => -(2 ^ 63) ≤ k ∧ k < 2 ^ 63 ∧ a.length * k.toNat ≤ sizeLine ∧ Q (.lst (rpt k a)) h
  | _, _, _, _ => False
section
variable {X : Cx}
theorem rep_int {K : PySem.W.Frag} {H : Hp} {N : NS} {i : Int} {v : V} (r : Rep K H N (.int i) v) : v = .int i := r
theorem rep_str {K : PySem.W.Frag} {H : Hp} {N : NS} {i : Str} {v : V} (r : Rep K H N (.str i) v) : v = .str i := r
theorem rep_bl {K : PySem.W.Frag} {H : Hp} {N : NS} {i : Bool} {v : V} (r : Rep K H N (.bl i) v) : v = .bl i := r
theorem rep_ref {K : PySem.W.Frag} {H : Hp} {N : NS} {i : Addr} {v : V} (r : Rep K H N (.ref i) v) : v = .ref i := r
theorem rep_non {K : PySem.W.Frag} {H : Hp} {N : NS} {v : V} (r : Rep K H N .non v) : v = .non := r
theorem rep_isN {K : PySem.W.Frag} {H : Hp} {N : NS} : ∀ {d : D} {v : V}, Rep K H N d v → decide (v = V.non) = isN d
  | .non, _, r => by cases rep_non r; rfl
  | .bl _, _, r => by cases rep_bl r; rfl
  | .int _, _, r => by cases rep_int r; rfl
  | .str _, _, r => by cases rep_str r; rfl
  | .tup _, _, r => by obtain ⟨a, xs, rfl, _⟩ := r; rfl
  | .lst _, _, r => by obtain ⟨a, xs, rfl, _⟩ := r; rfl
  | .dct, _, r => by obtain ⟨a, rfl, _⟩ := r; rfl
  | .scr _, _, r => by obtain ⟨a, rfl, _⟩ := r; rfl
  | .ref _, _, r => by cases rep_ref r; rfl
theorem od_lt : OpD X (compareOp .Lt) dLt := by
  intro pins s σ H v u vv uu Q I rv ru ⟨x, y, h, N, Q0, rx, ry, R, q, p⟩
  cases x <;> cases y <;> first | exact q.elim | skip
  cases rep_int rx; cases rep_int ry
  exact op_lt pins s σ H _ _ vv uu Q I rv ru ⟨_, _, rfl, rfl, post_at p R q rfl⟩
theorem od_le : OpD X (compareOp .LtE) dLe := by
  intro pins s σ H v u vv uu Q I rv ru ⟨x, y, h, N, Q0, rx, ry, R, q, p⟩
  cases x <;> cases y <;> first | exact q.elim | skip
  cases rep_int rx; cases rep_int ry
  exact op_le pins s σ H _ _ vv uu Q I rv ru ⟨_, _, rfl, rfl, post_at p R q rfl⟩
theorem od_gt : OpD X (compareOp .Gt) dGt := by
  intro pins s σ H v u vv uu Q I rv ru ⟨x, y, h, N, Q0, rx, ry, R, q, p⟩
  cases x <;> cases y <;> first | exact q.elim | skip
  cases rep_int rx; cases rep_int ry
  exact op_gt pins s σ H _ _ vv uu Q I rv ru ⟨_, _, rfl, rfl, post_at p R q rfl⟩
theorem od_ge : OpD X (compareOp .GtE) dGe := by
  intro pins s σ H v u vv uu Q I rv ru ⟨x, y, h, N, Q0, rx, ry, R, q, p⟩
  cases x <;> cases y <;> first | exact q.elim | skip
  cases rep_int rx; cases rep_int ry
  exact op_ge pins s σ H _ _ vv uu Q I rv ru ⟨_, _, rfl, rfl, post_at p R q rfl⟩
theorem od_isN : OpD X (compareOp .Is) dIsN := by
  intro pins s σ H v u vv uu Q I rv ru ⟨x, y, h, N, Q0, rx, ry, R, q, p⟩
  cases y <;> first | exact q.elim | skip
  cases rep_non ry
  exact op_isN pins s σ H _ _ vv uu Q I rv ru ⟨rfl, by rw [rep_isN rx]; exact post_at p R q rfl⟩
theorem od_isNN : OpD X (compareOp .IsNot) dIsNN := by
  intro pins s σ H v u vv uu Q I rv ru ⟨x, y, h, N, Q0, rx, ry, R, q, p⟩
  cases y <;> first | exact q.elim | skip
  cases rep_non ry
  exact op_notN pins s σ H _ _ vv uu Q I rv ru ⟨rfl, by rw [rep_isN rx]; exact post_at p R q rfl⟩
theorem od_sub : OpD X (binaryOp .Sub) dSub := by
  intro pins s σ H v u vv uu Q I rv ru ⟨x, y, h, N, Q0, rx, ry, R, q, p⟩
  cases x <;> cases y <;> first | exact q.elim | skip
  cases rep_int rx; cases rep_int ry
  exact op_sub pins s σ H _ _ vv uu Q I rv ru ⟨_, _, rfl, rfl, post_at p R q rfl⟩
theorem od_mod : OpD X (binaryOp .Mod) dMod := by
  intro pins s σ H v u vv uu Q I rv ru ⟨x, y, h, N, Q0, rx, ry, R, q, p⟩
  cases x <;> cases y <;> first | exact q.elim | skip
  cases rep_int rx; cases rep_int ry
  exact op_mod pins s σ H _ _ vv uu Q I rv ru ⟨_, _, rfl, rfl, q.1, post_at p R q.2 rfl⟩
theorem op_fdivG : OpR X (binaryOp .FloorDiv) (rI (fun _ j => 0 < j ∧ j.natAbs.log2 < 9000) fun i j => .int (i / j)) := opI fun i j _ _ _ _ _ hc q => by
  have h1 : (0 : Int) < j := hc.1
  exact floordiv_int (by omega) (by rw [Int.fdiv_eq_ediv_of_nonneg i (by omega)]; exact q) (.inl (PyProof.noPylong_of_log2 hc.2))
theorem od_fdiv : OpD X (binaryOp .FloorDiv) dFdiv := by
  intro pins s σ H v u vv uu Q I rv ru ⟨x, y, h, N, Q0, rx, ry, R, q, p⟩
  cases x <;> cases y <;> first | exact q.elim | skip
  cases rep_int rx; cases rep_int ry
  exact op_fdivG pins s σ H _ _ vv uu Q I rv ru ⟨_, _, rfl, rfl, ⟨q.1, q.2.1⟩, post_at p R q.2.2 rfl⟩
theorem op_powG : OpR X (binaryOp .Pow) (rI (fun i j => 0 ≤ j ∧ (Builtin.Int.intBits i : Int) * j ≤ 2 ^ 27) fun i j => .int (i ^ j.toNat)) := opI fun _ _ _ _ _ _ _ hc q => pow_int hc.1 hc.2 q
theorem od_pow : OpD X (binaryOp .Pow) dPow := by
  intro pins s σ H v u vv uu Q I rv ru ⟨x, y, h, N, Q0, rx, ry, R, q, p⟩
  cases x <;> cases y <;> first | exact q.elim | skip
  cases rep_int rx; cases rep_int ry
  exact op_powG pins s σ H _ _ vv uu Q I rv ru ⟨_, _, rfl, rfl, ⟨q.1, q.2.1⟩, post_at p R q.2.2 rfl⟩
/-- list + list, any list that is read -/
theorem lstR {X : Cx} {pins : List (Addr × Obj)} {σ : L2.St} {H : Hp} {s : Shared} {l : Addr} {xs : List V} (I : Inv X pins σ H s) (hH : Rd H l (.lst xs)) :
    xs.length ≤ sizeLine ∧ ∃ (its : List Value) (n : Nat), Vals xs its ∧ xs.length = its.length ∧ s.heap.get? l = some { cls := .type "list", data := .seq its.toArray n } := by
  obtain ⟨z, its, n, r, e⟩ := hH.ok I.hok
  exact ⟨z, its, n, r, r.length, e⟩
theorem op_catL : OpR X (binaryOp .Add) (fun x y H Q => ∃ l b xs zs, x = .ref l ∧ y = .ref b ∧ Rd H l (.lst xs) ∧ Rd H b (.lst zs) ∧ xs.length + zs.length ≤ sizeLine ∧ ∀ p, H p = none → Q (.ref p) (upd H p (.lst (xs ++ zs)))) := by
  intro pins s σ H x y v u Q I rx ry h
  obtain ⟨l, b, xs, zs, rfl, rfl, hH, hB, hz, q⟩ := h
  cases rx
  cases ry
  obtain ⟨z, its, n, r, hl, e⟩ := lstR I hH
  obtain ⟨z2, its2, n2, r2, hl2, e2⟩ := lstR I hB
  refine PySem.P.add_list e e2 ?_ (by rw [List.size_toArray, List.size_toArray]; omega)
  have ea : its.toArray ++ its2.toArray = (its ++ its2).toArray := by simp
  rw [ea]
  exact ⟨.ref _, _, I.lnew (t' := s.toks) (r.append r2) (by rw [List.length_append]; omega), rfl, q _ I.fresh⟩
theorem op_repL : OpR X (binaryOp .Mult) (fun x y H Q => ∃ l k xs, x = .ref l ∧ y = .int k ∧ Rd H l (.lst xs) ∧ -(2 ^ 63) ≤ k ∧ k < 2 ^ 63 ∧ xs.length * k.toNat ≤ sizeLine ∧
  ∀ p, H p = none → Q (.ref p) (upd H p (.lst (List.replicate k.toNat xs).flatten))) := by
  intro pins s σ H x y v u Q I rx ry h
  obtain ⟨l, k, xs, rfl, rfl, hH, h1, h2, hz, q⟩ := h
  cases rx
  obtain ⟨t, rfl⟩ := ry
  obtain ⟨z, its, n, r, hl, e⟩ := lstR I hH
  have hlen : its.toArray.size * k.toNat ≤ sizeLine := by rw [List.size_toArray, ← hl]; exact hz
  have hcap : ¬ its.toArray.size * k.toNat > (2 ^ 63 - 1) / 8 := by
    have : (sizeLine : Nat) ≤ (2 ^ 63 - 1) / 8 := by decide
    omega
  have hfit : ¬ (!Builtin.List.listFitsIndex k) = true := by
    rw [fitsIndex_both h1 h2]
    exact Bool.false_ne_true
  have hlong : ¬ Builtin.List.listTooLong (its.toArray.size * k.toNat) = true := by
    rw [notLongL hlen]
    exact Bool.false_ne_true
  have hnew : List.foldl (fun x1 x2 => x1 ++ x2) #[] (List.replicate (if its.toArray.isEmpty = true then 0 else k.toNat) its.toArray) = (List.replicate k.toNat its).flatten.toArray := by
    have f0 : ∀ m : Nat, List.foldl (fun x1 x2 => x1 ++ x2) #[] (List.replicate m its.toArray) = (List.replicate m its).flatten.toArray := fun m => by
      have := foldl_rep its m []
      rw [List.nil_append] at this
      exact this
    rw [f0]
    cases its with
    | nil => simp
    | cons a r' => rw [if_neg (by simp)]
  refine wpAny_binaryOp_repeat_ref (T := "list") (U := "int") (by decide) ⟨_, e, rfl⟩ (fun s' => typeIs_int s' k t) noFill_list_mul F.fills_int_mul F.slot_int_rmul repeat_list F.slot_int_index.lookup
    (call_meets F.slot_int_rmul (typeIs_int s k t) F.entry_int_rmul (F.args_int_rmul_2 _ _) (int___rmul___int_list k t l its.toArray n)
      ⟨e, rfl, ⟨_, e, rfl⟩, call_meets F.slot_list_mul ⟨_, e, rfl⟩ F.entry_list_mul (F.args_list_mul_2 _ _) (AutoListH.list___mul___list_int_3 l its.toArray n k t hfit hcap hlong) ⟨e, ?_⟩⟩)
  rw [hnew]
  exact ⟨.ref _, _, I.lnew (t' := s.toks) (r.rep k.toNat) (by rw [PyProof.Rows.lm_len_rep_flat, Nat.mul_comm]; exact hz), rfl, q _ I.fresh⟩
/-- a tuple times 1 is the tuple itself, times 0 a new empty one -/
theorem tuple_mul1 (l : Addr) (items : Array Value) (n : Nat) (dd : Option Addr) (sl : Array (Option Value)) (u : Tok) :
    Meets (Builtin.«tuple.__mul__» ⟨[.ref l, .int 1 u], []⟩) (fun _ R s => s.heap.get? l = some { cls := .type "tuple", dict := dd, data := .seq items n, slots := sl } ∧ R (.ok (.ret (Value.ref l))) s) :=
  .of_wp fun prog w A R s h => by
    obtain ⟨hp, g, d, tk, os⟩ := s
    obtain ⟨hl, h⟩ := h
    have f1 := AutoSeq1.idx_int
    wp_walk using wpAny_loadPart' hl
    repeat (first
      | (refine wpAny_ite_false (decide_eq_false (by decide)) ?_; wp_walk using wpAny_loadPart' hl)
      | (refine wpAny_ite_true (decide_eq_true (by simp)) ?_; wp_walk using wpAny_loadPart' hl))
    exact ⟨_, rfl, h⟩
theorem tuple_mul0 (l : Addr) (items : Array Value) (n : Nat) (dd : Option Addr) (sl : Array (Option Value)) (u : Tok) (c1 : items.isEmpty = false) :
    Meets (Builtin.«tuple.__mul__» ⟨[.ref l, .int 0 u], []⟩) (fun _ R s => s.heap.get? l = some { cls := .type "tuple", dict := dd, data := .seq items n, slots := sl } ∧
      R (.ok (.ret (Value.ref s.heap.objs.size))) { s with heap := s.heap.push { cls := Value.type "tuple", data := Data.seq #[] }, toks := s.toks }) :=
  .of_wp fun prog w A R s h => by
    obtain ⟨hp, g, d, tk, os⟩ := s
    obtain ⟨hl, h⟩ := h
    have f1 := AutoSeq1.idx_int
    wp_walk using wpAny_loadPart' hl
    repeat (first
      | (refine wpAny_ite_false (decide_eq_false (by decide)) ?_; wp_walk using wpAny_loadPart' hl)
      | (refine wpAny_ite_false (decide_eq_false (by rw [c1]; decide)) ?_; wp_walk using wpAny_loadPart' hl)
      | (refine wpAny_ite_true (decide_eq_true (by simp)) ?_; wp_walk using wpAny_loadPart' hl))
    exact ⟨_, rfl, h⟩
theorem op_repT01 : OpR X (binaryOp .Mult) (fun x y H Q => ∃ l k xs, x = .ref l ∧ y = .int k ∧ SqT X.K H l xs ∧ xs ≠ [] ∧ ((k = 1 ∧ Q (.ref l) H) ∨ (k = 0 ∧ ∀ p, H p = none → Q (.ref p) (upd H p (.tup []))))) := by
  intro pins s σ H x y v u Q I rx ry h
  obtain ⟨l, k, xs, rfl, rfl, hT, hne, q⟩ := h
  cases rx
  obtain ⟨t, rfl⟩ := ry
  obtain ⟨its, r, ⟨⟨cls, dd, data, sl⟩, ho, hc, n, hd⟩, hs⟩ := I.tuple hT
  simp only at hc hd
  subst hc hd
  have hi : its.toArray.isEmpty = false := by
    cases its with
    | nil => cases r; exact absurd rfl hne
    | cons a b => rfl
  rcases q with ⟨rfl, q⟩ | ⟨rfl, q⟩
  · refine wpAny_binaryOp_repeat_ref (T := "tuple") (U := "int") (by decide) ⟨_, ho, rfl⟩ (fun s' => typeIs_int s' 1 t) noFill_tuple_mul F.fills_int_mul F.slot_int_rmul repeat_tuple F.slot_int_index.lookup
      (call_meets F.slot_int_rmul (typeIs_int s 1 t) F.entry_int_rmul (F.args_int_rmul_2 _ _) (int_rmul_tuple 1 t l its.toArray n dd sl)
        ⟨ho, rfl, ⟨_, ho, rfl⟩, call_meets F.slot_tuple_mul ⟨_, ho, rfl⟩ F.entry_tuple_mul (F.args_tuple_mul_2 _ _) (tuple_mul1 l its.toArray n dd sl t) ⟨ho, ?_⟩⟩)
    exact ⟨.ref l, H, I, rfl, q⟩
  · refine wpAny_binaryOp_repeat_ref (T := "tuple") (U := "int") (by decide) ⟨_, ho, rfl⟩ (fun s' => typeIs_int s' 0 t) noFill_tuple_mul F.fills_int_mul F.slot_int_rmul repeat_tuple F.slot_int_index.lookup
      (call_meets F.slot_int_rmul (typeIs_int s 0 t) F.entry_int_rmul (F.args_int_rmul_2 _ _) (int_rmul_tuple 0 t l its.toArray n dd sl)
        ⟨ho, rfl, ⟨_, ho, rfl⟩, call_meets F.slot_tuple_mul ⟨_, ho, rfl⟩ F.entry_tuple_mul (F.args_tuple_mul_2 _ _) (tuple_mul0 l its.toArray n dd sl t hi) ⟨ho, ?_⟩⟩)
    refine ⟨.ref s.heap.objs.size, _, I.laid (t' := s.toks) (o := .tup []) (fun b ob q => Heap.get?_push_of_some _ q) (Nat.le_refl _) ?_, rfl, q _ (I.hok.fresh (Nat.le_refl _))⟩
    exact ⟨Nat.zero_le _, [], .nil, IsTup.new _ _⟩
theorem RepL.rep {K : PySem.W.Frag} {H : Hp} {N : NS} {xs : List D} {vs : List V} (r : RepL K H N xs vs) : ∀ k : Nat, RepL K H N (List.replicate k xs).flatten (List.replicate k vs).flatten
  | 0 => rfl
  | k + 1 => by
    rw [List.replicate_succ, List.replicate_succ, List.flatten_cons, List.flatten_cons]
    exact r.append (RepL.rep r k)
theorem od_mul : OpD X (binaryOp .Mult) dMul := by
  intro pins s σ H v u vv uu Q I rv ru ⟨x, y, h, N, Q0, rx, ry, R, q, p⟩
  cases x <;> cases y <;> first | exact q.elim | skip
  · cases rep_int rx; cases rep_int ry
    exact (opI fun _ _ _ _ _ _ _ hc q => mul_int q hc : OpR X (binaryOp .Mult) (rI IntMulOk fun i j => .int (i * j))) pins s σ H _ _ vv uu Q I rv ru ⟨_, _, rfl, rfl, q.1, post_at p R q.2 rfl⟩
  · rename_i a k
    cases rep_int ry
    obtain ⟨ax, xs, rfl, fx, r1⟩ := rx
    obtain ⟨q1, q2, q3, q4, q⟩ := q
    have hl := r1.length
    have hne : xs ≠ [] := fun e => q1 (List.eq_nil_of_length_eq_zero (by rw [← hl, e]; rfl))
    by_cases hk : 2 ≤ k
    · refine op_repT pins s σ H _ _ vv uu Q I rv ru ⟨ax, k, xs, rfl, rfl, fx.sq, hne, hk, q3, by rw [hl]; exact q4, fun t n => ?_⟩
      obtain ⟨R1, e1, r3⟩ := tup_new R n (r1.rep k.toNat)
      exact p _ _ _ _ _ q e1 R1 r3
    · refine op_repT01 pins s σ H _ _ vv uu Q I rv ru ⟨ax, k, xs, rfl, rfl, fx.sq, hne, ?_⟩
      by_cases h1 : k = 1
      · refine .inl ⟨h1, ?_⟩
        subst h1
        refine post_at p R q ?_
        have e : rpt 1 a = a := by unfold rpt; simp
        rw [e]
        exact ⟨ax, xs, rfl, fx, r1⟩
      · have h0 : k = 0 := by omega
        subst h0
        refine .inr ⟨rfl, fun t n => ?_⟩
        obtain ⟨R1, e1, r3⟩ := tup_new (xs := []) (vs := []) R n rfl
        exact p _ _ _ _ _ q e1 R1 r3
  · rename_i a k
    cases rep_int ry
    obtain ⟨ax, xs, rfl, fx, r1⟩ := rx
    obtain ⟨q1, q2, q3, q⟩ := q
    refine op_repL pins s σ H _ _ vv uu Q I rv ru ⟨ax, k, xs, rfl, rfl, fx.2, q1, q2, by rw [r1.length]; exact q3, fun t n => ?_⟩
    obtain ⟨R1, e1, r3⟩ := lst_new R n (r1.rep k.toNat)
    exact p _ _ _ _ _ q e1 R1 r3
theorem od_add : OpD X (binaryOp .Add) dAdd := by
  intro pins s σ H v u vv uu Q I rv ru ⟨x, y, h, N, Q0, rx, ry, R, q, p⟩
  cases x <;> cases y <;> first | exact q.elim | skip
  · cases rep_int rx; cases rep_int ry
    exact op_add pins s σ H _ _ vv uu Q I rv ru ⟨_, _, rfl, rfl, post_at p R q rfl⟩
  · cases rep_str rx; cases rep_str ry
    exact op_add_str pins s σ H _ _ vv uu Q I rv ru ⟨_, _, rfl, rfl, q.1, post_at p R q.2 rfl⟩
  · rename_i a b
    obtain ⟨ax, xs, rfl, fx, r1⟩ := rx
    obtain ⟨ay, ys, rfl, fy, r2⟩ := ry
    refine op_catA pins s σ H _ _ vv uu Q I rv ru ⟨ax, ay, xs, ys, rfl, rfl, fx.sq, fy.sq, by rw [r1.length, r2.length]; exact q.1, fun e => ?_, fun e1 e2 => ?_, fun e1 e2 t n => ?_⟩
    · have ea : a = [] := List.eq_nil_of_length_eq_zero (by rw [← r1.length, e]; rfl)
      refine post_at p R q.2 ?_
      rw [ea]
      exact ⟨ay, ys, rfl, fy, r2⟩
    · have ea : b = [] := List.eq_nil_of_length_eq_zero (by rw [← r2.length, e2]; rfl)
      refine post_at p R q.2 ?_
      rw [ea, List.append_nil]
      exact ⟨ax, xs, rfl, fx, r1⟩
    · obtain ⟨R1, e1, r3⟩ := tup_new R n (r1.append r2)
      exact p _ _ _ _ _ q.2 e1 R1 r3
  · obtain ⟨ax, xs, rfl, fx, r1⟩ := rx
    obtain ⟨ay, ys, rfl, fy, r2⟩ := ry
    refine op_catL pins s σ H _ _ vv uu Q I rv ru ⟨ax, ay, xs, ys, rfl, rfl, fx.2, fy.2, by rw [r1.length, r2.length]; exact q.1, fun t n => ?_⟩
    obtain ⟨R1, e1, r3⟩ := lst_new R n (r1.append r2)
    exact p _ _ _ _ _ q.2 e1 R1 r3
end
end DL

/-! D4: in, subscripts, slices, built-ins, methods. -/
namespace DL
open PySem PySem.Spec L2 PyProof.Rows

/-! ### in -/
def dInS : D → D → DH → DK → Prop
  | .str c, .str z, h, Q => ∃ k, c = ⟨#[k]⟩ ∧ Q (.bl (decide (k ∈ z.cps.toList))) h
  | _, _, _, _ => False
def dNotInS : D → D → DH → DK → Prop
  | .str c, .str z, h, Q => ∃ k, c = ⟨#[k]⟩ ∧ Q (.bl (!decide (k ∈ z.cps.toList))) h
  | _, _, _, _ => False
def inD (x : D) (ys : List D) : Bool := ys.any fun y => eqvD y x
def dIn (x y : D) (h : DH) (Q : DK) : Prop := dn 12 (view h x) = true ∧ match view h y with
  | .tup ys => ys.all (dn 11) = true ∧ Q (.bl (inD (view h x) ys)) h
  | .lst ys => ys.all (dn 11) = true ∧ Q (.bl (inD (view h x) ys)) h
  | _ => False
def dNotIn (x y : D) (h : DH) (Q : DK) : Prop := dn 12 (view h x) = true ∧ match view h y with
  | .tup ys => ys.all (dn 11) = true ∧ Q (.bl (!inD (view h x) ys)) h
  | .lst ys => ys.all (dn 11) = true ∧ Q (.bl (!inD (view h x) ys)) h
  | _ => False
theorem any_py (x : PyData) : ∀ ys : List D, ((pyL ys).any fun y => PyData.eqv y x) = (ys.any fun y => PyData.eqv (py y) x)
  | [] => rfl
  | y :: ys => by simp only [pyL, List.any_cons, any_py x ys]
section
variable {X : Cx}
theorem od_inS : OpD X (compareOp .In) dInS := by
  intro pins s σ H v u vv uu Q I rv ru ⟨x, y, h, N, Q0, rx, ry, R, q, p⟩
  cases x <;> cases y <;> first | exact q.elim | skip
  cases rep_str rx; cases rep_str ry
  obtain ⟨k, rfl, q⟩ := q
  exact op_in_sign pins s σ H _ _ vv uu Q I rv ru ⟨_, _, rfl, rfl, post_at p R q rfl⟩
theorem od_notInS : OpD X (compareOp .NotIn) dNotInS := by
  intro pins s σ H v u vv uu Q I rv ru ⟨x, y, h, N, Q0, rx, ry, R, q, p⟩
  cases x <;> cases y <;> first | exact q.elim | skip
  cases rep_str rx; cases rep_str ry
  obtain ⟨k, rfl, q⟩ := q
  exact op_notIn_sign pins s σ H _ _ vv uu Q I rv ru ⟨_, _, rfl, rfl, post_at p R q rfl⟩
theorem od_in (hu : X.A.units + 65 < cLine) : OpD X (compareOp .In) dIn := by
  intro pins s σ H v u vv uu Q I rv ru ⟨x, y, h, N, Q0, rx, ry, R, ⟨hx, q⟩, p⟩
  obtain ⟨as, r1⟩ := Dp.reads I _ v vv (view_dp R rx hx) rv
  have l1 := dn_lay _ _ hx
  have hr : ∀ ys : List PyData, X.A.units + 1 + min (PyData.depthAll ys) (py (view h x)).depth < cLine := fun ys => by
    have := Nat.min_le_right (PyData.depthAll ys) (py (view h x)).depth
    omega
  cases ey : view h y <;> rw [ey] at q <;> first | exact q.elim | skip
  · rename_i ys
    have hy : dn 12 (view h y) = true := by rw [ey]; exact q.1
    obtain ⟨bs, r2⟩ := Dp.reads I _ u uu (view_dp R ry hy) ru
    rw [ey] at r2
    have l2 := dn_lay 12 (.tup ys) q.1
    simp only [py] at r2 l2
    exact SeqAt.in_tuple_reads r2 r1 (by simpa only [PyData.canLay0] using l2.1) l1.1 (hr _) ⟨.bl _, H, I, rfl, by rw [any_py]; exact post_at p R q.2 rfl⟩
  · rename_i ys
    have hy : dn 12 (view h y) = true := by rw [ey]; exact q.1
    obtain ⟨bs, r2⟩ := Dp.reads I _ u uu (view_dp R ry hy) ru
    rw [ey] at r2
    have l2 := dn_lay 12 (.lst ys) q.1
    simp only [py] at r2 l2
    exact SeqAt.in_list_reads r2 r1 (by simpa only [PyData.canLay0] using l2.1) l1.1 (hr _) ⟨.bl _, H, I, rfl, by rw [any_py]; exact post_at p R q.2 rfl⟩
theorem od_notIn (hu : X.A.units + 65 < cLine) : OpD X (compareOp .NotIn) dNotIn := by
  intro pins s σ H v u vv uu Q I rv ru ⟨x, y, h, N, Q0, rx, ry, R, ⟨hx, q⟩, p⟩
  obtain ⟨as, r1⟩ := Dp.reads I _ v vv (view_dp R rx hx) rv
  have l1 := dn_lay _ _ hx
  have hr : ∀ ys : List PyData, X.A.units + 1 + min (PyData.depthAll ys) (py (view h x)).depth < cLine := fun ys => by
    have := Nat.min_le_right (PyData.depthAll ys) (py (view h x)).depth
    omega
  cases ey : view h y <;> rw [ey] at q <;> first | exact q.elim | skip
  · rename_i ys
    have hy : dn 12 (view h y) = true := by rw [ey]; exact q.1
    obtain ⟨bs, r2⟩ := Dp.reads I _ u uu (view_dp R ry hy) ru
    rw [ey] at r2
    have l2 := dn_lay 12 (.tup ys) q.1
    simp only [py] at r2 l2
    exact SeqAt.notIn_tuple_reads r2 r1 (by simpa only [PyData.canLay0] using l2.1) l1.1 (hr _) ⟨.bl _, H, I, rfl, by rw [any_py]; exact post_at p R q.2 rfl⟩
  · rename_i ys
    have hy : dn 12 (view h y) = true := by rw [ey]; exact q.1
    obtain ⟨bs, r2⟩ := Dp.reads I _ u uu (view_dp R ry hy) ru
    rw [ey] at r2
    have l2 := dn_lay 12 (.lst ys) q.1
    simp only [py] at r2 l2
    exact SeqAt.notIn_list_reads r2 r1 (by simpa only [PyData.canLay0] using l2.1) l1.1 (hr _) ⟨.bl _, H, I, rfl, by rw [any_py]; exact post_at p R q.2 rfl⟩
end

/-! ### subscripts -/
def dIx (x y : D) (h : DH) (Q : DK) : Prop := match y with
  | .int i => match view h x with
    | .tup xs => (match atI xs i with | some d => Q d h | none => False)
    | .lst xs => (match atI xs i with | some d => Q d h | none => False)
    | .scr ns => (match atI ns i with | some n => Q (.int n) h | none => False)
    | .str z => z.length ≤ sizeLine ∧ (match atI z.cps.toList i with | some c => Q (.str ⟨#[c]⟩) h | none => False)
    | _ => False
  | _ => False
section
variable {X : Cx} {K : PySem.W.Frag} {H : Hp} {h : DH} {N : NS}
theorem atI_rep {xs : List D} {vs : List V} {i : Int} {d : D} (r : RepL K H N xs vs) (e : atI xs i = some d) : ∃ v, atI vs i = some v ∧ Rep K H N d v := by
  unfold atI at e ⊢
  rw [r.length]
  cases q : ixN xs.length i with
  | none => rw [q] at e; cases e
  | some j =>
    rw [q] at e
    exact RepL.getD r e
theorem view_lst (R : HRep K H h N) {x : D} {v : V} (r : Rep K H N x v) {xs : List D} (e : view h x = .lst xs) : ∃ a vs, v = .ref a ∧ Rd H a (.lst vs) ∧ RepL K H N xs vs := by
  cases x with
  | ref a =>
    cases rep_ref r
    unfold view at e
    cases ea : h a with
    | none => simp only [ea] at e; cases e
    | some o =>
      cases o with
      | ins C fs => simp only [ea] at e; cases e
      | lst ds =>
        simp only [ea] at e
        cases e
        obtain ⟨vs, q, rs⟩ := R.at_ a _ ea
        exact ⟨a, vs, rfl, .of q, rs⟩
  | lst ds =>
    cases (show D.lst ds = _ from e)
    obtain ⟨a, vs, rfl, f, rs⟩ := r
    exact ⟨a, vs, rfl, f.2, rs⟩
  | non => cases (show D.non = _ from e)
  | bl b => cases (show D.bl b = _ from e)
  | int b => cases (show D.int b = _ from e)
  | str b => cases (show D.str b = _ from e)
  | tup b => cases (show D.tup b = _ from e)
  | dct => cases (show D.dct = _ from e)
  | scr b => cases (show D.scr b = _ from e)
theorem view_other {x y : D} (e : view h x = y) (n1 : ∀ xs, y ≠ .lst xs) (n2 : ∀ a, y ≠ .ref a) : x = y := by
  cases x with
  | ref a =>
    unfold view at e
    cases ea : h a with
    | none => simp only [ea] at e; exact absurd e.symm (n2 a)
    | some o =>
      cases o with
      | ins C fs => simp only [ea] at e; exact absurd e.symm (n2 a)
      | lst ds => simp only [ea] at e; exact absurd e.symm (n1 ds)
  | _ => exact e
theorem xd_ix : IxD X dIx := by
  intro value slice pins s σ H v u vv uu Q I rv ru ⟨x, y, h, N, Q0, rx, ry, R, q, p⟩ hs
  cases y <;> first | exact (show False from q).elim | skip
  rename_i i
  cases rep_int ry
  unfold dIx at q
  dsimp only at q
  cases ex : view h x <;> rw [ex] at q <;> dsimp only at q <;> first | exact q.elim | skip
  · rename_i z
    have := view_other ex (fun _ z => nomatch z) (fun _ z => nomatch z)
    subst this
    cases rep_str rx
    obtain ⟨hz, q⟩ := q
    cases e : atI z.cps.toList i with
    | none => rw [e] at q; exact q.elim
    | some c =>
      rw [e] at q
      exact ix_str value slice pins s σ H _ _ vv uu Q I rv ru ⟨z, i, c, rfl, rfl, hz, e, post_at p R q rfl⟩ hs
  · rename_i xs
    have := view_other ex (fun _ z => nomatch z) (fun _ z => nomatch z)
    subst this
    obtain ⟨a, vs, rfl, f, rs⟩ := rx
    cases e : atI xs i with
    | none => rw [e] at q; exact q.elim
    | some c =>
      rw [e] at q
      obtain ⟨w, e2, rw'⟩ := atI_rep rs e
      exact ix_tup value slice pins s σ H _ _ vv uu Q I rv ru ⟨a, vs, i, w, rfl, rfl, f.sq, e2, post_at p R q rw'⟩ hs
  · rename_i xs
    obtain ⟨a, vs, rfl, f, rs⟩ := view_lst R rx ex
    cases e : atI xs i with
    | none => rw [e] at q; exact q.elim
    | some c =>
      rw [e] at q
      obtain ⟨w, e2, rw'⟩ := atI_rep rs e
      exact ix_list value slice pins s σ H _ _ vv uu Q I rv ru ⟨a, vs, i, w, rfl, rfl, .inl f, e2, post_at p R q rw'⟩ hs
  · rename_i ns
    have := view_other ex (fun _ z => nomatch z) (fun _ z => nomatch z)
    subst this
    obtain ⟨a, rfl, f⟩ := rx
    cases e : atI ns i with
    | none => rw [e] at q; exact q.elim
    | some c =>
      rw [e] at q
      have e2 : atI (ns.map V.int) i = some (.int c) := by
        unfold atI at e ⊢
        rw [List.length_map]
        cases z : ixN ns.length i with
        | none => rw [z] at e; cases e
        | some j =>
          rw [z] at e
          show (ns.map V.int)[j]? = _
          rw [List.getElem?_map]
          have e' : ns[j]? = some c := e
          rw [e']
          rfl
      exact ix_list value slice pins s σ H _ _ vv uu Q I rv ru ⟨a, _, i, .int c, rfl, rfl, f.sq, e2, post_at p R q rfl⟩ hs
end

/-! ### slices -/
def cutG {α : Type} (xs : List α) (lo hi : Option Int) : List α := (xs.drop (HT.sIx xs.length 0 lo)).take (HT.sIx xs.length xs.length hi - HT.sIx xs.length 0 lo)
theorem cutG_from {α : Type} (xs : List α) (k : Nat) : cutG xs (some (k : Int)) none = xs.drop k := by
  unfold cutG
  rw [HT.sIx_nat, HT.sIx_none]
  by_cases h : k ≤ xs.length
  · rw [Nat.min_eq_left h]
    exact List.take_of_length_le (by rw [List.length_drop]; exact Nat.le_refl _)
  · rw [Nat.min_eq_right (by omega), List.drop_eq_nil_of_le (Nat.le_refl _), List.drop_eq_nil_of_le (by omega), List.take_nil]
theorem cutG_to {α : Type} (xs : List α) (k : Nat) : cutG xs none (some (k : Int)) = xs.take k := by
  unfold cutG
  rw [HT.sIx_nat, HT.sIx_none, List.drop_zero, Nat.sub_zero]
  by_cases h : k ≤ xs.length
  · rw [Nat.min_eq_left h]
  · rw [Nat.min_eq_right (by omega), List.take_of_length_le (Nat.le_refl _), List.take_of_length_le (by omega)]
theorem cutG_all {α : Type} (xs : List α) : cutG xs none none = xs := by
  unfold cutG
  rw [HT.sIx_none, HT.sIx_none, List.drop_zero, Nat.sub_zero, List.take_of_length_le (Nat.le_refl _)]
theorem cutG_len {α : Type} (xs : List α) (lo hi : Option Int) : (cutG xs lo hi).length ≤ xs.length := by
  unfold cutG
  rw [List.length_take, List.length_drop]
  omega
theorem cutG_map {α β : Type} (f : α → β) (xs : List α) (lo hi : Option Int) : cutG (xs.map f) lo hi = (cutG xs lo hi).map f := by
  unfold cutG
  rw [List.length_map, List.map_take, List.map_drop]
def dSlice (x : D) (lo hi : Option Int) (h : DH) (Q : DK) : Prop := match view h x with
  | .tup xs => Q (.tup (cutG xs lo hi)) h
  | .lst xs => Q (.lst (cutG xs lo hi)) h
  | .str z => z.length ≤ sizeLine ∧ Q (.str (cutS z lo hi)) h
  | _ => False
section
variable {X : Cx} {K : PySem.W.Frag} {H : Hp} {h : DH} {N : NS}
theorem RepL.cut {xs : List D} {vs : List V} (r : RepL K H N xs vs) (lo hi : Option Int) : RepL K H N (cutG xs lo hi) (cutV vs lo hi) := by
  unfold cutG cutV
  rw [r.length]
  exact (r.drop _).take _
theorem sd_slice : SlD X dSlice := by
  intro pins s σ H v vv vl vu lo hi sl Q I rv hs pl pu ⟨x, h, N, Q0, rx, R, q, p⟩
  unfold dSlice at q
  cases ex : view h x <;> rw [ex] at q <;> dsimp only at q <;> first | exact q.elim | skip
  · rename_i z
    have := view_other ex (fun _ z => nomatch z) (fun _ z => nomatch z)
    subst this
    cases rep_str rx
    exact sl_str pins s σ H _ vv vl vu lo hi sl Q I rv hs pl pu ⟨z, rfl, q.1, post_at p R q.2 rfl⟩
  · rename_i xs
    have := view_other ex (fun _ z => nomatch z) (fun _ z => nomatch z)
    subst this
    obtain ⟨a, vs, rfl, f, rs⟩ := rx
    refine sl_tupA pins s σ H _ vv vl vu lo hi sl Q I rv hs pl pu ⟨a, vs, rfl, f.sq, fun z => ?_, fun _ t n => ?_⟩
    · refine post_at p R q ?_
      have e : cutG xs lo hi = xs := by
        unfold cutG
        rw [rs.length] at z
        rw [z.1, z.2, List.drop_zero, Nat.sub_zero, List.take_of_length_le (Nat.le_refl _)]
      rw [e]
      exact ⟨a, vs, rfl, f, rs⟩
    · obtain ⟨R1, e1, r3⟩ := tup_new R n (rs.cut lo hi)
      exact p _ _ _ _ _ q e1 R1 r3
  · rename_i xs
    obtain ⟨a, vs, rfl, f, rs⟩ := view_lst R rx ex
    refine sl_list pins s σ H _ vv vl vu lo hi sl Q I rv hs pl pu ⟨a, vs, rfl, .inl f, fun t n => ?_⟩
    obtain ⟨R1, e1, r3⟩ := lst_new R n (rs.cut lo hi)
    exact p _ _ _ _ _ q e1 R1 r3
theorem d_part {e : Expr} {W : WX} {t : DE} (he : DEp X W e t) : DOp X W (some e) (dPart t) := by
  refine PO.imp (po_some he) fun σ H Q ⟨τ, h, N, Q0, X0, S, R, z, p, ex⟩ => ?_
  refine ⟨τ, h, N, _, X0, S, R, z, fun x h1 N1 v H1 q e R1 rx => ?_, ex⟩
  cases x <;> first | exact (show False from q).elim | skip
  rename_i i
  cases rep_int rx
  exact ⟨i, rfl, p _ _ _ _ q e R1⟩
/-- x[::-1] of a list -/
def dRevL (t : DE) : DE := fun τ h Q X => t τ h (fun x h1 => match view h1 x with | .lst xs => Q (.lst xs.reverse) h1 | _ => False) X
theorem d_revL {e : Expr} {W : WX} {te : DE} {k : Nat} {p1 p2 p3 pos : Pos} (he : DEp X W e te) : DEp X W (.Subscript e (.Slice none none (some (.UnaryOp .USub (.Constant (.int 1) k p1) p2)) p3) pos) (dRevL te) := PE.imp (pe_revL he) fun σ H Q ⟨τ, h, N, Q0, X0, S, R, z, p, ex⟩ => by
  refine ⟨τ, h, N, _, X0, S, R, z, fun x h1 N1 v H1 q e R1 rx => ?_, ex⟩
  dsimp only at q
  cases ev : view h1 x <;> rw [ev] at q <;> dsimp only at q <;> first | exact q.elim | skip
  obtain ⟨a, vs, rfl, f, rs⟩ := view_lst R1 rx ev
  refine ⟨a, vs, rfl, .inl f, fun t n => ?_⟩
  obtain ⟨R2, e2, r3⟩ := lst_new R1 n rs.reverse
  exact p _ _ _ _ _ q (e.trans e2) R2 r3
end

/-! ### built-in calls -/
def dLen (vs : List D) (h : DH) (Q : DK) : Prop := match vs with
  | [x] => (match view h x with
    | .str z => z.length ≤ sizeLine ∧ Q (.int (z.length : Nat)) h
    | .tup xs => Q (.int (xs.length : Nat)) h
    | .lst xs => Q (.int (xs.length : Nat)) h
    | .scr ns => Q (.int (ns.length : Nat)) h
    | _ => False)
  | _ => False
/-- the bools of a list -/
def bools : List D → Option (List Bool)
  | [] => some []
  | .bl b :: r => (bools r).map (b :: ·)
  | _ => none
theorem bools_map : ∀ bs : List Bool, bools (bs.map D.bl) = some bs
  | [] => rfl
  | b :: bs => by rw [List.map_cons]; simp only [bools, bools_map bs, Option.map_some]
theorem bools_eq : ∀ {xs : List D} {bs : List Bool}, bools xs = some bs → xs = bs.map D.bl
  | [], bs, e => by cases e; rfl
  | .bl b :: r, bs, e => by
    simp only [bools] at e
    cases q : bools r with
    | none => rw [q] at e; cases e
    | some c => rw [q] at e; cases e; rw [bools_eq q]; rfl
  | .non :: _, _, e => by cases e
  | .int _ :: _, _, e => by cases e
  | .str _ :: _, _, e => by cases e
  | .tup _ :: _, _, e => by cases e
  | .lst _ :: _, _, e => by cases e
  | .dct :: _, _, e => by cases e
  | .scr _ :: _, _, e => by cases e
  | .ref _ :: _, _, e => by cases e
def dAll (vs : List D) (h : DH) (Q : DK) : Prop := match vs with
  | [.lst xs] => (match bools xs with | some bs => Q (.bl (bs.all id)) h | none => False)
  | _ => False
def dAny (vs : List D) (h : DH) (Q : DK) : Prop := match vs with
  | [.lst xs] => (match bools xs with | some bs => Q (.bl (bs.any id)) h | none => False)
  | _ => False
def intsOf : List D → Option (List Int)
  | [] => some []
  | .int b :: r => (intsOf r).map (b :: ·)
  | _ => none
theorem intsOf_map : ∀ bs : List Int, intsOf (bs.map D.int) = some bs
  | [] => rfl
  | b :: bs => by rw [List.map_cons]; simp only [intsOf, intsOf_map bs, Option.map_some]
theorem intsOf_eq : ∀ {xs : List D} {bs : List Int}, intsOf xs = some bs → xs = bs.map D.int
  | [], bs, e => by cases e; rfl
  | .int b :: r, bs, e => by
    simp only [intsOf] at e
    cases q : intsOf r with
    | none => rw [q] at e; cases e
    | some c => rw [q] at e; cases e; rw [intsOf_eq q]; rfl
  | .non :: _, _, e => by cases e
  | .bl _ :: _, _, e => by cases e
  | .str _ :: _, _, e => by cases e
  | .tup _ :: _, _, e => by cases e
  | .lst _ :: _, _, e => by cases e
  | .dct :: _, _, e => by cases e
  | .scr _ :: _, _, e => by cases e
  | .ref _ :: _, _, e => by cases e
def strsOf : List D → Option (List Str)
  | [] => some []
  | .str b :: r => (strsOf r).map (b :: ·)
  | _ => none
theorem strsOf_map : ∀ bs : List Str, strsOf (bs.map D.str) = some bs
  | [] => rfl
  | b :: bs => by rw [List.map_cons]; simp only [strsOf, strsOf_map bs, Option.map_some]
theorem strsOf_eq : ∀ {xs : List D} {bs : List Str}, strsOf xs = some bs → xs = bs.map D.str
  | [], bs, e => by cases e; rfl
  | .str b :: r, bs, e => by
    simp only [strsOf] at e
    cases q : strsOf r with
    | none => rw [q] at e; cases e
    | some c => rw [q] at e; cases e; rw [strsOf_eq q]; rfl
  | .non :: _, _, e => by cases e
  | .bl _ :: _, _, e => by cases e
  | .int _ :: _, _, e => by cases e
  | .tup _ :: _, _, e => by cases e
  | .lst _ :: _, _, e => by cases e
  | .dct :: _, _, e => by cases e
  | .scr _ :: _, _, e => by cases e
  | .ref _ :: _, _, e => by cases e
def dSum (vs : List D) (h : DH) (Q : DK) : Prop := match vs with
  | [x] => (match view h x with
    | .lst xs => (match intsOf xs with | some ns => Q (.int ns.sum) h | none => False)
    | _ => False)
  | _ => False
def dTuple (vs : List D) (h : DH) (Q : DK) : Prop := match vs with
  | [x] => (match view h x with
    | .lst xs => Q (.tup xs) h
    | .tup xs => Q (.tup xs) h
    | _ => False)
  | _ => False
def dList (vs : List D) (h : DH) (Q : DK) : Prop := match vs with
  | [x] => (match view h x with
    | .lst xs => Q (.lst xs) h
    | .tup xs => Q (.lst xs) h
    | _ => False)
  | _ => False
/-- .. a list that will change -/
def dListM (vs : List D) (h : DH) (Q : DK) : Prop := match vs with
  | [x] => (match view h x with
    | .lst xs => ∀ p, h p = none → Q (.ref p) (dupd h p (.lst xs))
    | .tup xs => ∀ p, h p = none → Q (.ref p) (dupd h p (.lst xs))
    | _ => False)
  | _ => False
def dMax2 (vs : List D) (h : DH) (Q : DK) : Prop := match vs with
  | [.int i, .int j] => Q (.int (if j > i then j else i)) h
  | _ => False
def dMin2 (vs : List D) (h : DH) (Q : DK) : Prop := match vs with
  | [.int i, .int j] => Q (.int (if j < i then j else i)) h
  | _ => False
def dAbs (vs : List D) (h : DH) (Q : DK) : Prop := match vs with
  | [.int i] => Q (.int (if i < 0 then -i else i)) h
  | _ => False
def dInt (vs : List D) (h : DH) (Q : DK) : Prop := match vs with
  | [.int i] => Q (.int i) h
  | [.bl b] => Q (.int (if b then 1 else 0)) h
  | _ => False
def dStrI (vs : List D) (h : DH) (Q : DK) : Prop := match vs with
  | [.int i] => i.natAbs.log2 < 1920 ∧ Q (.str (toString i)) h
  | _ => False
section
variable {X : Cx} {K : PySem.W.Frag} {H : Hp} {h : DH} {N : NS}
theorem repl1 {xs : List D} {vs : List V} {x : D} (e : xs = [x]) (r : RepL K H N xs vs) : ∃ v, vs = [v] ∧ Rep K H N x v := by
  subst e
  obtain ⟨v, t, rfl, r1, r2⟩ := r
  cases (show t = _ from r2)
  exact ⟨v, rfl, r1⟩
theorem repl2 {xs : List D} {vs : List V} {x y : D} (e : xs = [x, y]) (r : RepL K H N xs vs) : ∃ v u, vs = [v, u] ∧ Rep K H N x v ∧ Rep K H N y u := by
  subst e
  obtain ⟨v, t, rfl, r1, u, t2, rfl, r2, r3⟩ := r
  cases (show t2 = _ from r3)
  exact ⟨v, u, rfl, r1, r2⟩
theorem cd_len : CallD X (.builtin "len") dLen := by
  intro pins s σ H vs us Q I rv ⟨xs, h, N, Q0, rx, R, q, p⟩
  match xs, rx, q with
  | [x], rx, q =>
    obtain ⟨v, rfl, r1⟩ := repl1 rfl rx
    unfold dLen at q
    dsimp only at q
    cases ex : view h x <;> rw [ex] at q <;> dsimp only at q <;> first | exact q.elim | skip
    · rename_i z
      have := view_other ex (fun _ z => nomatch z) (fun _ z => nomatch z)
      subst this
      cases rep_str r1
      exact call_len pins s σ H _ us Q I rv ⟨_, z.length, rfl, ⟨q.1, rfl⟩, post_at p R q.2 rfl⟩
    · rename_i xs
      have := view_other ex (fun _ z => nomatch z) (fun _ z => nomatch z)
      subst this
      obtain ⟨a, vs, rfl, f, rs⟩ := r1
      exact call_len pins s σ H _ us Q I rv ⟨_, vs.length, rfl, .inr ⟨vs, f.sq, rfl⟩, by rw [rs.length]; exact post_at p R q rfl⟩
    · rename_i xs
      obtain ⟨a, vs, rfl, f, rs⟩ := view_lst R r1 ex
      exact call_len pins s σ H _ us Q I rv ⟨_, vs.length, rfl, .inl ⟨vs, .inl f, rfl⟩, by rw [rs.length]; exact post_at p R q rfl⟩
    · rename_i ns
      have := view_other ex (fun _ z => nomatch z) (fun _ z => nomatch z)
      subst this
      obtain ⟨a, rfl, f⟩ := r1
      exact call_len pins s σ H _ us Q I rv ⟨_, ns.length, rfl, .inl ⟨_, f.sq, by rw [List.length_map]⟩, post_at p R q rfl⟩
  | [], _, q => exact (show False from q).elim
  | _ :: _ :: _, _, q => exact (show False from q).elim
theorem rep_lstV {xs : List D} {v : V} (r : Rep K H N (.lst xs) v) : ∃ a vs, v = .ref a ∧ Rd H a (.lst vs) ∧ RepL K H N xs vs := by
  obtain ⟨a, vs, rfl, f, rs⟩ := r
  exact ⟨a, vs, rfl, f.2, rs⟩
theorem cd_all (hc : X.calm = true) : CallD X (.builtin "all") dAll := by
  intro pins s σ H vs us Q I rv ⟨xs, h, N, Q0, rx, R, q, p⟩
  unfold dAll at q
  split at q
  · rename_i ys
    obtain ⟨v, rfl, r1⟩ := repl1 rfl rx
    cases eb : bools ys with
    | none => rw [eb] at q; exact q.elim
    | some bs =>
      rw [eb] at q
      have := bools_eq eb
      subst this
      obtain ⟨a, vs, rfl, f, rs⟩ := rep_lstV r1
      have := rs.bls
      subst this
      exact cr_all hc pins s σ H _ us Q I rv ⟨a, bs, rfl, .inl f, post_at p R q rfl⟩
  · exact q.elim
theorem cd_any (hc : X.calm = true) : CallD X (.builtin "any") dAny := by
  intro pins s σ H vs us Q I rv ⟨xs, h, N, Q0, rx, R, q, p⟩
  unfold dAny at q
  split at q
  · rename_i ys
    obtain ⟨v, rfl, r1⟩ := repl1 rfl rx
    cases eb : bools ys with
    | none => rw [eb] at q; exact q.elim
    | some bs =>
      rw [eb] at q
      have := bools_eq eb
      subst this
      obtain ⟨a, vs, rfl, f, rs⟩ := rep_lstV r1
      have := rs.bls
      subst this
      exact cr_any hc pins s σ H _ us Q I rv ⟨a, bs, rfl, .inl f, post_at p R q rfl⟩
  · exact q.elim
theorem cd_sum (hc : X.calm = true) : CallD X (.builtin "sum") dSum := by
  intro pins s σ H vs us Q I rv ⟨xs, h, N, Q0, rx, R, q, p⟩
  unfold dSum at q
  split at q
  · rename_i x
    obtain ⟨v, rfl, r1⟩ := repl1 rfl rx
    cases ex : view h x <;> rw [ex] at q <;> dsimp only at q <;> first | exact q.elim | skip
    rename_i ys
    obtain ⟨a, vs, rfl, f, rs⟩ := view_lst R r1 ex
    cases eb : intsOf ys with
    | none => rw [eb] at q; exact q.elim
    | some ns =>
      rw [eb] at q
      have := intsOf_eq eb
      subst this
      have := rs.ints
      subst this
      exact cr_sum hc pins s σ H _ us Q I rv ⟨a, ns, rfl, .inl f, post_at p R q rfl⟩
  · exact q.elim
theorem cd_tuple : CallD X (.type "tuple") dTuple := by
  intro pins s σ H vs us Q I rv ⟨xs, h, N, Q0, rx, R, q, p⟩
  unfold dTuple at q
  split at q
  · rename_i x
    obtain ⟨v, rfl, r1⟩ := repl1 rfl rx
    cases ex : view h x <;> rw [ex] at q <;> dsimp only at q <;> first | exact q.elim | skip
    · rename_i xs
      have := view_other ex (fun _ z => nomatch z) (fun _ z => nomatch z)
      subst this
      have rx0 := r1
      obtain ⟨a, vs, rfl, f, rs⟩ := r1
      exact call_tuple_of pins s σ H _ us Q I rv ⟨a, vs, rfl, .inr ⟨f.sq, post_at p R q rx0⟩⟩
    · rename_i xs
      obtain ⟨a, vs, rfl, f, rs⟩ := view_lst R r1 ex
      refine call_tuple_of pins s σ H _ us Q I rv ⟨a, vs, rfl, .inl ⟨.inl f, fun t n => ?_⟩⟩
      obtain ⟨R2, e2, r3⟩ := tup_new R n rs
      exact p _ _ _ _ _ q e2 R2 r3
  · exact q.elim
theorem cd_list : CallD X (.type "list") dList := by
  intro pins s σ H vs us Q I rv ⟨xs, h, N, Q0, rx, R, q, p⟩
  unfold dList at q
  split at q
  · rename_i x
    obtain ⟨v, rfl, r1⟩ := repl1 rfl rx
    cases ex : view h x <;> rw [ex] at q <;> dsimp only at q <;> first | exact q.elim | skip
    · rename_i xs
      have := view_other ex (fun _ z => nomatch z) (fun _ z => nomatch z)
      subst this
      obtain ⟨a, vs, rfl, f, rs⟩ := r1
      refine call_list_of pins s σ H _ us Q I rv ⟨a, vs, rfl, .inr f.sq, fun t n => ?_⟩
      obtain ⟨R2, e2, r3⟩ := lst_new R n rs
      exact p _ _ _ _ _ q e2 R2 r3
    · rename_i xs
      obtain ⟨a, vs, rfl, f, rs⟩ := view_lst R r1 ex
      refine call_list_of pins s σ H _ us Q I rv ⟨a, vs, rfl, .inl (.inl f), fun t n => ?_⟩
      obtain ⟨R2, e2, r3⟩ := lst_new R n rs
      exact p _ _ _ _ _ q e2 R2 r3
  · exact q.elim
theorem cd_listM : CallD X (.type "list") dListM := by
  intro pins s σ H vs us Q I rv ⟨xs, h, N, Q0, rx, R, q, p⟩
  unfold dListM at q
  split at q
  · rename_i x
    obtain ⟨v, rfl, r1⟩ := repl1 rfl rx
    cases ex : view h x <;> rw [ex] at q <;> dsimp only at q <;> first | exact q.elim | skip
    · rename_i xs
      have := view_other ex (fun _ z => nomatch z) (fun _ z => nomatch z)
      subst this
      obtain ⟨a, vs, rfl, f, rs⟩ := r1
      refine call_list_of pins s σ H _ us Q I rv ⟨a, vs, rfl, .inr f.sq, fun t n => ?_⟩
      obtain ⟨R2, e2⟩ := lst_newM R n rs
      exact p _ _ _ _ _ (q t (R.none n)) e2 R2 rfl
    · rename_i xs
      obtain ⟨a, vs, rfl, f, rs⟩ := view_lst R r1 ex
      refine call_list_of pins s σ H _ us Q I rv ⟨a, vs, rfl, .inl (.inl f), fun t n => ?_⟩
      obtain ⟨R2, e2⟩ := lst_newM R n rs
      exact p _ _ _ _ _ (q t (R.none n)) e2 R2 rfl
  · exact q.elim
theorem cd_max2 (hc : X.calm = true) : CallD X (.builtin "max") dMax2 := by
  intro pins s σ H vs us Q I rv ⟨xs, h, N, Q0, rx, R, q, p⟩
  unfold dMax2 at q
  split at q
  · obtain ⟨v, u, rfl, r1, r2⟩ := repl2 rfl rx
    cases rep_int r1; cases rep_int r2
    exact call_max2 hc pins s σ H _ us Q I rv ⟨_, _, rfl, post_at p R q rfl⟩
  · exact q.elim
theorem cd_min2 (hc : X.calm = true) : CallD X (.builtin "min") dMin2 := by
  intro pins s σ H vs us Q I rv ⟨xs, h, N, Q0, rx, R, q, p⟩
  unfold dMin2 at q
  split at q
  · obtain ⟨v, u, rfl, r1, r2⟩ := repl2 rfl rx
    cases rep_int r1; cases rep_int r2
    exact call_min2 hc pins s σ H _ us Q I rv ⟨_, _, rfl, post_at p R q rfl⟩
  · exact q.elim
theorem cd_abs : CallD X (.builtin "abs") dAbs := by
  intro pins s σ H vs us Q I rv ⟨xs, h, N, Q0, rx, R, q, p⟩
  unfold dAbs at q
  split at q
  · obtain ⟨v, rfl, r1⟩ := repl1 rfl rx
    cases rep_int r1
    exact call_abs pins s σ H _ us Q I rv ⟨_, rfl, post_at p R q rfl⟩
  · exact q.elim
theorem cd_int : CallD X (.type "int") dInt := by
  intro pins s σ H vs us Q I rv ⟨xs, h, N, Q0, rx, R, q, p⟩
  unfold dInt at q
  split at q
  · obtain ⟨v, rfl, r1⟩ := repl1 rfl rx
    cases rep_int r1
    exact call_int1 pins s σ H _ us Q I rv (.inl ⟨_, rfl, post_at p R q rfl⟩)
  · obtain ⟨v, rfl, r1⟩ := repl1 rfl rx
    cases rep_bl r1
    exact call_int1 pins s σ H _ us Q I rv (.inr ⟨_, rfl, post_at p R q rfl⟩)
  · exact q.elim
theorem cd_strI : CallD X (.type "str") dStrI := by
  intro pins s σ H vs us Q I rv ⟨xs, h, N, Q0, rx, R, q, p⟩
  unfold dStrI at q
  split at q
  · obtain ⟨v, rfl, r1⟩ := repl1 rfl rx
    cases rep_int r1
    exact call_str_int pins s σ H _ us Q I rv ⟨_, rfl, q.1, post_at p R q.2 rfl⟩
  · exact q.elim
end
end DL

/-! D5: isinstance of built-in types, repr, methods of lists and texts. -/
namespace DL
open PySem PySem.Spec L2 PyProof.Rows

/-! ### isinstance(x, T), T a built-in type -/
def tyN : D → String
  | .non => "NoneType"
  | .bl _ => "bool"
  | .int _ => "int"
  | .str _ => "str"
  | .tup _ => "tuple"
  | .lst _ => "list"
  | .scr _ => "list"
  | .dct => "dict"
  | .ref _ => "?"
def isiB (t T : String) : Bool := t == T || (t == "bool" && T == "int")
def dTyp (T : String) : DE := fun _ _ _ _ => False
/-- isinstance(e, T) -/
def dIsi (T : String) (t : DE) : DE := fun τ h Q X => t τ h (fun x h1 => tyN (view h1 x) ≠ "?" ∧ Q (.bl (isiB (tyN (view h1 x)) T)) h1) X
section
variable {X : Cx} {K : PySem.W.Frag} {H : Hp} {h : DH} {N : NS}
theorem tyx (R : HRep K H h N) {d : D} {v : V} (r : Rep K H N d v) (hd : tyN (view h d) ≠ "?") : TyX K H v (.type (tyN (view h d))) := by
  cases ex : view h d with
  | non => cases view_other ex (fun _ z => nomatch z) (fun _ z => nomatch z); cases rep_non r; exact .base .non
  | bl b => cases view_other ex (fun _ z => nomatch z) (fun _ z => nomatch z); cases rep_bl r; exact .base (.bl _)
  | int b => cases view_other ex (fun _ z => nomatch z) (fun _ z => nomatch z); cases rep_int r; exact .base (.int _)
  | str b => cases view_other ex (fun _ z => nomatch z) (fun _ z => nomatch z); cases rep_str r; exact .base (.str _)
  | tup xs =>
    cases view_other ex (fun _ z => nomatch z) (fun _ z => nomatch z)
    obtain ⟨a, vs, rfl, f, rs⟩ := r
    rcases f with ⟨_, f | ⟨o, f⟩⟩ | ⟨o, its, n, k, c, _⟩
    · exact .base (.tup f)
    · exact .fTuple f
    · exact .kTuple k c
  | lst xs =>
    obtain ⟨a, vs, rfl, f, rs⟩ := view_lst R r ex
    rcases f with f | ⟨o, f⟩
    · exact .base (.lst f)
    · exact .base (.frz f)
  | scr ns =>
    cases view_other ex (fun _ z => nomatch z) (fun _ z => nomatch z)
    obtain ⟨a, rfl, f⟩ := r
    rcases f with ⟨_, f | ⟨o, f⟩⟩ | ⟨o, its, n, k, c, _⟩
    · exact .base (.lst f)
    · exact .base (.frz f)
    · exact .kList k c
  | dct =>
    cases view_other ex (fun _ z => nomatch z) (fun _ z => nomatch z)
    obtain ⟨a, rfl, n, f⟩ := r
    rcases f with f | ⟨o, f⟩
    · exact .base (.dK f)
    · exact .fDict f
  | ref a => rw [ex] at hd; exact absurd rfl hd
theorem kit_all : ∀ t ∈ ["NoneType", "bool", "int", "str", "tuple", "list", "dict"], ∀ T ∈ ["int", "bool", "str", "tuple", "list", "dict"], kitB t T = some (isiB t T) := by decide +kernel
theorem tyN_mem {d : D} (hd : tyN d ≠ "?") : tyN d ∈ ["NoneType", "bool", "int", "str", "tuple", "list", "dict"] := by
  cases d <;> simp [tyN] at hd ⊢
theorem kit_isi (T : String) (hT : T ∈ ["int", "bool", "str", "tuple", "list", "dict"]) (d : D) (hd : tyN d ≠ "?") : PySem.W.kitOne K (.type (tyN d)) (.type T) = some (isiB (tyN d) T) :=
  kit_ty (kit_all _ (tyN_mem hd) _ hT)
theorem d_isi {T : String} {x y : Str} {e : Expr} {W : WX} {t : DE} {p p2 pos : Pos} (hT : T ∈ ["int", "bool", "str", "tuple", "list", "dict"]) (hg : Gl X "isinstance") (hm : X.mg "isinstance" = none)
    (hgT : Gl X y) (hmT : X.mg y = none) (hv : bootBuiltins y = some (.type T)) (he : DEp X W e t) (hn : y ≠ "__name__" := by decide) (hdb : (y == ("__debug__" : Str)) = false := by decide)
    (hs1 : starEach [e, .Name y p2] X.env = (false, eval e X.env) :: starEach [.Name y p2] X.env := by rfl) (hs2 : starEach [.Name y p2] X.env = (false, eval (.Name y p2) X.env) :: starEach [] X.env := by rfl) (hpl : (backTo pos (starEach [.Name y p2] X.env)).any (·.1) = false := by rfl) :
    DEp X W (.Call (.Name "isinstance" p) [e, .Name y p2] [] pos) (dIsi T t) := by
  refine PE.imp (pe_callB call_isi hg hm (by decide +kernel) (pa_cons he (pa_cons (pe_bltn (v := .ty T) hgT hmT hv rfl hn hdb) pa_nil hs2) hs1) (by decide) (by decide) hs1 hpl) fun σ H Q ⟨τ, h, N, Q0, X0, S, R, z, p, ex⟩ => ?_
  refine ⟨τ, h, N, _, X0, S, R, z, fun d h1 N1 v H1 q e R1 rx => ?_, ex⟩
  exact ⟨v, .ty T, _, _, _, rfl, .ty T, tyx R1 rx q.1, kit_isi T hT _ q.1, p _ _ _ _ _ q.2 e R1 rfl⟩
end

/-! ### repr -/
def shownD (x : D) : Str := PyData.shown (py x)
def dRepr (vs : List D) (h : DH) (Q : DK) : Prop := match vs with
  | [x] => rn 12 (view h x) = true ∧ wt (view h x) ≤ 16000000 ∧ Q (.str (shownD (view h x))) h
  | _ => False
theorem shownL (xs : List D) : PyData.shownAll (pyL xs) = xs.map shownD := by
  induction xs with
  | nil => rfl
  | cons x xs ih => simp only [pyL, PyData.shownAll, List.map_cons, ih]; rfl
theorem textFrom_le : ∀ (ts : List Str) (k : Nat) (acc : Str), (textFrom k acc ts).length ≤ acc.length + piled ts
  | [], k, acc => by show acc.length ≤ _; omega
  | t :: r, k, acc => by
    have ih := textFrom_le r (k + 1) (acc ++ (if k > 0 then ", " else "" : String) ++ t)
    have e : (acc ++ (if k > 0 then ", " else "" : String) ++ t).length = acc.length + (if k > 0 then 2 else 0) + t.length := by
      rw [strLen_append, strLen_append]
      by_cases h : k > 0
      · rw [if_pos h, if_pos h]; rfl
      · rw [if_neg h, if_neg h]; rfl
    rw [e] at ih
    rw [piled_cons]
    show (textFrom (k + 1) (acc ++ (if k > 0 then ", " else "" : String) ++ t) r).length ≤ _
    have h2 : (if k > 0 then 2 else 0) ≤ 2 := by split <;> omega
    omega
theorem listText_le (ts : List Str) : (listText ts).length ≤ piled ts + 2 := by
  have h := textFrom_le ts 0 "["
  show (textFrom 0 "[" ts ++ "]").length ≤ _
  rw [strLen_append]
  have e1 : (("[" : Str)).length = 1 := rfl
  have e2 : (("]" : Str)).length = 1 := rfl
  omega
theorem join_le : ∀ ts : List Str, (Str.join ", " ts).length ≤ piled ts := by
  intro ts
  by_cases h : ts = []
  · subst h; exact Nat.le_refl _
  · have := join_length_add ts h; omega
theorem tupleText_le (ts : List Str) : (tupleText ts).length ≤ piled ts + 3 := by
  have h := join_le ts
  unfold tupleText
  rw [strLen_append, strLen_append]
  have e1 : (("(" : Str)).length = 1 := rfl
  have e2 : (((if ts.length == 1 then ",)" else ")" : String) : Str)).length ≤ 2 := by
    split
    · exact Nat.le_refl _
    · show (")" : Str).length ≤ 2
      decide
  omega
theorem rn_show : ∀ (n : Nat) (d : D), rn n d = true → (py d).showable = true ∧ (shownD d).length ≤ wt d ∧ (py d).depth ≤ n + 1 := by
  intro n
  induction n with
  | zero =>
    intro d h
    cases d <;> simp only [rn] at h <;> first | exact absurd h Bool.false_ne_true | skip
    · exact ⟨rfl, by decide, Nat.zero_le _⟩
    · rename_i b; cases b <;> exact ⟨rfl, by decide, Nat.zero_le _⟩
    · rename_i i
      refine ⟨h, ?_, Nat.zero_le _⟩
      have hi := of_decide_eq_true h
      have := int_text_length_le (a := i) (k := i.natAbs.log2 + 1) (by omega) (by omega)
      show (Str.ofString (toString i)).length ≤ i.natAbs.log2 + 3
      rw [PySem.ofString_length]
      omega
    · rename_i x
      refine ⟨rfl, ?_, Nat.zero_le _⟩
      show (reprText x).length ≤ 10 * x.length + 2
      refine StrLaws.reprText_len x fun c hc => ?_
      unfold PyData.strOk at h
      have := Array.all_eq_true'.mp h c (by simpa using hc)
      have h2 := of_decide_eq_true this
      omega
  | succ n ih =>
    have all : ∀ xs : List D, xs.all (rn n) = true → PyData.showableAll (pyL xs) = true ∧ piled (xs.map shownD) ≤ wt.wtL xs ∧ PyData.depthAll (pyL xs) ≤ n + 1 := by
      intro xs
      induction xs with
      | nil => intro _; exact ⟨rfl, Nat.le_refl _, Nat.zero_le _⟩
      | cons x xs ih2 =>
        intro h
        rw [List.all_cons, Bool.and_eq_true] at h
        obtain ⟨a1, a2, a3⟩ := ih x h.1
        obtain ⟨b1, b2, b3⟩ := ih2 h.2
        refine ⟨?_, ?_, ?_⟩
        · simp only [pyL, PyData.showableAll, a1, b1]; rfl
        · rw [List.map_cons, piled_cons]; simp only [wt.wtL]; omega
        · simp only [pyL, PyData.depthAll]; exact Nat.max_le.mpr ⟨a3, b3⟩
    intro d h
    cases d with
    | tup xs =>
      simp only [rn] at h
      obtain ⟨a, b, c⟩ := all xs h
      refine ⟨?_, ?_, ?_⟩
      · simp only [py, PyData.showable]; exact a
      · unfold shownD; simp only [py, PyData.shown, wt]; rw [shownL]
        have := tupleText_le (xs.map shownD)
        omega
      · simp only [py, PyData.depth]; omega
    | lst xs =>
      simp only [rn] at h
      obtain ⟨a, b, c⟩ := all xs h
      refine ⟨?_, ?_, ?_⟩
      · simp only [py, PyData.showable]; exact a
      · unfold shownD; simp only [py, PyData.shown, wt]; rw [shownL]
        have := listText_le (xs.map shownD)
        omega
      · simp only [py, PyData.depth]; omega
    | dct => simp only [rn] at h; exact absurd h Bool.false_ne_true
    | non => exact ⟨rfl, by decide, Nat.zero_le _⟩
    | bl b => cases b <;> exact ⟨rfl, by decide, Nat.zero_le _⟩
    | int i =>
      simp only [rn] at h
      refine ⟨h, ?_, Nat.zero_le _⟩
      have hi := of_decide_eq_true h
      have := int_text_length_le (a := i) (k := i.natAbs.log2 + 1) (by omega) (by omega)
      show (Str.ofString (toString i)).length ≤ i.natAbs.log2 + 3
      rw [PySem.ofString_length]
      omega
    | str x =>
      simp only [rn] at h
      refine ⟨rfl, ?_, Nat.zero_le _⟩
      show (reprText x).length ≤ 10 * x.length + 2
      refine StrLaws.reprText_len x fun c hc => ?_
      unfold PyData.strOk at h
      have := Array.all_eq_true'.mp h c (by simpa using hc)
      have h2 := of_decide_eq_true this
      omega
    | scr _ => simp only [rn] at h; exact absurd h Bool.false_ne_true
    | ref _ => simp only [rn] at h; exact absurd h Bool.false_ne_true
section
variable {X : Cx} {pins : List (Addr × Obj)} {σ : L2.St} {H : Hp} {s : Shared} {h : DH} {N : NS}
theorem rn_dn : ∀ (n : Nat) (d : D), rn n d = true → dn n d = true := by
  intro n
  induction n with
  | zero => intro d h; cases d <;> simp only [rn, dn] at h ⊢ <;> exact h
  | succ n ih =>
    intro d h
    cases d <;> simp only [rn, dn] at h ⊢ <;> first | exact h | (rw [List.all_eq_true] at h ⊢; exact fun x hx => ih x (h x hx))
theorem cd_repr (hg : X.A.guards = some []) (hu : X.A.units + 64 < cLine) : CallD X (.builtin "repr") dRepr := by
  intro pins s σ H vs us Q I rv ⟨xs, h, N, Q0, rx, R, q, p⟩
  unfold dRepr at q
  split at q
  · rename_i x
    obtain ⟨v, rfl, r1⟩ := repl1 rfl rx
    obtain ⟨hr, hw, q⟩ := q
    have hd := rn_dn _ _ hr
    have hz : (sizeLine : Nat) = 16777216 := sizeLine_eq
    obtain ⟨s1, s2, s3⟩ := rn_show _ _ hr
    have dp := view_dp R r1 hd
    obtain ⟨u, rfl, ru⟩ : ∃ u, us = [u] ∧ RelV v u := by
      cases rv with
      | cons a b => cases b; exact ⟨_, rfl, a⟩
    obtain ⟨as, rd⟩ := Dp.reads I _ v u dp ru
    have hnd := PyData.hasDict_of_canLay _ (dn_lay _ _ hd).1
    have fin : ∀ (h' : Heap) (t : Tok) (tk : Nat), (∀ b o, s.heap.get? b = some o → h'.get? b = some o) → EP X pins σ Q (.str (shownD (view h x)) t) { s with heap := h', toks := tk } := fun h' t tk k =>
      ⟨.str (shownD (view h x)), H, I.kept k, ⟨t, rfl⟩, post_at p R q rfl⟩
    cases ex : view h x with
    | non =>
      cases view_other ex (fun _ z => nomatch z) (fun _ z => nomatch z)
      cases rep_non r1; cases ru
      exact PySem.P.repr_of_none (fin s.heap _ _ fun _ _ e => e)
    | bl b =>
      cases view_other ex (fun _ z => nomatch z) (fun _ z => nomatch z)
      cases rep_bl r1; cases ru
      exact PySem.P.repr_of_bool (fin s.heap _ _ fun _ _ e => e)
    | int i =>
      cases view_other ex (fun _ z => nomatch z) (fun _ z => nomatch z)
      cases rep_int r1
      obtain ⟨t, rfl⟩ := ru
      rw [ex] at hr
      exact PySem.P.repr_of_int (of_decide_eq_true hr) (fin s.heap _ _ fun _ _ e => e)
    | str z =>
      cases view_other ex (fun _ z => nomatch z) (fun _ z => nomatch z)
      cases rep_str r1
      obtain ⟨t, rfl⟩ := ru
      have : (reprText z).length ≤ sizeLine := by
        rw [ex] at s2 hw
        have e : (reprText z).length ≤ wt (.str z) := s2
        omega
      exact PySem.P.repr_of_str (fin s.heap _ _ fun _ _ e => e) this
    | tup zs =>
      cases view_other ex (fun _ z => nomatch z) (fun _ z => nomatch z)
      obtain ⟨a, ws, rfl, f, rs⟩ := r1
      cases ru
      refine repr_of_reads' rd s1 (fun e => by rw [hnd] at e; cases e) hg (by omega) (fun _ _ e => e) (fun h' t tk k => fin h' t tk k) ?_
      have e : (PyData.shown (py (view h (.tup zs)))).length ≤ wt (view h (.tup zs)) := s2
      omega
    | lst zs =>
      obtain ⟨a, ws, rfl, f, rs⟩ := view_lst R r1 ex
      cases ru
      refine repr_of_reads' rd s1 (fun e => by rw [hnd] at e; cases e) hg (by omega) (fun _ _ e => e) (fun h' t tk k => fin h' t tk k) ?_
      have e : (PyData.shown (py (view h x))).length ≤ wt (view h x) := s2
      omega
    | dct => rw [ex] at hr; exact absurd (show false = true from hr) Bool.false_ne_true
    | scr _ => rw [ex] at hr; exact absurd (show false = true from hr) Bool.false_ne_true
    | ref _ => rw [ex] at hr; exact absurd (show false = true from hr) Bool.false_ne_true
  · exact q.elim
end

/-! ### methods of lists -/
def dAppend (x : D) (ys : List D) (h : DH) (Q : DK) : Prop := match x, ys with
  | .ref a, [y] => (match h a with | some (.lst ds) => ds.length < sizeLine ∧ Q .non (dupd h a (.lst (ds ++ [y]))) | _ => False)
  | _, _ => False
def dPop0 (x : D) (ys : List D) (h : DH) (Q : DK) : Prop := match x, ys with
  | .ref a, [] => (match h a with | some (.lst ds) => (match ds[ds.length - 1]? with | some d => Q d (dupd h a (.lst ds.dropLast)) | none => False) | _ => False)
  | _, _ => False
def dPopAt (x : D) (ys : List D) (h : DH) (Q : DK) : Prop := match x, ys with
  | .ref a, [.int i] => (match h a with | some (.lst ds) => 0 ≤ i ∧ i < 2 ^ 63 ∧ (match ds[i.toNat]? with | some d => Q d (dupd h a (.lst (ds.eraseIdx i.toNat))) | none => False) | _ => False)
  | _, _ => False
def dInsert (x : D) (ys : List D) (h : DH) (Q : DK) : Prop := match x, ys with
  | .ref a, [.int i, y] => (match h a with | some (.lst ds) => ds.length < sizeLine ∧ 0 ≤ i ∧ i < 2 ^ 63 ∧ Q .non (dupd h a (.lst (ds.take i.toNat ++ [y] ++ ds.drop i.toNat))) | _ => False)
  | _, _ => False
def dClear (x : D) (ys : List D) (h : DH) (Q : DK) : Prop := match x, ys with
  | .ref a, [] => (match h a with | some (.lst ds) => Q .non (dupd h a (.lst [])) | _ => False)
  | _, _ => False
def dReverse (x : D) (ys : List D) (h : DH) (Q : DK) : Prop := match x, ys with
  | .ref a, [] => (match h a with | some (.lst ds) => Q .non (dupd h a (.lst ds.reverse)) | _ => False)
  | _, _ => False
def dExtend (x : D) (ys : List D) (h : DH) (Q : DK) : Prop := match x, ys with
  | .ref a, [y] => (match h a, view h y with | some (.lst ds), .lst es => ds.length + es.length ≤ sizeLine ∧ Q .non (dupd h a (.lst (ds ++ es))) | _, _ => False)
  | _, _ => False
section
variable {X : Cx} {K : PySem.W.Frag} {H : Hp} {h : DH} {N : NS}
theorem repl0 {vs : List V} (r : RepL K H N [] vs) : vs = [] := r
theorem lst_mut {a : Addr} {ds ds' : List D} {xs' : List V} (R : HRep K H h N) (ha : h a = some (.lst ds)) (rs : RepL K H N ds' xs') :
    HRep K (upd H a (.lst xs')) (dupd h a (.lst ds')) N ∧ Ext H h N (upd H a (.lst xs')) (dupd h a (.lst ds')) N := by
  have e : Ext H h N (upd H a (.lst xs')) (dupd h a (.lst ds')) N := fun b u q hn => by
    have hne : b ≠ a := fun z => by subst z; rw [ha] at hn; cases hn
    exact ⟨by rw [upd_ne hne]; exact q, by rw [dupd_ne hne]; exact hn, Iff.rfl⟩
  exact R.mut ha ⟨xs', upd_same, RepL.ext R.un e _ _ rs⟩
theorem RepL.dropLast {xs : List D} {vs : List V} (r : RepL K H N xs vs) : RepL K H N xs.dropLast vs.dropLast := by
  rw [List.dropLast_eq_take, List.dropLast_eq_take, r.length]
  exact r.take _
theorem md_append : MtD X "list.append" dAppend := by
  intro pins s σ H v vs vv us Q I rv rvs ⟨x, xs, h, N, Q0, rx, rs, R, q, p⟩
  unfold dAppend at q
  split at q
  · rename_i a y
    cases rep_ref rx
    obtain ⟨w, rfl, r1⟩ := repl1 rfl rs
    cases ea : h a with
    | none => rw [ea] at q; exact q.elim
    | some o =>
      cases o with
      | ins C fs => rw [ea] at q; exact q.elim
      | lst ds =>
        rw [ea] at q
        obtain ⟨ws, e, r2⟩ := R.at_ a _ ea
        obtain ⟨R2, e2⟩ := lst_mut R ea (r2.append (RepL.cons r1 RepL.nil))
        exact mt_append pins s σ H _ _ vv us Q I rv rvs ⟨a, ws, w, rfl, rfl, e, by rw [r2.length]; exact q.1, p _ _ _ _ _ q.2 e2 R2 rfl⟩
  · exact q.elim
theorem md_pop0 : MtD X "list.pop" dPop0 := by
  intro pins s σ H v vs vv us Q I rv rvs ⟨x, xs, h, N, Q0, rx, rs, R, q, p⟩
  unfold dPop0 at q
  split at q
  · rename_i a
    cases rep_ref rx
    cases repl0 rs
    cases ea : h a with
    | none => rw [ea] at q; exact q.elim
    | some o =>
      cases o with
      | ins C fs => rw [ea] at q; exact q.elim
      | lst ds =>
        rw [ea] at q
        dsimp only at q
        obtain ⟨ws, e, r2⟩ := R.at_ a _ ea
        obtain ⟨R2, e2⟩ := lst_mut R ea r2.dropLast
        cases ed : ds[ds.length - 1]? with
        | none => rw [ed] at q; exact q.elim
        | some d =>
          rw [ed] at q
          obtain ⟨w, ew, rw'⟩ := r2.getD ed
          exact mt_pop pins s σ H _ _ vv us Q I rv rvs ⟨a, ws, w, rfl, rfl, e, by rw [r2.length]; exact ew, p _ _ _ _ _ q e2 R2 (Rep.ext R.un e2 _ _ rw')⟩
  · exact q.elim
theorem md_popAt : MtD X "list.pop" dPopAt := by
  intro pins s σ H v vs vv us Q I rv rvs ⟨x, xs, h, N, Q0, rx, rs, R, q, p⟩
  unfold dPopAt at q
  split at q
  · rename_i a i
    cases rep_ref rx
    obtain ⟨w0, rfl, r1⟩ := repl1 rfl rs
    cases rep_int r1
    cases ea : h a with
    | none => rw [ea] at q; exact q.elim
    | some o =>
      cases o with
      | ins C fs => rw [ea] at q; exact q.elim
      | lst ds =>
        rw [ea] at q
        dsimp only at q
        obtain ⟨q1, q2, q⟩ := q
        obtain ⟨ws, e, r2⟩ := R.at_ a _ ea
        obtain ⟨R2, e2⟩ := lst_mut R ea (r2.eraseIdx i.toNat)
        cases ed : ds[i.toNat]? with
        | none => rw [ed] at q; exact q.elim
        | some d =>
          rw [ed] at q
          obtain ⟨w, ew, rw'⟩ := r2.getD ed
          have hi := (List.getElem?_eq_some_iff.mp ew).1
          exact mt_popAt pins s σ H _ _ vv us Q I rv rvs ⟨a, ws, i, i.toNat, w, rfl, rfl, e, by omega, q2, by rw [seqIndex_of q1 (by omega)], ew, p _ _ _ _ _ q e2 R2 (Rep.ext R.un e2 _ _ rw')⟩
  · exact q.elim
theorem md_insert : MtD X "list.insert" dInsert := by
  intro pins s σ H v vs vv us Q I rv rvs ⟨x, xs, h, N, Q0, rx, rs, R, q, p⟩
  unfold dInsert at q
  split at q
  · rename_i a i y
    cases rep_ref rx
    obtain ⟨w0, w, rfl, r1, r1'⟩ := repl2 rfl rs
    cases rep_int r1
    cases ea : h a with
    | none => rw [ea] at q; exact q.elim
    | some o =>
      cases o with
      | ins C fs => rw [ea] at q; exact q.elim
      | lst ds =>
        rw [ea] at q
        dsimp only at q
        obtain ⟨q1, q2, q3, q⟩ := q
        obtain ⟨ws, e, r2⟩ := R.at_ a _ ea
        obtain ⟨R2, e2⟩ := lst_mut R ea (((r2.take i.toNat).append (RepL.cons r1' RepL.nil)).append (r2.drop i.toNat))
        exact mt_insert pins s σ H _ _ vv us Q I rv rvs ⟨a, ws, i, w, rfl, rfl, e, by rw [r2.length]; exact q1, q2, q3, p _ _ _ _ _ q e2 R2 rfl⟩
  · exact q.elim
theorem md_clear : MtD X "list.clear" dClear := by
  intro pins s σ H v vs vv us Q I rv rvs ⟨x, xs, h, N, Q0, rx, rs, R, q, p⟩
  unfold dClear at q
  split at q
  · rename_i a
    cases rep_ref rx
    cases repl0 rs
    cases ea : h a with
    | none => rw [ea] at q; exact q.elim
    | some o =>
      cases o with
      | ins C fs => rw [ea] at q; exact q.elim
      | lst ds =>
        rw [ea] at q
        obtain ⟨ws, e, r2⟩ := R.at_ a _ ea
        obtain ⟨R2, e2⟩ := lst_mut (ds' := []) (xs' := []) R ea rfl
        exact mt_clear pins s σ H _ _ vv us Q I rv rvs ⟨a, ws, rfl, rfl, e, p _ _ _ _ _ q e2 R2 rfl⟩
  · exact q.elim
theorem md_reverse : MtD X "list.reverse" dReverse := by
  intro pins s σ H v vs vv us Q I rv rvs ⟨x, xs, h, N, Q0, rx, rs, R, q, p⟩
  unfold dReverse at q
  split at q
  · rename_i a
    cases rep_ref rx
    cases repl0 rs
    cases ea : h a with
    | none => rw [ea] at q; exact q.elim
    | some o =>
      cases o with
      | ins C fs => rw [ea] at q; exact q.elim
      | lst ds =>
        rw [ea] at q
        obtain ⟨ws, e, r2⟩ := R.at_ a _ ea
        obtain ⟨R2, e2⟩ := lst_mut R ea r2.reverse
        exact mt_reverse pins s σ H _ _ vv us Q I rv rvs ⟨a, ws, rfl, rfl, e, p _ _ _ _ _ q e2 R2 rfl⟩
  · exact q.elim
/-- list.extend by any list that is read -/
theorem mt_extendL : MtR X "list.extend" (fun x vs H Q => ∃ l b xs zs, x = .ref l ∧ vs = [.ref b] ∧ H l = some (.lst xs) ∧ Rd H b (.lst zs) ∧ xs.length + zs.length ≤ sizeLine ∧ Q .non (upd H l (.lst (xs ++ zs)))) := by
  intro pins s σ H x vs v us Q I rx rv h
  obtain ⟨l, b, xs, zs, rfl, rfl, hH, hB, hz, q⟩ := h
  cases rx
  obtain ⟨u, rfl, ru⟩ := rv.one
  cases ru
  obtain ⟨z, its, n, r, hl, e⟩ := I.lstM hH
  obtain ⟨z2, its2, n2, r2, hl2, e2⟩ := lstR I hB
  have hsz : its.toArray.size + its2.toArray.size ≤ sizeLine := by rw [List.size_toArray, List.size_toArray]; omega
  have hlong : ¬ (!its.toArray.isEmpty && Builtin.List.listTooLong (its.toArray.size + its2.toArray.size)) = true := by
    rw [notLongL hsz, Bool.and_false]
    exact Bool.false_ne_true
  refine call_meets F.slot_list_extend ⟨_, e, rfl⟩ F.entry_list_extend (F.args_list_extend_2 _ _)
    (AutoSeq1.list_extend_list_list_0 l its.toArray n b its2.toArray n2 hlong (by rw [List.size_toArray]; omega) (by omega)) ⟨e, e2, ?_⟩
  refine ⟨.non, _, I.lset (its' := its ++ its2) hH e (by simp) (r.append r2) ?_, rfl, q⟩
  rw [List.length_append]
  omega
theorem md_extend : MtD X "list.extend" dExtend := by
  intro pins s σ H v vs vv us Q I rv rvs ⟨x, xs, h, N, Q0, rx, rs, R, q, p⟩
  unfold dExtend at q
  split at q
  · rename_i a y
    cases rep_ref rx
    obtain ⟨w, rfl, r1⟩ := repl1 rfl rs
    split at q
    · rename_i ds es ea ey
      obtain ⟨ws, e, r2⟩ := R.at_ a _ ea
      obtain ⟨b, zs, rfl, f, r3⟩ := view_lst R r1 ey
      obtain ⟨R2, e2⟩ := lst_mut R ea (r2.append r3)
      exact mt_extendL pins s σ H _ _ vv us Q I rv rvs ⟨a, b, ws, zs, rfl, rfl, e, f, by rw [r2.length, r3.length]; exact q.1, p _ _ _ _ _ q.2 e2 R2 rfl⟩
    · exact q.elim
  · exact q.elim
end

/-! ### methods of texts -/
def dJoin (x : D) (ys : List D) (h : DH) (Q : DK) : Prop := match x, ys with
  | .str a, [y] => (match view h y with
    | .lst es => (match strsOf es with | some zs => (zs.map (·.length)).sum + zs.length * a.length ≤ 16777216 ∧ Q (.str (Txt.join a zs)) h | none => False)
    | .tup es => (match strsOf es with | some zs => (zs.map (·.length)).sum + zs.length * a.length ≤ 16777216 ∧ Q (.str (Txt.join a zs)) h | none => False)
    | _ => False)
  | _, _ => False
def dSplit (x : D) (ys : List D) (h : DH) (Q : DK) : Prop := match x, ys with
  | .str a, [.str b] => (b.length == 0) = false ∧ a.length + 2 ≤ sizeLine ∧ Q (.lst ((Txt.split a b).map D.str)) h
  | _, _ => False
section
variable {X : Cx} {K : PySem.W.Frag} {H : Hp} {h : DH} {N : NS}
theorem md_join : MtD X "str.join" dJoin := by
  intro pins s σ H v vs vv us Q I rv rvs ⟨x, xs, h, N, Q0, rx, rs, R, q, p⟩
  unfold dJoin at q
  split at q
  · rename_i a y
    cases rep_str rx
    obtain ⟨w, rfl, r1⟩ := repl1 rfl rs
    cases ey : view h y <;> rw [ey] at q <;> dsimp only at q <;> first | exact q.elim | skip
    · rename_i es
      have := view_other ey (fun _ z => nomatch z) (fun _ z => nomatch z)
      subst this
      cases ez : strsOf es with
      | none => rw [ez] at q; exact q.elim
      | some zs =>
        rw [ez] at q
        have := strsOf_eq ez
        subst this
        obtain ⟨b, ws, rfl, f, r3⟩ := r1
        have := r3.strs
        subst this
        exact mt_join pins s σ H _ _ vv us Q I rv rvs ⟨a, b, zs, rfl, rfl, .inr f.sq, q.1, post_at p R q.2 rfl⟩
    · rename_i es
      cases ez : strsOf es with
      | none => rw [ez] at q; exact q.elim
      | some zs =>
        rw [ez] at q
        have := strsOf_eq ez
        subst this
        obtain ⟨b, ws, rfl, f, r3⟩ := view_lst R r1 ey
        have := r3.strs
        subst this
        exact mt_join pins s σ H _ _ vv us Q I rv rvs ⟨a, b, zs, rfl, rfl, .inl (.inl f), q.1, post_at p R q.2 rfl⟩
  · exact q.elim
theorem md_split : MtD X "str.split" dSplit := by
  intro pins s σ H v vs vv us Q I rv rvs ⟨x, xs, h, N, Q0, rx, rs, R, q, p⟩
  unfold dSplit at q
  split at q
  · rename_i a b
    cases rep_str rx
    obtain ⟨w, rfl, r1⟩ := repl1 rfl rs
    cases rep_str r1
    refine mt_split pins s σ H _ _ vv us Q I rv rvs ⟨a, b, rfl, rfl, q.1, q.2.1, fun t n => ?_⟩
    obtain ⟨R2, e2, r3⟩ := lst_new R n (RepL.of_strs (Txt.split a b))
    exact p _ _ _ _ _ q.2.2 e2 R2 r3
  · exact q.elim
end
end DL

/-! D6: what is walked. -/
namespace DL
open PySem PySem.Spec L2 PyProof.Rows

inductive SK where
  | L | T | S
/-- x is a list, a tuple, a text of the items xs -/
def VS (K : PySem.W.Frag) (k : SK) (H : Hp) (x : V) (xs : List V) : Prop := match k with
  | .L => ∃ a, x = .ref a ∧ SqL K H a xs
  | .T => ∃ a, x = .ref a ∧ SqT K H a xs
  | .S => ∃ z : Str, x = .str z ∧ xs = z.cps.toList.map fun c => V.str ⟨#[c]⟩
/-- the iterator over x at it, at turn i -/
def Own (k : SK) (x : V) (it : Addr) (i : Nat) (h : Heap) : Prop := match k with
  | .L => ∃ a, x = .ref a ∧ h.IsListIter it a i
  | .T => ∃ a, x = .ref a ∧ h.IsTupleIter it a i
  | .S => ∃ z t, x = .str z ∧ h.IsStrIter it (strIterType z) z t i
section
variable {X : Cx} {pins : List (Addr × Obj)} {σ : L2.St} {H : Hp} {s : Shared} {k : SK} {x : V} {xs : List V} {it : Addr} {i : Nat}
theorem Own.keep {h h' : Heap} (o : Own k x it i h) (hk : ∀ o, h.get? it = some o → h'.get? it = some o) : Own k x it i h' := by
  cases k with
  | L => obtain ⟨a, e, q⟩ := o; exact ⟨a, e, q.at hk⟩
  | T => obtain ⟨a, e, q⟩ := o; exact ⟨a, e, q.at hk⟩
  | S => obtain ⟨z, t, e, o, ho, r⟩ := o; exact ⟨z, t, e, o, hk o ho, r⟩
theorem Own.obj {h : Heap} (o : Own k x it i h) : ∃ o, h.get? it = some o ∧ ∀ v, o.data ≠ .cell v := by
  cases k with
  | L => obtain ⟨a, e, o, ho, _, hd⟩ := o; exact ⟨o, ho, fun v q => by rw [hd] at q; cases q⟩
  | T => obtain ⟨a, e, o, ho, _, hd⟩ := o; exact ⟨o, ho, fun v q => by rw [hd] at q; cases q⟩
  | S => obtain ⟨z, t, e, o, ho, _, hd⟩ := o; exact ⟨o, ho, fun v q => by rw [hd] at q; cases q⟩
/-- what stands in the written part or is tracked is no cell of an iterator -/
theorem kin_ne (I : Inv X pins σ H s) {a b : Addr} {o : Obj} (hk : X.K.lookup a = some o) (f : FpOk X pins H b) : a ≠ b := fun e => by
  subst e
  have hb := I.mod.kin a o hk
  obtain ⟨_, _, _, g, _⟩ := f
  rcases g with g | g
  · exact I.ok.noex a o hb g
  · exact absurd (Nat.lt_of_lt_of_le (Heap.lt_size hb) I.ok.bsz) (Nat.not_lt.mpr g)
theorem sql_ne (I : Inv X pins σ H s) {a b : Addr} (q : SqL X.K H a xs) (f : FpOk X pins H b) : a ≠ b := by
  rcases q with (q | ⟨o, q⟩) | ⟨o, its, n, hk, _⟩
  · exact ne_of_none q f.1
  · exact ne_of_none q f.1
  · exact kin_ne I hk f
theorem sqt_ne (I : Inv X pins σ H s) {a b : Addr} (q : SqT X.K H a xs) (f : FpOk X pins H b) : a ≠ b := by
  rcases q with (q | ⟨o, q⟩) | ⟨o, its, n, hk, _⟩
  · exact ne_of_none q f.1
  · exact ne_of_none q f.1
  · exact kin_ne I hk f
theorem vs_draws (I : Inv X pins σ H s) (v : VS X.K k H x xs) (ow : Own k x it i s.heap) (f : FpOk X pins H it) (A : Around) (hh : A.handled = none) :
    ∃ fp P St, Draws X.prog X.w A it fp xs.length P St ∧ St i s.heap ∧ it ∈ fp ∧ (∀ b, b ≠ it → FpOk X pins H b → b ∉ fp) ∧ (∀ j w, P j w → ∃ y, xs[j]? = some y ∧ RelV y w) ∧ (∀ j h, St j h → Own k x it j h) := by
  cases k with
  | L =>
    obtain ⟨a, rfl, q⟩ := v
    obtain ⟨a', e, ow⟩ := ow
    cases e
    obtain ⟨its, rv, p, hz⟩ := I.list q
    have ne := sql_ne I q f
    have D := Draws.list (prog := X.prog) (w := X.w) (A := A) hh it a ne its.toArray
    have e : its.toArray.size = xs.length := by rw [List.size_toArray]; exact rv.length.symm
    rw [e] at D
    refine ⟨_, _, _, D, ⟨ow, p.isList⟩, by simp, fun b hb fb hm => ?_, fun j w hp => ?_, fun j h st => ⟨a, rfl, st.1⟩⟩
    · have e' : b = it ∨ b = a := by simpa using hm
      rcases e' with z | z
      · exact hb z
      · exact sql_ne I q fb z.symm
    · have hp : its[j]? = some w := by simpa using hp
      have hj : j < xs.length := by rw [rv.length]; exact (List.getElem?_eq_some_iff.mp hp).1
      obtain ⟨w', hw, r⟩ := rv.get (List.getElem?_eq_getElem hj)
      rw [hp] at hw; cases hw
      exact ⟨_, List.getElem?_eq_getElem hj, r⟩
  | T =>
    obtain ⟨a, rfl, q⟩ := v
    obtain ⟨a', e, ow⟩ := ow
    cases e
    obtain ⟨its, rv, p, hz⟩ := I.tuple q
    have ne := sqt_ne I q f
    have D := Draws.tuple (prog := X.prog) (w := X.w) (A := A) hh it a ne its.toArray
    have e : its.toArray.size = xs.length := by rw [List.size_toArray]; exact rv.length.symm
    rw [e] at D
    refine ⟨_, _, _, D, ⟨ow, p⟩, by simp, fun b hb fb hm => ?_, fun j w hp => ?_, fun j h st => ⟨a, rfl, st.1⟩⟩
    · have e' : b = it ∨ b = a := by simpa using hm
      rcases e' with z | z
      · exact hb z
      · exact sqt_ne I q fb z.symm
    · have hp : its[j]? = some w := by simpa using hp
      have hj : j < xs.length := by rw [rv.length]; exact (List.getElem?_eq_some_iff.mp hp).1
      obtain ⟨w', hw, r⟩ := rv.get (List.getElem?_eq_getElem hj)
      rw [hp] at hw; cases hw
      exact ⟨_, List.getElem?_eq_getElem hj, r⟩
  | S =>
    obtain ⟨z, rfl, rfl⟩ := v
    obtain ⟨z', t, e, ow⟩ := ow
    cases e
    have D := Draws.text (prog := X.prog) (w := X.w) (A := A) hh it z t
    have e : z.cps.size = (z.cps.toList.map fun c => V.str ⟨#[c]⟩).length := by simp
    rw [e] at D
    refine ⟨_, _, _, D, ow, by simp, fun b hb fb hm => hb (by simpa using hm), fun j w hp => ?_, fun j h st => ⟨z, t, rfl, st⟩⟩
    obtain ⟨c, u, hc, rfl⟩ := hp
    refine ⟨.str ⟨#[c]⟩, ?_, ⟨u, rfl⟩⟩
    rw [List.getElem?_map, Array.getElem?_toList, hc]
    rfl
theorem vs_inj (I : Inv X pins σ H s) {ys : List V} (a : VS X.K k H x xs) (b : VS X.K k H x ys) : xs = ys := by
  cases k with
  | L => obtain ⟨p, rfl, q⟩ := a; obtain ⟨p', e, q'⟩ := b; cases e; exact I.list_inj q q'
  | T => obtain ⟨p, rfl, q⟩ := a; obtain ⟨p', e, q'⟩ := b; cases e; exact I.tuple_inj q q'
  | S => obtain ⟨z, rfl, e1⟩ := a; obtain ⟨z', e, e2⟩ := b; cases e; rw [e1, e2]
theorem vs_begins (I : Inv X pins σ H s) (v : VS X.K k H x xs) {u : Value} (ru : RelV x u) :
    ∃ o sf, Begins u o sf ∧ sf s.heap ∧ ∀ (h : Heap) it, h.get? it = some o → Own k x it 0 h := by
  cases k with
  | L =>
    obtain ⟨a, rfl, q⟩ := v
    cases ru
    obtain ⟨its, rv, p, hz⟩ := I.list q
    exact ⟨_, _, begins_list a its.toArray, p.isList, fun h it e => ⟨a, rfl, _, e, rfl, rfl⟩⟩
  | T =>
    obtain ⟨a, rfl, q⟩ := v
    cases ru
    obtain ⟨its, rv, p, hz⟩ := I.tuple q
    exact ⟨_, _, begins_tuple a its.toArray, p, fun h it e => ⟨a, rfl, _, e, rfl, rfl⟩⟩
  | S =>
    obtain ⟨z, rfl, rfl⟩ := v
    obtain ⟨t, rfl⟩ := ru
    exact ⟨_, _, begins_text z t, trivial, fun h it e => ⟨z, t, rfl, _, e, rfl, rfl⟩⟩
/-- zip of two: xs, ys as they stand at each turn -/
def ItZ (K : PySem.W.Frag) (k1 k2 : SK) (x y : V) : It :=
  ⟨fun i H => ∃ xs ys, VS K k1 H x xs ∧ VS K k2 H y ys ∧ i < xs.length ∧ i < ys.length,
    fun i H v H' => ∃ T a b, v = .ref T ∧ H T = none ∧ H' = upd H T (.tup [a, b]) ∧ (∀ xs, VS K k1 H x xs → xs[i]? = some a) ∧ (∀ ys, VS K k2 H y ys → ys[i]? = some b),
    fun i H => ∃ xs ys, VS K k1 H x xs ∧ VS K k2 H y ys ∧ i = min xs.length ys.length⟩
theorem turn_z {P : Program} {w : World} {K : PySem.W.Frag} {elts : List Expr} {kk : Nat} {tpos : Pos} {k1 k2 : SK} {x y : V} {z TI TO i1 i2 : Addr} (apart : z ≠ TI ∧ z ≠ TO ∧ z ≠ i1 ∧ z ≠ i2 ∧ TI ≠ TO ∧ TI ≠ i1 ∧ TI ≠ i2 ∧ TO ≠ i1 ∧ TO ≠ i2 ∧ i1 ≠ i2) :
    Turn P w K (.Tuple elts kk tpos) (ItZ K k1 k2 x y) [z, TI, TO, i1, i2] z (fun i h => IsZip h z TI TO .none ∧ IsTupOf2 h TI (.ref i1) (.ref i2) ∧ (∃ a b, IsTupOf2 h TO a b) ∧ Own k1 x i1 i h ∧ Own k2 y i2 i h) where
  mem := by simp
  obj := fun i h st c hc => by
    obtain ⟨hz, hTI, ⟨a, b, hTO⟩, o1, o2⟩ := st
    have e' : c = z ∨ c = TI ∨ c = TO ∨ c = i1 ∨ c = i2 := by simpa using hc
    rcases e' with q | q | q | q | q
    · rw [q]; exact ⟨_, hz, fun v q => nomatch q⟩
    · rw [q]; exact ⟨_, hTI, fun v q => nomatch q⟩
    · rw [q]; exact ⟨_, hTO, fun v q => nomatch q⟩
    · rw [q]; exact o1.obj
    · rw [q]; exact o2.obj
  keep := fun i h h' st k => by
    obtain ⟨hz, hTI, ⟨a, b, hTO⟩, o1, o2⟩ := st
    exact ⟨k z (by simp) _ hz, k TI (by simp) _ hTI, ⟨a, b, k TO (by simp) _ hTO⟩, o1.keep fun o q => k i1 (by simp) o q, o2.keep fun o q => k i2 (by simp) o q⟩
  item := by
    intro X hP hw hK hc i pins s σ H E I hf st hg
    subst hP hw hK
    obtain ⟨n1, n2, n3, n4, n5, n6, n7, n8, n9, n10⟩ := apart
    obtain ⟨hz, hTI, hTO, o1, o2⟩ := st
    obtain ⟨xs, ys, v1, v2, h1, h2⟩ := hg
    have fz := hf z (by simp)
    have fTI := hf TI (by simp)
    have fTO := hf TO (by simp)
    have f1 := hf i1 (by simp)
    have f2 := hf i2 (by simp)
    have hh : X.A.in1.handled = none := I.ok.hd hc
    obtain ⟨fp1, P1, St1, D1, s1, m1, a1, r1, q1⟩ := vs_draws I v1 o1 f1 X.A.in1 hh
    obtain ⟨fp2, P2, St2, D2, s2, m2, a2, r2, q2⟩ := vs_draws I v2 o2 f2 X.A.in1 hh
    have S : ZipSep2 z TI TO i1 i2 fp1 fp2 := ⟨n1.symm, n2.symm, n5, n6, m1, a1 z n3 fz, a1 TO n8 fTO, n7, m2, a2 z n4 fz, a2 TO n9 fTO, a2 i1 n10 f1, a1 i2 n10.symm f2⟩
    have Wk := WalksT.zipD2 S D1 D2
    have wr : ∀ b ∈ [z, TO, i1, i2], b ∈ [z, TI, TO, i1, i2] := fun b hb => by
      simp only [List.mem_cons, List.mem_nil_iff, or_false] at hb ⊢
      rcases hb with q | q | q | q <;> simp [q]
    refine Wk.item i s _ _ (Nat.lt_min.mpr ⟨h1, h2⟩) ⟨hz, hTI, hTO, s1, s2⟩ fun T vals h' tk hP hT hTt hM hk => ?_
    obtain ⟨w1, w2, p1, p2, rfl⟩ := hP
    refine ⟨_, rfl, Wk.go elts kk tpos i T _ _ _ hM fun h'' st' hk' => ?_⟩
    obtain ⟨b1, e1, rb1⟩ := r1 i w1 p1
    obtain ⟨b2, e2, rb2⟩ := r2 i w2 p2
    have hTw : T ∉ [z, TO, i1, i2] := Wk.apart i T _ hM
    have hT2 : h''.IsTuple T #[w1, w2] := by
      obtain ⟨o, ho, r⟩ := hTt
      exact ⟨o, hk' T o hTw ho, r⟩
    have new : ObjOk X.prog X.w (upd H T (.tup [b1, b2])) h'' T (.tup [b1, b2]) := ⟨by show 2 ≤ sizeLine; decide, [w1, w2], .cons rb1 (.cons rb2 .nil), hT2⟩
    have I1 : Inv X pins σ (upd H T (.tup [b1, b2])) { s with heap := h'', toks := tk } :=
      I.turnedNew (ch := [z, TI, TO, i1, i2]) (fun c o hb q => hk' c o (fun z => hb (wr c z)) (hk c o (fun z => hb (wr c z)) q)) hf hT new
    obtain ⟨z1, z2, z3, z4, z5⟩ := st'
    refine ⟨.ref T, _, I1, rfl, ⟨T, b1, b2, rfl, I.hok.fresh hT, rfl, fun l hl => by rw [vs_inj I hl v1]; exact e1, fun l hl => by rw [vs_inj I hl v2]; exact e2⟩, ⟨z1, z2, z3, q1 _ _ z4, q2 _ _ z5⟩, fun c hcm => ?_⟩
    have hlt : c < s.heap.objs.size := by
      have e' : c = z ∨ c = TI ∨ c = TO ∨ c = i1 ∨ c = i2 := by simpa using hcm
      rcases e' with q | q | q | q | q
      · rw [q]; exact Heap.lt_size hz
      · rw [q]; exact Heap.lt_size hTI
      · rw [q]; obtain ⟨_, _, hTO⟩ := hTO; exact Heap.lt_size hTO
      · rw [q]; obtain ⟨_, e1, _⟩ := o1.obj; exact Heap.lt_size e1
      · rw [q]; obtain ⟨_, e2, _⟩ := o2.obj; exact Heap.lt_size e2
    rw [upd_ne (Nat.ne_of_lt (Nat.lt_of_lt_of_le hlt hT))]
    exact (hf c hcm).1
  done := by
    intro X hP hw hK hc i pins s σ H E I hf st hg
    subst hP hw hK
    obtain ⟨n1, n2, n3, n4, n5, n6, n7, n8, n9, n10⟩ := apart
    obtain ⟨hz, hTI, hTO, o1, o2⟩ := st
    obtain ⟨xs, ys, v1, v2, hi⟩ := hg
    have fz := hf z (by simp)
    have fTI := hf TI (by simp)
    have fTO := hf TO (by simp)
    have f1 := hf i1 (by simp)
    have f2 := hf i2 (by simp)
    have hh : X.A.in1.handled = none := I.ok.hd hc
    obtain ⟨fp1, P1, St1, D1, s1, m1, a1, r1, q1⟩ := vs_draws I v1 o1 f1 X.A.in1 hh
    obtain ⟨fp2, P2, St2, D2, s2, m2, a2, r2, q2⟩ := vs_draws I v2 o2 f2 X.A.in1 hh
    have S : ZipSep2 z TI TO i1 i2 fp1 fp2 := ⟨n1.symm, n2.symm, n5, n6, m1, a1 z n3 fz, a1 TO n8 fTO, n7, m2, a2 z n4 fz, a2 TO n9 fTO, a2 i1 n10 f1, a1 i2 n10.symm f2⟩
    have Wk := WalksT.zipD2 S D1 D2
    have wr : ∀ b ∈ [z, TO, i1, i2], b ∈ [z, TI, TO, i1, i2] := fun b hb => by
      simp only [List.mem_cons, List.mem_nil_iff, or_false] at hb ⊢
      rcases hb with q | q | q | q <;> simp [q]
    subst hi
    exact Wk.done s _ _ ⟨hz, hTI, hTO, s1, s2⟩ fun h' tk hk => ⟨rfl, I.turnedL (t' := tk) (ch := [z, TI, TO, i1, i2]) (fun c o hb q => hk c o (fun z => hb (wr c z)) q) hf⟩
  self := fun A i s Q E st h => wpAny_pyIter_zip st.1 h
/-- for .. in zip(a, b), a, b lists, tuples, texts -/
def iZ (K : PySem.W.Frag) (ta : TA) : TI := fun σ H R => ta σ H fun vs H1 => ∃ x y k1 k2 xs ys, vs = [x, y] ∧ VS K k1 H1 x xs ∧ VS K k2 H1 y ys ∧ R (ItZ K k1 k2 x y) H1
theorem pi_z {X : Cx} {e e2 : Expr} {ta : TA} {p pos tpos : Pos} {elts : List Expr} {kk : Nat} (hg : Gl X "zip") (hm : X.mg "zip" = none) (ha : PA X [e, e2] ta)
    (hs : starEach [e, e2] X.env = (false, eval e X.env) :: starEach [e2] X.env := by rfl) (hpl : (backTo pos (starEach [e2] X.env)).any (·.1) = false := by rfl) :
    PI X (.Tuple elts kk tpos) (.Call (.Name "zip" p) [e, e2] [] pos) (iZ X.K ta) := by
  refine ⟨fun pins s σ H R I h => ?_⟩
  refine Call_ (ld_blt I hg hm PyProof.Rows.boot_zip (PyProof.Rows.callWith_type1 (thn (ha.run pos pins s σ H _ I h) fun us s1 ⟨vs, H1, I1, r1, q1⟩ => ?_) hs hpl))
  obtain ⟨x, y, k1, k2, xs, ys, ex, v1, v2, q⟩ := q1
  subst ex
  cases r1 with
  | cons r rr =>
    cases rr with
    | cons r' rr =>
      cases rr
      obtain ⟨o1, sf1, B1, h1, w1⟩ := vs_begins I1 v1 r
      obtain ⟨o2, sf2, B2, h2, w2⟩ := vs_begins I1 v2 r'
      refine zip_begins2 B1 B2 h1 h2 fun h' hz hTI hTO e1 e2 hsz hk => wpAny_pyIter_zip hz ?_
      have I2 : Inv X pins σ H1 { s1 with heap := h' } := I1.kept (t' := s1.toks) hk
      refine ⟨s1.heap.objs.size + 4, [s1.heap.objs.size + 4, s1.heap.objs.size + 2, s1.heap.objs.size + 3, s1.heap.objs.size, s1.heap.objs.size + 1], _, _, H1, rfl, I2, turn_z (k1 := k1) (k2 := k2) (x := x) (y := y) ?_, ⟨hz, hTI, ⟨_, _, hTO⟩, w1 _ _ e1, w2 _ _ e2⟩, fun c hcm => ?_, q⟩
      · have ap : ∀ N : Nat, N + 4 ≠ N + 2 ∧ N + 4 ≠ N + 3 ∧ N + 4 ≠ N ∧ N + 4 ≠ N + 1 ∧ N + 2 ≠ N + 3 ∧ N + 2 ≠ N ∧ N + 2 ≠ N + 1 ∧ N + 3 ≠ N ∧ N + 3 ≠ N + 1 ∧ N ≠ N + 1 := by intro N; omega
        exact ap s1.heap.objs.size
      · have e' : c = s1.heap.objs.size + 4 ∨ c = s1.heap.objs.size + 2 ∨ c = s1.heap.objs.size + 3 ∨ c = s1.heap.objs.size ∨ c = s1.heap.objs.size + 1 := by simpa using hcm
        have hle : s1.heap.objs.size ≤ c := by
          rcases e' with z | z | z | z | z
          · rw [z]; exact Nat.le_add_right _ _
          · rw [z]; exact Nat.le_add_right _ _
          · rw [z]; exact Nat.le_add_right _ _
          · rw [z]; exact Nat.le_refl _
          · rw [z]; exact Nat.le_add_right _ _
        exact I1.fpOk hle (I1.hok.fresh hle)

/-! ### enumerate -/
def ItE (K : PySem.W.Frag) (k : SK) (x : V) : It :=
  ⟨fun i H => ∃ xs, VS K k H x xs ∧ i < xs.length,
    fun i H v H' => ∃ T a, v = .ref T ∧ H T = none ∧ H' = upd H T (.tup [.int (i : Nat), a]) ∧ (∀ xs, VS K k H x xs → xs[i]? = some a),
    fun i H => ∃ xs, VS K k H x xs ∧ i = xs.length⟩
theorem turn_e {P : Program} {w : World} {K : PySem.W.Frag} {elts : List Expr} {kk : Nat} {tpos : Pos} {k : SK} {x : V} {e it : Addr} (hne : e ≠ it) :
    Turn P w K (.Tuple elts kk tpos) (ItE K k x) [e, it] e (fun i h => (∃ old, IsEnum h e it ((0 : Int) + (i : Nat)) old) ∧ Own k x it i h) where
  mem := by simp
  obj := fun i h st c hc => by
    obtain ⟨⟨old, he⟩, o1⟩ := st
    have e' : c = e ∨ c = it := by simpa using hc
    rcases e' with q | q
    · rw [q]; exact ⟨_, he, fun v q => nomatch q⟩
    · rw [q]; exact o1.obj
  keep := fun i h h' st k => by
    obtain ⟨⟨old, he⟩, o1⟩ := st
    exact ⟨⟨old, k e (by simp) _ he⟩, o1.keep fun o q => k it (by simp) o q⟩
  item := by
    intro X hP hw hK hc i pins s σ H E I hf st hg
    subst hP hw hK
    obtain ⟨he, o1⟩ := st
    obtain ⟨xs, v1, h1⟩ := hg
    have fe := hf e (by simp)
    have f1 := hf it (by simp)
    have hh : X.A.in1.handled = none := I.ok.hd hc
    obtain ⟨fp1, P1, St1, D1, s1, m1, a1, r1, q1⟩ := vs_draws I v1 o1 f1 X.A.in1 hh
    have Wk := WalksT.enumFrom 0 D1 e hne (a1 e hne fe) m1
    refine Wk.item i s _ _ h1 ⟨he, s1⟩ fun T vals h' tk hP hT hTt hM hk => ?_
    obtain ⟨t, w1, p1, rfl⟩ := hP
    refine ⟨_, rfl, Wk.go elts kk tpos i T _ _ _ hM fun h'' st' hk' => ?_⟩
    obtain ⟨b1, e1, rb1⟩ := r1 i w1 p1
    have hTw : T ∉ [e, it] := Wk.apart i T _ hM
    have hT2 : h''.IsTuple T #[.int (0 + (i : Int)) t, w1] := by
      obtain ⟨o, ho, r⟩ := hTt
      exact ⟨o, hk' T o hTw ho, r⟩
    rw [Int.zero_add] at hT2
    have new : ObjOk X.prog X.w (upd H T (.tup [.int (i : Nat), b1])) h'' T (.tup [.int (i : Nat), b1]) := ⟨by show 2 ≤ sizeLine; decide, [.int i t, w1], .cons ⟨t, rfl⟩ (.cons rb1 .nil), hT2⟩
    have I1 : Inv X pins σ (upd H T (.tup [.int (i : Nat), b1])) { s with heap := h'', toks := tk } :=
      I.turnedNew (ch := [e, it]) (fun c o hb q => hk' c o hb (hk c o hb q)) hf hT new
    obtain ⟨z1, z2⟩ := st'
    refine ⟨.ref T, _, I1, rfl, ⟨T, b1, rfl, I.hok.fresh hT, rfl, fun l hl => by rw [vs_inj I hl v1]; exact e1⟩, ⟨z1, q1 _ _ z2⟩, fun c hcm => ?_⟩
    have hlt : c < s.heap.objs.size := by
      have e' : c = e ∨ c = it := by simpa using hcm
      rcases e' with q | q
      · rw [q]; obtain ⟨_, he⟩ := he; exact Heap.lt_size he
      · rw [q]; obtain ⟨_, e1, _⟩ := o1.obj; exact Heap.lt_size e1
    rw [upd_ne (Nat.ne_of_lt (Nat.lt_of_lt_of_le hlt hT))]
    exact (hf c hcm).1
  done := by
    intro X hP hw hK hc i pins s σ H E I hf st hg
    subst hP hw hK
    obtain ⟨he, o1⟩ := st
    obtain ⟨xs, v1, hi⟩ := hg
    have fe := hf e (by simp)
    have f1 := hf it (by simp)
    have hh : X.A.in1.handled = none := I.ok.hd hc
    obtain ⟨fp1, P1, St1, D1, s1, m1, a1, r1, q1⟩ := vs_draws I v1 o1 f1 X.A.in1 hh
    have Wk := WalksT.enumFrom 0 D1 e hne (a1 e hne fe) m1
    subst hi
    exact Wk.done s _ _ ⟨he, s1⟩ fun h' tk hk => ⟨rfl, I.turnedL (t' := tk) (ch := [e, it]) (fun c o hb q => hk c o hb q) hf⟩
  self := fun A i s Q E st h => let ⟨⟨_, he⟩, _⟩ := st; wpAny_pyIter_enum he h
theorem meets_enumerate_new1 {v : Value} {o : Obj} {H : Heap → Prop} (B : Begins v o H) :
    Meets (Builtin.«enumerate.__new__» ⟨[.type "enumerate", v], []⟩) (fun _ R s => H s.heap ∧
      R (.ok (.ret (.ref (s.heap.push o).objs.size))) { s with heap := (s.heap.push o).push { cls := .type "enumerate", data := .fields #[.none, .bool false, .ref s.heap.objs.size, rawInt 0, .none, .none] } }) :=
  .of_wp fun prog w A R s h => by
    obtain ⟨hp, g, d, tk, os⟩ := s; obtain ⟨h1, h⟩ := h
    have hsub := sub_enumerate
    have q1 : ∀ {A' : Around} {E : Value → Shared → Prop} {Q : Value → Shared → Prop}, Q (.ref hp.objs.size) ⟨hp.push o, g, d, tk, os⟩ → wpAny (model prog w) A' (pyIter v) Q E ⟨hp, g, d, tk, os⟩ :=
      fun q => B.iter prog w _ _ ⟨hp, g, d, tk, os⟩ _ h1 q
    wp_walk using q1
    refine wpAny_stack_any fun st => wpAny_pure ?_
    split
    · rename_i c _ _ _ _ _
      cases (c == Value.type "enumerate")
      · wp_walk using q1
        exact ⟨_, rfl, h⟩
      · wp_walk using q1
        exact ⟨_, rfl, h⟩
    · wp_walk using q1
      exact ⟨_, rfl, h⟩
theorem enum_begins1 {prog : Program} {w : World} {A : Around} {E : Value → Shared → Prop} {s : Shared} {v : Value} {o : Obj} {H : Heap → Prop} {Q : Value → Shared → Prop} (B : Begins v o H) (h1 : H s.heap)
    (h : ∀ h', IsEnum h' (s.heap.objs.size + 1) s.heap.objs.size 0 .none → h'.get? s.heap.objs.size = some o → h'.objs.size = s.heap.objs.size + 2 →
      (∀ b o, s.heap.get? b = some o → h'.get? b = some o) → Q (.ref (s.heap.objs.size + 1)) { s with heap := h' }) :
    wpAny (model prog w) A (call (.type "enumerate") [v]) Q E s := by
  refine callType_new F.called_enumerate (by decide) (F.typeCall_enumerate_1 _) (F.newCall_enumerate_1 _) (fun obj => F.args_object_init_2 obj _) F.entry_enumerate_new
    (meets_enumerate_new1 B) ⟨h1, ?_⟩
  have hz : (s.heap.push o).objs.size = s.heap.objs.size + 1 := Heap.size_push ..
  show _ ∧ _
  rw [hz]
  have he : IsEnum ((s.heap.push o).push { cls := .type "enumerate", data := .fields #[.none, .bool false, .ref s.heap.objs.size, rawInt 0, .none, .none] }) (s.heap.objs.size + 1) s.heap.objs.size 0 .none := by
    have := Heap.get?_push_size (s.heap.push o) (o := { cls := .type "enumerate", data := .fields #[.none, .bool false, .ref s.heap.objs.size, rawInt 0, .none, .none] }) rfl
    rw [hz] at this; exact this
  refine ⟨⟨_, he, rfl⟩, h _ he (Heap.get?_push_of_some _ (Heap.get?_push_size _ B.free)) (by rw [Heap.size_push, hz]) fun b o x => Heap.get?_push_of_some _ (Heap.get?_push_of_some _ x)⟩
def iE (K : PySem.W.Frag) (ta : TA) : TI := fun σ H R => ta σ H fun vs H1 => ∃ x k xs, vs = [x] ∧ VS K k H1 x xs ∧ R (ItE K k x) H1
theorem pi_e {X : Cx} {e : Expr} {ta : TA} {p pos tpos : Pos} {elts : List Expr} {kk : Nat} (hg : Gl X "enumerate") (hm : X.mg "enumerate" = none) (ha : PA X [e] ta) (hs : starEach [e] X.env = [(false, eval e X.env)] := by rfl) :
    PI X (.Tuple elts kk tpos) (.Call (.Name "enumerate" p) [e] [] pos) (iE X.K ta) := by
  refine ⟨fun pins s σ H R I h => ?_⟩
  refine Call_ (ld_blt I hg hm boot_enumerate (PyProof.Rows.callWith_type1 (thn (ha.run pos pins s σ H _ I h) fun us s1 ⟨vs, H1, I1, r1, q1⟩ => ?_) hs rfl))
  obtain ⟨x, k, xs, ex, v1, q⟩ := q1
  subst ex
  cases r1 with
  | cons r rr =>
    cases rr
    obtain ⟨o1, sf1, B1, h1, w1⟩ := vs_begins I1 v1 r
    refine enum_begins1 B1 h1 fun h' he e1 hsz hk => wpAny_pyIter_enum he ?_
    have I2 : Inv X pins σ H1 { s1 with heap := h' } := I1.kept (t' := s1.toks) hk
    refine ⟨s1.heap.objs.size + 1, [s1.heap.objs.size + 1, s1.heap.objs.size], _, _, H1, rfl, I2, turn_e (k := k) (x := x) (Nat.succ_ne_self _), ⟨⟨.none, by simpa using he⟩, w1 _ _ e1⟩, fun b hb => ?_, q⟩
    have e' : b = s1.heap.objs.size + 1 ∨ b = s1.heap.objs.size := by simpa using hb
    have hle : s1.heap.objs.size ≤ b := by
      rcases e' with z | z
      · rw [z]; exact Nat.le_add_right _ _
      · rw [z]; exact Nat.le_refl _
    exact I1.fpOk hle (I1.hok.fresh hle)
end
end DL

/-! D7: loops, comprehensions, statements over data. -/
namespace DL
open PySem PySem.Spec L2 PyProof.Rows

/-! ### targets -/
inductive Tgt where
  | nm (i : Nat) | tp (ts : List Tgt)
mutual
def bindT : Tgt → D → DSt → Option DSt
  | .nm i, d, τ => some (τ.set i (some d))
  | .tp ts, .tup ds, τ => bindTs ts ds τ
  | .tp _, _, _ => none
def bindTs : List Tgt → List D → DSt → Option DSt
  | [], [], τ => some τ
  | t :: ts, d :: ds, τ => match bindT t d τ with
    | some τ' => bindTs ts ds τ'
    | none => none
  | [], _ :: _, _ => none
  | _ :: _, [], _ => none
def gT (K : PySem.W.Frag) : Tgt → TG
  | .nm i => gName i
  | .tp ts => gTup K ts.length (gTs K ts)
def gTs (K : PySem.W.Frag) : List Tgt → TGs
  | [] => gNil
  | t :: ts => gCons (gT K t) (gTs K ts)
def slots : Tgt → List Nat
  | .nm i => [i]
  | .tp ts => slotsL ts
def slotsL : List Tgt → List Nat
  | [] => []
  | t :: ts => slots t ++ slotsL ts
end
theorem wipe_set {σ : L2.St} {i : Nat} {x : Option V} : ∀ {vs : List Nat}, i ∈ vs → wipe (σ.set i x) vs = wipe σ vs
  | v :: vs, h => by
    unfold wipe
    by_cases hm : i ∈ vs
    · rw [wipe_set hm]
    · have e : v = i := by
        rcases List.mem_cons.mp h with z | z
        · exact z.symm
        · exact absurd z hm
      subst e
      have : ∀ (ws : List Nat), v ∉ ws → (wipe (σ.set v x) ws).set v none = (wipe σ ws).set v none := by
        intro ws
        induction ws with
        | nil => intro _; simp [wipe]
        | cons w ws ih =>
          intro hw
          rw [List.mem_cons, not_or] at hw
          show ((wipe (σ.set v x) ws).set w none).set v none = ((wipe σ ws).set w none).set v none
          rw [List.set_comm _ _ (show w ≠ v from fun e => hw.1 e.symm), List.set_comm _ _ (show w ≠ v from fun e => hw.1 e.symm), ih hw.2]
      exact this vs hm
section
variable {K : PySem.W.Frag} {H : Hp} {N : NS}
mutual
theorem bindT_ok : ∀ (t : Tgt) (d : D) (τ τ' : DSt) (v : V) (σ : L2.St), bindT t d τ = some τ' → SRep K H N τ σ → Rep K H N d v →
    ∃ σ', SRep K H N τ' σ' ∧ (∀ vs, (∀ i ∈ slots t, i ∈ vs) → wipe σ' vs = wipe σ vs) ∧ ∀ Q : L2.St → Hp → Prop, Q σ' H → gT K t v σ H Q
  | .nm i, d, τ, τ', v, σ, e, S, r => by
    simp only [bindT] at e
    cases e
    exact ⟨σ.set i (some v), S.set r, fun vs hs => wipe_set (hs i (by simp [slots])), fun Q q => by simp only [gT]; exact q⟩
  | .tp ts, d, τ, τ', v, σ, e, S, r => by
    cases d <;> simp only [bindT] at e <;> first | cases e | skip
    rename_i ds
    obtain ⟨a, xs, rfl, f, rs⟩ := r
    obtain ⟨σ', S', w', q'⟩ := bindTs_ok ts ds τ τ' xs σ e S rs
    refine ⟨σ', S', fun vs hs => w' vs (by simpa only [slots] using hs), fun Q q => ?_⟩
    simp only [gT]
    refine ⟨a, xs, rfl, f.sq, ?_, q' Q q⟩
    have : ∀ (ts : List Tgt) (ds : List D) (τ : DSt), bindTs ts ds τ = some τ' → ts.length = ds.length := by
      intro ts
      induction ts with
      | nil => intro ds τ e; cases ds with
        | nil => rfl
        | cons d ds => simp only [bindTs] at e; cases e
      | cons t ts ih => intro ds τ e; cases ds with
        | nil => simp only [bindTs] at e; cases e
        | cons d ds =>
          simp only [bindTs] at e
          cases q : bindT t d τ with
          | none => rw [q] at e; cases e
          | some τ1 => rw [q] at e; rw [List.length_cons, List.length_cons, ih ds τ1 e]
    rw [rs.length, this ts ds τ e]
theorem bindTs_ok : ∀ (ts : List Tgt) (ds : List D) (τ τ' : DSt) (xs : List V) (σ : L2.St), bindTs ts ds τ = some τ' → SRep K H N τ σ → RepL K H N ds xs →
    ∃ σ', SRep K H N τ' σ' ∧ (∀ vs, (∀ i ∈ slotsL ts, i ∈ vs) → wipe σ' vs = wipe σ vs) ∧ ∀ Q : L2.St → Hp → Prop, Q σ' H → gTs K ts xs σ H Q
  | [], [], τ, τ', xs, σ, e, S, r => by
    simp only [bindTs] at e
    cases e
    cases repl0 r
    exact ⟨σ, S, fun _ _ => rfl, fun Q q => by simp only [gTs]; exact ⟨rfl, q⟩⟩
  | t :: ts, d :: ds, τ, τ', xs, σ, e, S, r => by
    simp only [bindTs] at e
    cases q : bindT t d τ with
    | none => rw [q] at e; cases e
    | some τ1 =>
      rw [q] at e
      obtain ⟨x, tl, rfl, r1, r2⟩ := r
      obtain ⟨σ1, S1, w1, q1⟩ := bindT_ok t d τ τ1 x σ q S r1
      obtain ⟨σ2, S2, w2, q2⟩ := bindTs_ok ts ds τ1 τ' tl σ1 e S1 r2
      refine ⟨σ2, S2, fun vs hs => ?_, fun Q q => ?_⟩
      · rw [w2 vs fun i hi => hs i (by simp only [slotsL, List.mem_append]; exact .inr hi), w1 vs fun i hi => hs i (by simp only [slotsL, List.mem_append]; exact .inl hi)]
      · simp only [gTs]
        exact ⟨x, tl, rfl, q1 _ (q2 Q q)⟩
  | [], _ :: _, _, _, _, _, e, _, _ => by simp only [bindTs] at e; cases e
  | _ :: _, [], _, _, _, _, e, _, _ => by simp only [bindTs] at e; cases e
end
end

/-! ### what is walked -/
abbrev DI := DSt → DH → (List D → DH → Prop) → DX → Prop
structure JRep (K : PySem.W.Frag) (J : It) (ds : List D) (H : Hp) (h : DH) (N : NS) : Prop where
  go : ∀ H' h' N', Ext H h N H' h' N' → HRep K H' h' N' → ∀ i, i < ds.length → J.go i H' ∧ ∀ x H2, J.yld i H' x H2 → ∃ N2 d, ds[i]? = some d ∧ HRep K H2 h' N2 ∧ Ext H' h' N' H2 h' N2 ∧ Rep K H2 N2 d x
  stop : ∀ H' h' N', Ext H h N H' h' N' → HRep K H' h' N' → J.stop ds.length H'
def liftI (K : PySem.W.Frag) (W : WX) (t : DI) : TI := fun σ H R => ∃ τ h N Q0 X0, SRep K H N τ σ ∧ HRep K H h N ∧ t τ h Q0 X0 ∧ (∀ ds h' N' J H', Q0 ds h' → Ext H h N H' h' N' → HRep K H' h' N' → JRep K J ds H' h' N' → R J H') ∧ EXc K W σ H h N X0
abbrev DIp (X : Cx) (W : WX) (tg e : Expr) (t : DI) : Prop := PI X tg e (liftI X.K W t)
theorem PI.imp {X : Cx} {tg e : Expr} {t t' : TI} (p : PI X tg e t) (i : ∀ σ H R, t' σ H R → t σ H R) : PI X tg e t' := ⟨fun pins s σ H R I h => p.run pins s σ H R I (i σ H R h)⟩
/-- the items of what is walked: a tuple, a list that never changes, a text -/
def itemsD : D → Option (List D)
  | .tup xs => some xs
  | .lst xs => some xs
  | .str z => some (z.cps.toList.map fun c => .str ⟨#[c]⟩)
  | _ => none
def iSeqD (t : DE) : DI := fun τ h Q X => t τ h (fun x h1 => match itemsD x with | some ds => Q ds h1 | none => False) X
def iRange1 (t : DE) : DI := fun τ h Q X => t τ h (fun x h1 => match x with | .int n => -(2 ^ 62) ≤ n ∧ n < 2 ^ 62 ∧ Q ((List.range n.toNat).map fun i => .int (i : Nat)) h1 | _ => False) X
def iRange2 (ta tb : DE) : DI := fun τ h Q X => ta τ h (fun x h1 => tb τ h1 (fun y h2 => match x, y with | .int a, .int b => (-(2 ^ 62) ≤ a ∧ a < 2 ^ 62 ∧ -(2 ^ 62) ≤ b ∧ b < 2 ^ 62) ∧ Q ((List.range (b - a).toNat).map fun i => .int (a + (i : Nat))) h2 | _, _ => False) X) X
def enumD (ds : List D) : List D := (List.range ds.length).zip ds |>.map fun p => .tup [.int (p.1 : Nat), p.2]
def iEnumD (t : DE) : DI := fun τ h Q X => t τ h (fun x h1 => match itemsD x with | some ds => Q (enumD ds) h1 | none => False) X
def zipD (ds es : List D) : List D := (ds.zip es).map fun p => .tup [p.1, p.2]
def iZipD (ta tb : DE) : DI := fun τ h Q X => ta τ h (fun x h1 => tb τ h1 (fun y h2 => match itemsD x, itemsD y with | some ds, some es => Q (zipD ds es) h2 | _, _ => False) X) X

section
variable {X : Cx} {W : WX} {tg e : Expr} {te : DE}
/-- a list, a tuple, a text -/
def iSeqV (K : PySem.W.Frag) (tl : TE) : TI := fun σ H R => tl σ H fun x H1 => (∃ a, x = .ref a ∧ (∃ xs, SqL K H1 a xs) ∧ R (Itl K a) H1) ∨ (∃ a, x = .ref a ∧ (∃ xs, SqT K H1 a xs) ∧ R (Itt K a) H1) ∨ (∃ z, x = .str z ∧ R (Its z) H1)
theorem pi_seqV {tl : TE} (hl : PE X e tl) : PI X tg e (iSeqV X.K tl) := by
  refine ⟨fun pins s σ H R I h => ?_⟩
  refine thn (hl.run pins s σ H _ I h) fun v s1 ⟨x, H1, I1, r1, q1⟩ => ?_
  rcases q1 with ⟨a, e, ⟨xs, hq⟩, q⟩ | ⟨a, e, ⟨xs, hq⟩, q⟩ | ⟨z, e, q⟩
  · subst e
    cases r1
    obtain ⟨its, rv, p, hz⟩ := I1.list hq
    refine wpAny_pyIter_list p.isList ?_
    refine ⟨s1.heap.objs.size, [s1.heap.objs.size], _, _, H1, rfl, I1.kept (t' := s1.toks) fun b o e => Heap.get?_push_of_some _ e, turn_list a _, ⟨_, Heap.get?_push_size _ rfl, rfl, rfl⟩, fun b hb => ?_, q⟩
    have e : b = s1.heap.objs.size := by simpa using hb
    subst e
    exact I1.fpOk (Nat.le_refl _) (I1.hok.fresh (Nat.le_refl _))
  · subst e
    cases r1
    obtain ⟨its, rv, p, hz⟩ := I1.tuple hq
    refine wpAny_pyIter_tuple (show s1.heap.IsTuple a its.toArray from p) ?_
    refine ⟨s1.heap.objs.size, [s1.heap.objs.size], _, _, H1, rfl, I1.kept (t' := s1.toks) fun b o e => Heap.get?_push_of_some _ e, turn_tuple a _, ⟨_, Heap.get?_push_size _ rfl, rfl, rfl⟩, fun b hb => ?_, q⟩
    have e : b = s1.heap.objs.size := by simpa using hb
    subst e
    exact I1.fpOk (Nat.le_refl _) (I1.hok.fresh (Nat.le_refl _))
  · subst e
    obtain ⟨t, rfl⟩ := r1
    cases ha : z.cps.all (· < 128)
    · exact wpAny_pyIter_wide ha (pi_one (tk := s1.toks) I1 _ (turn_str _ z t "str_iterator" (.inr rfl)) ⟨_, Heap.get?_push_size _ rfl, rfl, rfl⟩ q)
    · exact wpAny_pyIter_ascii ha (pi_one (tk := s1.toks) I1 _ (turn_str _ z t "str_ascii_iterator" (.inl rfl)) ⟨_, Heap.get?_push_size _ rfl, rfl, rfl⟩ q)
theorem jrep_of {K : PySem.W.Frag} {J : It} {ds : List D} {H : Hp} {h : DH} {N : NS} (go : ∀ H' h' N', Ext H h N H' h' N' → HRep K H' h' N' → ∀ i, i < ds.length → J.go i H' ∧ ∀ x H2, J.yld i H' x H2 → H2 = H' ∧ ∃ d, ds[i]? = some d ∧ Rep K H' N' d x)
    (stop : ∀ H' h' N', Ext H h N H' h' N' → HRep K H' h' N' → J.stop ds.length H') : JRep K J ds H h N := ⟨fun H' h' N' e R i hi => ⟨(go H' h' N' e R i hi).1, fun x H2 y => by
  obtain ⟨e1, d, e2, r⟩ := (go H' h' N' e R i hi).2 x H2 y
  subst e1
  exact ⟨N', d, e2, R, Ext.refl _ _ _, r⟩⟩, stop⟩
theorem items_vs {K : PySem.W.Frag} {H : Hp} {N : NS} {x : D} {v : V} {ds : List D} (r : Rep K H N x v) (e : itemsD x = some ds) : ∃ k xs, VS K k H v xs ∧ RepL K H N ds xs := by
  cases x <;> simp only [itemsD] at e <;> first | cases e | skip
  · rename_i z
    cases rep_str r
    refine ⟨.S, _, ⟨z, rfl, rfl⟩, ?_⟩
    generalize z.cps.toList = l
    induction l with
    | nil => exact rfl
    | cons c l ih => exact ⟨_, _, rfl, rfl, ih⟩
  · obtain ⟨a, xs, rfl, f, rs⟩ := r
    exact ⟨.T, xs, ⟨a, rfl, f.sq⟩, rs⟩
  · obtain ⟨a, xs, rfl, f, rs⟩ := r
    exact ⟨.L, xs, ⟨a, rfl, .inl f.2⟩, rs⟩
/-- .. for good -/
theorem items_stay {K : PySem.W.Frag} {H : Hp} {h : DH} {N : NS} {x : D} {v : V} {ds : List D} (R : HRep K H h N) (r : Rep K H N x v) (e : itemsD x = some ds) :
    ∃ k, ∀ H' h' N', Ext H h N H' h' N' → ∃ xs, VS K k H' v xs ∧ RepL K H' N' ds xs := by
  cases x <;> simp only [itemsD] at e <;> first | cases e | skip
  · exact ⟨.S, fun H' h' N' ex => by
      obtain ⟨k, xs, v, rs⟩ := items_vs (Rep.ext R.un ex _ _ r) rfl
      rename_i z
      cases rep_str r
      refine ⟨_, ⟨z, rfl, rfl⟩, ?_⟩
      generalize z.cps.toList = l
      induction l with
      | nil => exact rfl
      | cons c l ih => exact ⟨_, _, rfl, rfl, ih⟩⟩
  · exact ⟨.T, fun H' h' N' ex => by
      obtain ⟨a, xs, e1, f, rs⟩ := Rep.ext R.un ex _ _ r
      exact ⟨xs, ⟨a, e1, f.sq⟩, rs⟩⟩
  · exact ⟨.L, fun H' h' N' ex => by
      obtain ⟨a, xs, e1, f, rs⟩ := Rep.ext R.un ex _ _ r
      exact ⟨xs, ⟨a, e1, .inl f.2⟩, rs⟩⟩
theorem di_seq (he : DEp X W e te) : DIp X W tg e (iSeqD te) := PI.imp (pi_seqV he) fun σ H R ⟨τ, h, N, Q0, X0, S, R0, z, p, ex⟩ => by
  refine ⟨τ, h, N, _, X0, S, R0, z, fun x h1 N1 v H1 q e R1 rx => ?_, ex⟩
  cases ei : itemsD x with
  | none => simp only [ei] at q
  | some ds =>
    simp only [ei] at q
    cases x with
    | str zz =>
      cases ei
      cases rep_str rx
      refine .inr (.inr ⟨zz, rfl, p _ _ _ _ _ q e R1 ?_⟩)
      refine jrep_of (fun H' h' N' _ _ i hi => ⟨?_, fun x H2 y => ?_⟩) fun H' h' N' _ _ => ?_
      · show i < zz.cps.size; simpa using hi
      · obtain ⟨y1, c, hc, rfl⟩ := y
        refine ⟨y1, .str ⟨#[c]⟩, ?_, rfl⟩
        rw [List.getElem?_map, Array.getElem?_toList, hc]
        rfl
      · show zz.cps.size ≤ _; simp
    | tup zz =>
      cases ei
      have rx0 := rx
      obtain ⟨a, xs, rfl, f, rs⟩ := rx
      refine .inr (.inl ⟨a, rfl, ⟨xs, f.sq⟩, p _ _ _ _ _ q e R1 ?_⟩)
      have st : ∀ H' h' N', Ext H1 h1 N1 H' h' N' → ∃ xs, SqT X.K H' a xs ∧ RepL X.K H' N' ds xs := fun H' h' N' ex => by
        obtain ⟨a', xs', e1, f', rs'⟩ := Rep.ext R1.un ex _ _ rx0
        cases e1
        exact ⟨xs', f'.sq, rs'⟩
      refine jrep_of (fun H' h' N' e' R' i hi => ?_) fun H' h' N' e' R' => ?_
      · obtain ⟨xs', f', rs'⟩ := st H' h' N' e'
        have hi' : i < xs'.length := by rw [rs'.length]; exact hi
        refine ⟨⟨xs', xs'[i], f', List.getElem?_eq_getElem hi'⟩, fun x H2 y => ⟨y.1, ?_⟩⟩
        exact rs'.get (y.2 xs' f')
      · obtain ⟨xs', f', rs'⟩ := st H' h' N' e'
        exact ⟨xs', f', by rw [rs'.length]; exact Nat.le_refl _⟩
    | lst zz =>
      cases ei
      have rx0 := rx
      obtain ⟨a, xs, rfl, f, rs⟩ := rx
      refine .inl ⟨a, rfl, ⟨xs, .inl f.2⟩, p _ _ _ _ _ q e R1 ?_⟩
      have st : ∀ H' h' N', Ext H1 h1 N1 H' h' N' → ∃ xs, SqL X.K H' a xs ∧ RepL X.K H' N' ds xs := fun H' h' N' ex => by
        obtain ⟨a', xs', e1, f', rs'⟩ := Rep.ext R1.un ex _ _ rx0
        cases e1
        exact ⟨xs', .inl f'.2, rs'⟩
      refine jrep_of (fun H' h' N' e' R' i hi => ?_) fun H' h' N' e' R' => ?_
      · obtain ⟨xs', f', rs'⟩ := st H' h' N' e'
        have hi' : i < xs'.length := by rw [rs'.length]; exact hi
        refine ⟨⟨xs', xs'[i], f', List.getElem?_eq_getElem hi'⟩, fun x H2 y => ⟨y.1, ?_⟩⟩
        exact rs'.get (y.2 xs' f')
      · obtain ⟨xs', f', rs'⟩ := st H' h' N' e'
        exact ⟨xs', f', by rw [rs'.length]; exact Nat.le_refl _⟩
    | _ => cases ei
theorem jrep_range {K : PySem.W.Frag} {H : Hp} {h : DH} {N : NS} (lo : Int) (n : Nat) : JRep K (Itr lo n) ((List.range n).map fun i => .int (lo + (i : Nat))) H h N := by
  refine jrep_of (fun H' h' N' _ _ i hi => ?_) fun H' h' N' _ _ => ?_
  · have hi : i < n := by simpa using hi
    refine ⟨hi, fun x H2 y => ⟨y.1, .int (lo + (i : Nat)), ?_, y.2⟩⟩
    rw [List.getElem?_map, List.getElem?_range hi]
    rfl
  · show n ≤ _; simp
theorem di_range1 {e : Expr} {p pos : Pos} (hg : Gl X "range") (hm : X.mg "range" = none) (he : DEp X W e te) (hs : starEach [e] X.env = [(false, eval e X.env)] := by rfl) : DIp X W tg (.Call (.Name "range" p) [e] [] pos) (iRange1 te) :=
  PI.imp (pi_range1 hg hm (pa_cons he pa_nil hs) hs) fun σ H R ⟨τ, h, N, Q0, X0, S, R0, z, p, ex⟩ => by
    refine ⟨τ, h, N, _, X0, S, R0, z, fun x h1 N1 v H1 q e R1 rx => ?_, ex⟩
    cases x <;> first | exact (show False from q).elim | skip
    rename_i n
    cases rep_int rx
    refine ⟨n, rfl, q.1, q.2.1, p _ _ _ _ _ q.2.2 e R1 ?_⟩
    have := jrep_range (K := X.K) (H := H1) (h := h1) (N := N1) 0 n.toNat
    simpa only [Int.zero_add] using this
theorem di_range2 {a b : Expr} {ta tb : DE} {p pos : Pos} (hg : Gl X "range") (hm : X.mg "range" = none) (ha : DEp X W a ta) (hb : DEp X W b tb) (hs : starEach [a, b] X.env = [(false, eval a X.env), (false, eval b X.env)] := by rfl) (hs2 : starEach [b] X.env = [(false, eval b X.env)] := by rfl) : DIp X W tg (.Call (.Name "range" p) [a, b] [] pos) (iRange2 ta tb) :=
  PI.imp (pi_range2 hg hm (pa_cons ha (pa_cons hb pa_nil hs2) (by rw [hs, hs2])) hs hs2) fun σ H R ⟨τ, h, N, Q0, X0, S, R0, z, p, ex⟩ => by
    refine ⟨τ, h, N, _, X0, S, R0, z, fun x h1 N1 v H1 q e R1 rx => ⟨τ, h1, N1, _, X0, S.ext R0.un e, R1, q, fun y h2 N2 u H2 q2 e2 R2 ry => ?_, ex.ext e⟩, ex⟩
    cases x <;> cases y <;> first | exact (show False from q2).elim | skip
    rename_i n m
    cases rep_int rx
    cases rep_int ry
    exact ⟨n, m, rfl, q2.1, p _ _ _ _ _ q2.2 (e.trans e2) R2 (jrep_range n (m - n).toNat)⟩
theorem enumD_get {ds : List D} {i : Nat} {d : D} (h : ds[i]? = some d) : (enumD ds)[i]? = some (.tup [.int (i : Nat), d]) := by
  unfold enumD
  have hi := (List.getElem?_eq_some_iff.mp h).1
  have e : ((List.range ds.length).zip ds)[i]? = some (i, d) := List.getElem?_zip_eq_some.mpr ⟨List.getElem?_range hi, h⟩
  rw [List.getElem?_map, e]
  rfl
theorem enumD_length (ds : List D) : (enumD ds).length = ds.length := by
  unfold enumD
  rw [List.length_map, List.length_zip, List.length_range, Nat.min_self]
theorem zipD_get {ds es : List D} {i : Nat} {d e : D} (h : ds[i]? = some d) (h2 : es[i]? = some e) : (zipD ds es)[i]? = some (.tup [d, e]) := by
  unfold zipD
  have q : (ds.zip es)[i]? = some (d, e) := List.getElem?_zip_eq_some.mpr ⟨h, h2⟩
  rw [List.getElem?_map, q]
  rfl
theorem zipD_length (ds es : List D) : (zipD ds es).length = min ds.length es.length := by
  unfold zipD
  rw [List.length_map, List.length_zip]
theorem pair_new {K : PySem.W.Frag} {H : Hp} {h : DH} {N : NS} {d e : D} {v u : V} {p : Addr} (R : HRep K H h N) (n : H p = none) (r1 : Rep K H N d v) (r2 : Rep K H N e u) :
    ∃ N2, HRep K (upd H p (.tup [v, u])) h N2 ∧ Ext H h N (upd H p (.tup [v, u])) h N2 ∧ Rep K (upd H p (.tup [v, u])) N2 (.tup [d, e]) (.ref p) := by
  obtain ⟨R2, e2, r3⟩ := tup_new R n (RepL.cons r1 (RepL.cons r2 RepL.nil))
  exact ⟨_, R2, e2, r3⟩
theorem di_enum {p pos tpos : Pos} {elts : List Expr} {kk : Nat} (hg : Gl X "enumerate") (hm : X.mg "enumerate" = none) (he : DEp X W e te) (hs : starEach [e] X.env = [(false, eval e X.env)] := by rfl) :
    DIp X W (.Tuple elts kk tpos) (.Call (.Name "enumerate" p) [e] [] pos) (iEnumD te) := PI.imp (pi_e hg hm (pa_cons he pa_nil hs) hs) fun σ H R ⟨τ, h, N, Q0, X0, S, R0, z, p, ex⟩ => by
  refine ⟨τ, h, N, _, X0, S, R0, z, fun x h1 N1 v H1 q e R1 rx => ?_, ex⟩
  cases ei : itemsD x with
  | none => simp only [ei] at q
  | some ds =>
    simp only [ei] at q
    obtain ⟨k, st⟩ := items_stay R1 rx ei
    obtain ⟨xs, vs, _⟩ := st H1 h1 N1 (Ext.refl _ _ _)
    refine ⟨v, k, xs, rfl, vs, p _ _ _ _ _ q e R1 ⟨fun H' h' N' e' R' i hi => ?_, fun H' h' N' e' R' => ?_⟩⟩
    · rw [enumD_length] at hi
      obtain ⟨xs', vs', rs'⟩ := st H' h' N' e'
      have hi' : i < xs'.length := by rw [rs'.length]; exact hi
      refine ⟨⟨xs', vs', hi'⟩, fun x H2 y => ?_⟩
      obtain ⟨T, a, rfl, n, rfl, ya⟩ := y
      obtain ⟨d, ed, rd⟩ := rs'.get (ya xs' vs')
      obtain ⟨N2, R2, e2, r3⟩ := pair_new (d := .int (i : Nat)) (v := .int (i : Nat)) R' n rfl rd
      exact ⟨N2, _, enumD_get ed, R2, e2, r3⟩
    · obtain ⟨xs', vs', rs'⟩ := st H' h' N' e'
      exact ⟨xs', vs', by rw [enumD_length, rs'.length]⟩
theorem di_zip {a b : Expr} {ta tb : DE} {p pos tpos : Pos} {elts : List Expr} {kk : Nat} (hg : Gl X "zip") (hm : X.mg "zip" = none) (ha : DEp X W a ta) (hb : DEp X W b tb)
    (hs : starEach [a, b] X.env = (false, eval a X.env) :: starEach [b] X.env := by rfl) (hs2 : starEach [b] X.env = (false, eval b X.env) :: starEach [] X.env := by rfl) (hpl : (backTo pos (starEach [b] X.env)).any (·.1) = false := by rfl) :
    DIp X W (.Tuple elts kk tpos) (.Call (.Name "zip" p) [a, b] [] pos) (iZipD ta tb) := PI.imp (pi_z hg hm (pa_cons ha (pa_cons hb pa_nil hs2) hs) hs hpl) fun σ H R ⟨τ, h, N, Q0, X0, S, R0, z, p, ex⟩ => by
  refine ⟨τ, h, N, _, X0, S, R0, z, fun x h1 N1 v H1 q e R1 rx => ⟨τ, h1, N1, _, X0, S.ext R0.un e, R1, q, fun y h2 N2 u H2 q2 e2 R2 ry => ?_, ex.ext e⟩, ex⟩
  cases ei : itemsD x with
  | none => simp only [ei] at q2
  | some ds =>
    cases ej : itemsD y with
    | none => simp only [ei, ej] at q2
    | some es =>
      simp only [ei, ej] at q2
      obtain ⟨k1, st1⟩ := items_stay R2 (Rep.ext R1.un e2 _ _ rx) ei
      obtain ⟨k2, st2⟩ := items_stay R2 ry ej
      obtain ⟨xs, vs, _⟩ := st1 H2 h2 N2 (Ext.refl _ _ _)
      obtain ⟨ys, vs2, _⟩ := st2 H2 h2 N2 (Ext.refl _ _ _)
      refine ⟨v, u, k1, k2, xs, ys, rfl, vs, vs2, p _ _ _ _ _ q2 (e.trans e2) R2 ⟨fun H' h' N' e' R' i hi => ?_, fun H' h' N' e' R' => ?_⟩⟩
      · rw [zipD_length] at hi
        obtain ⟨xs', vs', rs'⟩ := st1 H' h' N' e'
        obtain ⟨ys', vs2', rs2'⟩ := st2 H' h' N' e'
        have hi' : i < xs'.length := by rw [rs'.length]; omega
        have hi2' : i < ys'.length := by rw [rs2'.length]; omega
        refine ⟨⟨xs', ys', vs', vs2', hi', hi2'⟩, fun x H2 y => ?_⟩
        obtain ⟨T, a, b, rfl, n, rfl, ya, yb⟩ := y
        obtain ⟨d, ed, rd⟩ := rs'.get (ya xs' vs')
        obtain ⟨d2, ed2, rd2⟩ := rs2'.get (yb ys' vs2')
        obtain ⟨N3, R3, e3, r3⟩ := pair_new R' n rd rd2
        exact ⟨N3, _, zipD_get ed ed2, R3, e3, r3⟩
      · obtain ⟨xs', vs', rs'⟩ := st1 H' h' N' e'
        obtain ⟨ys', vs2', rs2'⟩ := st2 H' h' N' e'
        exact ⟨xs', ys', vs', vs2', by rw [zipD_length, rs'.length, rs2'.length]⟩
end
end DL

/-! D8: statements, loops, comprehensions over data. -/
namespace DL
open PySem PySem.Spec L2 PyProof.Rows

def dNext : DS := fun D τ h => D.nx τ h
def dSeq (t u : DS) : DS := fun D τ h => t { D with nx := u D } τ h
def dAsg (te : DE) (i : Nat) : DS := fun D τ h => te τ h (fun d h1 => D.nx (τ.set i (some d)) h1) (fun C fs h1 => D.ex C fs τ h1)
/-- a, b = e, several names at once -/
def dAsgT (te : DE) (t : Tgt) : DS := fun D τ h => te τ h (fun d h1 => match bindT t d τ with | some τ' => D.nx τ' h1 | none => False) (fun C fs h1 => D.ex C fs τ h1)
/-- a, b = x, y -/
def dPar (i j : Nat) (ta tb : DE) : DS := fun D τ h => ta τ h (fun x h1 => tb τ h1 (fun y h2 => D.nx ((τ.set i (some x)).set j (some y)) h2) (fun C fs h2 => D.ex C fs τ h2)) (fun C fs h1 => D.ex C fs τ h1)
def dIf (c : DT) (t u : DS) : DS := fun D τ h => c τ h (fun b h1 => (b = true → t D τ h1) ∧ (b = false → u D τ h1)) (fun C fs h1 => D.ex C fs τ h1)
def dRet (te : DE) : DS := fun D τ h => te τ h D.rt (fun C fs h1 => D.ex C fs τ h1)
def dRetN : DS := fun D _ h => D.rt .non h
def dDrop (te : DE) : DS := fun D τ h => te τ h (fun _ h1 => D.nx τ h1) (fun C fs h1 => D.ex C fs τ h1)
def dBrk : DS := fun D τ h => D.bk τ h
def dCnt : DS := fun D τ h => D.ct τ h
def dIpAdd : D → D → DH → DK → Prop
  | .int i, .int j, h, Q => Q (.int (i + j)) h
  | _, _, _, _ => False
def dIpMul : D → D → DH → DK → Prop
  | .int i, .int j, h, Q => IntMulOk i j ∧ Q (.int (i * j)) h
  | _, _, _, _ => False
def dIpSub : D → D → DH → DK → Prop
  | .int i, .int j, h, Q => Q (.int (i - j)) h
  | _, _, _, _ => False
def dIpDiv : D → D → DH → DK → Prop
  | .int i, .int j, h, Q => 0 < j ∧ j.natAbs.log2 < 9000 ∧ Q (.int (i / j)) h
  | _, _, _, _ => False
def dAug (i : Nat) (te : DE) (r : D → D → DH → DK → Prop) : DS := fun D τ h => match τ[i]? with
  | some (some x) => te τ h (fun y h1 => r x y h1 (fun z h2 => D.nx (τ.set i (some z)) h2)) (fun C fs h1 => D.ex C fs τ h1)
  | _ => False
/-- o[i] = e of a tracked list -/
def dSetI (te to ti : DE) : DS := fun D τ h => te τ h (fun v h1 => to τ h1 (fun o h2 => ti τ h2 (fun i h3 => match o, i with
  | .ref a, .int k => (match h3 a with | some (.lst ds) => 0 ≤ k ∧ k < ds.length ∧ D.nx τ (dupd h3 a (.lst (ds.set k.toNat v))) | _ => False)
  | _, _ => False) (fun C fs h2 => D.ex C fs τ h2)) (fun C fs h2 => D.ex C fs τ h2)) (fun C fs h1 => D.ex C fs τ h1)
def forGo (tg : Tgt) (tb : DS) : List D → DEnds → DSt → DH → Prop
  | [], D, τ, h => D.nx τ h
  | d :: ds, D, τ, h => match bindT tg d τ with
    | some τ' => tb { D with nx := forGo tg tb ds D, ct := forGo tg tb ds D, bk := D.nx } τ' h
    | none => False
def dFor (it : DI) (tg : Tgt) (tb : DS) : DS := fun D τ h => it τ h (fun ds h1 => forGo tg tb ds D τ h1) (fun C fs h1 => D.ex C fs τ h1)
def whileGo (c : DT) (tb : DS) : Nat → DEnds → DSt → DH → Prop
  | 0, _, _, _ => False
  | n + 1, D, τ, h => c τ h (fun b h1 => (b = true → tb { D with nx := whileGo c tb n D, ct := whileGo c tb n D, bk := D.nx } τ h1) ∧ (b = false → D.nx τ h1)) (fun C fs h1 => D.ex C fs τ h1)
def dWhile (c : DT) (tb : DS) : DS := fun D τ h => ∃ n, whileGo c tb n D τ h
def dwipe (τ : DSt) : List Nat → DSt
  | [] => τ
  | v :: vs => (dwipe τ vs).set v none
abbrev noX : DX := fun _ _ _ => False
def lcGo (tg : Tgt) (tt : DT) (te : DE) (τ : DSt) : List D → DH → (List D → DH → Prop) → Prop
  | [], h, Q => Q [] h
  | d :: ds, h, Q => match bindT tg d τ with
    | some τ' => tt τ' h (fun b h1 => (b = true → te τ' h1 (fun y h2 => lcGo tg tt te τ ds h2 (fun ys h3 => Q (y :: ys) h3)) noX) ∧ (b = false → lcGo tg tt te τ ds h1 Q)) noX
    | none => False
def dYes : DT := fun _ h Q _ => Q true h
def dLc (it : DI) (tg : Tgt) (tt : DT) (te : DE) (vs : List Nat) : DE := fun τ h Q X => it τ h (fun ds h1 => ds.length ≤ 10000000 ∧ lcGo tg tt te (dwipe τ vs) ds h1 (fun ys h2 => Q (.lst ys) h2)) X
def dLcM (it : DI) (tg : Tgt) (tt : DT) (te : DE) (vs : List Nat) : DE := fun τ h Q X => it τ h (fun ds h1 => ds.length ≤ 10000000 ∧ lcGo tg tt te (dwipe τ vs) ds h1 (fun ys h2 => ∀ p, h2 p = none → Q (.ref p) (dupd h2 p (.lst ys)))) X

section
variable {X : Cx} {W : WX} {e o ie : Expr} {st : Stmt} {rest : List Stmt} {te to ti : DE} {t u : DS} {pos : Pos}
theorem ds_nil : DSs X W [] dNext := PSs.imp pss_nil fun D σ H ⟨τ, h, N, D0, S, R, z, U⟩ => U.nx τ h N σ H z (Ext.refl _ _ _) S R
theorem ds_cons (h1 : DSp' X W st t) (h2 : DSs X W rest u) : DSs X W (st :: rest) (dSeq t u) := PSs.imp (pss_cons h1 h2) fun D σ H ⟨τ, h, N, D0, S, R, z, U⟩ =>
  ⟨τ, h, N, _, S, R, z, ⟨fun τ' h' N' σ' H' q e S' R' => ⟨τ', h', N', D0, S', R', q, U.ext e⟩, U.rt, U.bk, U.ct, U.ex⟩⟩
theorem ds_one (h1 : DSp' X W st t) : DSs X W [st] t := pss_one h1
theorem ds_pass : DSp' X W (.Pass pos) dNext := PS.imp ps_pass fun D σ H ⟨τ, h, N, D0, S, R, z, U⟩ => U.nx τ h N σ H z (Ext.refl _ _ _) S R
theorem ds_doc {x j pos'} : DSp' X W (.Expr (.Constant (.str x) j pos) pos') dNext := PS.imp ps_doc fun D σ H ⟨τ, h, N, D0, S, R, z, U⟩ => U.nx τ h N σ H z (Ext.refl _ _ _) S R
theorem ds_break : DSp' X W (.Break pos) dBrk := PS.imp ps_break fun D σ H ⟨τ, h, N, D0, S, R, z, U⟩ => U.bk τ h N σ H z (Ext.refl _ _ _) S R
theorem ds_continue : DSp' X W (.Continue pos) dCnt := PS.imp ps_continue fun D σ H ⟨τ, h, N, D0, S, R, z, U⟩ => U.ct τ h N σ H z (Ext.refl _ _ _) S R
theorem lift_asg {K : PySem.W.Frag} {i : Nat} {D : Ends} {σ : L2.St} {H : Hp} (q : liftS K W (dAsg te i) D σ H) : tAsg (liftE K W te) (gName i) D σ H := by
  obtain ⟨τ, h, N, D0, S, R, z, U⟩ := q
  exact ⟨τ, h, N, _, _, S, R, z, fun d h1 N1 v H1 q e R1 r => U.nx _ _ _ _ _ q e ((S.ext R.un e).set r) R1, U.exc S R.un⟩
theorem ds_set {i : Nat} {x : Str} {pos' : Pos} (hN : X.N.Nodup) (he : DEp X W e te) (hi : X.N[i]? = some x := by rfl) (hx : Loc X.env.scope x := by first | exact .inl rfl | exact .inr rfl) (hs : swapsWith e (some (.Name x pos')) pos.line X.env = pure false := by rfl)
    (hf : X.fn x = true ∨ X.env.scope.names.lookup x = some .local := by first | exact .inl rfl | exact .inr rfl) : DSp' X W (.Assign [.Name x pos'] e pos) (dAsg te i) :=
  PS.imp (ps_set hN hi hx he hs hf) fun _ _ _ q => lift_asg q
theorem ds_par {i j : Nat} {x y : Str} {a b : Expr} {ta tb : DE} {px py pt : Pos} {kt k2 pt2} (hc : X.calm = true) (hN : X.N.Nodup) (ha : DEp X W a ta) (hb : DEp X W b tb) (hi : X.N[i]? = some x := by rfl) (hj : X.N[j]? = some y := by rfl) (hij : i ≠ j := by decide)
    (hx : X.env.scope.names.lookup x = some .local := by rfl) (hy : X.env.scope.names.lookup y = some .local := by rfl)
    (hs1 : starEach [a, b] X.env = (false, eval a X.env) :: starEach [b] X.env := by rfl) (hs2 : starEach [b] X.env = (false, eval b X.env) :: starEach [] X.env := by rfl)
    (hw : swappedStores [.Tuple [.Name x px, .Name y py] kt pt] (.Tuple [a, b] k2 pt2) X.env = pure (some [x, y]) := by rfl)
    (hs : swapsWithSole [.Tuple [.Name x px, .Name y py] kt pt] (.Tuple [a, b] k2 pt2) pos.line X.env = pure false := by rfl) :
    DSp' X W (.Assign [.Tuple [.Name x px, .Name y py] kt pt] (.Tuple [a, b] k2 pt2) pos) (dPar i j ta tb) :=
  PS.imp (ps_par hc hN hi hj hij hx hy (pa_cons ha (pa_cons hb pa_nil hs2) hs1) hw hs) fun D σ H ⟨τ, h, N, D0, S, R, z, U⟩ =>
    ⟨τ, h, N, _, _, S, R, z, fun d h1 N1 v H1 q e R1 r => ⟨τ, h1, N1, _, _, S.ext R.un e, R1, q, fun d2 h2 N2 v2 H2 q2 e2 R2 r2 =>
      ⟨v, v2, rfl, U.nx _ _ _ _ _ q2 (e.trans e2) (((S.ext R.un (e.trans e2)).set (Rep.ext R1.un e2 _ _ r)).set r2) R2⟩, (U.ext e).exc (S.ext R.un e) R1.un⟩, U.exc S R.un⟩
/-- targets that are unpacked from a tuple -/
theorem ds_asgT {tg : Expr} {tt : Tgt} (he : DEp X W e te) (hg : PG X tg (gT X.K tt)) (hs : swapsWithSole [tg] e pos.line X.env = pure false := by rfl) (hw : swappedStores [tg] e X.env = pure none := by rfl)
    (h1 : (assignEach [tg] X.env).map (·.2) = [assign tg X.env] := by rfl) : DSp' X W (.Assign [tg] e pos) (dAsgT te tt) := PS.imp (ps_asg he hg hs hw h1) fun D σ H ⟨τ, h, N, D0, S, R, z, U⟩ =>
  ⟨τ, h, N, _, _, S, R, z, fun d h1 N1 v H1 q e R1 r => by
    cases eb : bindT tt d τ with
    | none => simp only [eb] at q
    | some τ' =>
      simp only [eb] at q
      obtain ⟨σ', S', _, g⟩ := bindT_ok tt d τ τ' v σ eb (S.ext R.un e) r
      exact g _ (U.nx _ _ _ _ _ q e S' R1), U.exc S R.un⟩
theorem ds_if {c : Expr} {a b : List Stmt} {tc : DT} (hc : DTp X W c tc) (ha : DSs X W a t) (hb : DSs X W b u) : DSp' X W (.If c a b pos) (dIf tc t u) := PS.imp (ps_if hc ha hb) fun D σ H ⟨τ, h, N, D0, S, R, z, U⟩ =>
  ⟨τ, h, N, _, _, S, R, z, fun b h1 N1 H1 q e R1 => by
    cases b with
    | true => rw [if_pos rfl]; exact ⟨τ, h1, N1, D0, S.ext R.un e, R1, q.1 rfl, U.ext e⟩
    | false => rw [if_neg Bool.false_ne_true]; exact ⟨τ, h1, N1, D0, S.ext R.un e, R1, q.2 rfl, U.ext e⟩, U.exc S R.un⟩
theorem ds_ret (he : DEp X W e te) : DSp' X W (.Return (some e) pos) (dRet te) := PS.imp (ps_ret he) fun D σ H ⟨τ, h, N, D0, S, R, z, U⟩ => ⟨τ, h, N, _, _, S, R, z, U.rt, U.exc S R.un⟩
theorem ds_retN : DSp' X W (.Return none pos) dRetN := PS.imp ps_retN fun D σ H ⟨τ, h, N, D0, S, R, z, U⟩ => U.rt _ _ _ _ _ z (Ext.refl _ _ _) R rfl
theorem ds_expr (he : DEp X W e te) (hs : swapsWith e none pos.line X.env = pure false := by rfl) : DSp' X W (.Expr e pos) (dDrop te) := PS.imp (ps_expr he hs) fun D σ H ⟨τ, h, N, D0, S, R, z, U⟩ =>
  ⟨τ, h, N, _, _, S, R, z, fun d h1 N1 v H1 q e R1 r => U.nx _ _ _ _ _ q e (S.ext R.un e) R1, U.exc S R.un⟩
abbrev IpD (X : Cx) (op : Operator) (r : D → D → DH → DK → Prop) : Prop := PIp X op (lift2 X.K r)
theorem ds_aug {i : Nat} {x : Str} {op : Operator} {r : D → D → DH → DK → Prop} {pos' : Pos} (hN : X.N.Nodup) (he : DEp X W e te) (ho : IpD X op r) (hi : X.N[i]? = some x := by rfl) (hx : Loc X.env.scope x := by first | exact .inl rfl | exact .inr rfl)
    (hf : X.fn x = true ∨ X.env.scope.names.lookup x = some .local := by first | exact .inl rfl | exact .inr rfl) : DSp' X W (.AugAssign (.Name x pos') op e pos) (dAug i te r) :=
  PS.imp (ps_aug hN hi hx he ho hf) fun D σ H ⟨τ, h, N, D0, S, R, z, U⟩ => by
    unfold dAug at z
    cases et : τ[i]? with
    | none => simp only [et] at z
    | some o =>
      cases o with
      | none => simp only [et] at z
      | some d =>
        simp only [et] at z
        obtain ⟨v, ev, rv⟩ := S.get i d et
        refine ⟨v, ev, τ, h, N, _, _, S, R, z, fun y h1 N1 u H1 q e R1 ry => ?_, U.exc S R.un⟩
        exact ⟨d, y, h1, N1, _, Rep.ext R.un e _ _ rv, ry, R1, q, fun zz h2 N2 w H2 q2 e2 R2 rz => U.nx _ _ _ _ _ q2 (e.trans e2) ((S.ext R.un (e.trans e2)).set rz) R2⟩
theorem ip_ofI {op : Operator} {f : Int → Int → Int} (h : PIp X op (ipI f)) : IpD X op (fun x y h Q => match x, y with | .int i, .int j => Q (.int (f i j)) h | _, _ => False) := by
  intro pins s σ H v u vv uu Q I rv ru ⟨x, y, h', N, Q0, rx, ry, R, q, p⟩
  cases x <;> cases y <;> first | exact q.elim | skip
  cases rep_int rx; cases rep_int ry
  exact h pins s σ H _ _ vv uu Q I rv ru ⟨_, _, rfl, rfl, post_at p R q rfl⟩
theorem id_add : IpD X .Add dIpAdd := by
  intro pins s σ H v u vv uu Q I rv ru ⟨x, y, h', N, Q0, rx, ry, R, q, p⟩
  cases x <;> cases y <;> first | exact q.elim | skip
  cases rep_int rx; cases rep_int ry
  exact ip_add pins s σ H _ _ vv uu Q I rv ru ⟨_, _, rfl, rfl, post_at p R q rfl⟩
theorem id_sub : IpD X .Sub dIpSub := by
  intro pins s σ H v u vv uu Q I rv ru ⟨x, y, h', N, Q0, rx, ry, R, q, p⟩
  cases x <;> cases y <;> first | exact q.elim | skip
  cases rep_int rx; cases rep_int ry
  exact ip_sub pins s σ H _ _ vv uu Q I rv ru ⟨_, _, rfl, rfl, post_at p R q rfl⟩
theorem id_mul : IpD X .Mult dIpMul := by
  intro pins s σ H v u vv uu Q I rv ru ⟨x, y, h', N, Q0, rx, ry, R, q, p⟩
  cases x <;> cases y <;> first | exact (show False from q).elim | skip
  cases rep_int rx; cases rep_int ry
  obtain ⟨t, rfl⟩ := rv
  obtain ⟨t', rfl⟩ := ru
  exact imul_int ⟨.int _, H, I.tok _, ⟨_, rfl⟩, post_at p R q.2 rfl⟩ q.1
/-- xs[i] = e -/
theorem ds_setI (he : DEp X W e te) (ho : DEp X W o to) (hi : DEp X W ie ti) {spos : Pos} (ha : ∀ v, assign (.Subscript o ie spos) X.env v = (do
      let ov ← holding [v] (eval o X.env)
      let iv ← holding [v, ov] (eval ie X.env)
      standAt spos
      holding [v, ov, iv] (setItem ov iv v)
      release [v, ov, iv] []) := by intro _; rfl) (hs : swapsWithSole [.Subscript o ie spos] e pos.line X.env = pure false := by rfl) (hw : swappedStores [.Subscript o ie spos] e X.env = pure none := by rfl)
    (h1 : (assignEach [.Subscript o ie spos] X.env).map (·.2) = [assign (.Subscript o ie spos) X.env] := by rfl) : DSp' X W (.Assign [.Subscript o ie spos] e pos) (dSetI te to ti) :=
  PS.imp (ps_asg he (pg_sub ho hi set_list ha) hs hw h1) fun D σ H ⟨τ, h, N, D0, S, R, z, U⟩ => by
    refine ⟨τ, h, N, _, _, S, R, z, fun v h1 N1 vv H1 q e R1 r => ⟨τ, h1, N1, _, _, S.ext R.un e, R1, q, fun o h2 N2 oo H2 q2 e2 R2 ro => ⟨τ, h2, N2, _, _, (S.ext R.un e).ext R1.un e2, R2, q2, fun i h3 N3 ii H3 q3 e3 R3 ri => ?_, (U.ext (e.trans e2)).exc ((S.ext R.un e).ext R1.un e2) R2.un⟩, (U.ext e).exc (S.ext R.un e) R1.un⟩, U.exc S R.un⟩
    cases o <;> cases i <;> first | exact q3.elim | skip
    rename_i a k
    cases rep_ref ro
    cases rep_int ri
    dsimp only at q3
    cases ea : h3 a with
    | none => rw [ea] at q3; exact q3.elim
    | some ob =>
      cases ob with
      | ins C fs => rw [ea] at q3; exact q3.elim
      | lst ds =>
        rw [ea] at q3
        obtain ⟨k0, k1, q3⟩ := q3
        obtain ⟨xs, ex, rs⟩ := R3.at_ a _ ea
        obtain ⟨R4, e4⟩ := lst_mut R3 ea (rs.set k.toNat (Rep.ext R1.un (e2.trans e3) _ _ r))
        have hl := rs.length
        refine ⟨a, xs, k, k.toNat, rfl, rfl, ex, ?_, U.nx _ _ _ _ _ q3 (e.trans (e2.trans (e3.trans e4))) (S.ext R.un (e.trans (e2.trans (e3.trans e4)))) R4⟩
        unfold ixN
        rw [if_pos k0, if_pos (by omega)]

/-! ### loops -/
theorem SRep.len' {K : PySem.W.Frag} {H : Hp} {N : NS} {τ : DSt} {σ : L2.St} (S : SRep K H N τ σ) : σ.length = τ.length := S.len
theorem ds_for {tge iter : Expr} {body : List Stmt} {it : DI} {tg : Tgt} {tb : DS} (hp : PassesOwn (model X.prog X.w) X.A X.env X.xe) (hc : X.calm = true) (hi : DIp X W tge iter it) (hg : PG X tge (gT X.K tg)) (hb : DSs X W body tb)
    (hs : ∀ x, foldedSetIterable iter X.env x = pure x := by intro _; rfl) : DSp' X W (.For tge iter body [] pos) (dFor it tg tb) := PS.imp (ps_for hp hc hi hg hb hs) fun D σ H ⟨τ, h, N, D0, S, R, z, U⟩ => by
  refine ⟨τ, h, N, _, _, S, R, z, fun ds h1 N1 J H1 q e R1 jr => ?_, U.exc S R.un⟩
  refine ⟨fun i m σ' H' => m = ds.length - i ∧ i ≤ ds.length ∧ ∃ τ' h' N', SRep X.K H' N' τ' σ' ∧ HRep X.K H' h' N' ∧ Ext H1 h1 N1 H' h' N' ∧ forGo tg tb (ds.drop i) D0 τ' h', ⟨ds.length, rfl, Nat.zero_le _, τ, h1, N1, S.ext R.un e, R1, Ext.refl _ _ _, q⟩, ?_⟩
  rintro i m σ' H' ⟨rfl, hi, τ', h', N', S', R', e', q'⟩
  by_cases hlt : i < ds.length
  · obtain ⟨jg, jy⟩ := jr.go H' h' N' e' R' i hlt
    refine .inr ⟨jg, fun σ2 H2 => i + 1 ≤ ds.length ∧ ∃ τ' h' N', SRep X.K H2 N' τ' σ2 ∧ HRep X.K H2 h' N' ∧ Ext H1 h1 N1 H2 h' N' ∧ forGo tg tb (ds.drop (i + 1)) D0 τ' h', fun σ2 H2 ⟨hi2, w⟩ => ⟨ds.length - (i + 1), by omega, rfl, hi2, w⟩, fun x H2 y => ?_⟩
    obtain ⟨N2, d, ed, R2, e2, rd⟩ := jy x H2 y
    have edrop : ds.drop i = d :: ds.drop (i + 1) := by
      rw [List.drop_eq_getElem_cons hlt]
      have := List.getElem?_eq_getElem hlt
      rw [ed] at this
      rw [← Option.some.inj this]
    rw [edrop] at q'
    unfold forGo at q'
    cases eb : bindT tg d τ' with
    | none => rw [eb] at q'; exact q'.elim
    | some τ2 =>
      rw [eb] at q'
      obtain ⟨σ2, S2, _, g⟩ := bindT_ok tg d τ' τ2 x σ' eb (S'.ext R'.un e2) rd
      refine g _ ⟨τ2, h', N2, _, S2, R2, q', ?_⟩
      have e12 := e'.trans e2
      exact ⟨fun τ3 h3 N3 σ3 H3 q3 e3 S3 R3 => ⟨hlt, τ3, h3, N3, S3, R3, e12.trans e3, q3⟩, U.rt.ext (e.trans e12),
        fun τ3 h3 N3 σ3 H3 q3 e3 S3 R3 => U.nx τ3 h3 N3 σ3 H3 q3 (e.trans (e12.trans e3)) S3 R3, fun τ3 h3 N3 σ3 H3 q3 e3 S3 R3 => ⟨hlt, τ3, h3, N3, S3, R3, e12.trans e3, q3⟩, (U.ext (e.trans e12)).ex⟩
  · have hi' : i = ds.length := by omega
    subst hi'
    rw [List.drop_length] at q'
    exact .inl ⟨jr.stop H' h' N' e' R', U.nx _ _ _ _ _ q' (e.trans e') S' R'⟩
theorem ds_while {c : Expr} {body : List Stmt} {tc : DT} {tb : DS} (hp : PassesOwn (model X.prog X.w) X.A X.env X.xe) (hc : DTp X W c tc) (hb : DSs X W body tb) : DSp' X W (.While c body [] pos) (dWhile tc tb) := PS.imp (ps_while hp hc hb) fun D σ H ⟨τ, h, N, D0, S, R, ⟨n, z⟩, U⟩ => by
  refine ⟨fun m σ' H' => ∃ τ' h' N', SRep X.K H' N' τ' σ' ∧ HRep X.K H' h' N' ∧ Ext H h N H' h' N' ∧ whileGo tc tb m D0 τ' h', ⟨n, τ, h, N, S, R, Ext.refl _ _ _, z⟩, ?_⟩
  rintro m σ' H' ⟨τ', h', N', S', R', e', q'⟩
  cases m with
  | zero => exact q'.elim
  | succ m =>
    unfold whileGo at q'
    refine ⟨τ', h', N', _, _, S', R', q', fun b h1 N1 H1 q e R1 => ?_, (U.ext e').exc S' R'.un⟩
    cases b with
    | true =>
      rw [if_pos rfl]
      refine ⟨fun σ2 H2 => ∃ τ' h' N', SRep X.K H2 N' τ' σ2 ∧ HRep X.K H2 h' N' ∧ Ext H h N H2 h' N' ∧ whileGo tc tb m D0 τ' h', fun σ2 H2 w => ⟨m, Nat.lt_succ_self _, w⟩, τ', h1, N1, _, S'.ext R'.un e, R1, q.1 rfl, ?_⟩
      have e1 := e'.trans e
      exact ⟨fun τ3 h3 N3 σ3 H3 q3 e3 S3 R3 => ⟨τ3, h3, N3, S3, R3, e1.trans e3, q3⟩, U.rt.ext e1, fun τ3 h3 N3 σ3 H3 q3 e3 S3 R3 => U.nx τ3 h3 N3 σ3 H3 q3 (e1.trans e3) S3 R3, fun τ3 h3 N3 σ3 H3 q3 e3 S3 R3 => ⟨τ3, h3, N3, S3, R3, e1.trans e3, q3⟩, (U.ext e1).ex⟩
    | false =>
      rw [if_neg Bool.false_ne_true]
      exact U.nx _ _ _ _ _ (q.2 rfl) (e'.trans e) (S'.ext R'.un e) R1

/-! ### comprehensions -/
theorem dwipe_rep {K : PySem.W.Frag} {H : Hp} {N : NS} {τ : DSt} {σ : L2.St} (S : SRep K H N τ σ) : ∀ vs : List Nat, SRep K H N (dwipe τ vs) (wipe σ vs)
  | [] => S
  | v :: vs => by
    have ih := dwipe_rep S vs
    unfold dwipe wipe
    refine ⟨by rw [List.length_set, List.length_set]; exact ih.len, fun i d q => ?_⟩
    by_cases hv : v = i
    · subst hv
      by_cases hl : v < (dwipe τ vs).length
      · rw [List.getElem?_set_self hl] at q; cases q
      · rw [List.getElem?_eq_none_iff.mpr (by rw [List.length_set]; omega)] at q; cases q
    · rw [List.getElem?_set_ne hv] at q
      obtain ⟨v', e1, r⟩ := ih.get i d q
      exact ⟨v', by rw [List.getElem?_set_ne hv]; exact e1, r⟩
theorem HRep.newH {K : PySem.W.Frag} {H : Hp} {h : DH} {N : NS} (R : HRep K H h N) {p : Addr} {o : HO} (n : H p = .none) : HRep K (upd H p o) h (fun a => N a ∨ a = p) ∧ Ext H h N (upd H p o) h (fun a => N a ∨ a = p) := by
  have e : Ext H h N (upd H p o) h (fun a => N a ∨ a = p) := fun a u q hn => by
    have hp : a ≠ p := ne_of_none q n
    exact ⟨by rw [upd_ne hp]; exact q, hn, ⟨fun z => z.elim id fun z => absurd z hp, .inl⟩⟩
  have np : ∀ a o, h a = some o → a ≠ p := fun a o q z => by subst z; rw [R.none n] at q; cases q
  exact ⟨⟨fun a o q => (R.at_ a o q).ext R.un e fun u z => by rw [upd_ne (np a o q)]; exact z, fun a o q => .inl (R.un a o q)⟩, e⟩
section
variable {K : PySem.W.Frag} {H H' : Hp} {N N' : NS}
mutual
theorem Rep.tr (f : ∀ a u, ¬ N a → Rd H a u → ¬ N' a ∧ Rd H' a u) : ∀ (d : D) (v : V), Rep K H N d v → Rep K H' N' d v
  | .non, _, r => r
  | .bl _, _, r => r
  | .int _, _, r => r
  | .str _, _, r => r
  | .tup ds, v, r => by
    simp only [Rep] at r ⊢
    obtain ⟨a, xs, e1, g, r⟩ := r
    exact ⟨a, xs, e1, g.elim (fun z => .inl (f a _ z.1 z.2)) .inr, RepL.tr f ds xs r⟩
  | .lst ds, v, r => by
    simp only [Rep] at r ⊢
    obtain ⟨a, xs, e1, g, r⟩ := r
    exact ⟨a, xs, e1, f a _ g.1 g.2, RepL.tr f ds xs r⟩
  | .scr ns, v, r => by
    simp only [Rep] at r ⊢
    obtain ⟨a, e1, g⟩ := r
    exact ⟨a, e1, g.elim (fun z => .inl (f a _ z.1 z.2)) .inr⟩
  | .dct, v, r => by
    simp only [Rep] at r ⊢
    obtain ⟨a, e1, n, r⟩ := r
    obtain ⟨n', r'⟩ := f a _ n r
    exact ⟨a, e1, n', r'⟩
  | .ref _, _, r => r
theorem RepL.tr (f : ∀ a u, ¬ N a → Rd H a u → ¬ N' a ∧ Rd H' a u) : ∀ (ds : List D) (xs : List V), RepL K H N ds xs → RepL K H' N' ds xs
  | [], _, r => r
  | d :: ds, xs, r => by
    simp only [RepL] at r ⊢
    obtain ⟨x, t, e1, r1, r2⟩ := r
    exact ⟨x, t, e1, Rep.tr f d x r1, RepL.tr f ds t r2⟩
end
end
/-- a hidden list is written -/
theorem hid_write {K : PySem.W.Frag} {H : Hp} {h : DH} {N : NS} (R : HRep K H h N) {p : Addr} {o u : HO} (hp : H p = some u) (hn : h p = none) (hN : N p) :
    HRep K (upd H p o) h N ∧ (∀ ds vs, RepL K H N ds vs → RepL K (upd H p o) N ds vs) ∧ ∀ H0 h0 N0, Ext H0 h0 N0 H h N → H0 p = none → Ext H0 h0 N0 (upd H p o) h N := by
  have rd : ∀ {a u}, ¬ N a → Rd H a u → Rd (upd H p o) a u := fun {a u} na r => by
    have ne : a ≠ p := fun e => na (by rw [e]; exact hN)
    rcases r with r | ⟨ob, r⟩
    · exact .inl (by rw [upd_ne ne]; exact r)
    · exact .inr ⟨ob, by rw [upd_ne ne]; exact r⟩
  have rl : ∀ ds vs, RepL K H N ds vs → RepL K (upd H p o) N ds vs := RepL.tr fun a u na r => ⟨na, rd na r⟩
  refine ⟨⟨fun a ob q => ?_, R.un⟩, rl, fun H0 h0 N0 e0 n0 a u q hn => ?_⟩
  · have ne : a ≠ p := fun e => by rw [e, hn] at q; cases q
    have z := R.at_ a ob q
    cases ob with
    | lst ds => obtain ⟨xs, e1, r⟩ := z; exact ⟨xs, by rw [upd_ne ne]; exact e1, rl _ _ r⟩
    | ins C fs => obtain ⟨dx, gs, e1, r⟩ := z; exact ⟨dx, gs, by rw [upd_ne ne]; exact e1, r.1, rl _ _ r.2⟩
  · have ne : a ≠ p := fun e => by rw [e, n0] at q; cases q
    obtain ⟨e1, n1, i⟩ := e0 a u q hn
    exact ⟨by rw [upd_ne ne]; exact e1, n1, i⟩
/-- the turns of a comprehension -/
theorem lc_turns {K : PySem.W.Frag} {J : It} {ds : List D} {tg : Tgt} {tt : DT} {te : DE} {vs : List Nat} {τ : DSt} {σ : L2.St} {H1 : Hp} {h1 : DH} {N1 : NS} {Q0 : List D → DH → Prop} {Q : VK} {W0 : WX} (S : SRep K H1 N1 τ σ) (R1 : HRep K H1 h1 N1) (jr : JRep K J ds H1 h1 N1)
    (hv : ∀ i ∈ slots tg, i ∈ vs) (hz : ds.length ≤ 10000000) (q : lcGo tg tt te (dwipe τ vs) ds h1 Q0)
    (fin : ∀ (Dl : Addr) ys vys h' N' H', H1 Dl = none → Q0 ys h' → H' Dl = some (.lst vys) → h' Dl = none → N' Dl → RepL K H' N' ys vys → HRep K H' h' N' → Ext H1 h1 N1 H' h' N' → Q (.ref Dl) H') :
    ∀ Dl, H1 Dl = none → ∃ Wd : Nat → Nat → Hp → Prop, (∃ m, Wd 0 m (upd H1 Dl (.lst []))) ∧ ∀ i m H, Wd i m H →
      (J.stop i H ∧ Q (.ref Dl) H) ∨ (J.go i H ∧ ∃ Nx : Hp → Prop, (∀ H', Nx H' → ∃ m', m' < m ∧ Wd (i + 1) m' H') ∧ ∀ x H', J.yld i H x H' → gT K tg x (wipe σ vs) H' fun σ2 H2 => wipe σ2 vs = wipe σ vs ∧ liftT K W0 tt σ2 H2 fun b H3 =>
        if b = true then liftE K W0 te σ2 H3 fun y H4 => ∃ acc, H4 Dl = some (.lst acc) ∧ acc.length < sizeLine ∧ Nx (upd H4 Dl (.lst (acc ++ [y]))) else Nx H3) := by
  intro Dl nD
  have Sw := dwipe_rep S vs
  refine ⟨fun i m H' => m = ds.length - i ∧ i ≤ ds.length ∧ ∃ h' N' acc vacc, H' Dl = some (.lst vacc) ∧ h' Dl = none ∧ N' Dl ∧ RepL K H' N' acc vacc ∧ HRep K H' h' N' ∧ Ext H1 h1 N1 H' h' N' ∧ acc.length ≤ i ∧
    lcGo tg tt te (dwipe τ vs) (ds.drop i) h' (fun ys h2 => Q0 (acc ++ ys) h2), ⟨ds.length, rfl, Nat.zero_le _, ?_⟩, ?_⟩
  · obtain ⟨R2, e2⟩ := R1.newH (o := .lst []) nD
    exact ⟨h1, _, [], [], upd_same, R1.none nD, .inr rfl, rfl, R2, e2, Nat.le_refl _, q⟩
  rintro i m H' ⟨rfl, hi, h', N', acc, vacc, hD, hD0, hND, ra, R', e', hl, q'⟩
  by_cases hlt : i < ds.length
  · obtain ⟨jg, jy⟩ := jr.go H' h' N' e' R' i hlt
    refine .inr ⟨jg, fun H2 => i + 1 ≤ ds.length ∧ ∃ h' N' acc vacc, H2 Dl = some (.lst vacc) ∧ h' Dl = none ∧ N' Dl ∧ RepL K H2 N' acc vacc ∧ HRep K H2 h' N' ∧ Ext H1 h1 N1 H2 h' N' ∧ acc.length ≤ i + 1 ∧
      lcGo tg tt te (dwipe τ vs) (ds.drop (i + 1)) h' (fun ys h2 => Q0 (acc ++ ys) h2), fun H2 ⟨a, b⟩ => ⟨ds.length - (i + 1), by omega, rfl, a, b⟩, fun x H2 y => ?_⟩
    obtain ⟨N2, d, ed, R2, e2, rd⟩ := jy x H2 y
    have edrop : ds.drop i = d :: ds.drop (i + 1) := by
      rw [List.drop_eq_getElem_cons hlt]
      have := List.getElem?_eq_getElem hlt
      rw [ed] at this
      rw [← Option.some.inj this]
    rw [edrop] at q'
    unfold lcGo at q'
    cases eb : bindT tg d (dwipe τ vs) with
    | none => rw [eb] at q'; exact q'.elim
    | some τ2 =>
      rw [eb] at q'
      obtain ⟨σ2, S2, w2, g⟩ := bindT_ok tg d _ τ2 x _ eb (Sw.ext R1.un (e'.trans e2)) rd
      obtain ⟨hD2, _, iD2⟩ := e2 Dl _ hD hD0
      refine g _ ⟨?_, τ2, h', N2, _, noX, S2, R2, q', fun b h3 N3 H3 q3 e3 R3 => ?_, fun _ _ _ _ _ _ z => z.elim⟩
      · rw [w2 vs hv]
        have : ∀ (us : List Nat), (∀ i ∈ us, i ∈ vs) → wipe (wipe σ us) vs = wipe σ vs := by
          intro us
          induction us with
          | nil => intro _; rfl
          | cons w us ih =>
            intro hu
            show wipe ((wipe σ us).set w none) vs = wipe σ vs
            rw [wipe_set (hu w (by simp)), ih fun i hi => hu i (by simp [hi])]
        exact this vs fun _ h => h
      · obtain ⟨hD3, hD03, iD3⟩ := e3 Dl _ hD2 hD0
        have ra3 := RepL.ext R2.un e3 _ _ (RepL.ext R'.un e2 _ _ ra)
        cases b with
        | true =>
          rw [if_pos rfl]
          refine ⟨τ2, h3, N3, _, noX, S2.ext R2.un e3, R3, q3.1 rfl, fun y h4 N4 v H4 q4 e4 R4 ry => ?_, fun _ _ _ _ _ _ z => z.elim⟩
          obtain ⟨hD4, hD04, iD4⟩ := e4 Dl _ hD3 hD03
          have ra4 := RepL.ext R3.un e4 _ _ ra3
          have hND4 : N4 Dl := iD4.mpr (iD3.mpr (iD2.mpr hND))
          have hlen : vacc.length < sizeLine := by rw [ra4.length, sizeLine_eq]; omega
          refine ⟨vacc, hD4, hlen, hlt, ?_⟩
          obtain ⟨R5, rl5, e5⟩ := hid_write (o := .lst (vacc ++ [v])) R4 hD4 hD04 hND4
          refine ⟨h4, N4, acc ++ [y], vacc ++ [v], upd_same, hD04, hND4, rl5 _ _ (ra4.append (RepL.cons ry RepL.nil)), R5, e5 _ _ _ (e'.trans (e2.trans (e3.trans e4))) nD, by rw [List.length_append, List.length_singleton]; omega, ?_⟩
          have e6 : (fun ys h2 => Q0 (acc ++ [y] ++ ys) h2) = fun ys h3 => Q0 (acc ++ (y :: ys)) h3 := by
            funext ys h2
            rw [List.append_assoc]; rfl
          rw [e6]
          exact q4
        | false =>
          rw [if_neg Bool.false_ne_true]
          exact ⟨hlt, h3, N3, acc, vacc, hD3, hD03, iD3.mpr (iD2.mpr hND), ra3, R3, e'.trans (e2.trans e3), by omega, q3.2 rfl⟩
  · have hi' : i = ds.length := by omega
    subst hi'
    rw [List.drop_length] at q'
    have q' : Q0 (acc ++ []) h' := q'
    rw [List.append_nil] at q'
    exact .inl ⟨jr.stop H' h' N' e' R', fin Dl acc vacc h' N' H' nD q' hD hD0 hND ra R' e'⟩
theorem lift_lc {K : PySem.W.Frag} {it : DI} {tg : Tgt} {tt : DT} {vs : List Nat} {σ : L2.St} {H : Hp} {Q : VK} {W0 : WX} (hv : ∀ i ∈ slots tg, i ∈ vs) (z : liftE K W (dLc it tg tt te vs) σ H Q) : tLc (liftI K W it) (gT K tg) (liftT K W0 tt) (liftE K W0 te) vs σ H Q := by
  obtain ⟨τ, h, N, Q0, X0, S, R, t, p, ex⟩ := z
  refine ⟨τ, h, N, _, X0, S, R, t, fun ds h1 N1 J H1 q e R1 jr => lc_turns (S.ext R.un e) R1 jr hv q.1 q.2 fun Dl ys vys h' N' H' nD q hD hD0 hND rs R' e' => ?_, ex⟩
  have e2 : Ext H1 h1 N1 H' h' (fun a => N' a ∧ a ≠ Dl) := fun a u qa hn => by
    obtain ⟨x1, x2, x3⟩ := e' a u qa hn
    exact ⟨x1, x2, ⟨fun z => x3.mp z.1, fun z => ⟨x3.mpr z, ne_of_none qa nD⟩⟩⟩
  have rl : ∀ ds vs, RepL K H' N' ds vs → RepL K H' (fun a => N' a ∧ a ≠ Dl) ds vs := RepL.tr fun a u na r => ⟨fun y => na y.1, r⟩
  refine p (.lst ys) h' _ _ H' q (e.trans e2) ⟨fun a o qo => ?_, fun a o qo => ⟨R'.un a o qo, fun z => by rw [z, hD0] at qo; cases qo⟩⟩ ⟨Dl, vys, rfl, ⟨fun z => z.2 rfl, .inl hD⟩, rl _ _ rs⟩
  have zo := R'.at_ a o qo
  cases o with
  | lst ds => obtain ⟨xs, e1, r⟩ := zo; exact ⟨xs, e1, rl _ _ r⟩
  | ins C fs => obtain ⟨dx, gs, e1, r⟩ := zo; exact ⟨dx, gs, e1, r.1, rl _ _ r.2⟩
theorem lift_lcM {K : PySem.W.Frag} {it : DI} {tg : Tgt} {tt : DT} {vs : List Nat} {σ : L2.St} {H : Hp} {Q : VK} {W0 : WX} (hv : ∀ i ∈ slots tg, i ∈ vs) (z : liftE K W (dLcM it tg tt te vs) σ H Q) : tLc (liftI K W it) (gT K tg) (liftT K W0 tt) (liftE K W0 te) vs σ H Q := by
  obtain ⟨τ, h, N, Q0, X0, S, R, t, p, ex⟩ := z
  refine ⟨τ, h, N, _, X0, S, R, t, fun ds h1 N1 J H1 q e R1 jr => lc_turns (S.ext R.un e) R1 jr hv q.1 q.2 fun Dl ys vys h' N' H' nD q hD hD0 hND rs R' e' => ?_, ex⟩
  have e2 : Ext H1 h1 N1 H' (dupd h' Dl (.lst ys)) N' := fun a u qa hn => by
    obtain ⟨x1, x2, x3⟩ := e' a u qa hn
    exact ⟨x1, by rw [dupd_ne (ne_of_none qa nD)]; exact x2, x3⟩
  refine p (.ref Dl) _ _ _ H' (q Dl hD0) (e.trans e2) ⟨fun a o qo => ?_, fun a o qo => ?_⟩ rfl
  · by_cases ha : a = Dl
    · subst ha; rw [dupd_same] at qo; cases qo; exact ⟨vys, hD, rs⟩
    · rw [dupd_ne ha] at qo
      have zo := R'.at_ a o qo
      cases o with
      | lst ds => exact zo
      | ins C fs => exact zo
  · by_cases ha : a = Dl
    · rw [ha]; exact hND
    · rw [dupd_ne ha] at qo; exact R'.un a o qo
section
variable {elt tge iter : Expr} {ifs : List Expr} {scope : Scope} {own : List (Str × Nat)} {it : DI} {tg : Tgt} {tt : DT} {W0 : WX}
abbrev DTs' (X : Cx) (W : WX) (e : List Expr) (t : DT) : Prop := PTs X e (liftT X.K W t)
theorem dts_nil : DTs' X W [] dYes := ⟨fun pins s σ H Q I ⟨τ, h, N, Q0, X0, S, R, z, p, ex⟩ => pts_nil.run pins s σ H Q I (p true h N H z (Ext.refl _ _ _) R)⟩
theorem dts_one {c : Expr} {t : DT} (h : DTp X W c t) : DTs' X W [c] t := pts_one h
theorem d_lc (hc : X.calm = true) (hN : X.N.Nodup) (hi : DIp X W tge iter it) (ok : BlkOk X.N X.env.scope scope own) (hv : ∀ i ∈ slots tg, i ∈ own.map (·.2))
    (hg : ∀ (s : Shared) (H : Hp) (C : Addr) (cl : List (Str × Addr)) (fp : List Addr), PG (X.blk s H scope (compEnvC scope cl C X.env) fp) tge (gT X.K tg)) (ht : ∀ (s : Shared) (H : Hp) (C : Addr) (cl : List (Str × Addr)) (fp : List Addr), DTs' (X.blk s H scope (compEnvC scope cl C X.env) fp) W0 ifs tt)
    (he : ∀ (s : Shared) (H : Hp) (C : Addr) (cl : List (Str × Addr)) (fp : List Addr), DEp (X.blk s H scope (compEnvC scope cl C X.env) fp) W0 elt te) (hs : ∀ x, foldedSetIterable iter X.env x = pure x := by intro _; rfl) :
    DEp X W (.ListComp elt [⟨tge, iter, ifs, 0⟩] scope pos) (dLc it tg tt te (own.map (·.2))) := PE.imp (pe_lc hc hN hi ok hg ht he hs) fun _ _ _ z => lift_lc hv z
theorem d_lcM (hc : X.calm = true) (hN : X.N.Nodup) (hi : DIp X W tge iter it) (ok : BlkOk X.N X.env.scope scope own) (hv : ∀ i ∈ slots tg, i ∈ own.map (·.2))
    (hg : ∀ (s : Shared) (H : Hp) (C : Addr) (cl : List (Str × Addr)) (fp : List Addr), PG (X.blk s H scope (compEnvC scope cl C X.env) fp) tge (gT X.K tg)) (ht : ∀ (s : Shared) (H : Hp) (C : Addr) (cl : List (Str × Addr)) (fp : List Addr), DTs' (X.blk s H scope (compEnvC scope cl C X.env) fp) W0 ifs tt)
    (he : ∀ (s : Shared) (H : Hp) (C : Addr) (cl : List (Str × Addr)) (fp : List Addr), DEp (X.blk s H scope (compEnvC scope cl C X.env) fp) W0 elt te) (hs : ∀ x, foldedSetIterable iter X.env x = pure x := by intro _; rfl) :
    DEp X W (.ListComp elt [⟨tge, iter, ifs, 0⟩] scope pos) (dLcM it tg tt te (own.map (·.2))) := PE.imp (pe_lc hc hN hi ok hg ht he hs) fun _ _ _ z => lift_lcM hv z
/-- y = [..] where the model stores from within -/
theorem ds_setLc {i : Nat} {y : Str} {py spos : Pos} (hc : X.calm = true) (hN : X.N.Nodup) (hi : DIp X W tge iter it) (ok : BlkOk X.N X.env.scope scope own) (hv : ∀ i ∈ slots tg, i ∈ own.map (·.2))
    (hg : ∀ (s : Shared) (H : Hp) (C : Addr) (cl : List (Str × Addr)) (fp : List Addr), PG (X.blk s H scope (compEnvC scope cl C X.env) fp) tge (gT X.K tg)) (ht : ∀ (s : Shared) (H : Hp) (C : Addr) (cl : List (Str × Addr)) (fp : List Addr), DTs' (X.blk s H scope (compEnvC scope cl C X.env) fp) W0 ifs tt)
    (he : ∀ (s : Shared) (H : Hp) (C : Addr) (cl : List (Str × Addr)) (fp : List Addr), DEp (X.blk s H scope (compEnvC scope cl C X.env) fp) W0 elt te) 
    (hsw : swapsWith (.ListComp elt [⟨tge, iter, ifs, 0⟩] scope pos) (some (.Name y py)) spos.line X.env = pure true) (hy : X.N[i]? = some y := by rfl) (hyl : X.env.scope.names.lookup y = some .local := by rfl) (hs : ∀ x, foldedSetIterable iter X.env x = pure x := by intro _; rfl) :
    DSp' X W (.Assign [.Name y py] (.ListComp elt [⟨tge, iter, ifs, 0⟩] scope pos) spos) (dAsg (dLc it tg tt te (own.map (·.2))) i) := PS.imp (ps_setLc hc hN hy hyl hsw hi ok hg ht he hs) fun D σ H q => by
  obtain ⟨τ, h, N, D0, S, R, z, U⟩ := q
  exact lift_lc (W0 := W0) hv ⟨τ, h, N, _, _, S, R, z, fun d h1 N1 v H1 q e R1 r => U.nx _ _ _ _ _ q e ((S.ext R.un e).set r) R1, U.exc S R.un⟩
theorem ds_setLcM {i : Nat} {y : Str} {py spos : Pos} (hc : X.calm = true) (hN : X.N.Nodup) (hi : DIp X W tge iter it) (ok : BlkOk X.N X.env.scope scope own) (hv : ∀ i ∈ slots tg, i ∈ own.map (·.2))
    (hg : ∀ (s : Shared) (H : Hp) (C : Addr) (cl : List (Str × Addr)) (fp : List Addr), PG (X.blk s H scope (compEnvC scope cl C X.env) fp) tge (gT X.K tg)) (ht : ∀ (s : Shared) (H : Hp) (C : Addr) (cl : List (Str × Addr)) (fp : List Addr), DTs' (X.blk s H scope (compEnvC scope cl C X.env) fp) W0 ifs tt)
    (he : ∀ (s : Shared) (H : Hp) (C : Addr) (cl : List (Str × Addr)) (fp : List Addr), DEp (X.blk s H scope (compEnvC scope cl C X.env) fp) W0 elt te) 
    (hsw : swapsWith (.ListComp elt [⟨tge, iter, ifs, 0⟩] scope pos) (some (.Name y py)) spos.line X.env = pure true) (hy : X.N[i]? = some y := by rfl) (hyl : X.env.scope.names.lookup y = some .local := by rfl) (hs : ∀ x, foldedSetIterable iter X.env x = pure x := by intro _; rfl) :
    DSp' X W (.Assign [.Name y py] (.ListComp elt [⟨tge, iter, ifs, 0⟩] scope pos) spos) (dAsg (dLcM it tg tt te (own.map (·.2))) i) := PS.imp (ps_setLc hc hN hy hyl hsw hi ok hg ht he hs) fun D σ H q => by
  obtain ⟨τ, h, N, D0, S, R, z, U⟩ := q
  exact lift_lcM (W0 := W0) hv ⟨τ, h, N, _, _, S, R, z, fun d h1 N1 v H1 q e R1 r => U.nx _ _ _ _ _ q e ((S.ext R.un e).set r) R1, U.exc S R.un⟩
end
end
end DL

/-! D9: defs and calls. -/
namespace DL
open PySem PySem.Spec L2 PyProof.Rows

/-- a def's promise where no guard is held (repr may be called) -/
structure FnG (P : Program) (w : World) (K : PySem.W.Frag) (mg : Str → Option Value) (base : Heap) (k : Nat) (f : Addr) (fd : FuncData) (ps : List Str) (sp : Sp) : Prop where
  len : ∀ vs H Q E, sp vs H Q E → vs.length = ps.length
  run : ∀ (A : Around) (outer : List Env) (s : Shared) (H : Hp) (args : Args) (us : List Value) (vs : List V) (Q : VK) (E : XK), Room k A → A.guards = some [] → Env0 P w K mg base A outer s H → BindsTo s fd args (ps.zip us) → Vals vs us → sp vs H Q E →
    codeAny (model P w) A (.call (.ref f) args) (CR (L2.CX P w) outer P w H s Q E) s
section
variable {P : Program} {w : World} {K : PySem.W.Frag} {mg : Str → Option Value} {base : Heap}
theorem FnG.of {k : Nat} {f : Addr} {fd : FuncData} {ps : List Str} {sp : Sp} (F : FnOk P w K mg base (L2.CX P w) k f fd ps sp) : FnG P w K mg base k f fd ps sp :=
  ⟨F.len, fun A outer s H args us vs Q E hr _ e0 hb r h => F.run A outer s H args us vs Q E hr e0 hb r h⟩
theorem FnG.mono {j k : Nat} {f : Addr} {fd : FuncData} {ps : List Str} {sp : Sp} (F : FnG P w K mg base j f fd ps sp) (h : j ≤ k) : FnG P w K mg base k f fd ps sp :=
  ⟨F.len, fun A outer s H args us vs Q E hr => F.run A outer s H args us vs Q E (hr.mono h)⟩
theorem fnG_of {k : Nat} {f : Addr} {name qual : Str} {params : Arguments} {body : List Stmt} {scope : Scope} {dV kV doc pm cdv ct oc : Value} {an od : Option Addr}
    {osl : Array (Option Value)} {N ps : List Str} {sp : Sp} (lk : K.lookup f = some ⟨oc, od, .func (PySem.W.fnOf name qual params body scope dV kV doc pm an cdv ct), osl⟩) (hcd : PySem.W.codeIn K cdv qual = true) (S : FnScope N ps scope)
    (len : ∀ vs H Q E, sp vs H Q E → vs.length = ps.length)
    (hbody : ∀ (A : Around) (outer : List Env) (s : Shared) (H : Hp) (vs : List V) (Q : VK) (E : XK), Room k (A.deeper (envOfC qual scope s.heap.objs.size f cdv)) → A.guards = some [] → sp vs H Q E →
      ∃ t, PSs (cxOf (L2.CX P w) P w K mg base N qual scope f cdv A outer s H E) body t ∧ t { nx := fun _ H' => Q .non H', rt := Q } (L2.start N vs) H) :
    FnG P w K mg base (k + 1) f (PySem.W.fnOf name qual params body scope dV kV doc pm an cdv ct) ps sp := by
  refine ⟨len, fun A outer s H args us vs Q E hr hgd e0 hb r hsp => ?_⟩
  have hl := len _ _ _ _ hsp
  have KX : K.In s.heap := e0.mod.kin.keeps fun b o e => (e0.bs b o e).1
  have lim : s.heap.NoLimit := e0.mod.nolimit.keeps fun b o e => (e0.bs b o e).1
  have hkind : ∀ y ∈ ps.zip us, scope.names.lookup y.1 = some .local ∨ (scope.names.lookup y.1 = some .cell ∧ ((cellsFrom (s.heap.objs.size + 1) scope.names []).lookup y.1).isSome = true) := fun ⟨n, v⟩ hy => by
    rcases S.par n (List.of_mem_zip hy).1 with q | q
    · exact .inl q
    · exact .inr ⟨q, PySem.W.cellsFrom_some _ _ _ (.inl q)⟩
  refine codeAny_call_function hr.depth (KX _ _ lk) rfl S.co S.gen rfl (PySem.W.codeRec_of KX hcd) (hb _ _ _ _ ?_)
  refine wpAny_newFunctionEnv_cells S.kind hkind fun env he s1 x => ?_
  subst he
  refine ⟨lim.keeps x.toInCall.keep, codeAny_func ?_⟩
  obtain ⟨t, ht, hq⟩ := hbody A outer s H vs Q E (hr.deeper _) hgd hsp
  have I : Inv (cxOf (L2.CX P w) P w K mg base N qual scope f cdv A outer s H E) [] (L2.start N vs) H s1 := inv_start S hr.hd e0 hl r x
  refine wpAny_mono (ht.run [] s1 (L2.start N vs) H _ I hq) (fun fl s' hs => ?_) fun e s' hs => hs
  have fin : ∀ {σ' : L2.St} {H' : Hp} {v : V} {u : Value}, Inv (cxOf (L2.CX P w) P w K mg base N qual scope f cdv A outer s H E) [] σ' H' s' → RelV v u → Q v H' → CE outer P w H s Q u s' :=
    fun {σ' H' v u} J rv q => ⟨v, H', J.os, J.bare, J.base, J.hok, rv, q⟩
  cases fl with
  | ret u =>
    obtain ⟨v, σ', H', J, rv, q⟩ := hs
    exact fin J rv q
  | next =>
    obtain ⟨σ', H', J, q⟩ := hs
    exact fin (v := V.non) (u := Value.none) J rfl q
  | brk =>
    obtain ⟨_, _, _, q⟩ := hs
    exact False.elim q
  | cont =>
    obtain ⟨_, _, _, q⟩ := hs
    exact False.elim q

/-! ### a def over data -/
/-- the context of a def's body -/
abbrev cxD (P : Program) (w : World) (K : PySem.W.Frag) (mg : Str → Option Value) (base : Heap) (N : List Str) (qual : Str) (scope : Scope) (f : Addr) (cd : Value) (A : Around) (outer : List Env) (s : Shared) (H : Hp) (E : XK) : Cx :=
  cxOf (L2.CX P w) P w K mg base N qual scope f cd A outer s H E
abbrev wE (E : XK) : WX := fun c d _ H => E c d H
def dstart (N : List Str) (ds : List D) : DSt := ds.map some ++ List.replicate (N.length - ds.length) none
/-- what is wanted of a def's body -/
def dEnd (Q : DK) (X : DX) : DEnds where
  nx := fun _ h' => ∃ h2, DSub h2 h' ∧ Q .non h2
  rt := fun d h' => ∃ h2, DSub h2 h' ∧ Q d h2
  ex := fun C fs _ h' => ∃ h2, DSub h2 h' ∧ X C fs h2
theorem start_rep {H : Hp} {N : NS} {Ns : List Str} : ∀ {ds : List D} {vs : List V}, RepL K H N ds vs → SRep K H N (dstart Ns ds) (L2.start Ns vs) := by
  intro ds vs r
  have hl := r.length
  unfold dstart L2.start
  rw [hl]
  refine ⟨by simp [hl], fun i d q => ?_⟩
  by_cases hi : i < ds.length
  · rw [List.getElem?_append_left (by simpa using hi), List.getElem?_map] at q
    cases e : ds[i]? with
    | none => rw [e] at q; cases q
    | some d' =>
      rw [e] at q
      cases q
      obtain ⟨v, ev, rv⟩ := r.getD e
      exact ⟨v, by rw [List.getElem?_append_left (by simpa [hl] using hi), List.getElem?_map, ev]; rfl, rv⟩
  · rw [List.getElem?_append_right (by simpa using hi), List.getElem?_replicate] at q
    split at q <;> cases q
theorem body_end {E : XK} {Q : VK} {H : Hp} {h : DH} {N : NS} {Q0 : DK} {X0 : DX} (p : Post K H h N Q0 Q) (ex : EXc K (fun c d _ H => E c d H) [] H h N X0) :
    Under K (wE E) H h N (dEnd Q0 X0) { nx := fun _ H' => Q .non H', rt := Q } :=
  ⟨fun τ' h' N' σ' H' ⟨h2, s2, q⟩ e S R => p .non h2 N' .non H' q (e.sub s2) (R.sub s2) rfl,
    fun d h' N' v H' ⟨h2, s2, q⟩ e R r => p d h2 N' v H' q (e.sub s2) (R.sub s2) r, fun _ _ _ _ _ q => q.elim, fun _ _ _ _ _ q => q.elim,
    fun C fs τ' h' N' σ' H' d ⟨h2, s2, q⟩ e S R r => ex C fs h2 N' H' d q (e.sub s2) (R.sub s2) r⟩
theorem liftSp_len {sp : DSp} {n : Nat} (len : ∀ ds h Q X, sp ds h Q X → ds.length = n) : ∀ vs H Q E, liftSp K sp vs H Q E → vs.length = n := fun vs H Q E ⟨ds, h, N, Q0, X0, r, _, q, _⟩ => by
  rw [r.length]; exact len ds h Q0 X0 q
/-- THE RULE for a def -/
theorem dok {x qual : Str} {st : Stmt} {f : Addr} {fd : FuncData} {N ps : List Str} {k : Nat} {sp : DSp} {t : DS} (F : Fun K x qual st f fd) (S : FnScope N ps (defScope st)) (len : ∀ ds h Q X, sp ds h Q X → ds.length = ps.length)
    (body : ∀ (cdv : Value) (A : Around) (outer : List Env) (s : Shared) (H : Hp) (E : XK), Room k (A.deeper (envOfC qual (defScope st) s.heap.objs.size f cdv)) → DSs (cxD P w K mg base N qual (defScope st) f cdv A outer s H E) (wE E) (defBody st) t)
    (rd : ∀ ds h Q X, sp ds h Q X → t (dEnd Q X) (dstart N ds) h) : FnOk P w K mg base (L2.CX P w) (k + 1) f fd ps (liftSp K sp) :=
  F.okX S (liftSp_len len) fun cdv A outer s H vs Q E hr ⟨ds, h, N', Q0, X0, r, R, q, p, ex⟩ =>
    ⟨_, body cdv A outer s H E hr, _, h, N', _, start_rep r, R, rd ds h Q0 X0 q, body_end p ex⟩
theorem dokG {x qual : Str} {st : Stmt} {f : Addr} {fd : FuncData} {N ps : List Str} {k : Nat} {sp : DSp} {t : DS} (F : Fun K x qual st f fd) (S : FnScope N ps (defScope st)) (len : ∀ ds h Q X, sp ds h Q X → ds.length = ps.length)
    (body : ∀ (cdv : Value) (A : Around) (outer : List Env) (s : Shared) (H : Hp) (E : XK), Room k (A.deeper (envOfC qual (defScope st) s.heap.objs.size f cdv)) → A.guards = some [] → DSs (cxD P w K mg base N qual (defScope st) f cdv A outer s H E) (wE E) (defBody st) t)
    (rd : ∀ ds h Q X, sp ds h Q X → t (dEnd Q X) (dstart N ds) h) : FnG P w K mg base (k + 1) f fd ps (liftSp K sp) := by
  obtain ⟨oc, od, kV, doc, pm, an, cdv, ct, osl, rfl, lk, hcd⟩ := F.ex
  exact fnG_of lk hcd S (liftSp_len len) fun A outer s H vs Q E hr hgd ⟨ds, h, N', Q0, X0, r, R, q, p, ex⟩ =>
    ⟨_, body cdv A outer s H E hr hgd, _, h, N', _, start_rep r, R, rd ds h Q0 X0 q, body_end p ex⟩
end

/-! ### how arguments bind -/
def pick {α : Type} (perm : List Nat) (l : List α) : List α := perm.filterMap fun i => l[i]?
structure Bd (K : PySem.W.Frag) (fd : FuncData) (ps : List Str) (n : Nat) (ks : List Str) (perm : List Nat) : Prop where
  to : ∀ (s : Shared) (us ws : List Value), K.In s.heap → us.length = n → ws.length = ks.length → BindsTo s fd ⟨us, ks.zip ws⟩ (ps.zip (pick perm (us ++ ws)))
theorem Bd.all {K : PySem.W.Frag} {x qual : Str} {st : Stmt} {f : Addr} {fd : FuncData} {ps ks : List Str} {n : Nat} {perm : List Nat} (F : Fun K x qual st f fd)
    (h : ∀ (kV doc pm : Value) (an : Option Addr) (cdv ct : Value) (us ws : List Value), us.length = n → ws.length = ks.length → bindArgs (PySem.W.fnOf x qual (defArgs st) (defBody st) (defScope st) .none kV doc pm an cdv ct) ⟨us, ks.zip ws⟩ = pure (ps.zip (pick perm (us ++ ws)))) : Bd K fd ps n ks perm := by
  obtain ⟨oc, od, kV, doc, pm, an, cdv, ct, osl, rfl, lk, hcd⟩ := F.ex
  exact ⟨fun s us ws _ h1 h2 => .of_eq (h kV doc pm an cdv ct us ws h1 h2)⟩
theorem Vals.pick {vs : List V} {us : List Value} (r : Vals vs us) : ∀ perm : List Nat, Vals (pick perm vs) (pick perm us)
  | [] => .nil
  | i :: perm => by
    have ih := Vals.pick r perm
    unfold DL.pick at ih ⊢
    rw [List.filterMap_cons, List.filterMap_cons]
    cases e : vs[i]? with
    | none =>
      rw [Vals.none_of r e]
      exact ih
    | some v =>
      obtain ⟨u, eu, ru⟩ := r.get e
      rw [eu]
      exact .cons ru ih
theorem RepL.pick {K : PySem.W.Frag} {H : Hp} {N : NS} {ds : List D} {vs : List V} (r : RepL K H N ds vs) : ∀ perm : List Nat, RepL K H N (pick perm ds) (pick perm vs)
  | [] => rfl
  | i :: perm => by
    have ih := RepL.pick r perm
    unfold DL.pick at ih ⊢
    rw [List.filterMap_cons, List.filterMap_cons]
    cases e : ds[i]? with
    | none =>
      have : vs[i]? = none := by
        rw [List.getElem?_eq_none_iff] at e ⊢
        rw [r.length]; exact e
      rw [this]
      exact ih
    | some d =>
      obtain ⟨v, ev, rv⟩ := r.getD e
      rw [ev]
      exact RepL.cons rv ih

/-! ### calls -/
/-- keywords -/
def dKNil : DA := dNil
def dCall (sp : DSp) (t : DA) : DE := fun τ h Q X => t τ h (fun ds h1 => sp ds h1 Q X) X
def dCallK (sp : DSp) (n m : Nat) (perm : List Nat) (t tk : DA) : DE := fun τ h Q X => t τ h (fun ds h1 => tk τ h1 (fun es h2 => ds.length = n ∧ es.length = m ∧ sp (pick perm (ds ++ es)) h2 Q X) X) X
section
variable {X : Cx} {W : WX} {k : Nat} {f C : Addr} {fd : FuncData} {ps : List Str} {sp : DSp} {x m : Str} {p pos apos kpos : Pos} {e o : Expr} {es : List Expr} {kws : List Keyword} {ta te to : DE} {t tk : DA} {nm : Option Str} {n : Nat} {ks : List Str} {perm : List Nat}
abbrev DKp (X : Cx) (W : WX) (kws : List Keyword) (t : DA) : Prop := PK X kws (liftA X.K W t)
theorem PK.imp {X : Cx} {e : List Keyword} {t t' : TA} (p : PK X e t) (i : ∀ σ H Q, t' σ H Q → t σ H Q) : PK X e t' := ⟨fun pos pins s σ H Q I h => p.run pos pins s σ H Q I (i σ H Q h)⟩
theorem dk_nil : DKp X W [] dNil := PK.imp pk_nil fun σ H Q ⟨τ, h, N, Q0, X0, S, R, z, p, ex⟩ => p [] h N [] H z (Ext.refl _ _ _) R rfl
theorem dk_cons (ha : DEp X W e ta) (hr : DKp X W kws t) : DKp X W (⟨nm, e, kpos⟩ :: kws) (dCons ta t) := PK.imp (pk_cons ha hr) fun σ H Q ⟨τ, h, N, Q0, X0, S, R, z, p, ex⟩ =>
  ⟨τ, h, N, _, X0, S, R, z, fun x h1 N1 v H1 q e R1 rx => ⟨τ, h1, N1, _, X0, S.ext R.un e, R1, q, fun xs h2 N2 vs H2 q2 e2 R2 rs => p (x :: xs) h2 N2 (v :: vs) H2 q2 (e.trans e2) R2 (.cons (Rep.ext R1.un e2 _ _ rx) rs), ex.ext e⟩, ex⟩
/-- the callee runs -/
theorem run_G {pins : List (Addr × Obj)} {σ : L2.St} {H : Hp} {s : Shared} {Q : VK} {us ws : List Value} {vs zs : List V} {spv : Sp} (F : FnG X.prog X.w X.K X.mg X.base k f fd ps spv) (hr : Room k X.A) (hgd : X.A.guards = some []) (hb : Bd X.K fd ps n ks perm) (tk : Takes X W)
    (I : Inv X pins σ H s) (r : Vals vs us) (rz : Vals zs ws) (l1 : vs.length = n) (l2 : zs.length = ks.length) (h : spv (pick perm (vs ++ zs)) H Q (WE W σ)) : wpAny (model X.prog X.w) X.A (call (.ref f) us (ks.zip ws)) (EP X pins σ Q) X.xe s := by
  have r2 : Vals (pick perm (vs ++ zs)) (pick perm (us ++ ws)) := Vals.pick (r.append rz) perm
  refine wpAny_call (codeAny_mono (F.run X.A X.stack s H ⟨us, ks.zip ws⟩ _ _ Q (WE W σ) hr hgd I.env0 (hb.to s us ws I.kIn (r.length.symm.trans l1) (rz.length.symm.trans l2)) r2 h) fun r s' hq => ?_)
  cases r with
  | error e => exact passAt tk σ pins H s e s' I hq
  | ok fl =>
    cases fl with
    | ret u => exact I.after hq
    | next => exact False.elim hq
    | brk => exact False.elim hq
    | cont => exact False.elim hq
/-- .. without keywords, whatever the slots: all parameters given -/
theorem run_GB {pins : List (Addr × Obj)} {σ : L2.St} {H : Hp} {s : Shared} {Q : VK} {us : List Value} {vs : List V} {spv : Sp} (F : FnG X.prog X.w X.K X.mg X.base k f fd ps spv) (hr : Room k X.A) (hgd : X.A.guards = some []) (hb : Binds X.K fd ps []) (tk : Takes X W)
    (I : Inv X pins σ H s) (r : Vals vs us) (h : spv vs H Q (WE W σ)) : wpAny (model X.prog X.w) X.A (call (.ref f) us) (EP X pins σ Q) X.xe s := by
  have hl : us.length = ps.length := by rw [← r.length]; exact F.len _ _ _ _ h
  have b := hb s us I.kIn (by rw [List.append_nil]; exact hl)
  rw [List.append_nil] at b
  refine wpAny_call (codeAny_mono (F.run X.A X.stack s H ⟨us, []⟩ us vs Q (WE W σ) hr hgd I.env0 b r h) fun r s' hq => ?_)
  cases r with
  | error e => exact passAt tk σ pins H s e s' I hq
  | ok fl =>
    cases fl with
    | ret u => exact I.after hq
    | next => exact False.elim hq
    | brk => exact False.elim hq
    | cont => exact False.elim hq
theorem lift_call {K : PySem.W.Frag} {σ : L2.St} {H : Hp} {Q : VK} (z : liftE K W (dCall sp t) σ H Q) : liftA K W t σ H fun vs H1 => liftSp K sp vs H1 Q (WE W σ) := by
  obtain ⟨τ, h, N, Q0, X0, S, R, z, p, ex⟩ := z
  exact ⟨τ, h, N, _, X0, S, R, z, fun ds h1 N1 vs H1 q e R1 rs => ⟨ds, h1, N1, Q0, X0, rs, R1, q, p.ext e, ex.ext e⟩, ex⟩
theorem d_call (F : FnG X.prog X.w X.K X.mg X.base k f fd ps (liftSp X.K sp)) (hr : Room k X.A) (hgd : X.A.guards = some []) (hm : X.mg x = some (.ref f)) (hk : PySem.W.keepIn X.K (.ref f) = true) (hb : Binds X.K fd ps []) (tk : Takes X W)
    (ha : DAp X W (e :: es) t) (hg : Gl X x := by rfl) (hdb : (x == ("__debug__" : Str)) = false := by decide) (he : starEach (e :: es) X.env = (false, eval e X.env) :: starEach es X.env := by rfl) (hpl : (backTo pos (starEach es X.env)).any (·.1) = false := by rfl) :
    DEp X W (.Call (.Name x p) (e :: es) [] pos) (dCall sp t) := by
  refine ⟨fun pins s σ H Q I h => ?_⟩
  refine wpAny_Call_Name_kw (ld_glob I hg hm ?_ hdb)
  refine PySem.W.callWith_K (h₀ := X.base) I.ok.mod.kin hk (thn (ha.run pos pins s σ H _ I (lift_call h)) fun us s1 ⟨vs, H1, I1, r, q⟩ => ⟨I1.kIn, ?_⟩) he hpl
  exact run_GB F hr hgd hb tk I1 r q
theorem lift_callK {K : PySem.W.Frag} {σ : L2.St} {H : Hp} {Q : VK} {n m : Nat} (z : liftE K W (dCallK sp n m perm t tk) σ H Q) : liftA K W t σ H fun vs H1 => liftA K W tk σ H1 fun zs H2 => vs.length = n ∧ zs.length = m ∧ liftSp K sp (pick perm (vs ++ zs)) H2 Q (WE W σ) := by
  obtain ⟨τ, h, N, Q0, X0, S, R, z, p, ex⟩ := z
  refine ⟨τ, h, N, _, X0, S, R, z, fun ds h1 N1 vs H1 q e R1 rs => ⟨τ, h1, N1, _, X0, S.ext R.un e, R1, q, fun es h2 N2 zs H2 q2 e2 R2 rs2 => ?_, ex.ext e⟩, ex⟩
  have rs' := RepL.ext R1.un e2 _ _ rs
  exact ⟨rs.length.trans q2.1, rs2.length.trans q2.2.1, _, h2, N2, Q0, X0, (rs'.append rs2).pick perm, R2, q2.2.2, p.ext (e.trans e2), ex.ext (e.trans e2)⟩
/-- f(k = v, ..) -/
theorem d_callK0 (F : FnG X.prog X.w X.K X.mg X.base k f fd ps (liftSp X.K sp)) (hr : Room k X.A) (hgd : X.A.guards = some []) (hm : X.mg x = some (.ref f)) (hk : PySem.W.keepIn X.K (.ref f) = true) (hb : Bd X.K fd ps 0 ks perm) (tk' : Takes X W)
    (hkw : DKp X W kws tk) (hg : Gl X x := by rfl) (hall : (backToKw pos (keywordEach kws X.env)).all (·.1.isSome) = true := by rfl) (hks : (backToKw pos (keywordEach kws X.env)).filterMap (·.1) = ks := by rfl) (hdb : (x == ("__debug__" : Str)) = false := by decide)
    (hpl : ((backTo pos (starEach [] X.env)).any (·.1) || (backToKw pos (keywordEach kws X.env)).any (·.1.isNone)) = false := by rfl) :
    DEp X W (.Call (.Name x p) [] kws pos) (dCallK sp 0 ks.length perm dNil tk) := by
  refine ⟨fun pins s σ H Q I h => ?_⟩
  refine wpAny_Call_Name_kw (ld_glob I hg hm ?_ hdb)
  refine PySem.W.callWith_KW0 (h₀ := X.base) I.ok.mod.kin hk hall ?_ hpl
  obtain ⟨vs, H1, I1, r1, q1⟩ : ∃ vs H1, Inv X pins σ H1 s ∧ vs = [] ∧ liftA X.K W tk σ H1 fun zs H2 => vs.length = 0 ∧ zs.length = ks.length ∧ liftSp X.K sp (pick perm (vs ++ zs)) H2 Q (WE W σ) := by
    obtain ⟨τ, h', N, Q0, X0, S, R, z, p, ex⟩ := lift_callK h
    exact ⟨[], H, I, rfl, p [] h' N [] H z (Ext.refl _ _ _) R rfl⟩
  subst r1
  refine thn (hkw.run pos pins s σ H1 _ I1 q1) fun ws s2 ⟨zs, H2, I2, rz, l1, l2, q2⟩ => ⟨I2.kIn, ?_⟩
  rw [hks]
  exact run_G (us := []) (vs := []) F hr hgd hb tk' I2 .nil rz rfl l2 q2
theorem d_callKn (F : FnG X.prog X.w X.K X.mg X.base k f fd ps (liftSp X.K sp)) (hr : Room k X.A) (hgd : X.A.guards = some []) (hm : X.mg x = some (.ref f)) (hk : PySem.W.keepIn X.K (.ref f) = true) (hb : Bd X.K fd ps n ks perm) (tk' : Takes X W)
    (ha : DAp X W (e :: es) t) (hkw : DKp X W kws tk) (hg : Gl X x := by rfl) (hall : (backToKw pos (keywordEach kws X.env)).all (·.1.isSome) = true := by rfl) (hks : (backToKw pos (keywordEach kws X.env)).filterMap (·.1) = ks := by rfl) (hdb : (x == ("__debug__" : Str)) = false := by decide)
    (he : starEach (e :: es) X.env = (false, eval e X.env) :: starEach es X.env := by rfl) (hpl : ((backTo pos (starEach (e :: es) X.env)).any (·.1) || (backToKw pos (keywordEach kws X.env)).any (·.1.isNone)) = false := by rfl) :
    DEp X W (.Call (.Name x p) (e :: es) kws pos) (dCallK sp n ks.length perm t tk) := by
  refine ⟨fun pins s σ H Q I h => ?_⟩
  refine wpAny_Call_Name_kw (ld_glob I hg hm ?_ hdb)
  refine PySem.W.callWith_KW (h₀ := X.base) I.ok.mod.kin hk hall (thn (ha.run pos pins s σ H _ I (lift_callK h)) fun us s1 ⟨vs, H1, I1, r, q⟩ => ?_) hpl he
  refine thn (hkw.run pos pins s1 σ H1 _ I1 q) fun ws s2 ⟨zs, H2, I2, rz, l1, l2, q2⟩ => ⟨I2.kIn, ?_⟩
  rw [hks]
  exact run_G F hr hgd hb tk' I2 r rz l1 l2 q2
end
end DL

/-! D10: targets, raise, small things. -/
namespace DL
open PySem PySem.Spec L2 PyProof.Rows

theorem bt_len : bootBuiltins "len" = some (.builtin "len") := by decide +kernel
theorem bt_all : bootBuiltins "all" = some (.builtin "all") := by decide +kernel
theorem bt_any : bootBuiltins "any" = some (.builtin "any") := by decide +kernel
theorem bt_sum : bootBuiltins "sum" = some (.builtin "sum") := by decide +kernel
theorem bt_max : bootBuiltins "max" = some (.builtin "max") := by decide +kernel
theorem bt_min : bootBuiltins "min" = some (.builtin "min") := by decide +kernel
theorem bt_abs : bootBuiltins "abs" = some (.builtin "abs") := by decide +kernel
theorem bt_repr : bootBuiltins "repr" = some (.builtin "repr") := by decide +kernel
theorem bt_sorted : bootBuiltins "sorted" = some (.builtin "sorted") := by decide +kernel
theorem bt_isinstance : bootBuiltins "isinstance" = some (.builtin "isinstance") := by decide +kernel
theorem bt_tuple : bootBuiltins "tuple" = some (.type "tuple") := by decide +kernel
theorem bt_list : bootBuiltins "list" = some (.type "list") := by decide +kernel
theorem bt_int : bootBuiltins "int" = some (.type "int") := by decide +kernel
theorem bt_str : bootBuiltins "str" = some (.type "str") := by decide +kernel
theorem bt_bool : bootBuiltins "bool" = some (.type "bool") := by decide +kernel
theorem bt_dict : bootBuiltins "dict" = some (.type "dict") := by decide +kernel
theorem bt_range : bootBuiltins "range" = some (.type "range") := by decide +kernel

section
variable {X : Cx} {W : WX} {e : Expr} {es : List Expr} {pos : Pos} {t : Tgt} {ts : List Tgt} {te : DE}
theorem pgn {i : Nat} (h : PG X e (gName i)) : PG X e (gT X.K (.nm i)) := by simp only [gT]; exact h
theorem pgs0 : PGs X [] (gTs X.K []) := by simp only [gTs]; exact pgs_nil
theorem pgs1 (h : PG X e (gT X.K t)) (r : PGs X es (gTs X.K ts)) (hs : (assignEach (e :: es) X.env).map (·.2) = assign e X.env :: (assignEach es X.env).map (·.2) := by rfl) : PGs X (e :: es) (gTs X.K (t :: ts)) := by
  simp only [gTs]; exact pgs_cons h r hs
theorem pgt {k : Nat} (hc : X.calm = true) (h : PGs X es (gTs X.K ts)) (hn : (assignEach es X.env).length = ts.length := by rfl) (hst : (assignEach es X.env).findIdx? (·.1) = none := by rfl) : PG X (.Tuple es k pos) (gT X.K (.tp ts)) := by
  simp only [gT]; exact pg_tup hc h hn hst
/-- a name stored -/
theorem pgi (i : Nat) {x : Str} (nd : X.N.Nodup) (hi : X.N[i]? = some x := by rfl) (hx : Loc X.env.scope x := by first | exact .inl rfl | exact .inr rfl) (hf : X.fn x = true ∨ X.env.scope.names.lookup x = some .local := by first | exact .inl rfl | exact .inr rfl) : PG X (.Name x pos) (gT X.K (.nm i)) :=
  pgn (pg_name nd hi hx hf)
def dNeg (t : DE) : DE := fun τ h Q X => t τ h (fun x h1 => match x with | .int i => Q (.int (-i)) h1 | _ => False) X
theorem d_neg (he : DEp X W e te) : DEp X W (.UnaryOp .USub e pos) (dNeg te) := PE.imp (pe_un un_neg he) fun σ H Q ⟨τ, h, N, Q0, X0, S, R, z, p, ex⟩ => by
  refine ⟨τ, h, N, _, X0, S, R, z, fun x h1 N1 v H1 q e R1 rx => ?_, ex⟩
  cases x <;> first | exact (show False from q).elim | skip
  rename_i i
  cases rep_int rx
  exact ⟨i, rfl, p _ _ _ _ _ q e R1 rfl⟩
/-- code that is never come to -/
def dNever : DS := fun _ _ _ => False
theorem ds_never {st : Stmt} : DSp' X W st dNever := PS.imp ps_never fun _ _ _ ⟨_, _, _, _, _, _, z, _⟩ => z
theorem dss_never {st : List Stmt} : DSs X W st dNever := PSs.imp pss_never fun _ _ _ ⟨_, _, _, _, _, _, z, _⟩ => z
def dRaise (C : Addr) : DS := fun D τ h => D.ex C [] τ h
theorem ds_raise {C : Addr} (hc : X.calm = true) (tk : Takes X W) (he : PMk X e (fun _ H Q => Q (.ref C) none H)) : DSp' X W (.Raise (some e) none pos) (dRaise C) := PS.imp (ps_raise hc tk he) fun D σ H ⟨τ, h, N, D0, S, R, z, U⟩ =>
  U.ex C [] τ h N σ H none z (Ext.refl _ _ _) S R rfl
theorem d_list1 (h : DEp X W e te) : DEp X W e te := h
end
theorem hu65 {k : Nat} {A : Around} (hr : Room k A) : A.units + 65 < cLine := by have := hr.un; omega
end DL

/-! D11: how readings are read. -/
namespace DL
open PySem L2

section
variable {d : D} {τ : DSt} {h : DH} {Q : DK} {X : DX} {a0 a1 a2 a3 a4 a5 a6 a7 a8 a9 b0 b1 b2 b3 b4 b5 : Option D}
theorem v0 : dVar 0 (some d :: τ) h Q X = Q d h := id rfl
theorem v1 : dVar 1 (a0 :: some d :: τ) h Q X = Q d h := id rfl
theorem v2 : dVar 2 (a0 :: a1 :: some d :: τ) h Q X = Q d h := id rfl
theorem v3 : dVar 3 (a0 :: a1 :: a2 :: some d :: τ) h Q X = Q d h := id rfl
theorem v4 : dVar 4 (a0 :: a1 :: a2 :: a3 :: some d :: τ) h Q X = Q d h := id rfl
theorem v5 : dVar 5 (a0 :: a1 :: a2 :: a3 :: a4 :: some d :: τ) h Q X = Q d h := id rfl
theorem v6 : dVar 6 (a0 :: a1 :: a2 :: a3 :: a4 :: a5 :: some d :: τ) h Q X = Q d h := id rfl
theorem v7 : dVar 7 (a0 :: a1 :: a2 :: a3 :: a4 :: a5 :: a6 :: some d :: τ) h Q X = Q d h := id rfl
theorem v8 : dVar 8 (a0 :: a1 :: a2 :: a3 :: a4 :: a5 :: a6 :: a7 :: some d :: τ) h Q X = Q d h := id rfl
theorem v9 : dVar 9 (a0 :: a1 :: a2 :: a3 :: a4 :: a5 :: a6 :: a7 :: a8 :: some d :: τ) h Q X = Q d h := id rfl
theorem v10 : dVar 10 (a0 :: a1 :: a2 :: a3 :: a4 :: a5 :: a6 :: a7 :: a8 :: a9 :: some d :: τ) h Q X = Q d h := id rfl
theorem v11 : dVar 11 (a0 :: a1 :: a2 :: a3 :: a4 :: a5 :: a6 :: a7 :: a8 :: a9 :: b0 :: some d :: τ) h Q X = Q d h := id rfl
theorem v12 : dVar 12 (a0 :: a1 :: a2 :: a3 :: a4 :: a5 :: a6 :: a7 :: a8 :: a9 :: b0 :: b1 :: some d :: τ) h Q X = Q d h := id rfl
theorem v13 : dVar 13 (a0 :: a1 :: a2 :: a3 :: a4 :: a5 :: a6 :: a7 :: a8 :: a9 :: b0 :: b1 :: b2 :: some d :: τ) h Q X = Q d h := id rfl
theorem v14 : dVar 14 (a0 :: a1 :: a2 :: a3 :: a4 :: a5 :: a6 :: a7 :: a8 :: a9 :: b0 :: b1 :: b2 :: b3 :: some d :: τ) h Q X = Q d h := id rfl
theorem v15 : dVar 15 (a0 :: a1 :: a2 :: a3 :: a4 :: a5 :: a6 :: a7 :: a8 :: a9 :: b0 :: b1 :: b2 :: b3 :: b4 :: some d :: τ) h Q X = Q d h := id rfl
theorem v16 : dVar 16 (a0 :: a1 :: a2 :: a3 :: a4 :: a5 :: a6 :: a7 :: a8 :: a9 :: b0 :: b1 :: b2 :: b3 :: b4 :: b5 :: some d :: τ) h Q X = Q d h := id rfl
end
section
variable {x : Option D} {τ : DSt} {a0 a1 a2 a3 a4 a5 a6 a7 a8 a9 b0 b1 b2 b3 b4 b5 b6 : Option D}
theorem w0 : List.set (a0 :: τ) 0 x = x :: τ := id rfl
theorem w1 : List.set (a0 :: a1 :: τ) 1 x = a0 :: x :: τ := id rfl
theorem w2 : List.set (a0 :: a1 :: a2 :: τ) 2 x = a0 :: a1 :: x :: τ := id rfl
theorem w3 : List.set (a0 :: a1 :: a2 :: a3 :: τ) 3 x = a0 :: a1 :: a2 :: x :: τ := id rfl
theorem w4 : List.set (a0 :: a1 :: a2 :: a3 :: a4 :: τ) 4 x = a0 :: a1 :: a2 :: a3 :: x :: τ := id rfl
theorem w5 : List.set (a0 :: a1 :: a2 :: a3 :: a4 :: a5 :: τ) 5 x = a0 :: a1 :: a2 :: a3 :: a4 :: x :: τ := id rfl
theorem w6 : List.set (a0 :: a1 :: a2 :: a3 :: a4 :: a5 :: a6 :: τ) 6 x = a0 :: a1 :: a2 :: a3 :: a4 :: a5 :: x :: τ := id rfl
theorem w7 : List.set (a0 :: a1 :: a2 :: a3 :: a4 :: a5 :: a6 :: a7 :: τ) 7 x = a0 :: a1 :: a2 :: a3 :: a4 :: a5 :: a6 :: x :: τ := id rfl
theorem w8 : List.set (a0 :: a1 :: a2 :: a3 :: a4 :: a5 :: a6 :: a7 :: a8 :: τ) 8 x = a0 :: a1 :: a2 :: a3 :: a4 :: a5 :: a6 :: a7 :: x :: τ := id rfl
theorem w9 : List.set (a0 :: a1 :: a2 :: a3 :: a4 :: a5 :: a6 :: a7 :: a8 :: a9 :: τ) 9 x = a0 :: a1 :: a2 :: a3 :: a4 :: a5 :: a6 :: a7 :: a8 :: x :: τ := id rfl
theorem w10 : List.set (a0 :: a1 :: a2 :: a3 :: a4 :: a5 :: a6 :: a7 :: a8 :: a9 :: b0 :: τ) 10 x = a0 :: a1 :: a2 :: a3 :: a4 :: a5 :: a6 :: a7 :: a8 :: a9 :: x :: τ := id rfl
theorem w11 : List.set (a0 :: a1 :: a2 :: a3 :: a4 :: a5 :: a6 :: a7 :: a8 :: a9 :: b0 :: b1 :: τ) 11 x = a0 :: a1 :: a2 :: a3 :: a4 :: a5 :: a6 :: a7 :: a8 :: a9 :: b0 :: x :: τ := id rfl
theorem w12 : List.set (a0 :: a1 :: a2 :: a3 :: a4 :: a5 :: a6 :: a7 :: a8 :: a9 :: b0 :: b1 :: b2 :: τ) 12 x = a0 :: a1 :: a2 :: a3 :: a4 :: a5 :: a6 :: a7 :: a8 :: a9 :: b0 :: b1 :: x :: τ := id rfl
theorem w13 : List.set (a0 :: a1 :: a2 :: a3 :: a4 :: a5 :: a6 :: a7 :: a8 :: a9 :: b0 :: b1 :: b2 :: b3 :: τ) 13 x = a0 :: a1 :: a2 :: a3 :: a4 :: a5 :: a6 :: a7 :: a8 :: a9 :: b0 :: b1 :: b2 :: x :: τ := id rfl
theorem w14 : List.set (a0 :: a1 :: a2 :: a3 :: a4 :: a5 :: a6 :: a7 :: a8 :: a9 :: b0 :: b1 :: b2 :: b3 :: b4 :: τ) 14 x = a0 :: a1 :: a2 :: a3 :: a4 :: a5 :: a6 :: a7 :: a8 :: a9 :: b0 :: b1 :: b2 :: b3 :: x :: τ := id rfl
theorem w15 : List.set (a0 :: a1 :: a2 :: a3 :: a4 :: a5 :: a6 :: a7 :: a8 :: a9 :: b0 :: b1 :: b2 :: b3 :: b4 :: b5 :: τ) 15 x = a0 :: a1 :: a2 :: a3 :: a4 :: a5 :: a6 :: a7 :: a8 :: a9 :: b0 :: b1 :: b2 :: b3 :: b4 :: x :: τ := id rfl
theorem w16 : List.set (a0 :: a1 :: a2 :: a3 :: a4 :: a5 :: a6 :: a7 :: a8 :: a9 :: b0 :: b1 :: b2 :: b3 :: b4 :: b5 :: b6 :: τ) 16 x = a0 :: a1 :: a2 :: a3 :: a4 :: a5 :: a6 :: a7 :: a8 :: a9 :: b0 :: b1 :: b2 :: b3 :: b4 :: b5 :: x :: τ := id rfl
end
/-! comprehensions -/
theorem lc_map {α : Type} {i : Nat} {te : DE} {τ : DSt} {h : DH} {Q : List D → DH → Prop} (g f : α → D) : ∀ (xs : List α), (∀ x ∈ xs, ∀ Q' : DK, Q' (f x) h → te (τ.set i (some (g x))) h Q' noX) → Q (xs.map f) h → lcGo (.nm i) dYes te τ (xs.map g) h Q
  | [], _, q => q
  | x :: xs, hx, q => by
    unfold List.map lcGo
    simp only [bindT, dYes]
    refine ⟨fun _ => hx x (by simp) _ ?_, fun z => by cases z⟩
    exact lc_map g f xs (fun y hy => hx y (by simp [hy])) q
theorem lc_mapT {α : Type} {tg : Tgt} {te : DE} {τ : DSt} {h : DH} {Q : List D → DH → Prop} (g f : α → D) : ∀ (xs : List α), (∀ x ∈ xs, ∃ τ', bindT tg (g x) τ = some τ' ∧ ∀ Q' : DK, Q' (f x) h → te τ' h Q' noX) → Q (xs.map f) h → lcGo tg dYes te τ (xs.map g) h Q
  | [], _, q => q
  | x :: xs, hx, q => by
    obtain ⟨τ', e, t⟩ := hx x (by simp)
    unfold List.map lcGo
    simp only [e, dYes]
    refine ⟨fun _ => t _ ?_, fun z => by cases z⟩
    exact lc_mapT g f xs (fun y hy => hx y (by simp [hy])) q
theorem lc_fil {α : Type} {tg : Tgt} {tt : DT} {te : DE} {τ : DSt} {h : DH} {Q : List D → DH → Prop} (g f : α → D) (p : α → Bool) : ∀ (xs : List α), (∀ x ∈ xs, ∃ τ', bindT tg (g x) τ = some τ' ∧ (∀ Q' : Bool → DH → Prop, Q' (p x) h → tt τ' h Q' noX) ∧ (p x = true → ∀ Q' : DK, Q' (f x) h → te τ' h Q' noX)) →
    Q ((xs.filter p).map f) h → lcGo tg tt te τ (xs.map g) h Q
  | [], _, q => q
  | x :: xs, hx, q => by
    obtain ⟨τ', e, t, t2⟩ := hx x (by simp)
    unfold List.map lcGo
    simp only [e]
    refine t _ ⟨fun hp => t2 hp _ ?_, fun hp => ?_⟩
    · refine lc_fil (Q := fun ys h3 => Q (f x :: ys) h3) g f p xs (fun y hy => hx y (by simp [hy])) ?_
      rw [List.filter_cons, if_pos hp] at q
      exact q
    · refine lc_fil g f p xs (fun y hy => hx y (by simp [hy])) ?_
      rw [List.filter_cons, if_neg (by rw [hp]; decide)] at q
      exact q
/-- .. whose elements change the heap -/
theorem lc_inv {tg : Tgt} {te : DE} {τ : DSt} {Q : List D → DH → Prop} (I : List D → DH → Prop) : ∀ (ds : List D) (h : DH) (acc : List D), I acc h →
    (∀ d ∈ ds, ∃ τ', bindT tg d τ = some τ' ∧ ∀ acc h, I acc h → ∀ Q' : DK, (∀ y h2, I (acc ++ [y]) h2 → Q' y h2) → te τ' h Q' noX) → (∀ ys h2, I (acc ++ ys) h2 → ys.length = ds.length → Q ys h2) → lcGo tg dYes te τ ds h Q
  | [], h, acc, i, _, q => q [] h (by rw [List.append_nil]; exact i) rfl
  | d :: ds, h, acc, i, hx, q => by
    obtain ⟨τ', e, t⟩ := hx d (by simp)
    unfold lcGo
    simp only [e, dYes]
    refine ⟨fun _ => t acc h i _ fun y h2 i2 => ?_, fun z => by cases z⟩
    exact lc_inv I ds h2 (acc ++ [y]) i2 (fun y hy => hx y (by simp [hy])) fun ys h3 i3 hl => q (y :: ys) h3 (by rw [List.append_assoc] at i3; exact i3) (by rw [List.length_cons, List.length_cons, hl])
/-! loops -/
/-- as D, but for what follows a turn -/
structure Turns (D' D : DEnds) (I : DSt → DH → Prop) : Prop where
  nx : ∀ τ h, I τ h → D'.nx τ h
  ct : ∀ τ h, I τ h → D'.ct τ h
  rt : ∀ d h, D.rt d h → D'.rt d h
  ex : ∀ C fs τ h, D.ex C fs τ h → D'.ex C fs τ h
  bk : ∀ τ h, D.nx τ h → D'.bk τ h
theorem for_ind {tg : Tgt} {tb : DS} {E : DEnds} (I : List D → DSt → DH → Prop) (ds : List D) {τ : DSt} {h : DH} (h0 : I [] τ h)
    (step : ∀ pre d post τ h, ds = pre ++ d :: post → I pre τ h → ∀ D' : DEnds, Turns D' E (I (pre ++ [d])) → ∃ τ', bindT tg d τ = some τ' ∧ tb D' τ' h) (fin : ∀ τ h, I ds τ h → E.nx τ h) : forGo tg tb ds E τ h := by
  have go : ∀ (rest pre : List D) (τ : DSt) (h : DH), ds = pre ++ rest → I pre τ h → forGo tg tb rest E τ h := by
    intro rest
    induction rest with
    | nil =>
      intro pre τ h e i
      rw [List.append_nil] at e
      subst e
      exact fin τ h i
    | cons d rest ih =>
      intro pre τ h e i
      have nx : ∀ τ h, I (pre ++ [d]) τ h → forGo tg tb rest E τ h := fun τ h i => ih (pre ++ [d]) τ h (by rw [e, List.append_assoc]; rfl) i
      obtain ⟨τ', e2, t⟩ := step pre d rest τ h e i { E with nx := forGo tg tb rest E, ct := forGo tg tb rest E, bk := E.nx } ⟨nx, nx, fun _ _ z => z, fun _ _ _ _ z => z, fun _ _ z => z⟩
      unfold forGo
      rw [e2]
      exact t
  exact go ds [] τ h rfl h0
/-- over items that are told by x of a list -/
theorem for_indG {α : Type} {tg : Tgt} {tb : DS} {E : DEnds} (g : α → D) (I : List α → DSt → DH → Prop) (xs : List α) {τ : DSt} {h : DH} (h0 : I [] τ h)
    (step : ∀ pre x post τ h, xs = pre ++ x :: post → I pre τ h → ∀ D' : DEnds, Turns D' E (I (pre ++ [x])) → ∃ τ', bindT tg (g x) τ = some τ' ∧ tb D' τ' h) (fin : ∀ τ h, I xs τ h → E.nx τ h) : forGo tg tb (xs.map g) E τ h := by
  have go : ∀ (rest pre : List α) (τ : DSt) (h : DH), xs = pre ++ rest → I pre τ h → forGo tg tb (rest.map g) E τ h := by
    intro rest
    induction rest with
    | nil =>
      intro pre τ h e i
      rw [List.append_nil] at e
      subst e
      exact fin τ h i
    | cons d rest ih =>
      intro pre τ h e i
      have nx : ∀ τ h, I (pre ++ [d]) τ h → forGo tg tb (rest.map g) E τ h := fun τ h i => ih (pre ++ [d]) τ h (by rw [e, List.append_assoc]; rfl) i
      obtain ⟨τ', e2, t⟩ := step pre d rest τ h e i { E with nx := forGo tg tb (rest.map g) E, ct := forGo tg tb (rest.map g) E, bk := E.nx } ⟨nx, nx, fun _ _ z => z, fun _ _ _ _ z => z, fun _ _ z => z⟩
      unfold List.map forGo
      rw [e2]
      exact t
  exact go xs [] τ h rfl h0
theorem while_ind {c : DT} {tb : DS} {E : DEnds} (I : DSt → DH → Prop) (μ : DSt → DH → Nat) {τ : DSt} {h : DH} (h0 : I τ h)
    (step : ∀ τ h, I τ h → ∀ D' : DEnds, Turns D' E (fun τ' h' => I τ' h' ∧ μ τ' h' < μ τ h) → c τ h (fun b h1 => (b = true → tb D' τ h1) ∧ (b = false → E.nx τ h1)) (fun C fs h1 => E.ex C fs τ h1)) : dWhile c tb E τ h := by
  have go : ∀ (n : Nat) (τ : DSt) (h : DH), I τ h → μ τ h < n → whileGo c tb n E τ h := by
    intro n
    induction n with
    | zero => intro τ h _ l; omega
    | succ n ih =>
      intro τ h i l
      have nx : ∀ τ' h', (I τ' h' ∧ μ τ' h' < μ τ h) → whileGo c tb n E τ' h' := fun τ' h' ⟨a, b⟩ => ih τ' h' a (by omega)
      have t := step τ h i { E with nx := whileGo c tb n E, ct := whileGo c tb n E, bk := E.nx } ⟨nx, nx, fun _ _ z => z, fun _ _ _ _ z => z, fun _ _ z => z⟩
      unfold whileGo
      exact t
  exact ⟨μ τ h + 1, go _ τ h h0 (Nat.lt_succ_self _)⟩
/-! the end of a def -/
theorem dend {Q : DK} {d : D} {h h' : DH} (s : DSub h h') (q : Q d h) : ∃ h2, DSub h2 h' ∧ Q d h2 := ⟨h, s, q⟩
theorem dend0 {Q : DK} {d : D} {h : DH} (q : Q d h) : ∃ h2, DSub h2 h ∧ Q d h2 := ⟨h, DSub.refl h, q⟩
theorem tt_t {A B : Prop} (a : A) : (true = true → A) ∧ (true = false → B) := ⟨fun _ => a, fun z => (by cases z)⟩
theorem tt_f {A B : Prop} (b : B) : (false = true → A) ∧ (false = false → B) := ⟨fun z => (by cases z), fun _ => b⟩
theorem b_t {b : Bool} {A B : Prop} (e : b = true) (a : A) : (b = true → A) ∧ (b = false → B) := ⟨fun _ => a, fun z => (by rw [e] at z; cases z)⟩
theorem b_f {b : Bool} {A B : Prop} (e : b = false) (a : B) : (b = true → A) ∧ (b = false → B) := ⟨fun z => (by rw [e] at z; cases z), fun _ => a⟩
theorem tt_eq {A B : Prop} : ((true = true → A) ∧ (true = false → B)) = A := propext ⟨fun z => z.1 rfl, fun a => tt_t a⟩
theorem ff_eq {A B : Prop} : ((false = true → A) ∧ (false = false → B)) = B := propext ⟨fun z => z.2 rfl, fun a => tt_f a⟩
end DL

/-! D12: applied equations of the transformers (printed by tools/eqs.py). -/
namespace DL
open PySem L2

theorem e_dC {d : D} {τ' : DSt} {h : DH} {Q : DK} {X' : DX} : dC d τ' h Q X' = (Q d h) := id rfl
theorem e_dOp {r : D → D → DH → DK → Prop} {ta tb : DE} {τ : DSt} {h : DH} {Q : DK} {X : DX} : dOp r ta tb τ h Q X = (ta τ h (fun x h1 => tb τ h1 (fun y h2 => r x y h2 Q) X) X) := id rfl
theorem e_dUn {r : D → DH → DK → Prop} {ta : DE} {τ : DSt} {h : DH} {Q : DK} {X : DX} : dUn r ta τ h Q X = (ta τ h (fun x h1 => r x h1 Q) X) := id rfl
theorem e_dTest {t : DE} {τ : DSt} {h : DH} {Q : Bool → DH → Prop} {X : DX} : dTest t τ h Q X = (t τ h (fun x h1 => match x with | .bl b => Q b h1 | _ => False) X) := id rfl
theorem e_dAnd {t u : DT} {τ : DSt} {h : DH} {Q : Bool → DH → Prop} {X : DX} : dAnd t u τ h Q X = (t τ h (fun c h1 => (c = true → u τ h1 Q X) ∧ (c = false → Q false h1)) X) := id rfl
theorem e_dOr {t u : DT} {τ : DSt} {h : DH} {Q : Bool → DH → Prop} {X : DX} : dOr t u τ h Q X = (t τ h (fun c h1 => (c = true → Q true h1) ∧ (c = false → u τ h1 Q X)) X) := id rfl
theorem e_dNot {t : DT} {τ : DSt} {h : DH} {Q : Bool → DH → Prop} {X : DX} : dNot t τ h Q X = (t τ h (fun c h1 => Q (!c) h1) X) := id rfl
theorem e_dAndV {t u : DE} {τ : DSt} {h : DH} {Q : DK} {X : DX} : dAndV t u τ h Q X = (t τ h (fun x h1 => match x with | .bl c => (c = true → u τ h1 Q X) ∧ (c = false → Q (.bl false) h1) | _ => False) X) := id rfl
theorem e_dOrV {t u : DE} {τ : DSt} {h : DH} {Q : DK} {X : DX} : dOrV t u τ h Q X = (t τ h (fun x h1 => match x with | .bl c => (c = true → Q (.bl true) h1) ∧ (c = false → u τ h1 Q X) | _ => False) X) := id rfl
theorem e_dNotV {t : DE} {τ : DSt} {h : DH} {Q : DK} {X : DX} : dNotV t τ h Q X = (t τ h (fun x h1 => match x with | .bl c => Q (.bl (!c)) h1 | _ => False) X) := id rfl
theorem e_dIfE {t : DT} {ta tb : DE} {τ : DSt} {h : DH} {Q : DK} {X : DX} : dIfE t ta tb τ h Q X = (t τ h (fun c h1 => (c = true → ta τ h1 Q X) ∧ (c = false → tb τ h1 Q X)) X) := id rfl
theorem e_dChain {r r' : D → D → DH → DK → Prop} {ta tb tc : DE} {τ : DSt} {h : DH} {Q : DK} {X : DX} : dChain r r' ta tb tc τ h Q X = (ta τ h (fun x h1 => tb τ h1 (fun y h2 => r x y h2 (fun z h3 => match z with
  | .bl k => (k = true → tc τ h3 (fun w h4 => r' y w h4 Q) X) ∧ (k = false → Q (.bl false) h3)
  | _ => False)) X) X) := rfl
theorem e_dNil {τ' : DSt} {h : DH} {Q : List D → DH → Prop} {X' : DX} : dNil  τ' h Q X' = (Q [] h) := id rfl
theorem e_dCons {ta : DE} {tr : DA} {τ : DSt} {h : DH} {Q : List D → DH → Prop} {X : DX} : dCons ta tr τ h Q X = (ta τ h (fun x h1 => tr τ h1 (fun xs h2 => Q (x :: xs) h2) X) X) := id rfl
theorem e_dTup {t : DA} {τ : DSt} {h : DH} {Q : DK} {X : DX} : dTup t τ h Q X = (t τ h (fun xs h1 => xs.length ≤ sizeLine ∧ Q (.tup xs) h1) X) := id rfl
theorem e_dLst {t : DA} {τ : DSt} {h : DH} {Q : DK} {X : DX} : dLst t τ h Q X = (t τ h (fun xs h1 => xs.length ≤ sizeLine ∧ Q (.lst xs) h1) X) := id rfl
theorem e_dLstM {t : DA} {τ : DSt} {h : DH} {Q : DK} {X : DX} : dLstM t τ h Q X = (t τ h (fun xs h1 => xs.length ≤ sizeLine ∧ ∀ p, h1 p = none → Q (.ref p) (dupd h1 p (.lst xs))) X) := id rfl
theorem e_dCB {r : List D → DH → DK → Prop} {t : DA} {τ : DSt} {h : DH} {Q : DK} {X : DX} : dCB r t τ h Q X = (t τ h (fun xs h1 => r xs h1 Q) X) := id rfl
theorem e_dBM {T : String} {r : D → List D → DH → DK → Prop} {to : DE} {t : DA} {τ : DSt} {h : DH} {Q : DK} {X : DX} : dBM T r to t τ h Q X = (to τ h (fun x h1 => dTy T x h1 ∧ t τ h1 (fun xs h2 => r x xs h2 Q) X) X) := id rfl
theorem e_dFrz {t : DE} {τ : DSt} {h : DH} {Q : DK} {X : DX} : dFrz t τ h Q X = (t τ h (fun x h1 => match x with
  | .ref a => (match h1 a with | some (.lst ds) => Q (.lst ds) (ddel h1 a) | _ => False)
  | x => Q x h1) X) := rfl
theorem e_dNoPart {τ' : DSt} {h : DH} {Q : Option Int → DH → Prop} {X' : DX} : dNoPart  τ' h Q X' = (Q none h) := id rfl
theorem e_dPart {t : DE} {τ : DSt} {h : DH} {Q : Option Int → DH → Prop} {X : DX} : dPart t τ h Q X = (t τ h (fun x h1 => match x with | .int i => Q (some i) h1 | _ => False) X) := id rfl
theorem e_dSl {r : D → Option Int → Option Int → DH → DK → Prop} {te : DE} {tl th : DO'} {τ : DSt} {h : DH} {Q : DK} {X : DX} : dSl r te tl th τ h Q X = (te τ h (fun x h1 => tl τ h1 (fun l h2 => th τ h2 (fun u h3 => r x l u h3 Q) X) X) X) := id rfl
theorem e_dIsi {T : String} {t : DE} {τ : DSt} {h : DH} {Q : DK} {X : DX} : dIsi T t τ h Q X = (t τ h (fun x h1 => tyN (view h1 x) ≠ "?" ∧ Q (.bl (isiB (tyN (view h1 x)) T)) h1) X) := id rfl
theorem e_iSeqD {t : DE} {τ : DSt} {h : DH} {Q : List D → DH → Prop} {X : DX} : iSeqD t τ h Q X = (t τ h (fun x h1 => match itemsD x with | some ds => Q ds h1 | none => False) X) := id rfl
theorem e_iRange1 {t : DE} {τ : DSt} {h : DH} {Q : List D → DH → Prop} {X : DX} : iRange1 t τ h Q X = (t τ h (fun x h1 => match x with | .int n => -(2 ^ 62) ≤ n ∧ n < 2 ^ 62 ∧ Q ((List.range n.toNat).map fun i => .int (i : Nat)) h1 | _ => False) X) := id rfl
theorem e_iRange2 {ta tb : DE} {τ : DSt} {h : DH} {Q : List D → DH → Prop} {X : DX} : iRange2 ta tb τ h Q X = (ta τ h (fun x h1 => tb τ h1 (fun y h2 => match x, y with | .int a, .int b => (-(2 ^ 62) ≤ a ∧ a < 2 ^ 62 ∧ -(2 ^ 62) ≤ b ∧ b < 2 ^ 62) ∧ Q ((List.range (b - a).toNat).map fun i => .int (a + (i : Nat))) h2 | _, _ => False) X) X) := id rfl
theorem e_iEnumD {t : DE} {τ : DSt} {h : DH} {Q : List D → DH → Prop} {X : DX} : iEnumD t τ h Q X = (t τ h (fun x h1 => match itemsD x with | some ds => Q (enumD ds) h1 | none => False) X) := id rfl
theorem e_iZipD {ta tb : DE} {τ : DSt} {h : DH} {Q : List D → DH → Prop} {X : DX} : iZipD ta tb τ h Q X = (ta τ h (fun x h1 => tb τ h1 (fun y h2 => match itemsD x, itemsD y with | some ds, some es => Q (zipD ds es) h2 | _, _ => False) X) X) := id rfl
theorem e_dNext {DD : DEnds} {τ : DSt} {h : DH} : dNext  DD τ h = (DD.nx τ h) := id rfl
theorem e_dSeq {t u : DS} {DD : DEnds} {τ : DSt} {h : DH} : dSeq t u DD τ h = (t { DD with nx := u DD } τ h) := id rfl
theorem e_dAsg {te : DE} {i : Nat} {DD : DEnds} {τ : DSt} {h : DH} : dAsg te i DD τ h = (te τ h (fun d h1 => DD.nx (τ.set i (some d)) h1) (fun C fs h1 => DD.ex C fs τ h1)) := id rfl
theorem e_dAsgT {te : DE} {t : Tgt} {DD : DEnds} {τ : DSt} {h : DH} : dAsgT te t DD τ h = (te τ h (fun d h1 => match bindT t d τ with | some τ' => DD.nx τ' h1 | none => False) (fun C fs h1 => DD.ex C fs τ h1)) := id rfl
theorem e_dPar {i j : Nat} {ta tb : DE} {DD : DEnds} {τ : DSt} {h : DH} : dPar i j ta tb DD τ h = (ta τ h (fun x h1 => tb τ h1 (fun y h2 => DD.nx ((τ.set i (some x)).set j (some y)) h2) (fun C fs h2 => DD.ex C fs τ h2)) (fun C fs h1 => DD.ex C fs τ h1)) := id rfl
theorem e_dIf {c : DT} {t u : DS} {DD : DEnds} {τ : DSt} {h : DH} : dIf c t u DD τ h = (c τ h (fun b h1 => (b = true → t DD τ h1) ∧ (b = false → u DD τ h1)) (fun C fs h1 => DD.ex C fs τ h1)) := id rfl
theorem e_dRet {te : DE} {DD : DEnds} {τ : DSt} {h : DH} : dRet te DD τ h = (te τ h DD.rt (fun C fs h1 => DD.ex C fs τ h1)) := id rfl
theorem e_dRetN {DD : DEnds} {τ' : DSt} {h : DH} : dRetN  DD τ' h = (DD.rt .non h) := id rfl
theorem e_dDrop {te : DE} {DD : DEnds} {τ : DSt} {h : DH} : dDrop te DD τ h = (te τ h (fun _ h1 => DD.nx τ h1) (fun C fs h1 => DD.ex C fs τ h1)) := id rfl
theorem e_dBrk {DD : DEnds} {τ : DSt} {h : DH} : dBrk  DD τ h = (DD.bk τ h) := id rfl
theorem e_dCnt {DD : DEnds} {τ : DSt} {h : DH} : dCnt  DD τ h = (DD.ct τ h) := id rfl
theorem e_dAug {i : Nat} {te : DE} {r : D → D → DH → DK → Prop} {DD : DEnds} {τ : DSt} {h : DH} : dAug i te r DD τ h = (match τ[i]? with
  | some (some x) => te τ h (fun y h1 => r x y h1 (fun z h2 => DD.nx (τ.set i (some z)) h2)) (fun C fs h1 => DD.ex C fs τ h1)
  | _ => False) := rfl
theorem e_dSetI {te to ti : DE} {DD : DEnds} {τ : DSt} {h : DH} : dSetI te to ti DD τ h = (te τ h (fun v h1 => to τ h1 (fun o h2 => ti τ h2 (fun i h3 => match o, i with
  | .ref a, .int k => (match h3 a with | some (.lst ds) => 0 ≤ k ∧ k < ds.length ∧ DD.nx τ (dupd h3 a (.lst (ds.set k.toNat v))) | _ => False)
  | _, _ => False) (fun C fs h2 => DD.ex C fs τ h2)) (fun C fs h2 => DD.ex C fs τ h2)) (fun C fs h1 => DD.ex C fs τ h1)) := rfl
theorem e_dFor {it : DI} {tg : Tgt} {tb : DS} {DD : DEnds} {τ : DSt} {h : DH} : dFor it tg tb DD τ h = (it τ h (fun ds h1 => forGo tg tb ds DD τ h1) (fun C fs h1 => DD.ex C fs τ h1)) := id rfl
theorem e_dWhile {c : DT} {tb : DS} {DD : DEnds} {τ : DSt} {h : DH} : dWhile c tb DD τ h = (∃ n, whileGo c tb n DD τ h) := id rfl
theorem e_dYes {τ' : DSt} {h : DH} {Q : Bool → DH → Prop} {X' : DX} : dYes  τ' h Q X' = (Q true h) := id rfl
theorem e_dLc {it : DI} {tg : Tgt} {tt : DT} {te : DE} {vs : List Nat} {τ : DSt} {h : DH} {Q : DK} {X : DX} : dLc it tg tt te vs τ h Q X = (it τ h (fun ds h1 => ds.length ≤ 10000000 ∧ lcGo tg tt te (dwipe τ vs) ds h1 (fun ys h2 => Q (.lst ys) h2)) X) := id rfl
theorem e_dLcM {it : DI} {tg : Tgt} {tt : DT} {te : DE} {vs : List Nat} {τ : DSt} {h : DH} {Q : DK} {X : DX} : dLcM it tg tt te vs τ h Q X = (it τ h (fun ds h1 => ds.length ≤ 10000000 ∧ lcGo tg tt te (dwipe τ vs) ds h1 (fun ys h2 => ∀ p, h2 p = none → Q (.ref p) (dupd h2 p (.lst ys)))) X) := id rfl
theorem e_dCall {sp : DSp} {t : DA} {τ : DSt} {h : DH} {Q : DK} {X : DX} : dCall sp t τ h Q X = (t τ h (fun ds h1 => sp ds h1 Q X) X) := id rfl
theorem e_dCallK {sp : DSp} {n m : Nat} {perm : List Nat} {t tk : DA} {τ : DSt} {h : DH} {Q : DK} {X : DX} : dCallK sp n m perm t tk τ h Q X = (t τ h (fun ds h1 => tk τ h1 (fun es h2 => ds.length = n ∧ es.length = m ∧ sp (pick perm (ds ++ es)) h2 Q X) X) X) := id rfl
theorem e_dNeg {t : DE} {τ : DSt} {h : DH} {Q : DK} {X : DX} : dNeg t τ h Q X = (t τ h (fun x h1 => match x with | .int i => Q (.int (-i)) h1 | _ => False) X) := id rfl
theorem e_dRaise {C : Addr} {DD : DEnds} {τ : DSt} {h : DH} : dRaise C DD τ h = (DD.ex C [] τ h) := id rfl

section
variable {h : DH} {a : Addr} {s : Str} {i : Int} {b : Bool} {xs : List D} {ns : List Int}
theorem vw_str : view h (.str s) = .str s := id rfl
theorem vw_int : view h (.int i) = .int i := id rfl
theorem vw_bl : view h (.bl b) = .bl b := id rfl
theorem vw_non : view h .non = .non := id rfl
theorem vw_dct : view h .dct = .dct := id rfl
theorem vw_tup : view h (.tup xs) = .tup xs := id rfl
theorem vw_lst : view h (.lst xs) = .lst xs := id rfl
theorem vw_scr : view h (.scr ns) = .scr ns := id rfl
theorem vw_ref (e : h a = some (.lst xs)) : view h (.ref a) = .lst xs := by simp only [view, e]
theorem ty_str : tyN (.str s) = "str" := id rfl
theorem ty_int : tyN (.int i) = "int" := id rfl
theorem ty_bl : tyN (.bl b) = "bool" := id rfl
theorem ty_non : tyN .non = "NoneType" := id rfl
theorem ty_tup : tyN (.tup xs) = "tuple" := id rfl
theorem ty_lst : tyN (.lst xs) = "list" := id rfl
theorem ty_dct : tyN .dct = "dict" := id rfl
theorem it_str : itemsD (.str s) = some (s.cps.toList.map fun c => .str ⟨#[c]⟩) := id rfl
theorem it_tup : itemsD (.tup xs) = some xs := id rfl
theorem it_lst : itemsD (.lst xs) = some xs := id rfl
theorem bT_nm {j : Nat} {d : D} {τ : DSt} : bindT (.nm j) d τ = some (τ.set j (some d)) := id rfl
theorem bT_2 {t u : Tgt} {d e : D} {τ τ1 τ2 : DSt} (h1 : bindT t d τ = some τ1) (h2 : bindT u e τ1 = some τ2) : bindT (.tp [t, u]) (.tup [d, e]) τ = some τ2 := by
  simp only [bindT, bindTs, h1, h2]
theorem isN_non : isN .non = true := id rfl
theorem isN_str : isN (.str s) = false := id rfl
theorem isN_int : isN (.int i) = false := id rfl
theorem isN_bl : isN (.bl b) = false := id rfl
theorem isN_tup : isN (.tup xs) = false := id rfl
theorem isN_lst : isN (.lst xs) = false := id rfl
theorem isN_dct : isN .dct = false := id rfl
theorem dT_str : dTy "str" (.str s) h = True := by simp only [dTy]
theorem dT_lst : dTy "list" (.lst xs) h = True := by simp only [dTy]
theorem dT_ref (e : h a = some (.lst xs)) : dTy "list" (.ref a) h = True := by simp only [dTy, true_and, eq_iff_iff, iff_true]; exact ⟨xs, e⟩
theorem en_rt {Q : DK} {X : DX} {d : D} : (dEnd Q X).rt d h = ∃ h2, DSub h2 h ∧ Q d h2 := id rfl
theorem en_nx {Q : DK} {X : DX} {τ : DSt} : (dEnd Q X).nx τ h = ∃ h2, DSub h2 h ∧ Q .non h2 := id rfl
theorem en_ex {Q : DK} {X : DX} {τ : DSt} {C : Addr} {fs : FS} : (dEnd Q X).ex C fs τ h = ∃ h2, DSub h2 h ∧ X C fs h2 := id rfl
theorem atI_nat {α : Type} {xs : List α} {k : Nat} {x : α} (e : xs[k]? = some x) : atI xs (k : Int) = some x := by
  have hk : k < xs.length := by
    rcases Nat.lt_or_ge k xs.length with l | l
    · exact l
    · rw [List.getElem?_eq_none l] at e; cases e
  unfold atI ixN
  rw [if_pos (by omega), if_pos (by omega)]
  exact e
theorem ix_tup {Q : DK} {k : Nat} {x : D} (e : xs[k]? = some x) : dIx (.tup xs) (.int (k : Nat)) h Q = Q x h := by simp only [dIx, vw_tup, atI_nat e]
theorem ix_lst {Q : DK} {k : Nat} {x : D} (e : xs[k]? = some x) : dIx (.lst xs) (.int (k : Nat)) h Q = Q x h := by simp only [dIx, vw_lst, atI_nat e]
theorem ix_ref {Q : DK} {k : Nat} {x : D} (ea : h a = some (.lst xs)) (e : xs[k]? = some x) : dIx (.ref a) (.int (k : Nat)) h Q = Q x h := by simp only [dIx, vw_ref ea, atI_nat e]
theorem ix_tup0 {Q : DK} {x : D} : dIx (.tup (x :: xs)) (.int 0) h Q = Q x h := ix_tup (k := 0) rfl
theorem ix_lst0 {Q : DK} {x : D} : dIx (.lst (x :: xs)) (.int 0) h Q = Q x h := ix_lst (k := 0) rfl
theorem ix_ref0 {Q : DK} {x : D} (ea : h a = some (.lst (x :: xs))) : dIx (.ref a) (.int 0) h Q = Q x h := ix_ref (k := 0) ea rfl
theorem ix_ref1 {Q : DK} {x y : D} (ea : h a = some (.lst (y :: x :: xs))) : dIx (.ref a) (.int 1) h Q = Q x h := ix_ref (k := 1) ea rfl
theorem ix_ref2 {Q : DK} {x y z : D} (ea : h a = some (.lst (y :: z :: x :: xs))) : dIx (.ref a) (.int 2) h Q = Q x h := ix_ref (k := 2) ea rfl
theorem ix_str {Q : DK} {k c : Nat} (e : s.cps.toList[k]? = some c) : dIx (.str s) (.int (k : Nat)) h Q = (s.length ≤ sizeLine ∧ Q (.str ⟨#[c]⟩) h) := by simp only [dIx, vw_str, atI_nat e]
theorem ix_scr {Q : DK} {k : Nat} {i : Int} (e : ns[k]? = some i) : dIx (.scr ns) (.int (k : Nat)) h Q = Q (.int i) h := by simp only [dIx, vw_scr, atI_nat e]
theorem ix_scrE {Q : DK} : dIx (.scr ns) (.int i) h Q = (match atI ns i with | some d => Q (.int d) h | none => False) := rfl
theorem sl_from {Q : DK} {k : Nat} : dSlice (.tup xs) (some (k : Nat)) none h Q = Q (.tup (xs.drop k)) h := by simp only [dSlice, vw_tup, cutG_from]
theorem sl_to {Q : DK} {k : Nat} : dSlice (.tup xs) none (some (k : Nat)) h Q = Q (.tup (xs.take k)) h := by simp only [dSlice, vw_tup, cutG_to]
theorem sl_fromL {Q : DK} {k : Nat} : dSlice (.lst xs) (some (k : Nat)) none h Q = Q (.lst (xs.drop k)) h := by simp only [dSlice, vw_lst, cutG_from]
theorem sl_toL {Q : DK} {k : Nat} : dSlice (.lst xs) none (some (k : Nat)) h Q = Q (.lst (xs.take k)) h := by simp only [dSlice, vw_lst, cutG_to]
theorem eqv_int (i j : Int) : eqvD (.int i) (.int j) = decide (i = j) := by
  show PyData.eqv (.int i) (.int j) = _
  unfold PyData.eqv
  show (i == j) = decide (i = j)
  by_cases e : i = j
  · subst e; simp
  · simp [e]
theorem eq_int {Q : DK} {j : Int} : dEq (.int i) (.int j) h Q = Q (.bl (decide (i = j))) h := by
  simp only [dEq, vw_int, eqv_int, dn, true_and]
theorem ne_int {Q : DK} {j : Int} : dNe (.int i) (.int j) h Q = Q (.bl (!decide (i = j))) h := by
  simp only [dNe, vw_int, eqv_int, dn, true_and]
theorem eq_str {Q : DK} {t : Str} : dEq (.str s) (.str t) h Q = Q (.bl (decide (s = t))) h := id rfl
theorem ne_str {Q : DK} {t : Str} : dNe (.str s) (.str t) h Q = Q (.bl (!decide (s = t))) h := id rfl
theorem eqv_tup {ys : List D} : eqvD (.tup xs) (.tup ys) = PyData.eqvAll (pyL xs) (pyL ys) := by simp only [eqvD, py, PyData.eqv]
theorem eq_tup {Q : DK} {ys : List D} (hx : dn 12 (.tup xs) = true) (hy : dn 12 (.tup ys) = true) : dEq (.tup xs) (.tup ys) h Q = Q (.bl (eqvD (.tup xs) (.tup ys))) h := by
  show (dn 12 (.tup xs) = true ∧ dn 12 (.tup ys) = true ∧ _) = _
  rw [hx, hy]; simp only [true_and]; rfl
theorem ne_tup {Q : DK} {ys : List D} (hx : dn 12 (.tup xs) = true) (hy : dn 12 (.tup ys) = true) : dNe (.tup xs) (.tup ys) h Q = Q (.bl (!eqvD (.tup xs) (.tup ys))) h := by
  show (dn 12 (.tup xs) = true ∧ dn 12 (.tup ys) = true ∧ _) = _
  rw [hx, hy]; simp only [true_and]; rfl
theorem pow_18 {Q : DK} : dPow (.int 10) (.int 18) h Q = Q (.int (10 ^ 18)) h := by simp only [dPow]; exact propext ⟨fun z => z.2.2, fun q => ⟨by decide, by decide, q⟩⟩
theorem pow_38 {Q : DK} : dPow (.int 10) (.int 38) h Q = Q (.int (10 ^ 38)) h := by simp only [dPow]; exact propext ⟨fun z => z.2.2, fun q => ⟨by decide, by decide, q⟩⟩
theorem pow_40 {Q : DK} : dPow (.int 10) (.int 40) h Q = Q (.int (10 ^ 40)) h := by simp only [dPow]; exact propext ⟨fun z => z.2.2, fun q => ⟨by decide, by decide, q⟩⟩
theorem pow_41 {Q : DK} : dPow (.int 10) (.int 41) h Q = Q (.int (10 ^ 41)) h := by simp only [dPow]; exact propext ⟨fun z => z.2.2, fun q => ⟨by decide, by decide, q⟩⟩
theorem pow_6 {Q : DK} : dPow (.int 10) (.int 6) h Q = Q (.int (10 ^ 6)) h := by simp only [dPow]; exact propext ⟨fun z => z.2.2, fun q => ⟨by decide, by decide, q⟩⟩
theorem t_imp {p : Prop} : (True → p) = p := propext ⟨fun z => z trivial, fun z _ => z⟩
theorem f_imp {p : Prop} : (False → p) = True := propext ⟨fun _ => trivial, fun _ z => z.elim⟩
theorem tf_eq : (true = false) = False := propext ⟨fun z => (by cases z), fun z => z.elim⟩
theorem ft_eq : (false = true) = False := propext ⟨fun z => (by cases z), fun z => z.elim⟩
theorem nq_NoneType : ("NoneType" ≠ "?") = True := by decide
theorem is_NoneType_int : isiB "NoneType" "int" = false := by decide
theorem is_NoneType_bool : isiB "NoneType" "bool" = false := by decide
theorem is_NoneType_str : isiB "NoneType" "str" = false := by decide
theorem is_NoneType_tuple : isiB "NoneType" "tuple" = false := by decide
theorem is_NoneType_list : isiB "NoneType" "list" = false := by decide
theorem is_NoneType_dict : isiB "NoneType" "dict" = false := by decide
theorem nq_bool : ("bool" ≠ "?") = True := by decide
theorem is_bool_int : isiB "bool" "int" = true := by decide
theorem is_bool_bool : isiB "bool" "bool" = true := by decide
theorem is_bool_str : isiB "bool" "str" = false := by decide
theorem is_bool_tuple : isiB "bool" "tuple" = false := by decide
theorem is_bool_list : isiB "bool" "list" = false := by decide
theorem is_bool_dict : isiB "bool" "dict" = false := by decide
theorem nq_int : ("int" ≠ "?") = True := by decide
theorem is_int_int : isiB "int" "int" = true := by decide
theorem is_int_bool : isiB "int" "bool" = false := by decide
theorem is_int_str : isiB "int" "str" = false := by decide
theorem is_int_tuple : isiB "int" "tuple" = false := by decide
theorem is_int_list : isiB "int" "list" = false := by decide
theorem is_int_dict : isiB "int" "dict" = false := by decide
theorem nq_str : ("str" ≠ "?") = True := by decide
theorem is_str_int : isiB "str" "int" = false := by decide
theorem is_str_bool : isiB "str" "bool" = false := by decide
theorem is_str_str : isiB "str" "str" = true := by decide
theorem is_str_tuple : isiB "str" "tuple" = false := by decide
theorem is_str_list : isiB "str" "list" = false := by decide
theorem is_str_dict : isiB "str" "dict" = false := by decide
theorem nq_tuple : ("tuple" ≠ "?") = True := by decide
theorem is_tuple_int : isiB "tuple" "int" = false := by decide
theorem is_tuple_bool : isiB "tuple" "bool" = false := by decide
theorem is_tuple_str : isiB "tuple" "str" = false := by decide
theorem is_tuple_tuple : isiB "tuple" "tuple" = true := by decide
theorem is_tuple_list : isiB "tuple" "list" = false := by decide
theorem is_tuple_dict : isiB "tuple" "dict" = false := by decide
theorem nq_list : ("list" ≠ "?") = True := by decide
theorem is_list_int : isiB "list" "int" = false := by decide
theorem is_list_bool : isiB "list" "bool" = false := by decide
theorem is_list_str : isiB "list" "str" = false := by decide
theorem is_list_tuple : isiB "list" "tuple" = false := by decide
theorem is_list_list : isiB "list" "list" = true := by decide
theorem is_list_dict : isiB "list" "dict" = false := by decide
theorem nq_dict : ("dict" ≠ "?") = True := by decide
theorem is_dict_int : isiB "dict" "int" = false := by decide
theorem is_dict_bool : isiB "dict" "bool" = false := by decide
theorem is_dict_str : isiB "dict" "str" = false := by decide
theorem is_dict_tuple : isiB "dict" "tuple" = false := by decide
theorem is_dict_list : isiB "dict" "list" = false := by decide
theorem is_dict_dict : isiB "dict" "dict" = true := by decide
theorem op_Lt {i j : Int} {h : DH} {Q : DK} : dLt (.int i) (.int j) h Q = Q (.bl (decide (i < j))) h := id rfl
theorem op_Le {i j : Int} {h : DH} {Q : DK} : dLe (.int i) (.int j) h Q = Q (.bl (decide (i ≤ j))) h := id rfl
theorem op_Gt {i j : Int} {h : DH} {Q : DK} : dGt (.int i) (.int j) h Q = Q (.bl (decide (j < i))) h := id rfl
theorem op_Ge {i j : Int} {h : DH} {Q : DK} : dGe (.int i) (.int j) h Q = Q (.bl (decide (j ≤ i))) h := id rfl
theorem op_IsN {x : D} {h : DH} {Q : DK} : dIsN x .non h Q = Q (.bl (isN x)) h := id rfl
theorem op_IsNN {x : D} {h : DH} {Q : DK} : dIsNN x .non h Q = Q (.bl (!isN x)) h := id rfl
theorem op_Sub {i j : Int} {h : DH} {Q : DK} : dSub (.int i) (.int j) h Q = Q (.int (i - j)) h := id rfl
theorem op_Add {i j : Int} {h : DH} {Q : DK} : dAdd (.int i) (.int j) h Q = Q (.int (i + j)) h := id rfl
theorem op_AddS {a b : Str} {h : DH} {Q : DK} : dAdd (.str a) (.str b) h Q = (a.length + b.length ≤ sizeLine ∧ Q (.str (a ++ b)) h) := id rfl
theorem op_AddT {a b : List D} {h : DH} {Q : DK} : dAdd (.tup a) (.tup b) h Q = (a.length + b.length ≤ sizeLine ∧ Q (.tup (a ++ b)) h) := id rfl
theorem op_AddL {a b : List D} {h : DH} {Q : DK} : dAdd (.lst a) (.lst b) h Q = (a.length + b.length ≤ sizeLine ∧ Q (.lst (a ++ b)) h) := id rfl
theorem op_Mul {i j : Int} {h : DH} {Q : DK} : dMul (.int i) (.int j) h Q = (IntMulOk i j ∧ Q (.int (i * j)) h) := id rfl
theorem op_MulT {a : List D} {k : Int} {h : DH} {Q : DK} : dMul (.tup a) (.int k) h Q = (a ≠ [] ∧ 0 ≤ k ∧ k ≤ 1000 ∧ a.length ≤ 1000 ∧ Q (.tup (rpt k a)) h) := id rfl
theorem op_MulL {a : List D} {k : Int} {h : DH} {Q : DK} : dMul (.lst a) (.int k) h Q = (-(2 ^ 63) ≤ k ∧ k < 2 ^ 63 ∧ a.length * k.toNat ≤ sizeLine ∧ Q (.lst (rpt k a)) h) := id rfl
theorem op_Mod {i j : Int} {h : DH} {Q : DK} : dMod (.int i) (.int j) h Q = (0 < j ∧ Q (.int (i % j)) h) := id rfl
theorem op_Fdiv {i j : Int} {h : DH} {Q : DK} : dFdiv (.int i) (.int j) h Q = (0 < j ∧ j.natAbs.log2 < 9000 ∧ Q (.int (i / j)) h) := id rfl
theorem op_InS {c z : Str} {h : DH} {Q : DK} : dInS (.str c) (.str z) h Q = ∃ k, c = ⟨#[k]⟩ ∧ Q (.bl (decide (k ∈ z.cps.toList))) h := id rfl
theorem op_NotInS {c z : Str} {h : DH} {Q : DK} : dNotInS (.str c) (.str z) h Q = ∃ k, c = ⟨#[k]⟩ ∧ Q (.bl (!decide (k ∈ z.cps.toList))) h := id rfl
theorem cb_lenT {xs : List D} {h : DH} {Q : DK} : dLen [.tup xs] h Q = Q (.int (xs.length : Nat)) h := id rfl
theorem cb_lenL {xs : List D} {h : DH} {Q : DK} : dLen [.lst xs] h Q = Q (.int (xs.length : Nat)) h := id rfl
theorem cb_lenS {s : Str} {h : DH} {Q : DK} : dLen [.str s] h Q = (s.length ≤ sizeLine ∧ Q (.int (s.length : Nat)) h) := id rfl
theorem cb_lenX {ns : List Int} {h : DH} {Q : DK} : dLen [.scr ns] h Q = Q (.int (ns.length : Nat)) h := id rfl
theorem cb_all {xs : List D} {h : DH} {Q : DK} : dAll [.lst xs] h Q = (match bools xs with | some bs => Q (.bl (bs.all id)) h | none => False) := id rfl
theorem cb_any {xs : List D} {h : DH} {Q : DK} : dAny [.lst xs] h Q = (match bools xs with | some bs => Q (.bl (bs.any id)) h | none => False) := id rfl
theorem cb_tupleL {xs : List D} {h : DH} {Q : DK} : dTuple [.lst xs] h Q = Q (.tup xs) h := id rfl
theorem cb_tupleT {xs : List D} {h : DH} {Q : DK} : dTuple [.tup xs] h Q = Q (.tup xs) h := id rfl
theorem cb_max {i j : Int} {h : DH} {Q : DK} : dMax2 [.int i, .int j] h Q = Q (.int (if j > i then j else i)) h := id rfl
theorem cb_min {i j : Int} {h : DH} {Q : DK} : dMin2 [.int i, .int j] h Q = Q (.int (if j < i then j else i)) h := id rfl
theorem cb_abs {i j : Int} {h : DH} {Q : DK} : dAbs [.int i] h Q = Q (.int (if i < 0 then -i else i)) h := id rfl
theorem cb_int {i j : Int} {h : DH} {Q : DK} : dInt [.int i] h Q = Q (.int i) h := id rfl
theorem cb_intB {b : Bool} {h : DH} {Q : DK} : dInt [.bl b] h Q = Q (.int (if b then 1 else 0)) h := id rfl
theorem cb_strI {i j : Int} {h : DH} {Q : DK} : dStrI [.int i] h Q = (i.natAbs.log2 < 1920 ∧ Q (.str (toString i)) h) := id rfl
theorem me_joinL {a : Str} {xs : List D} {h : DH} {Q : DK} : dJoin (.str a) [.lst xs] h Q = (match strsOf xs with | some zs => (zs.map (·.length)).sum + zs.length * a.length ≤ 16777216 ∧ Q (.str (Txt.join a zs)) h | none => False) := id rfl
theorem me_joinT {a : Str} {xs : List D} {h : DH} {Q : DK} : dJoin (.str a) [.tup xs] h Q = (match strsOf xs with | some zs => (zs.map (·.length)).sum + zs.length * a.length ≤ 16777216 ∧ Q (.str (Txt.join a zs)) h | none => False) := id rfl
theorem me_split {a b : Str} {h : DH} {Q : DK} : dSplit (.str a) [.str b] h Q = ((b.length == 0) = false ∧ a.length + 2 ≤ sizeLine ∧ Q (.lst ((Txt.split a b).map D.str)) h) := id rfl
theorem ip_add {i j : Int} {h : DH} {Q : DK} : dIpAdd (.int i) (.int j) h Q = Q (.int (i + j)) h := id rfl
theorem ip_sub {i j : Int} {h : DH} {Q : DK} : dIpSub (.int i) (.int j) h Q = Q (.int (i - j)) h := id rfl
theorem ip_mul {i j : Int} {h : DH} {Q : DK} : dIpMul (.int i) (.int j) h Q = (IntMulOk i j ∧ Q (.int (i * j)) h) := id rfl
theorem ip_div {i j : Int} {h : DH} {Q : DK} : dIpDiv (.int i) (.int j) h Q = (0 < j ∧ j.natAbs.log2 < 9000 ∧ Q (.int (i / j)) h) := id rfl
theorem me_append {a : Addr} {xs : List D} {y : D} {h : DH} {Q : DK} (e : h a = some (.lst xs)) : dAppend (.ref a) [y] h Q = (xs.length < sizeLine ∧ Q .non (dupd h a (.lst (xs ++ [y])))) := by
  simp only [dAppend, e]
theorem me_popAt {a : Addr} {xs : List D} {h : DH} {Q : DK} (e : h a = some (.lst xs)) {i : Int} : dPopAt (.ref a) [.int i] h Q = (0 ≤ i ∧ i < 2 ^ 63 ∧ (match xs[i.toNat]? with | some d => Q d (dupd h a (.lst (xs.eraseIdx i.toNat))) | none => False)) := by
  simp only [dPopAt, e] <;> rfl
theorem me_pop0 {a : Addr} {xs : List D} {h : DH} {Q : DK} (e : h a = some (.lst xs)) : dPop0 (.ref a) [] h Q = (match xs[xs.length - 1]? with | some d => Q d (dupd h a (.lst xs.dropLast)) | none => False) := by
  simp only [dPop0, e] <;> rfl
theorem me_insert {a : Addr} {xs : List D} {y : D} {h : DH} {Q : DK} (e : h a = some (.lst xs)) {i : Int} : dInsert (.ref a) [.int i, y] h Q = (xs.length < sizeLine ∧ 0 ≤ i ∧ i < 2 ^ 63 ∧ Q .non (dupd h a (.lst (xs.take i.toNat ++ [y] ++ xs.drop i.toNat)))) := by
  simp only [dInsert, e]
theorem me_clear {a : Addr} {xs : List D} {h : DH} {Q : DK} (e : h a = some (.lst xs)) : dClear (.ref a) [] h Q = Q .non (dupd h a (.lst [])) := by
  simp only [dClear, e]
theorem me_reverse {a : Addr} {xs : List D} {h : DH} {Q : DK} (e : h a = some (.lst xs)) : dReverse (.ref a) [] h Q = Q .non (dupd h a (.lst xs.reverse)) := by
  simp only [dReverse, e]
theorem me_extend {a : Addr} {xs : List D} {y : D} {h : DH} {Q : DK} (e : h a = some (.lst xs)) {ys : List D} (e2 : view h y = .lst ys) : dExtend (.ref a) [y] h Q = (xs.length + ys.length ≤ sizeLine ∧ Q .non (dupd h a (.lst (xs ++ ys)))) := by
  simp only [dExtend, e, e2]
theorem cb_lenR {a : Addr} {xs : List D} {h : DH} {Q : DK} (e : h a = some (.lst xs)) : dLen [.ref a] h Q = Q (.int (xs.length : Nat)) h := by
  simp only [dLen, vw_ref e]
theorem cb_tupleR {a : Addr} {xs : List D} {h : DH} {Q : DK} (e : h a = some (.lst xs)) : dTuple [.ref a] h Q = Q (.tup xs) h := by
  simp only [dTuple, vw_ref e]
theorem me_joinR {a : Addr} {xs : List D} {h : DH} {Q : DK} (e : h a = some (.lst xs)) {s : Str} : dJoin (.str s) [.ref a] h Q = (match strsOf xs with | some zs => (zs.map (·.length)).sum + zs.length * s.length ≤ 16777216 ∧ Q (.str (Txt.join s zs)) h | none => False) := by
  simp only [dJoin, vw_ref e] <;> rfl
theorem le_line {n m : Nat} (h : n ≤ m) (hm : m ≤ 16777216 := by decide) : n ≤ sizeLine := Nat.le_trans h hm
end

local macro_rules | `(tactic| walk_at "ev") => `(tactic| try simp (disch := (first | assumption | exact dupd_same | (refine (dupd_ne ?_).trans ?_; (first | assumption | (apply Ne.symm; assumption)); first | assumption | exact dupd_same | (refine (dupd_ne ?_).trans ?_; (first | assumption | (apply Ne.symm; assumption)); first | assumption | exact dupd_same)))) only [v0, v1, v2, v3, v4, v5, v6, v7, v8, v9, v10, v11, v12, v13, v14, v15, v16, w0, w1, w2, w3, w4, w5, w6, w7, w8, w9, w10, w11, w12, w13, w14, w15, w16, e_dC, e_dOp, e_dUn, e_dTest, e_dAnd, e_dOr, e_dNot, e_dAndV, e_dOrV, e_dNotV, e_dIfE, e_dChain, e_dNil, e_dCons, e_dTup, e_dLst, e_dLstM, e_dCB, e_dBM, e_dFrz, e_dNoPart, e_dPart, e_dSl, e_dIsi, e_iSeqD, e_iRange1, e_iRange2, e_iEnumD, e_iZipD, e_dNext, e_dSeq, e_dAsg, e_dAsgT, e_dPar, e_dIf, e_dRet, e_dRetN, e_dDrop, e_dBrk, e_dCnt, e_dAug, e_dSetI, e_dFor, e_dWhile, e_dYes, e_dLc, e_dLcM, e_dCall, e_dCallK, e_dNeg, e_dRaise, op_Lt, op_Le, op_Gt, op_Ge, op_IsN, op_IsNN, op_Sub, op_Add, op_AddS, op_AddT, op_AddL, op_Mul, op_MulT, op_MulL, op_Mod, op_Fdiv, op_InS, op_NotInS, cb_lenT, cb_lenL, cb_lenS, cb_lenX, cb_all, cb_any, cb_tupleL, cb_tupleT, cb_max, cb_min, cb_abs, cb_int, cb_intB, cb_strI, me_joinL, me_joinT, me_split, ip_add, ip_sub, ip_mul, ip_div, ix_ref0, ix_ref1, ix_ref2, me_append, me_popAt, me_pop0, me_insert, me_clear, me_reverse, cb_lenR, cb_tupleR, me_joinR, vw_ref, dT_ref, pow_18, pow_38, pow_40, pow_41, pow_6, eq_str, ne_str, eq_int, ne_int, ix_tup0, ix_lst0, sl_from, sl_to, sl_fromL, sl_toL, vw_str, vw_int, vw_bl, vw_non, vw_dct, vw_tup, vw_lst, vw_scr, ty_str, ty_int, ty_bl, ty_non, ty_tup, ty_lst, ty_dct, it_str, it_tup, it_lst, bT_nm, isN_non, isN_str, isN_int, isN_bl, isN_tup, isN_lst, isN_dct, dT_str, dT_lst, en_rt, en_nx, en_ex, t_imp, f_imp, not_true_eq_false, not_false_eq_true, tf_eq, ft_eq, dwipe, true_and, and_true, Bool.not_true, Bool.not_false, Bool.not_eq_true', Bool.not_eq_false', decide_eq_true_eq, decide_eq_false_iff_not, nq_NoneType, is_NoneType_int, is_NoneType_bool, is_NoneType_str, is_NoneType_tuple, is_NoneType_list, is_NoneType_dict, nq_bool, is_bool_int, is_bool_bool, is_bool_str, is_bool_tuple, is_bool_list, is_bool_dict, nq_int, is_int_int, is_int_bool, is_int_str, is_int_tuple, is_int_list, is_int_dict, nq_str, is_str_int, is_str_bool, is_str_str, is_str_tuple, is_str_list, is_str_dict, nq_tuple, is_tuple_int, is_tuple_bool, is_tuple_str, is_tuple_tuple, is_tuple_list, is_tuple_dict, nq_list, is_list_int, is_list_bool, is_list_str, is_list_tuple, is_list_list, is_list_dict, nq_dict, is_dict_int, is_dict_bool, is_dict_str, is_dict_tuple, is_dict_list, is_dict_dict])
end DL

/-! D13: the end of a law. -/
namespace DL
open PySem PySem.Spec L2 PyProof.Rows PySem.W

/-- no exception in a comprehension -/
abbrev W00 : WX := fun _ _ _ _ => False
section
variable {P : Program} {w : World} {K : PySem.W.Frag} {mg mb : Str → Option Value} {k : Nat} {fa a : Addr} {fd : FuncData} {x : Str} {sp : Sp} {s₁ : Shared} {vs : List Value} {ns : List Int}
/-- what is tracked at the start: the script, if the module does not hold it -/
def HScr (K : PySem.W.Frag) (a : Addr) (vs : List Value) (ns : List Int) : Hp := fun b => if b = a ∧ K.lookup a = none then some (.frz { cls := .type "list", data := .seq vs.toArray } (.lst (ns.map V.int))) else none
theorem hscr {b : Addr} {u : HO} (e : HScr K a vs ns b = some u) : b = a ∧ K.lookup a = none ∧ u = .frz { cls := .type "list", data := .seq vs.toArray } (.lst (ns.map V.int)) := by
  unfold HScr at e
  split at e
  · rename_i z
    cases e
    exact ⟨z.1, z.2, rfl⟩
  · cases e
/-- the law's promise where no guard is held, at the heap behind the top -/
theorem law_end (KX : K.In s₁.heap) (hns : s₁.heap.Ns mainGlobals mg) (hb : s₁.heap.Ns builtinsNs mb) (hbb : ∀ x : Str, x ≠ "__name__" → mb x = bootBuiltins x) (hlim : s₁.heap.NoLimit) (hg : s₁.gens = #[])
    (ha : s₁.heap.get? a = some { cls := .type "list", data := .seq vs.toArray }) (hi : IntsAre vs ns) (hl : ns.length ≤ sizeLine) (hr : Room k callerA)
    (F : ∀ base : Heap, K.In base → base.Ns mainGlobals mg → FnG P w K mg base k fa fd [x] sp) (hbind : ∀ (s : Shared) (u : Value), BindsTo s fd ⟨[u], []⟩ [(x, u)])
    (hsp : ∀ H : Hp, (∀ b u, H b = some u → b = a ∧ u = .frz { cls := .type "list", data := .seq vs.toArray } (.lst (ns.map V.int))) → SqL K H a (ns.map V.int) → sp [.ref a] H (fun v _ => v = .bl true) fun _ _ _ => False) :
    codeAny (model P w) callerA (.call (.ref fa) ⟨[.ref a], []⟩) (fun r s' => r = .ok (.ret (.bool true)) ∧ OldK s₁.heap s'.heap ∧ s'.os = s₁.os ∧ AllBare s'.gens) s₁ := by
  have rv := vals_ints hi
  have hH : ∀ {b : Addr} {u : HO}, HScr K a vs ns b = some u → b = a ∧ K.lookup a = none ∧ u = .frz { cls := .type "list", data := .seq vs.toArray } (.lst (ns.map V.int)) := hscr
  have other : ∀ {b : Addr}, b ≠ a → HScr K a vs ns b = none := fun {b} hb => if_neg fun z => hb z.1
  have hS : SqL K (HScr K a vs ns) a (ns.map V.int) := by
    cases hk : K.lookup a with
    | none => exact .inl (.inr ⟨{ cls := .type "list", data := .seq vs.toArray }, if_pos ⟨rfl, hk⟩⟩)
    | some o =>
      have e := KX a o hk
      rw [ha] at e
      cases e
      exact .inr ⟨_, vs.toArray, _, hk, rfl, rfl, rfl, by rw [List.size_toArray, hi.length]; exact hl, by simpa using rv⟩
  have hok : HOk P w (HScr K a vs ns) s₁.heap := fun b u e => by
    obtain ⟨rfl, _, rfl⟩ := hH e
    exact ⟨ha, by rw [List.length_map]; exact hl, vs, _, rv, ha⟩
  have away : ∀ {b : Addr} {o : Obj} {es : Array DictEntry} {ep : Nat}, s₁.heap.get? b = some o → o.data = .dict es ep → b ≠ a := fun {b o es ep} e d q => by
    subst q
    rw [ha] at e
    cases e
    cases (show Data.seq vs.toArray _ = Data.dict es ep from d)
  have nsB : ∀ {b : Addr} {m : Str → Option Value}, s₁.heap.Ns b m → (hidT s₁.heap (HScr K a vs ns)).Ns b m := fun {b m} ⟨o, es, ep, e, d, r⟩ => ⟨o, es, ep, hidT_get e (other (away e d)), d, r⟩
  have inB : K.In (hidT s₁.heap (HScr K a vs ns)) := fun b o e => hidT_get (KX b o e) (by
    cases q : HScr K a vs ns b with
    | none => rfl
    | some u =>
      obtain ⟨rfl, hk, _⟩ := hH q
      rw [hk] at e
      cases e)
  have e0 : Env0 P w K mg (hidT s₁.heap (HScr K a vs ns)) callerA [] s₁ (HScr K a vs ns) :=
    ⟨rfl, ⟨inB, nsB hns, ⟨mb, nsB hb, hbb⟩, let ⟨mc, h1, h2⟩ := hlim; ⟨mc, nsB h1, h2⟩⟩, fun b o e => of_hidT e, Nat.le_of_eq (hidT_size _ _), trivial, fun b hb => absurd (show b ∈ ([] : List Addr) from hb) (by simp), hok, .of_eq hg⟩
  refine codeAny_mono ((F _ inB (nsB hns)).run callerA [] s₁ (HScr K a vs ns) ⟨[.ref a], []⟩ [.ref a] [.ref a] _ _ hr rfl e0 (hbind s₁ (.ref a)) (.cons rfl .nil) (hsp _ (fun b u e => ⟨(hH e).1, (hH e).2.2⟩) hS)) fun r s' h => ?_
  match r, h with
  | .error e, h =>
    obtain ⟨_, _, _, _, _, _, _, _, _, _, _, _, z⟩ := h
    exact z.elim
  | .ok .next, h => exact False.elim h
  | .ok .brk, h => exact False.elim h
  | .ok .cont, h => exact False.elim h
  | .ok (.ret u), h =>
    obtain ⟨v, H', os, bare, un, hok', r', q⟩ := h
    cases (show v = .bl true from q)
    cases (show u = Value.bool true from r')
    refine ⟨rfl, OldK.of_keep fun b o e => ?_, os, bare⟩
    cases q : HScr K a vs ns b with
    | none => exact un.keep b o e q (by intro z; exact absurd (show b ∈ ([] : List Addr) from z) (by simp)) (by simp)
    | some u =>
      obtain ⟨rfl, _, rfl⟩ := hH q
      have z := hok' b _ (un.frzs b _ _ q)
      rw [ha] at e
      cases e
      exact z.1
/-- from the law's promise over data -/
theorem lift_law {sp : DSp} {H : Hp} {C : List Int → Prop} (hsp : ∀ (h : DH) (Q : DK) (X : DX), C ns → (∀ h', Q (.bl true) h') → sp [.scr ns] h Q X) (hc : C ns) (hS : SqL K H a (ns.map V.int)) :
    liftSp K sp [.ref a] H (fun v _ => v = .bl true) fun _ _ _ => False :=
  ⟨[.scr ns], fun _ => none, fun _ => False, fun d _ => d = .bl true, fun _ _ _ => False, ⟨_, _, rfl, ⟨_, rfl, hS.imp (fun z => ⟨fun e => e, z⟩) fun z => z⟩, rfl⟩, ⟨fun _ _ e => (by cases e), fun _ _ e => (by cases e)⟩, hsp _ _ _ hc (fun _ => rfl),
    fun d h' N' v H' e _ _ r => by subst e; exact r, fun _ _ _ _ _ _ z => z.elim⟩
theorem walkD {l : PySem.W.OpenLaw} {n k : Nat} {q : Program} {loose : List Str} {XP : (Str → Option Value) → Heap → Prop} {YP : World → Heap → Prop} {d : DefRec} {K : Params → PySem.W.Frag} {sp : DSp} {x : Str}
    (hn : l.most = some n) (hn2 : n ≤ sizeLine) (hdf : d.params.defaults = []) (hr : Room k callerA)
    (hY : ∀ (w : World) (h : Heap), YP w h → (K w.params).In h)
    (F : ∀ (w : World) (mg : Str → Option Value) (fa : Addr) (h : Heap), (K w.params).In h → h.Ns mainGlobals mg → mg d.name = some (.ref fa) →
      ∃ fd : FuncData, (∀ (s : Shared) (u : Value), BindsTo s fd ⟨[u], []⟩ [(x, u)]) ∧
        ∀ base : Heap, (K w.params).In base → base.Ns mainGlobals mg → FnG l.prog w (K w.params) mg base k fa fd [x] (liftSp (K w.params) sp))
    (hsp : ∀ (ns : List Int) (h : DH) (Q : DK) (X : DX), (ns.length ≤ n ∧ ∀ z ∈ ns, Builtin.Int.intBits z ≤ 1048576) → (∀ h', Q (.bl true) h') → sp [.scr ns] h Q X) :
    PySem.W.WalkO q loose XP YP l.row.toRowW d [] (fun f vs => PySem.call f vs) := by
  refine Att.attach_callB hn hdf fun w s₀ s₁ mg mb fa o pm cd doc a vs ns G Y ho hd hcd hmg hobj hints hlen hbits hg => ?_
  have KX := hY w _ Y
  obtain ⟨fd, hb, hF⟩ := F w mg fa _ KX G.T.g hmg
  exact law_end KX G.T.g G.T.b G.T.builtins G.T.nolimit hg hobj hints (Nat.le_trans hlen hn2) hr hF hb fun H _ hS => lift_law (C := fun ns => ns.length ≤ n ∧ ∀ z ∈ ns, Builtin.Int.intBits z ≤ 1048576) (hsp ns) ⟨hlen, hbits⟩ hS
end
end DL

/-! D14: own classes: attributes, methods, construction, properties. -/
namespace DL
open PySem PySem.Spec L2 PyProof.Rows

def putD (f : Str) (v : D) : List (Str × D) → List (Str × D)
  | [] => [(f, v)]
  | (g, x) :: r => if g = f then (g, v) :: r else (g, x) :: putD f v r
section
variable {K : PySem.W.Frag} {H : Hp} {N : NS}
theorem frep_nil {gs : List (Str × V)} (r : FRep K H N [] gs) : gs = [] := by
  have := r.1
  cases gs with
  | nil => rfl
  | cons g gs => cases this
theorem frep_cons {f : Str} {d : D} {fs : List (Str × D)} {gs : List (Str × V)} (r : FRep K H N ((f, d) :: fs) gs) : ∃ v gs', gs = (f, v) :: gs' ∧ Rep K H N d v ∧ FRep K H N fs gs' := by
  obtain ⟨e, r2⟩ := r
  cases gs with
  | nil => cases e
  | cons g gs =>
    obtain ⟨g, v⟩ := g
    simp only [List.map_cons, List.cons.injEq] at e
    obtain ⟨rfl, e⟩ := e
    obtain ⟨x, t, e3, r3, r4⟩ := r2
    simp only [List.map_cons, List.cons.injEq] at e3
    obtain ⟨rfl, rfl⟩ := e3
    exact ⟨_, gs, rfl, r3, e, r4⟩
theorem frep_of {f : Str} {d : D} {v : V} {fs : List (Str × D)} {gs : List (Str × V)} (r : Rep K H N d v) (rs : FRep K H N fs gs) : FRep K H N ((f, d) :: fs) ((f, v) :: gs) :=
  ⟨by simp only [List.map_cons, rs.1], .cons r rs.2⟩
theorem frep_look {f : Str} {d : D} : ∀ {fs : List (Str × D)} {gs : List (Str × V)}, FRep K H N fs gs → fs.lookup f = some d → ∃ v, gs.lookup f = some v ∧ Rep K H N d v
  | [], _, _, e => by cases e
  | (g, x) :: fs, gs, r, e => by
    obtain ⟨v, gs', rfl, r1, r2⟩ := frep_cons r
    rw [List.lookup_cons] at e ⊢
    split at e
    · cases e; exact ⟨v, rfl, r1⟩
    · exact frep_look r2 e
theorem frep_none {f : Str} : ∀ {fs : List (Str × D)} {gs : List (Str × V)}, FRep K H N fs gs → fs.lookup f = none → gs.lookup f = none
  | [], gs, r, _ => by rw [frep_nil r]; rfl
  | (g, x) :: fs, gs, r, e => by
    obtain ⟨v, gs', rfl, r1, r2⟩ := frep_cons r
    rw [List.lookup_cons] at e ⊢
    split at e
    · cases e
    · exact frep_none r2 e
theorem frep_put {f : Str} {d : D} {v : V} (rv : Rep K H N d v) : ∀ {fs : List (Str × D)} {gs : List (Str × V)}, FRep K H N fs gs → FRep K H N (putD f d fs) (putF f v gs)
  | [], gs, r => by rw [frep_nil r]; exact frep_of rv ⟨rfl, rfl⟩
  | (g, x) :: fs, gs, r => by
    obtain ⟨u, gs', rfl, r1, r2⟩ := frep_cons r
    unfold putD putF
    split
    · exact frep_of rv r2
    · exact frep_of r1 (frep_put rv r2)
theorem frep_len {fs : List (Str × D)} {gs : List (Str × V)} (r : FRep K H N fs gs) : gs.length = fs.length := by
  have := congrArg List.length r.1
  rw [List.length_map, List.length_map] at this
  exact this
theorem frep_ext {H' : Hp} {h h' : DH} {N' : NS} {fs : List (Str × D)} {gs : List (Str × V)} (un : ∀ a o, h a = some o → N a) (e : Ext H h N H' h' N') (r : FRep K H N fs gs) : FRep K H' N' fs gs := ⟨r.1, RepL.ext un e _ _ r.2⟩
end
/-! ### attributes -/
def dFld (C : Addr) (f : Str) (t : DE) : DE := fun τ h Q X => t τ h (fun x h1 => ∃ a fs d, x = .ref a ∧ h1 a = some (.ins C fs) ∧ fs.lookup f = some d ∧ Q d h1) X
/-- o.f = e -/
def dSetF (C : Addr) (f : Str) (te to : DE) : DS := fun D τ h => te τ h (fun v h1 => to τ h1 (fun o h2 => ∃ a fs, o = .ref a ∧ h2 a = some (.ins C fs) ∧ fs.length < 1000 ∧ D.nx τ (dupd h2 a (.ins C (putD f v fs)))) (fun C fs h2 => D.ex C fs τ h2)) (fun C fs h1 => D.ex C fs τ h1)
section
variable {X : Cx} {W : WX} {e o : Expr} {te to : DE} {f : Str} {pos pos' : Pos} {C : Addr}
theorem d_fld (c : Cls X.K C) (n : NoAttr X.K C f) (he : DEp X W e te) (hb : attributeBase e f X.env (eval e X.env) = eval e X.env := by rfl) : DEp X W (.Attribute e f pos) (dFld C f te) :=
  PE.imp (pe_fld he hb) fun σ H Q ⟨τ, h, N, Q0, X0, S, R, z, p, ex⟩ =>
    ⟨τ, h, N, _, X0, S, R, z, fun x h1 N1 v H1 q e R1 rx => by
      obtain ⟨a, fs, d, rfl, ea, l, q⟩ := q
      cases rep_ref rx
      obtain ⟨dx, gs, eH, fr⟩ := R1.at_ a _ ea
      obtain ⟨u, lu, ru⟩ := frep_look fr l
      exact ⟨a, C, dx, gs, u, rfl, eH, c, n, lu, p _ _ _ _ _ q e R1 ru⟩, ex⟩
theorem ins_mut {K : PySem.W.Frag} {H : Hp} {h : DH} {N : NS} {a : Addr} {fs fs' : List (Str × D)} {dx : Addr} {gs' : List (Str × V)} (R : HRep K H h N) (ha : h a = some (.ins C fs)) (rs : FRep K H N fs' gs') :
    HRep K (upd H a (.ins C dx gs')) (dupd h a (.ins C fs')) N ∧ Ext H h N (upd H a (.ins C dx gs')) (dupd h a (.ins C fs')) N := by
  have e : Ext H h N (upd H a (.ins C dx gs')) (dupd h a (.ins C fs')) N := fun b u q hn => by
    have hne : b ≠ a := fun z => by subst z; rw [ha] at hn; cases hn
    exact ⟨by rw [upd_ne hne]; exact q, by rw [dupd_ne hne]; exact hn, Iff.rfl⟩
  exact R.mut ha ⟨dx, gs', upd_same, frep_ext R.un e rs⟩
theorem ds_fld (c : Cls X.K C) (n : NoAttr X.K C f) (he : DEp X W e te) (ho : DEp X W o to) (hs : swapsWith e (some (.Attribute o f pos')) pos.line X.env = pure false := by rfl) : DSp' X W (.Assign [.Attribute o f pos'] e pos) (dSetF C f te to) :=
  PS.imp (ps_fld ho he hs) fun D σ H ⟨τ, h, N, D0, S, R, z, U⟩ =>
    ⟨τ, h, N, _, _, S, R, z, fun v h1 N1 y H1 q e1 R1 rv => ⟨τ, h1, N1, _, _, S.ext R.un e1, R1, q, fun o h2 N2 x H2 q2 e2 R2 rx => by
      obtain ⟨a, fs, rfl, ea, l, q2⟩ := q2
      cases rep_ref rx
      obtain ⟨dx, gs, eH, fr⟩ := R2.at_ a _ ea
      obtain ⟨R3, e3⟩ := ins_mut (dx := dx) R2 ea (frep_put (f := f) (Rep.ext R1.un e2 _ _ rv) fr)
      exact ⟨a, C, dx, gs, rfl, eH, c, n, by rw [frep_len fr]; exact l, U.nx _ _ _ _ _ q2 ((e1.trans e2).trans e3) (S.ext R.un ((e1.trans e2).trans e3)) R3⟩,
      (U.ext e1).exc (S.ext R.un e1) R1.un⟩, U.exc S R.un⟩
end
/-! ### methods -/
def dMeth (C : Addr) (m : Str) (sp : DSp) (to : DE) (t : DA) : DE := fun τ h Q X => to τ h (fun x h1 => ∃ a fs, x = .ref a ∧ h1 a = some (.ins C fs) ∧ fs.lookup m = none ∧ t τ h1 (fun ds h2 => sp (x :: ds) h2 Q X) X) X
def dMethK (C : Addr) (m : Str) (sp : DSp) (n : Nat) (perm : List Nat) (to : DE) (tk : DA) : DE := fun τ h Q X => to τ h (fun x h1 => ∃ a fs, x = .ref a ∧ h1 a = some (.ins C fs) ∧ fs.lookup m = none ∧ tk τ h1 (fun es h2 => es.length = n ∧ sp (pick perm (x :: es)) h2 Q X) X) X
/-- C(..) -/
def dMake (C : Addr) (sp : DSp) (t : DA) : DE := fun τ h Q X => t τ h (fun ds h1 => ∀ a, h1 a = none → sp (.ref a :: ds) (dupd h1 a (.ins C [])) (fun v h2 => v = .non ∧ Q (.ref a) h2) X) X
def dMakeK (C : Addr) (sp : DSp) (n : Nat) (perm : List Nat) (tk : DA) : DE := fun τ h Q X => tk τ h (fun es h1 => es.length = n ∧ ∀ a, h1 a = none → sp (pick perm (.ref a :: es)) (dupd h1 a (.ins C [])) (fun v h2 => v = .non ∧ Q (.ref a) h2) X) X
def dProp (C : Addr) (sp : DSp) (t : DE) : DE := fun τ h Q X => t τ h (fun x h1 => ∃ a fs, x = .ref a ∧ h1 a = some (.ins C fs) ∧ sp [x] h1 Q (fun _ _ _ => False)) X
section
variable {X : Cx} {W : WX} {k : Nat} {f C : Addr} {fd : FuncData} {ps : List Str} {sp : DSp} {x m : Str} {p pos apos kpos : Pos} {e o : Expr} {es : List Expr} {kws : List Keyword} {ta te to : DE} {t tk : DA} {n : Nat} {ks : List Str} {perm : List Nat} {pl : Sem Bool}
theorem lift_meth {K : PySem.W.Frag} {σ : L2.St} {H : Hp} {Q : VK} (z : liftE K W (dMeth C m sp to t) σ H Q) :
    liftE K W to σ H fun x H1 => ∃ a dx gs, x = .ref a ∧ H1 a = some (.ins C dx gs) ∧ gs.lookup m = none ∧ liftA K W t σ H1 fun vs H2 => liftSp K sp (x :: vs) H2 Q (WE W σ) := by
  obtain ⟨τ, h, N, Q0, X0, S, R, z, p, ex⟩ := z
  refine ⟨τ, h, N, _, X0, S, R, z, fun x h1 N1 v H1 q e R1 rx => ?_, ex⟩
  obtain ⟨a, fs, rfl, ea, l, q⟩ := q
  cases rep_ref rx
  obtain ⟨dx, gs, eH, fr⟩ := R1.at_ a _ ea
  exact ⟨a, dx, gs, rfl, eH, frep_none fr l, τ, h1, N1, _, X0, S.ext R.un e, R1, q, fun ds h2 N2 vs H2 q2 e2 R2 rs => ⟨.ref a :: ds, h2, N2, Q0, X0, .cons rfl rs, R2, q2, p.ext (e.trans e2), ex.ext (e.trans e2)⟩, ex.ext e⟩
theorem d_meth (c : Cls X.K C) (hm : Meth X.K C m f) (F : FnG X.prog X.w X.K X.mg X.base k f fd ps (liftSp X.K sp)) (hr : Room k X.A) (hgd : X.A.guards = some []) (hb : Binds X.K fd ps []) (tk : Takes X W) (ho : DEp X W o to) (ha : DAp X W (e :: es) t)
    (hst : starEach (e :: es) X.env = (false, eval e X.env) :: starEach es X.env := by rfl) (hpl : (backTo pos (starEach es X.env)).any (·.1) = false := by rfl)
    (ht : eval (.Call (.Attribute o m apos) (e :: es) [] pos) X.env = (do
      let v ← eval o X.env
      standAt apos.atName
      let (g, one) ← holding [v] (getMethod v m pl)
      callWith pos g one (backTo pos (starEach (e :: es) X.env)) (backToKw pos (keywordEach [] X.env))) := by rfl) : DEp X W (.Call (.Attribute o m apos) (e :: es) [] pos) (dMeth C m sp to t) := by
  refine ⟨fun pins s σ H Q I h => ?_⟩
  refine PySem.W.methodCall_KW (pl := pl) (thn (ho.run pins s σ H _ I (lift_meth h)) fun u s1 ⟨x, H1, I1, rx, a, dx, fs, ex, ea, l, q⟩ => ?_) ht
  cases ex
  cases (show u = Value.ref a from rx)
  refine getmeth_ok I1 ea c hm l (PySem.W.callWith_K (first := [.ref a]) (h₀ := X.base) I.ok.mod.kin hm.kp (thn (ha.run pos pins s1 σ H1 _ I1 q) fun us s2 ⟨vs, H2, I2, r, q2⟩ => ⟨I2.kIn, ?_⟩) hst hpl)
  exact run_GB (us := .ref a :: us) (vs := .ref a :: vs) F hr hgd hb tk I2 (.cons rfl r) q2
theorem d_meth0 (c : Cls X.K C) (hm : Meth X.K C m f) (F : FnG X.prog X.w X.K X.mg X.base k f fd ps (liftSp X.K sp)) (hr : Room k X.A) (hgd : X.A.guards = some []) (hb : Binds X.K fd ps []) (tk : Takes X W) (ho : DEp X W o to)
    (ht : eval (.Call (.Attribute o m apos) [] [] pos) X.env = (do
      let v ← eval o X.env
      standAt apos.atName
      let (g, one) ← holding [v] (getMethod v m pl)
      callWith pos g one (backTo pos (starEach [] X.env)) (backToKw pos (keywordEach [] X.env))) := by rfl) : DEp X W (.Call (.Attribute o m apos) [] [] pos) (dMeth C m sp to dNil) := by
  refine ⟨fun pins s σ H Q I h => ?_⟩
  refine PySem.W.methodCall_KW (pl := pl) (thn (ho.run pins s σ H _ I (lift_meth h)) fun u s1 ⟨x, H1, I1, rx, a, dx, fs, ex, ea, l, q⟩ => ?_) ht
  cases ex
  cases (show u = Value.ref a from rx)
  refine getmeth_ok I1 ea c hm l (PySem.W.callWith_K0 (first := [.ref a]) I1.kIn hm.kp (run_GB (us := [.ref a]) (vs := [.ref a]) F hr hgd hb tk I1 (.cons rfl .nil) ?_))
  obtain ⟨τ, h', N, Q0, X0, S, R, z, p, ex⟩ := q
  exact p [] h' N [] H1 z (Ext.refl _ _ _) R rfl
theorem lift_methK {K : PySem.W.Frag} {σ : L2.St} {H : Hp} {Q : VK} (z : liftE K W (dMethK C m sp n perm to tk) σ H Q) :
    liftE K W to σ H fun x H1 => ∃ a dx gs, x = .ref a ∧ H1 a = some (.ins C dx gs) ∧ gs.lookup m = none ∧ liftA K W tk σ H1 fun vs H2 => vs.length = n ∧ liftSp K sp (pick perm (x :: vs)) H2 Q (WE W σ) := by
  obtain ⟨τ, h, N, Q0, X0, S, R, z, p, ex⟩ := z
  refine ⟨τ, h, N, _, X0, S, R, z, fun x h1 N1 v H1 q e R1 rx => ?_, ex⟩
  obtain ⟨a, fs, rfl, ea, l, q⟩ := q
  cases rep_ref rx
  obtain ⟨dx, gs, eH, fr⟩ := R1.at_ a _ ea
  exact ⟨a, dx, gs, rfl, eH, frep_none fr l, τ, h1, N1, _, X0, S.ext R.un e, R1, q, fun ds h2 N2 vs H2 q2 e2 R2 rs =>
    ⟨rs.length.trans q2.1, _, h2, N2, Q0, X0, RepL.pick (ds := .ref a :: ds) (vs := .ref a :: vs) (.cons rfl rs) perm, R2, q2.2, p.ext (e.trans e2), ex.ext (e.trans e2)⟩, ex.ext e⟩
theorem d_methK (c : Cls X.K C) (hm : Meth X.K C m f) (F : FnG X.prog X.w X.K X.mg X.base k f fd ps (liftSp X.K sp)) (hr : Room k X.A) (hgd : X.A.guards = some []) (hb : Bd X.K fd ps 1 ks perm) (tk' : Takes X W) (ho : DEp X W o to) (hkw : DKp X W kws tk)
    (hall : (backToKw pos (keywordEach kws X.env)).all (·.1.isSome) = true := by rfl) (hks : (backToKw pos (keywordEach kws X.env)).filterMap (·.1) = ks := by rfl)
    (hpl : ((backTo pos (starEach [] X.env)).any (·.1) || (backToKw pos (keywordEach kws X.env)).any (·.1.isNone)) = false := by rfl)
    (ht : eval (.Call (.Attribute o m apos) [] kws pos) X.env = (do
      let v ← eval o X.env
      standAt apos.atName
      let (g, one) ← holding [v] (getMethod v m pl)
      callWith pos g one (backTo pos (starEach [] X.env)) (backToKw pos (keywordEach kws X.env))) := by rfl) : DEp X W (.Call (.Attribute o m apos) [] kws pos) (dMethK C m sp ks.length perm to tk) := by
  refine ⟨fun pins s σ H Q I h => ?_⟩
  refine PySem.W.methodCall_KW (pl := pl) (thn (ho.run pins s σ H _ I (lift_methK h)) fun u s1 ⟨x, H1, I1, rx, a, dx, fs, ex, ea, l, q⟩ => ?_) ht
  cases ex
  cases (show u = Value.ref a from rx)
  refine getmeth_ok I1 ea c hm l (PySem.W.callWith_KW0 (first := [.ref a]) (h₀ := X.base) I.ok.mod.kin hm.kp hall ?_ hpl)
  refine thn (hkw.run pos pins s1 σ H1 _ I1 q) fun ws s2 ⟨zs, H2, I2, rz, l2, q2⟩ => ⟨I2.kIn, ?_⟩
  rw [hks]
  exact run_G (us := [.ref a]) (vs := [.ref a]) F hr hgd hb tk' I2 (.cons rfl .nil) rz rfl l2 q2
/-! ### construction -/
theorem run_mkG {pins : List (Addr × Obj)} {σ : L2.St} {H : Hp} {s : Shared} {Q : VK} {us ws : List Value} {vs zs : List V} {spv : Sp} (M : Mk X.K C f) (F : FnG X.prog X.w X.K X.mg X.base k f fd ps spv) (hr : Room (k + 1) X.A) (hgd : X.A.guards = some []) (tk : Takes X W)
    {bs : List V} {cs : Addr → List Value} (hb : ∀ (s' : Shared) (q : Addr), X.K.In s'.heap → BindsTo s' fd ⟨.ref q :: us, ks.zip ws⟩ (ps.zip (cs q))) (I : Inv X pins σ H s) (r : ∀ q, Vals (pick perm (.ref q :: (vs ++ zs))) (cs q))
    (h : ∀ q dx, H q = none → H dx = none → dx ≠ q → spv (pick perm (.ref q :: (vs ++ zs))) (upd (upd H dx (.own q)) q (.ins C dx [])) (fun v H2 => v = .non ∧ Q (.ref q) H2) (WE W σ)) :
    wpAny (model X.prog X.w) X.A (call (.ref C) us (ks.zip ws)) (EP X pins σ Q) X.xe s := by
  have hq := h (s.heap.objs.size + 1) s.heap.objs.size (I.hok.fresh (Nat.le_succ _)) (I.hok.fresh (Nat.le_refl _)) (Nat.ne_of_lt (Nat.lt_succ_self _))
  have J := Inv.made (C := C) I
  refine wpAny_call (make_map (f := f) I.kIn M.makes M.init (beq_iff_eq.mp M.fn) (codeAny_mono (F.run _ X.stack _ _ ⟨Value.ref (s.heap.objs.size + 1) :: us, ks.zip ws⟩ (cs (s.heap.objs.size + 1)) _ _ (WE W σ) (hr.make C us (ks.zip ws)) hgd
    (J.env0.make C us (ks.zip ws)) (hb _ _ J.kIn) (r _) hq) fun y s' hy => ?_))
  match y, hy with
  | .error e, hy => exact passAt tk σ pins _ _ e s' J hy
  | .ok (.ret u), hy =>
    obtain ⟨v, H', I3, rv, ev, q3⟩ := J.after hy
    cases ev
    exact ⟨rv, ⟨V.ref (s.heap.objs.size + 1), H', I3, rfl, q3⟩⟩
  | .ok .next, hy => exact False.elim hy
  | .ok .brk, hy => exact False.elim hy
  | .ok .cont, hy => exact False.elim hy
theorem new_ins {K : PySem.W.Frag} {H : Hp} {h : DH} {N : NS} (R : HRep K H h N) {q dx : Addr} (nq : H q = none) (nd : H dx = none) (ne : dx ≠ q) : ∃ N', HRep K (upd (upd H dx (.own q)) q (.ins C dx [])) (dupd h q (.ins C [])) N' ∧ Ext H h N (upd (upd H dx (.own q)) q (.ins C dx [])) (dupd h q (.ins C [])) N' := by
  obtain ⟨R1, e1⟩ := R.newH (o := .own q) nd
  obtain ⟨R2, e2⟩ := HRep.newM (p := q) (o := .ins C dx []) (d := .ins C []) R1 (by rw [upd_ne (fun z => ne z.symm)]; exact nq) ⟨dx, [], upd_same, rfl, rfl⟩
  exact ⟨_, R2, e1.trans e2⟩
theorem lift_mk {K : PySem.W.Frag} {σ : L2.St} {H : Hp} {Q : VK} (z : liftE K W (dMake C sp t) σ H Q) :
    liftA K W t σ H fun vs H1 => ∀ q dx, H1 q = none → H1 dx = none → dx ≠ q → liftSp K sp (.ref q :: vs) (upd (upd H1 dx (.own q)) q (.ins C dx [])) (fun v H2 => v = .non ∧ Q (.ref q) H2) (WE W σ) := by
  obtain ⟨τ, h, N, Q0, X0, S, R, z, p, ex⟩ := z
  refine ⟨τ, h, N, _, X0, S, R, z, fun ds h1 N1 vs H1 q e R1 rs a dx na nd ne => ?_, ex⟩
  obtain ⟨N2, R2, e2⟩ := new_ins (C := C) R1 na nd ne
  exact ⟨.ref a :: ds, _, N2, _, X0, .cons rfl (RepL.ext R1.un e2 _ _ rs), R2, q a (R1.none na), fun d h3 N3 v H3 q3 e3 R3 r3 => by
    obtain ⟨rfl, q3⟩ := q3
    exact ⟨rep_non r3, p _ _ _ _ _ q3 ((e.trans e2).trans e3) R3 rfl⟩, ex.ext (e.trans e2)⟩
theorem d_make (M : Mk X.K C f) (F : FnG X.prog X.w X.K X.mg X.base k f fd ps (liftSp X.K sp)) (hr : Room (k + 1) X.A) (hgd : X.A.guards = some []) (hm : X.mg x = some (.ref C)) (hb : Binds X.K fd ps []) (tk : Takes X W)
    (ha : DAp X W (e :: es) t) (hg : Gl X x := by rfl) (hdb : (x == ("__debug__" : Str)) = false := by decide) (he : starEach (e :: es) X.env = (false, eval e X.env) :: starEach es X.env := by rfl) (hpl : (backTo pos (starEach es X.env)).any (·.1) = false := by rfl) :
    DEp X W (.Call (.Name x p) (e :: es) [] pos) (dMake C sp t) := by
  refine ⟨fun pins s σ H Q I h => ?_⟩
  refine wpAny_Call_Name_kw (ld_glob I hg hm ?_ hdb)
  refine PySem.W.callWith_K (h₀ := X.base) I.ok.mod.kin M.kp (thn (ha.run pos pins s σ H _ I (lift_mk h)) fun us s1 ⟨vs, H1, I1, r, q⟩ => ⟨I1.kIn, ?_⟩) he hpl
  have q' := q (s1.heap.objs.size + 1) s1.heap.objs.size (I1.hok.fresh (Nat.le_succ _)) (I1.hok.fresh (Nat.le_refl _)) (Nat.ne_of_lt (Nat.lt_succ_self _))
  have hl : us.length + 1 = ps.length := by
    rw [← F.len _ _ _ _ q', List.length_cons, r.length]
  have e0 : ∀ l : List V, pick (List.range (l.length)) l = l := fun l => by
    unfold pick
    induction l with
    | nil => rfl
    | cons a l ih =>
      rw [List.length_cons, List.range_succ_eq_map, List.filterMap_cons, List.filterMap_map]
      show a :: _ = _
      exact congrArg _ ih
  have key := run_mkG (Q := Q) (ks := []) (ws := []) (us := us) (vs := vs) (zs := []) (perm := List.range (vs.length + 1)) (cs := fun q => .ref q :: us) (bs := []) M F hr hgd tk (fun s' q' hk => by
    have b := hb s' (.ref q' :: us) hk (by rw [List.append_nil]; exact hl)
    rw [List.append_nil] at b
    exact b) I1 (fun q' => by
      have := e0 (.ref q' :: (vs ++ []))
      rw [List.append_nil] at this ⊢
      rw [List.length_cons] at this
      rw [this]
      exact .cons rfl r) (fun q' dx n1 n2 n3 => by
      have := e0 (.ref q' :: (vs ++ []))
      rw [List.append_nil] at this ⊢
      rw [List.length_cons] at this
      rw [this]
      exact q q' dx n1 n2 n3)
  exact key
theorem lift_mkK {K : PySem.W.Frag} {σ : L2.St} {H : Hp} {Q : VK} (z : liftE K W (dMakeK C sp n perm tk) σ H Q) :
    liftA K W tk σ H fun vs H1 => vs.length = n ∧ ∀ q dx, H1 q = none → H1 dx = none → dx ≠ q → liftSp K sp (pick perm (.ref q :: vs)) (upd (upd H1 dx (.own q)) q (.ins C dx [])) (fun v H2 => v = .non ∧ Q (.ref q) H2) (WE W σ) := by
  obtain ⟨τ, h, N, Q0, X0, S, R, z, p, ex⟩ := z
  refine ⟨τ, h, N, _, X0, S, R, z, fun ds h1 N1 vs H1 q e R1 rs => ⟨rs.length.trans q.1, fun a dx na nd ne => ?_⟩, ex⟩
  obtain ⟨N2, R2, e2⟩ := new_ins (C := C) R1 na nd ne
  exact ⟨_, _, N2, _, X0, RepL.pick (ds := .ref a :: ds) (vs := .ref a :: vs) (.cons rfl (RepL.ext R1.un e2 _ _ rs)) perm, R2, q.2 a (R1.none na), fun d h3 N3 v H3 q3 e3 R3 r3 => by
    obtain ⟨rfl, q3⟩ := q3
    exact ⟨rep_non r3, p _ _ _ _ _ q3 ((e.trans e2).trans e3) R3 rfl⟩, ex.ext (e.trans e2)⟩
theorem d_makeK (M : Mk X.K C f) (F : FnG X.prog X.w X.K X.mg X.base k f fd ps (liftSp X.K sp)) (hr : Room (k + 1) X.A) (hgd : X.A.guards = some []) (hm : X.mg x = some (.ref C)) (hb : Bd X.K fd ps 1 ks perm) (tk' : Takes X W)
    (hkw : DKp X W kws tk) (hg : Gl X x := by rfl) (hall : (backToKw pos (keywordEach kws X.env)).all (·.1.isSome) = true := by rfl) (hks : (backToKw pos (keywordEach kws X.env)).filterMap (·.1) = ks := by rfl) (hdb : (x == ("__debug__" : Str)) = false := by decide)
    (hpl : ((backTo pos (starEach [] X.env)).any (·.1) || (backToKw pos (keywordEach kws X.env)).any (·.1.isNone)) = false := by rfl) :
    DEp X W (.Call (.Name x p) [] kws pos) (dMakeK C sp ks.length perm tk) := by
  refine ⟨fun pins s σ H Q I h => ?_⟩
  refine wpAny_Call_Name_kw (ld_glob I hg hm ?_ hdb)
  refine PySem.W.callWith_KW0 (h₀ := X.base) I.ok.mod.kin M.kp hall ?_ hpl
  refine thn (hkw.run pos pins s σ H _ I (lift_mkK h)) fun ws s2 ⟨zs, H2, I2, rz, l2, q2⟩ => ⟨I2.kIn, ?_⟩
  rw [hks]
  exact run_mkG (Q := Q) (us := []) (vs := []) (zs := zs) (bs := []) (cs := fun q => pick perm (.ref q :: ws)) M F hr hgd tk' (fun s' q' hk => hb.to s' [.ref q'] ws hk rfl (rz.length.symm.trans l2)) I2 (fun q' => Vals.pick (vs := .ref q' :: zs) (us := .ref q' :: ws) (.cons rfl rz) perm) q2
/-! ### properties -/
theorem d_prop {g pa : Addr} {nm : Str} (c : Cls X.K C) (hp : PropOf X.K C nm pa g) (F : FnG X.prog X.w X.K X.mg X.base k g fd ps (liftSp X.K sp)) (hr : Room (k + 1) X.A) (hgd : X.A.guards = some []) (hb : Binds X.K fd ps []) (ho : DEp X W o to)
    (hab : attributeBase o nm X.env (eval o X.env) = eval o X.env := by rfl) : DEp X W (.Attribute o nm pos) (dProp C sp to) := by
  refine ⟨fun pins s σ H Q I h => ?_⟩
  obtain ⟨τ, h0, N, Q0, X0, S, R, z, p, ex⟩ := h
  have hl : liftE X.K W to σ H fun x H1 => ∃ a dx gs, x = .ref a ∧ H1 a = some (.ins C dx gs) ∧ liftSp X.K sp [.ref a] H1 Q (fun _ _ _ => False) := by
    refine ⟨τ, h0, N, _, X0, S, R, z, fun x h1 N1 v H1 q e R1 rx => ?_, ex⟩
    obtain ⟨a, fs, rfl, ea, q⟩ := q
    cases rep_ref rx
    obtain ⟨dx, gs, eH, fr⟩ := R1.at_ a _ ea
    exact ⟨a, dx, gs, rfl, eH, [.ref a], h1, N1, Q0, _, .cons rfl .nil, R1, q, p.ext e, fun _ _ _ _ _ _ z => z.elim⟩
  refine attr_of hab (thn (ho.run pins s σ H _ I hl) fun u s1 ⟨x, H1, I1, rx, a, dx, fs, ex, ea, q⟩ => ?_)
  cases ex
  cases (show u = Value.ref a from rx)
  obtain ⟨mA, O, _, _, _, _⟩ := ins_get I1.hok ea
  obtain ⟨od, J, _⟩ := O.look
  obtain ⟨rest, hrec⟩ := hp.rec_
  have J1 := I1.tok (s1.toks + 1)
  have hl : [Value.ref a].length = ps.length := (F.len _ _ _ _ q)
  have hc : (PySem.W.clsIn X.K C).isSome = true := by
    obtain ⟨cd, hc, _⟩ := PySem.W.any_some c.hd
    rw [hc]; rfl
  have b := hb { s1 with toks := s1.toks + 1 } [.ref a] J1.kIn (by rw [List.append_nil]; exact hl)
  rw [List.append_nil] at b
  refine PySem.W.get_bind I1.kIn J (PySem.W.plainGet_of (c.get nm)).1 (PySem.W.findObj_data hc hp.at_ hp.get hp.tak) (PySem.W.plainGet_of (c.get nm)).2 (wpAny_call (PySem.W.prop_get (s := { s1 with toks := s1.toks + 1 }) I1.kIn hrec ?_))
  refine codeAny_mono (F.run X.A.in1 X.stack { s1 with toks := s1.toks + 1 } H1 ⟨[.ref a], []⟩ [.ref a] [.ref a] Q (fun _ _ _ => False) hr.in1 hgd J1.env0.in1 b (.cons rfl .nil) q) fun r s' hq => ?_
  match r, hq with
  | .error er, hq =>
    obtain ⟨_, _, _, _, _, _, _, _, _, _, _, _, z⟩ := hq
    exact z.elim
  | .ok (.ret u), hq =>
    obtain ⟨v, H', I3, rv, q3⟩ := J1.after hq
    show wpAny _ _ (handedOut u) _ _ _
    rw [PySem.W.handedOut_of (handed_of rv)]
    exact wpAny_pure ⟨v, H', I3, rv, q3⟩
  | .ok .next, hq => exact False.elim hq
  | .ok .brk, hq => exact False.elim hq
  | .ok .cont, hq => exact False.elim hq
end
end DL

/-! D15: lists that hold tracked lists, seen deep: repr and ==. -/
namespace DL
open PySem PySem.Spec L2 PyProof.Rows

def dv : Nat → DH → D → D
  | n + 1, h, .ref a => match h a with
    | some (.lst ds) => .lst (ds.map (dv n h))
    | _ => .ref a
  | n + 1, h, .lst ds => .lst (ds.map (dv n h))
  | n + 1, h, .tup ds => .tup (ds.map (dv n h))
  | _, _, d => d
section
variable {K : PySem.W.Frag} {H : Hp} {h : DH} {N : NS}
theorem dv_dp (R : HRep K H h N) : ∀ (n m : Nat) (d : D) (v : V), Rep K H N d v → dn m (dv n h d) = true → Dp K H v (py (dv n h d)) := by
  intro n
  induction n with
  | zero =>
    intro m d v r hd
    have e : dv 0 h d = d := by unfold dv; rfl
    rw [e] at hd ⊢
    exact rep_dp m d v hd r
  | succ n ih =>
    have all : ∀ (m : Nat) (xs : List D) (vs : List V), (xs.map (dv n h)).all (dn m) = true → RepL K H N xs vs → DpAll K H vs (pyL (xs.map (dv n h))) := by
      intro m xs
      induction xs with
      | nil => intro vs _ r; cases (show vs = _ from r); exact .nil
      | cons x xs ih2 =>
        intro vs hd r
        rw [List.map_cons, List.all_cons, Bool.and_eq_true] at hd
        obtain ⟨v, t, rfl, r1, r2⟩ := r
        exact .cons (ih m x v r1 hd.1) (ih2 t hd.2 r2)
    intro m d v r hd
    cases d with
    | ref a =>
      cases (show v = _ from r)
      cases e : h a with
      | none =>
        rw [show dv (n + 1) h (.ref a) = .ref a by simp only [dv, e]] at hd
        cases m <;> cases hd
      | some o =>
        cases o with
        | ins C fs =>
          rw [show dv (n + 1) h (.ref a) = .ref a by simp only [dv, e]] at hd
          cases m <;> cases hd
        | lst ds =>
          have ev : dv (n + 1) h (.ref a) = .lst (ds.map (dv n h)) := by simp only [dv, e]
          rw [ev] at hd ⊢
          obtain ⟨xs, q, rs⟩ := R.at_ a _ e
          cases m with
          | zero => cases hd
          | succ m => exact .lst (.of q) (all m ds xs hd rs)
    | tup ds =>
      have ev : dv (n + 1) h (.tup ds) = .tup (ds.map (dv n h)) := rfl
      rw [ev] at hd ⊢
      obtain ⟨a, vs, rfl, f, r⟩ := r
      cases m with
      | zero => cases hd
      | succ m => exact .tup f.sq (all m ds vs hd r)
    | lst ds =>
      have ev : dv (n + 1) h (.lst ds) = .lst (ds.map (dv n h)) := rfl
      rw [ev] at hd ⊢
      obtain ⟨a, vs, rfl, f, r⟩ := r
      cases m with
      | zero => cases hd
      | succ m => exact .lst (.inl f.2) (all m ds vs hd r)
    | _ => exact rep_dp m _ _ hd r
theorem dv_lst (R : HRep K H h N) {n : Nat} {x : D} {v : V} {xs : List D} (r : Rep K H N x v) (e : dv n h x = .lst xs) : ∃ a, v = .ref a := by
  cases x with
  | ref a => exact ⟨a, r⟩
  | lst ds => obtain ⟨a, vs, rfl, _⟩ := r; exact ⟨a, rfl⟩
  | tup ds => obtain ⟨a, vs, rfl, _⟩ := r; exact ⟨a, rfl⟩
  | _ => cases n <;> cases e
end
/-- repr, seen deep -/
def dReprV (vs : List D) (h : DH) (Q : DK) : Prop := match vs with
  | [x] => rn 12 (dv 3 h x) = true ∧ wt (dv 3 h x) ≤ 16000000 ∧ Q (.str (shownD (dv 3 h x))) h
  | _ => False
/-- == of lists that hold lists -/
def dEqV (x y : D) (h : DH) (Q : DK) : Prop := dn 12 (dv 3 h x) = true ∧ dn 12 (dv 3 h y) = true ∧ Q (.bl (eqvD (dv 3 h x) (dv 3 h y))) h
def dNeV (x y : D) (h : DH) (Q : DK) : Prop := dn 12 (dv 3 h x) = true ∧ dn 12 (dv 3 h y) = true ∧ Q (.bl (!eqvD (dv 3 h x) (dv 3 h y))) h
section
variable {X : Cx}
theorem cd_reprV (hg : X.A.guards = some []) (hu : X.A.units + 64 < cLine) : CallD X (.builtin "repr") dReprV := by
  intro pins s σ H vs us Q I rv ⟨xs, h, N, Q0, rx, R, q, p⟩
  unfold dReprV at q
  split at q
  · rename_i x
    obtain ⟨v, rfl, r1⟩ := repl1 rfl rx
    obtain ⟨hr, hw, q⟩ := q
    have hd := rn_dn _ _ hr
    have hz : (sizeLine : Nat) = 16777216 := sizeLine_eq
    obtain ⟨s1, s2, s3⟩ := rn_show _ _ hr
    have dp := dv_dp R 3 12 x v r1 hd
    obtain ⟨u, rfl, ru⟩ : ∃ u, us = [u] ∧ RelV v u := by
      cases rv with
      | cons a b => cases b; exact ⟨_, rfl, a⟩
    obtain ⟨as, rd⟩ := Dp.reads I _ v u dp ru
    have hnd := PyData.hasDict_of_canLay _ (dn_lay _ _ hd).1
    have fin : ∀ (h' : Heap) (t : Tok) (tk : Nat), (∀ b o, s.heap.get? b = some o → h'.get? b = some o) → EP X pins σ Q (.str (shownD (dv 3 h x)) t) { s with heap := h', toks := tk } := fun h' t tk k =>
      ⟨.str (shownD (dv 3 h x)), H, I.kept k, ⟨t, rfl⟩, post_at p R q rfl⟩
    have obj : ∀ a : Addr, v = .ref a → wpAny (model X.prog X.w) X.A (call (.builtin "repr") [u]) (EP X pins σ Q) X.xe s := fun a ev => by
      subst ev
      cases ru
      refine repr_of_reads' rd s1 (fun e => by rw [hnd] at e; cases e) hg (by omega) (fun _ _ e => e) (fun h' t tk k => fin h' t tk k) ?_
      have e : (PyData.shown (py (dv 3 h x))).length ≤ wt (dv 3 h x) := s2
      omega
    cases x with
    | non => cases rep_non r1; cases ru; exact PySem.P.repr_of_none (fin s.heap _ _ fun _ _ e => e)
    | bl b => cases rep_bl r1; cases ru; exact PySem.P.repr_of_bool (fin s.heap _ _ fun _ _ e => e)
    | int i =>
      cases rep_int r1
      obtain ⟨t, rfl⟩ := ru
      exact PySem.P.repr_of_int (of_decide_eq_true hr) (fin s.heap _ _ fun _ _ e => e)
    | str z =>
      cases rep_str r1
      obtain ⟨t, rfl⟩ := ru
      have : (reprText z).length ≤ sizeLine := by
        have e : (reprText z).length ≤ wt (.str z) := s2
        have hw' : wt (.str z) ≤ 16000000 := hw
        omega
      exact PySem.P.repr_of_str (fin s.heap _ _ fun _ _ e => e) this
    | tup zs => obtain ⟨a, ws, ev, _⟩ := r1; exact obj a ev
    | lst zs => obtain ⟨a, ws, ev, _⟩ := r1; exact obj a ev
    | ref a => exact obj a r1
    | dct => exact absurd (show false = true from hr) Bool.false_ne_true
    | scr _ => exact absurd (show false = true from hr) Bool.false_ne_true
  · exact q.elim
theorem od_eqV (hu : X.A.units + 64 < cLine) : OpD X (compareOp .Eq) dEqV := by
  intro pins s σ H v u vv uu Q I rv ru ⟨x, y, h, N, Q0, rx, ry, R, ⟨hx, hy, q⟩, p⟩
  exact op_eqD hu pins s σ H v u vv uu Q I rv ru ⟨_, _, dv_dp R 3 12 x v rx hx, dv_dp R 3 12 y u ry hy, dn_shaped hx (by decide), dn_shaped hy (by decide), post_at p R q rfl⟩
theorem od_neV (hu : X.A.units + 64 < cLine) : OpD X (compareOp .NotEq) dNeV := by
  intro pins s σ H v u vv uu Q I rv ru ⟨x, y, h, N, Q0, rx, ry, R, ⟨hx, hy, q⟩, p⟩
  exact op_neD hu pins s σ H v u vv uu Q I rv ru ⟨_, _, dv_dp R 3 12 x v rx hx, dv_dp R 3 12 y u ry hy, dn_shaped hx (by decide), dn_shaped hy (by decide), post_at p R q rfl⟩
end
end DL

/-! D16: len of an own object. -/
namespace DL
open PySem PySem.Spec L2 PyProof.Rows PySem.Calls

def dLenO (C : Addr) (sp : DSp) (vs : List D) (h : DH) (Q : DK) : Prop := ∃ a fs, vs = [.ref a] ∧ h a = some (.ins C fs) ∧ sp [.ref a] h (fun d h' => ∃ n : Nat, d = .int (n : Nat) ∧ n ≤ 1000000000 ∧ Q (.int (n : Nat)) h') (fun _ _ _ => False)
section
variable {X : Cx} {k : Nat} {f C : Addr} {fd : FuncData} {ps : List Str} {sp : DSp}
theorem cd_lenO (hs : PySem.W.findIn X.K (.ref C) "__len__" = some (some (.ref f))) (hf : PySem.W.isFn X.K (.ref f) = true) (F : FnG X.prog X.w X.K X.mg X.base k f fd ps (liftSp X.K sp)) (hr : Room (k + 1) X.A) (hgd : X.A.guards = some []) (hb : Binds X.K fd ps []) :
    CallD X (.builtin "len") (dLenO C sp) := by
  intro pins s σ H vs us Q I rv ⟨xs, h, N, Q0, rx, R, q, p⟩
  obtain ⟨a, fs, rfl, ea, q⟩ := q
  obtain ⟨v, rfl, r1⟩ := repl1 rfl rx
  cases rep_ref r1
  obtain ⟨u, rfl, ru⟩ : ∃ u, us = [u] ∧ RelV (V.ref a) u := by
    cases rv with
    | cons a b => cases b; exact ⟨_, rfl, a⟩
  cases (show u = Value.ref a from ru)
  obtain ⟨dx, gs, eH, fr⟩ := R.at_ a _ ea
  obtain ⟨mA, O, _, _, _, _⟩ := ins_get I.hok eH
  obtain ⟨od, J, _⟩ := O.look
  have q' : liftSp X.K sp [.ref a] H (fun v H' => ∃ n : Nat, v = .int (n : Nat) ∧ n ≤ 1000000000 ∧ Q (.int (n : Nat)) H') (fun _ _ _ => False) :=
    ⟨[.ref a], h, N, _, _, .cons rfl .nil, R, q, fun d h' N' v H' q e R' r => by
      obtain ⟨n, rfl, hn, q⟩ := q
      exact ⟨n, rep_int r, hn, p _ _ _ _ _ q e R' rfl⟩, fun _ _ _ _ _ _ z => z.elim⟩
  have hl : [Value.ref a].length = ps.length := F.len _ _ _ _ q'
  have b := hb s [.ref a] I.kIn (by rw [List.append_nil]; exact hl)
  rw [List.append_nil] at b
  refine call_function_entry kind_len plain_len entry_len (args_len1 _) ?_
  unfold Builtin.«len»
  refine wpAny_bind (m := oneArg "len" _) (wpAny_pure ?_)
  refine wpAny_bind (m := callSpecial? (.ref a) (Str.ofString "__len__")) (PySem.W.special_fn I.kIn J hs (beq_iff_eq.mp hf) (wpAny_call ?_))
  refine codeAny_mono (F.run _ X.stack s H ⟨[.ref a], []⟩ [.ref a] [.ref a] _ (fun _ _ _ => False) hr.in1 hgd I.env0.in1 b (.cons rfl .nil) q') fun y s' hy => ?_
  match y, hy with
  | .error er, hy =>
    obtain ⟨_, _, _, _, _, _, _, _, _, _, _, _, z⟩ := hy
    exact z.elim
  | .ok .next, hy => exact False.elim hy
  | .ok .brk, hy => exact False.elim hy
  | .ok .cont, hy => exact False.elim hy
  | .ok (.ret u), hy =>
    obtain ⟨v, H', I3, rv, n, rfl, hn, q3⟩ := I.after hy
    obtain ⟨t, rfl⟩ := rv
    refine wpAny_bind (wpAny_holding (wpAny_pure ?_))
    refine wpAny_bind (wpAny_letGo ?_)
    show wpAny _ _ (if ((n : Nat) : Int) < 0 then _ else _) _ _ _
    rw [if_neg (by omega)]
    show wpAny _ _ (if ((n : Nat) : Int) ≥ 2 ^ 63 then _ else _) _ _ _
    rw [if_neg (by omega)]
    refine wpAny_bind (wpAny_mkInt (wpAny_pure ?_))
    exact ⟨_, rfl, V.int (n : Nat), H', I3.tok _, ⟨_, rfl⟩, q3⟩
end
end DL

/-! D17: starred displays; three names at once. -/
namespace DL
open PySem PySem.Spec L2 PyProof.Rows

def dStar (t : DE) (r : DA) : DA := fun τ h Q X => t τ h (fun x h1 => ∃ xs, (view h1 x = .tup xs ∨ view h1 x = .lst xs) ∧ r τ h1 (fun ys h2 => Q (xs ++ ys) h2) X) X
def dPar3 (i j l : Nat) (ta tb tc : DE) : DS := fun D τ h => ta τ h (fun x h1 => tb τ h1 (fun y h2 => tc τ h2 (fun z h3 => D.nx (((τ.set i (some x)).set j (some y)).set l (some z)) h3) (fun C fs h2 => D.ex C fs τ h2)) (fun C fs h2 => D.ex C fs τ h2)) (fun C fs h1 => D.ex C fs τ h1)
section
variable {X : Cx} {W : WX} {e : Expr} {es : List Expr} {te : DE} {t : DA} {p pos : Pos}
theorem view_seq {K : PySem.W.Frag} {H : Hp} {h : DH} {N : NS} (R : HRep K H h N) {x : D} {v : V} (r : Rep K H N x v) {xs : List D} (e : view h x = .tup xs ∨ view h x = .lst xs) : ∃ a vs, v = .ref a ∧ (SqT K H a vs ∨ SqL K H a vs) ∧ RepL K H N xs vs := by
  rcases e with e | e
  · cases view_other e (fun _ z => nomatch z) (fun _ z => nomatch z)
    obtain ⟨a, vs, rfl, f, rs⟩ := r
    exact ⟨a, vs, rfl, .inl f.sq, rs⟩
  · obtain ⟨a, vs, rfl, f, rs⟩ := view_lst R r e
    exact ⟨a, vs, rfl, .inr (.inl f), rs⟩
theorem d_star (he : DEp X W e te) (hr : DAp X W es t) (hs : starEach (.Starred e p :: es) X.env = (true, eval e X.env) :: starEach es X.env := by rfl) : DAp X W (.Starred e p :: es) (dStar te t) :=
  PA.imp (StX.pa_star he hr hs) fun σ H Q ⟨τ, h, N, Q0, X0, S, R, z, p, ex⟩ =>
    ⟨τ, h, N, _, X0, S, R, z, fun x h1 N1 v H1 q e R1 rx => by
      obtain ⟨xs, ev, q⟩ := q
      obtain ⟨a, vs, rfl, sq, rs⟩ := view_seq R1 rx ev
      exact ⟨a, vs, rfl, sq, τ, h1, N1, _, X0, S.ext R.un e, R1, q, fun ys h2 N2 ws H2 q2 e2 R2 r2 => p (xs ++ ys) h2 N2 (vs ++ ws) H2 q2 (e.trans e2) R2 ((RepL.ext R1.un e2 _ _ rs).append r2), ex.ext e⟩, ex⟩
theorem ds_par3 {i j l : Nat} {x y z : Str} {a b c : Expr} {ta tb tc : DE} {px py pz pt : Pos} {kt k2 pt2} (hc : X.calm = true) (hN : X.N.Nodup) (ha : DEp X W a ta) (hb : DEp X W b tb) (hd : DEp X W c tc) (hi : X.N[i]? = some x := by rfl) (hj : X.N[j]? = some y := by rfl) (hl : X.N[l]? = some z := by rfl)
    (hij : i ≠ j := by decide) (hil : i ≠ l := by decide) (hjl : j ≠ l := by decide)
    (hx : X.env.scope.names.lookup x = some .local := by rfl) (hy : X.env.scope.names.lookup y = some .local := by rfl) (hz : X.env.scope.names.lookup z = some .local := by rfl)
    (hs1 : starEach [a, b, c] X.env = (false, eval a X.env) :: starEach [b, c] X.env := by rfl) (hs2 : starEach [b, c] X.env = (false, eval b X.env) :: starEach [c] X.env := by rfl) (hs3 : starEach [c] X.env = (false, eval c X.env) :: starEach [] X.env := by rfl)
    (hw : swappedStores [.Tuple [.Name x px, .Name y py, .Name z pz] kt pt] (.Tuple [a, b, c] k2 pt2) X.env = pure (some [x, y, z]) := by rfl)
    (hs : swapsWithSole [.Tuple [.Name x px, .Name y py, .Name z pz] kt pt] (.Tuple [a, b, c] k2 pt2) pos.line X.env = pure false := by rfl) :
    DSp' X W (.Assign [.Tuple [.Name x px, .Name y py, .Name z pz] kt pt] (.Tuple [a, b, c] k2 pt2) pos) (dPar3 i j l ta tb tc) :=
  PS.imp (ps_par3 hc hN hi hj hl hij hil hjl hx hy hz (pa_cons ha (pa_cons hb (pa_cons hd pa_nil hs3) hs2) hs1) hw hs) fun D σ H ⟨τ, h, N, D0, S, R, z, U⟩ =>
    ⟨τ, h, N, _, _, S, R, z, fun d h1 N1 v H1 q e R1 r => ⟨τ, h1, N1, _, _, S.ext R.un e, R1, q, fun d2 h2 N2 v2 H2 q2 e2 R2 r2 => ⟨τ, h2, N2, _, _, S.ext R.un (e.trans e2), R2, q2, fun d3 h3 N3 v3 H3 q3 e3 R3 r3 =>
      ⟨v, v2, v3, rfl, U.nx _ _ _ _ _ q3 ((e.trans e2).trans e3) ((((S.ext R.un ((e.trans e2).trans e3)).set (Rep.ext R1.un (e2.trans e3) _ _ r)).set (Rep.ext R2.un e3 _ _ r2)).set r3) R3⟩,
        (U.ext (e.trans e2)).exc (S.ext R.un (e.trans e2)) R2.un⟩, (U.ext e).exc (S.ext R.un e) R1.un⟩, U.exc S R.un⟩
end
section
variable {τ : DSt} {h : DH} {Q : List D → DH → Prop} {X : DX} {DD : DEnds} {i j l : Nat} {ta tb tc te : DE} {t : DA}
theorem e_dStar : dStar te t τ h Q X = te τ h (fun x h1 => ∃ xs, (view h1 x = .tup xs ∨ view h1 x = .lst xs) ∧ t τ h1 (fun ys h2 => Q (xs ++ ys) h2) X) X := rfl
theorem e_dPar3 : dPar3 i j l ta tb tc DD τ h = ta τ h (fun x h1 => tb τ h1 (fun y h2 => tc τ h2 (fun z h3 => DD.nx (((τ.set i (some x)).set j (some y)).set l (some z)) h3) (fun C fs h2 => DD.ex C fs τ h2)) (fun C fs h2 => DD.ex C fs τ h2)) (fun C fs h1 => DD.ex C fs τ h1) := rfl
end
end DL

namespace DL
open PySem L2
local macro_rules | `(tactic| walk_at "ev") => `(tactic| try simp (disch := (first | assumption | exact dupd_same | (refine (dupd_ne ?_).trans ?_; (first | assumption | (apply Ne.symm; assumption)); first | assumption | exact dupd_same | (refine (dupd_ne ?_).trans ?_; (first | assumption | (apply Ne.symm; assumption)); first | assumption | exact dupd_same)))) only [v0, v1, v2, v3, v4, v5, v6, v7, v8, v9, v10, v11, v12, v13, v14, v15, v16, w0, w1, w2, w3, w4, w5, w6, w7, w8, w9, w10, w11, w12, w13, w14, w15, w16, e_dC, e_dOp, e_dUn, e_dTest, e_dAnd, e_dOr, e_dNot, e_dAndV, e_dOrV, e_dNotV, e_dIfE, e_dChain, e_dNil, e_dCons, e_dTup, e_dLst, e_dLstM, e_dCB, e_dBM, e_dFrz, e_dNoPart, e_dPart, e_dSl, e_dIsi, e_iSeqD, e_iRange1, e_iRange2, e_iEnumD, e_iZipD, e_dNext, e_dSeq, e_dAsg, e_dAsgT, e_dPar, e_dIf, e_dRet, e_dRetN, e_dDrop, e_dBrk, e_dCnt, e_dAug, e_dSetI, e_dFor, e_dWhile, e_dYes, e_dLc, e_dLcM, e_dCall, e_dCallK, e_dNeg, e_dRaise, op_Lt, op_Le, op_Gt, op_Ge, op_IsN, op_IsNN, op_Sub, op_Add, op_AddS, op_AddT, op_AddL, op_Mul, op_MulT, op_MulL, op_Mod, op_Fdiv, op_InS, op_NotInS, cb_lenT, cb_lenL, cb_lenS, cb_lenX, cb_all, cb_any, cb_tupleL, cb_tupleT, cb_max, cb_min, cb_abs, cb_int, cb_intB, cb_strI, me_joinL, me_joinT, me_split, ip_add, ip_sub, ip_mul, ip_div, ix_ref0, ix_ref1, ix_ref2, me_append, me_popAt, me_pop0, me_insert, me_clear, me_reverse, cb_lenR, cb_tupleR, me_joinR, vw_ref, dT_ref, pow_18, pow_38, pow_40, pow_41, pow_6, eq_str, ne_str, eq_int, ne_int, ix_tup0, ix_lst0, sl_from, sl_to, sl_fromL, sl_toL, vw_str, vw_int, vw_bl, vw_non, vw_dct, vw_tup, vw_lst, vw_scr, ty_str, ty_int, ty_bl, ty_non, ty_tup, ty_lst, ty_dct, it_str, it_tup, it_lst, bT_nm, isN_non, isN_str, isN_int, isN_bl, isN_tup, isN_lst, isN_dct, dT_str, dT_lst, en_rt, en_nx, en_ex, t_imp, f_imp, tf_eq, ft_eq, dwipe, true_and, and_true, Bool.not_true, Bool.not_false, Bool.not_eq_true', Bool.not_eq_false', decide_eq_true_eq, decide_eq_false_iff_not, nq_NoneType, is_NoneType_int, is_NoneType_bool, is_NoneType_str, is_NoneType_tuple, is_NoneType_list, is_NoneType_dict, nq_bool, is_bool_int, is_bool_bool, is_bool_str, is_bool_tuple, is_bool_list, is_bool_dict, nq_int, is_int_int, is_int_bool, is_int_str, is_int_tuple, is_int_list, is_int_dict, nq_str, is_str_int, is_str_bool, is_str_str, is_str_tuple, is_str_list, is_str_dict, nq_tuple, is_tuple_int, is_tuple_bool, is_tuple_str, is_tuple_tuple, is_tuple_list, is_tuple_dict, nq_list, is_list_int, is_list_bool, is_list_str, is_list_tuple, is_list_list, is_list_dict, nq_dict, is_dict_int, is_dict_bool, is_dict_str, is_dict_tuple, is_dict_list, is_dict_dict])
/-! R1: forms — cells and printed rows -/
mutual
def nr : D → Bool
  | .ref _ => false
  | .scr _ => false
  | .str s => decide (s.length ≤ 16000000)
  | .tup xs => decide (xs.length ≤ 16000000) && nrL xs
  | .lst xs => decide (xs.length ≤ 16000000) && nrL xs
  | _ => true
def nrL : List D → Bool
  | [] => true
  | x :: xs => nr x && nrL xs
end
theorem nrL_mem : ∀ {xs : List D}, nrL xs = true → ∀ x ∈ xs, nr x = true
  | x :: xs, h, y, hy => by
    simp only [nrL, Bool.and_eq_true] at h
    rcases List.mem_cons.mp hy with rfl | hy
    · exact h.1
    · exact nrL_mem h.2 y hy
theorem nrL_of : ∀ {xs : List D}, (∀ x ∈ xs, nr x = true) → nrL xs = true
  | [], _ => rfl
  | x :: xs, h => by
    simp only [nrL, Bool.and_eq_true]
    exact ⟨h x (by simp), nrL_of fun y hy => h y (by simp [hy])⟩
theorem nr_tup {xs : List D} (h : nr (.tup xs) = true) : xs.length ≤ 16000000 ∧ ∀ x ∈ xs, nr x = true := by
  simp only [nr, Bool.and_eq_true, decide_eq_true_eq] at h
  exact ⟨h.1, nrL_mem h.2⟩
theorem nr_lst {xs : List D} (h : nr (.lst xs) = true) : xs.length ≤ 16000000 ∧ ∀ x ∈ xs, nr x = true := by
  simp only [nr, Bool.and_eq_true, decide_eq_true_eq] at h
  exact ⟨h.1, nrL_mem h.2⟩
theorem nr_str {s : Str} (h : nr (.str s) = true) : s.length ≤ 16000000 := by
  simp only [nr, decide_eq_true_eq] at h
  exact h
theorem bT1 {h : DH} {Q : D → DH → Prop} {X : DX} {d : D} (q : Q d h) : (dEnd Q X).rt d h := dend0 q

def signsT : Str := "abcdefghijklmnopqrstuvwxyz0123456789"
def okSign (c : Nat) : Bool := decide (c ∈ signsT.cps.toList)
def okCell (s : Str) : Bool := decide (1 ≤ s.length ∧ s.length ≤ 8) && s.cps.toList.all okSign
def isCellD : D → Bool
  | .str s => okCell s
  | _ => false
def sp_is_cell : DSp := fun ds h Q _ => match ds with
  | [d] => nr d = true ∧ Q (.bl (isCellD d)) h
  | _ => False
def t_is_cell : DS :=
(dRet (dAndV (dIsi "str" (dVar 0)) (dAndV (dChain dLe dLe (dC (.int 1)) (dCB dLen (dCons (dVar 0) dNil)) (dC (.int 8))) (dCB dAll (dCons (dLc (iSeqD (dVar 0)) (.nm 1) dYes (dOp dInS (dVar 1) (dC (.str "abcdefghijklmnopqrstuvwxyz0123456789"))) [1]) dNil)))))
theorem rd_is_cell (ds : List D) (h : DH) (Q : DK) (X : DX) (z : sp_is_cell ds h Q X) : t_is_cell (dEnd Q X) (dstart ["value", "sign"] ds) h := by
  match ds, z with
  | [d], ⟨hv, q⟩ =>
    show t_is_cell (dEnd Q X) [some d, none] h
    unfold t_is_cell
    cases d with
    | str s =>
      have hl := nr_str hv
      walk_at "ev"
      refine ⟨Nat.le_trans hl (by decide), fun e1 => ⟨fun e2 => ⟨?_, ?_⟩, fun e2 => ?_⟩, fun e1 => ?_⟩
      · rw [List.length_map, Array.length_toList]; exact Nat.le_trans (show s.length ≤ 8 by omega) (by decide)
      · refine lc_map (fun c => D.str ⟨#[c]⟩) (fun c => .bl (okSign c)) s.cps.toList (fun c _ Q' q' => ?_) ?_
        · walk_at "ev"
          exact ⟨c, rfl, q'⟩
        · rw [show List.map (fun c => D.bl (okSign c)) s.cps.toList = (s.cps.toList.map okSign).map D.bl by rw [List.map_map]; rfl, bools_map]
          refine dend0 ?_
          have : (s.cps.toList.map okSign).all id = okCell s := by
            unfold okCell
            rw [List.all_map, decide_eq_true (by omega), Bool.true_and]
            rfl
          rw [this]
          exact q
      · refine dend0 ?_
        have : false = okCell s := by
          unfold okCell
          rw [decide_eq_false (by omega), Bool.false_and]
        rw [this]
        exact q
      · refine dend0 ?_
        have : false = okCell s := by
          unfold okCell
          rw [decide_eq_false (by omega), Bool.false_and]
        rw [this]
        exact q
    | ref a => cases hv
    | scr a => cases hv
    | _ => walk_at "ev"; exact dend0 q
/-- how many cells ahead are blank -/
def lead : List D → Nat
  | [] => 0
  | x :: xs => if isN x then lead xs + 1 else 0
theorem lead_le : ∀ xs : List D, lead xs ≤ xs.length
  | [] => Nat.le_refl 0
  | x :: xs => by
    unfold lead
    split
    · have := lead_le xs; simp only [List.length_cons]; omega
    · simp only [List.length_cons]; omega
/-- go on at k -/
theorem lead_at : ∀ (xs : List D) (k : Nat), k < lead xs → ∃ x, xs[k]? = some x ∧ isN x = true
  | x :: xs, k, h => by
    unfold lead at h
    split at h
    · cases k with
      | zero => exact ⟨x, rfl, by assumption⟩
      | succ k => exact lead_at xs k (by omega)
    · omega
theorem lead_stop : ∀ (xs : List D), lead xs < xs.length → ∃ x, xs[lead xs]? = some x ∧ isN x = false
  | x :: xs, h => by
    unfold lead at h ⊢
    split at h
    · rename_i hx
      rw [if_pos hx]
      exact lead_stop xs (by simp only [List.length_cons] at h; omega)
    · rename_i hx
      rw [if_neg hx]
      exact ⟨x, rfl, by simpa using hx⟩
def t_blanks_in : DS :=
(dSeq (dAsg (dC (.int 0)) 1)
  (dSeq (dWhile (dAnd (dTest (dOp dLt (dVar 1) (dCB dLen (dCons (dVar 0) dNil)))) (dTest (dOp dIsN (dOp dIx (dVar 0) (dVar 1)) (dC .non)))) (dAsg (dOp dAdd (dVar 1) (dC (.int 1))) 1))
  (dRet (dVar 1))))
/-- of a tuple or list -/
def sp_blanks_in : DSp := fun ds h Q _ => match ds with
  | [.tup xs] => Q (.int (lead xs : Nat)) h
  | [.lst xs] => Q (.int (lead xs : Nat)) h
  | _ => False
theorem rd_blanks_in (ds : List D) (h : DH) (Q : DK) (X : DX) (z : sp_blanks_in ds h Q X) : t_blanks_in (dEnd Q X) (dstart ["cells", "found"] ds) h := by
  have key : ∀ (d : D) (xs : List D), (d = .tup xs ∨ d = .lst xs) → Q (.int (lead xs : Nat)) h → t_blanks_in (dEnd Q X) [some d, none] h := by
    intro d xs hd q
    unfold t_blanks_in
    walk_at "ev"
    refine while_ind (fun τ h' => h' = h ∧ ∃ k : Nat, τ = [some d, some (.int k)] ∧ k ≤ lead xs) (fun τ _ => match τ with | [_, some (.int k)] => lead xs - k.toNat | _ => 0) ⟨rfl, 0, rfl, Nat.zero_le _⟩ ?_
    rintro τ h' ⟨rfl, k, rfl, hk⟩ D' T
    have hl := lead_le xs
    have stop : k = lead xs → ∃ h2, DSub h2 h' ∧ Q (.int (k : Nat)) h2 := fun e => by subst e; exact dend0 q
    have go : ∀ f : D → DH → DK → Prop, (∀ x (Q2 : DK), xs[k]? = some x → f (.int (k : Nat)) h' Q2 = Q2 x h') → ((k : Int) < xs.length → f (.int (k : Nat)) h' fun x h1 => (isN x = true → D'.nx [some d, some (D.int (↑k + 1))] h1) ∧ (isN x = false → ∃ h2, DSub h2 h1 ∧ Q (D.int ↑k) h2)) ∧ (¬ (k : Int) < xs.length → ∃ h2, DSub h2 h' ∧ Q (D.int ↑k) h2) := by
      intro f hf
      refine ⟨fun e1 => ?_, fun e1 => stop (by omega)⟩
      by_cases hk2 : k < lead xs
      · obtain ⟨x, ex, nx⟩ := lead_at xs k hk2
        rw [hf x _ ex]
        refine ⟨fun _ => T.nx _ _ ⟨⟨rfl, k + 1, rfl, hk2⟩, ?_⟩, fun z => (by rw [nx] at z; cases z)⟩
        show lead xs - ((k : Int) + 1).toNat < lead xs - (k : Int).toNat
        omega
      · have ek : k = lead xs := by omega
        obtain ⟨x, ex, nx⟩ := lead_stop xs (by omega)
        rw [← ek] at ex
        rw [hf x _ ex]
        exact ⟨fun z => (by rw [nx] at z; cases z), fun _ => stop ek⟩
    rcases hd with rfl | rfl <;> walk_at "ev"
    · exact go (dIx (.tup xs)) fun x Q2 e => ix_tup e
    · exact go (dIx (.lst xs)) fun x Q2 e => ix_lst e
  match ds, z with
  | [.tup xs], q => exact key _ xs (.inl rfl) q
  | [.lst xs], q => exact key _ xs (.inr rfl) q

/-! rows -/
def isRowD : D → Bool
  | .tup xs => decide (1 ≤ xs.length ∧ xs.length ≤ 6) && (xs.drop (lead xs)).all isCellD
  | _ => false
def sp_is_printed_row : DSp := fun ds h Q _ => match ds with
  | [d] => nr d = true ∧ Q (.bl (isRowD d)) h
  | _ => False
def t_is_printed_row : DS :=
(dSeq (dIf (dOr (dNot (dTest (dIsi "tuple" (dVar 0)))) (dNot (dTest (dChain dLe dLe (dC (.int 1)) (dCB dLen (dCons (dVar 0) dNil)) (dC (.int 6)))))) (dRet (dC (.bl false))) dNext)
  (dRet (dCB dAll (dCons (dLc (iSeqD (dSl dSlice (dVar 0) (dPart (dCall sp_blanks_in (dCons (dVar 0) dNil))) dNoPart)) (.nm 1) dYes (dCall sp_is_cell (dCons (dVar 1) dNil)) [1]) dNil))))
theorem rd_is_printed_row (ds : List D) (h : DH) (Q : DK) (X : DX) (z : sp_is_printed_row ds h Q X) : t_is_printed_row (dEnd Q X) (dstart ["value", "cell"] ds) h := by
  match ds, z with
  | [d], ⟨hv, q⟩ =>
    show t_is_printed_row (dEnd Q X) [some d, none] h
    unfold t_is_printed_row
    cases d with
    | tup xs =>
      obtain ⟨hl, hn⟩ := nr_tup hv
      walk_at "ev"
      have no : ¬ (1 ≤ xs.length ∧ xs.length ≤ 6) → ∃ h2, DSub h2 h ∧ Q (.bl false) h2 := fun hno => dend0 (by
        have : false = isRowD (.tup xs) := by
          show false = (decide _ && _)
          rw [decide_eq_false hno, Bool.false_and]
        rw [this]
        exact q)
      refine ⟨fun e1 => ⟨fun e2 => no (by omega), fun e2 => ?_⟩, fun e1 => no (by omega)⟩
      unfold sp_blanks_in
      walk_at "ev"
      refine ⟨?_, ?_⟩
      · rw [List.length_drop]; omega
      · have := lc_map (i := 1) (te := dCall sp_is_cell (dCons (dVar 1) dNil)) (τ := [some (.tup xs), none]) (h := h) (Q := fun ys h2 => match bools ys with | some bs => ∃ h2_1, DSub h2_1 h2 ∧ Q (.bl (bs.all id)) h2_1 | none => False) (fun d => d) (fun d => .bl (isCellD d)) (xs.drop (lead xs)) (fun d hd Q' q' => ?_) ?_
        · rw [List.map_id'] at this
          exact this
        · walk_at "ev"
          exact ⟨hn d (List.mem_of_mem_drop hd), q'⟩
        · rw [show List.map (fun d => D.bl (isCellD d)) (xs.drop (lead xs)) = ((xs.drop (lead xs)).map isCellD).map D.bl by rw [List.map_map]; rfl, bools_map]
          refine dend0 ?_
          have : ((xs.drop (lead xs)).map isCellD).all id = isRowD (.tup xs) := by
            show _ = (decide _ && _)
            rw [List.all_map, decide_eq_true (by omega), Bool.true_and]
            rfl
          rw [this]
          exact q
    | ref a => cases hv
    | scr a => cases hv
    | _ => walk_at "ev"; exact dend0 q
def lenD : D → Nat
  | .tup xs => xs.length
  | _ => 0
def wideAs (w : Nat) (d : D) : Bool := decide (lenD d = w)
def isRowsD : D → Bool
  | .tup xs => decide (1 ≤ xs.length ∧ xs.length ≤ 60) && (xs.all isRowD && xs.all (wideAs (match xs with | x :: _ => lenD x | [] => 0)))
  | _ => false
def sp_are_printed_rows : DSp := fun ds h Q _ => match ds with
  | [d] => nr d = true ∧ Q (.bl (isRowsD d)) h
  | _ => False
def t_are_printed_rows : DS :=
(dSeq (dIf (dOr (dNot (dTest (dIsi "tuple" (dVar 0)))) (dNot (dTest (dChain dLe dLe (dC (.int 1)) (dCB dLen (dCons (dVar 0) dNil)) (dC (.int 60)))))) (dRet (dC (.bl false))) dNext)
  (dRet (dAndV (dCB dAll (dCons (dLc (iSeqD (dVar 0)) (.nm 1) dYes (dCall sp_is_printed_row (dCons (dVar 1) dNil)) [1]) dNil)) (dCB dAll (dCons (dLc (iSeqD (dVar 0)) (.nm 1) dYes (dOp dEq (dCB dLen (dCons (dVar 1) dNil)) (dCB dLen (dCons (dOp dIx (dVar 0) (dC (.int 0))) dNil))) [1]) dNil)))))
theorem isRow_tup {d : D} (h : isRowD d = true) : ∃ xs, d = .tup xs ∧ 1 ≤ xs.length ∧ xs.length ≤ 6 := by
  cases d with
  | tup xs =>
    refine ⟨xs, rfl, ?_⟩
    simp only [isRowD, Bool.and_eq_true, decide_eq_true_eq] at h
    exact h.1
  | _ => cases h
theorem lc_mapI {i : Nat} {te : DE} {τ : DSt} {h : DH} {Q : List D → DH → Prop} (f : D → D) (xs : List D) (hx : ∀ x ∈ xs, ∀ Q' : DK, Q' (f x) h → te (τ.set i (some x)) h Q' noX) (q : Q (xs.map f) h) : lcGo (.nm i) dYes te τ xs h Q := by
  have := lc_map (i := i) (te := te) (τ := τ) (h := h) (Q := Q) (fun d => d) f xs hx q
  rw [List.map_id'] at this
  exact this
theorem bools_mapf (f : D → Bool) (xs : List D) : bools (xs.map fun d => .bl (f d)) = some (xs.map f) := by
  rw [show List.map (fun d => D.bl (f d)) xs = (xs.map f).map D.bl by rw [List.map_map]; rfl, bools_map]
theorem all_mapid (f : D → Bool) (xs : List D) : (xs.map f).all id = xs.all f := by rw [List.all_map]; rfl
theorem rd_are_printed_rows (ds : List D) (h : DH) (Q : DK) (X : DX) (z : sp_are_printed_rows ds h Q X) : t_are_printed_rows (dEnd Q X) (dstart ["value", "row"] ds) h := by
  match ds, z with
  | [d], ⟨hv, q⟩ =>
    show t_are_printed_rows (dEnd Q X) [some d, none] h
    unfold t_are_printed_rows
    cases d with
    | tup xs =>
      obtain ⟨hl, hn⟩ := nr_tup hv
      walk_at "ev"
      have no : ¬ (1 ≤ xs.length ∧ xs.length ≤ 60) → ∃ h2, DSub h2 h ∧ Q (.bl false) h2 := fun hno => dend0 (by
        have : false = isRowsD (.tup xs) := by
          show false = (decide _ && _)
          rw [decide_eq_false hno, Bool.false_and]
        rw [this]
        exact q)
      refine ⟨fun e1 => ⟨fun e2 => no (by omega), fun e2 => ⟨by omega, ?_⟩⟩, fun e1 => no (by omega)⟩
      refine lc_mapI (fun d => .bl (isRowD d)) xs (fun d hd Q' q' => ?_) ?_
      · walk_at "ev"
        exact ⟨hn d hd, q'⟩
      · simp only [bools_mapf, all_mapid]
        refine ⟨fun e3 => ⟨by omega, ?_⟩, fun e3 => dend0 ?_⟩
        · cases xs with
          | nil => exact absurd e1 (by simp)
          | cons x0 xr =>
            have hlen : ∀ d, d ∈ x0 :: xr → ∃ ys, d = .tup ys := fun d hd => by
              obtain ⟨ys, e, _⟩ := isRow_tup (List.all_eq_true.mp e3 d hd)
              exact ⟨ys, e⟩
            obtain ⟨y0, rfl⟩ := hlen x0 (by simp)
            refine lc_mapI (fun d => .bl (wideAs y0.length d)) _ (fun d hd Q' q' => ?_) ?_
            · obtain ⟨ys, rfl⟩ := hlen d hd
              walk_at "ev"
              have : decide ((ys.length : Int) = y0.length) = wideAs y0.length (.tup ys) := decide_eq_decide.mpr (by show _ ↔ ys.length = y0.length; omega)
              rw [this]
              exact q'
            · simp only [bools_mapf, all_mapid]
              refine dend0 ?_
              have : (D.tup y0 :: xr).all (wideAs y0.length) = isRowsD (.tup (.tup y0 :: xr)) := by
                show _ = (decide _ && (_ && _))
                rw [e3, decide_eq_true (by omega), Bool.true_and, Bool.true_and]
                rfl
              rw [this]
              exact q
        · have : false = isRowsD (.tup xs) := by
            show false = (decide _ && (_ && _))
            rw [e3, Bool.false_and, Bool.and_false]
          rw [this]
          exact q
    | ref a => cases hv
    | scr a => cases hv
    | _ => walk_at "ev"; exact dend0 q

end DL

namespace DL
open PySem L2
local macro_rules | `(tactic| walk_at "ev") => `(tactic| try simp (disch := (first | assumption | exact dupd_same | (refine (dupd_ne ?_).trans ?_; (first | assumption | (apply Ne.symm; assumption)); first | assumption | exact dupd_same | (refine (dupd_ne ?_).trans ?_; (first | assumption | (apply Ne.symm; assumption)); first | assumption | exact dupd_same)))) only [v0, v1, v2, v3, v4, v5, v6, v7, v8, v9, v10, v11, v12, v13, v14, v15, v16, w0, w1, w2, w3, w4, w5, w6, w7, w8, w9, w10, w11, w12, w13, w14, w15, w16, e_dC, e_dOp, e_dUn, e_dTest, e_dAnd, e_dOr, e_dNot, e_dAndV, e_dOrV, e_dNotV, e_dIfE, e_dChain, e_dNil, e_dCons, e_dTup, e_dLst, e_dLstM, e_dCB, e_dBM, e_dFrz, e_dNoPart, e_dPart, e_dSl, e_dIsi, e_iSeqD, e_iRange1, e_iRange2, e_iEnumD, e_iZipD, e_dNext, e_dSeq, e_dAsg, e_dAsgT, e_dPar, e_dIf, e_dRet, e_dRetN, e_dDrop, e_dBrk, e_dCnt, e_dAug, e_dSetI, e_dFor, e_dWhile, e_dYes, e_dLc, e_dLcM, e_dCall, e_dCallK, e_dNeg, e_dRaise, op_Lt, op_Le, op_Gt, op_Ge, op_IsN, op_IsNN, op_Sub, op_Add, op_AddS, op_AddT, op_AddL, op_Mul, op_MulT, op_MulL, op_Mod, op_Fdiv, op_InS, op_NotInS, cb_lenT, cb_lenL, cb_lenS, cb_lenX, cb_all, cb_any, cb_tupleL, cb_tupleT, cb_max, cb_min, cb_abs, cb_int, cb_intB, cb_strI, me_joinL, me_joinT, me_split, ip_add, ip_sub, ip_mul, ip_div, ix_ref0, ix_ref1, ix_ref2, me_append, me_popAt, me_pop0, me_insert, me_clear, me_reverse, cb_lenR, cb_tupleR, me_joinR, vw_ref, dT_ref, pow_18, pow_38, pow_40, pow_41, pow_6, eq_str, ne_str, eq_int, ne_int, ix_tup0, ix_lst0, sl_from, sl_to, sl_fromL, sl_toL, vw_str, vw_int, vw_bl, vw_non, vw_dct, vw_tup, vw_lst, vw_scr, ty_str, ty_int, ty_bl, ty_non, ty_tup, ty_lst, ty_dct, it_str, it_tup, it_lst, bT_nm, isN_non, isN_str, isN_int, isN_bl, isN_tup, isN_lst, isN_dct, dT_str, dT_lst, en_rt, en_nx, en_ex, t_imp, f_imp, tf_eq, ft_eq, dwipe, true_and, and_true, Bool.not_true, Bool.not_false, Bool.not_eq_true', Bool.not_eq_false', decide_eq_true_eq, decide_eq_false_iff_not, nq_NoneType, is_NoneType_int, is_NoneType_bool, is_NoneType_str, is_NoneType_tuple, is_NoneType_list, is_NoneType_dict, nq_bool, is_bool_int, is_bool_bool, is_bool_str, is_bool_tuple, is_bool_list, is_bool_dict, nq_int, is_int_int, is_int_bool, is_int_str, is_int_tuple, is_int_list, is_int_dict, nq_str, is_str_int, is_str_bool, is_str_str, is_str_tuple, is_str_list, is_str_dict, nq_tuple, is_tuple_int, is_tuple_bool, is_tuple_str, is_tuple_tuple, is_tuple_list, is_tuple_dict, nq_list, is_list_int, is_list_bool, is_list_str, is_list_tuple, is_list_list, is_list_dict, nq_dict, is_dict_int, is_dict_bool, is_dict_str, is_dict_tuple, is_dict_list, is_dict_dict])
/-! R2: the law's urn and draws -/
theorem decT (p : Prop) [d : Decidable p] (h : p) : decide p = true := decide_eq_true h
def big : Int := 10 ^ 38 + 133
/-- what an urn holds behind at most n draws -/
def UrnO (o : DO) (n : Nat) : Prop := ∃ x y t : Int, o = .lst [.int x, .int y, .int t] ∧ 0 ≤ x ∧ Builtin.Int.intBits x ≤ 1048577 ∧ 0 ≤ y ∧ y < big ∧ 0 ≤ t ∧ t ≤ n
theorem UrnO.mono {o : DO} {m n : Nat} (h : UrnO o m) (l : m ≤ n) : UrnO o n := by
  obtain ⟨x, y, t, e, a, b, c, d, f, g⟩ := h
  exact ⟨x, y, t, e, a, b, c, d, f, by omega⟩
/-- at a lies an urn -/
def Urn (h : DH) (a : Addr) (n : Nat) : Prop := ∃ o, h a = some o ∧ UrnO o n
theorem Urn.mono {h : DH} {a : Addr} {m n : Nat} (u : Urn h a m) (l : m ≤ n) : Urn h a n := by
  obtain ⟨o, e, u⟩ := u
  exact ⟨o, e, u.mono l⟩
theorem Urn.upd {h : DH} {a : Addr} {o : DO} {n : Nat} (u : UrnO o n) : Urn (dupd h a o) a n := ⟨o, dupd_same, u⟩
def LIM : Nat := 1000000000000
def sp_law_draw : DSp := fun ds h Q _ => match ds with
  | [.ref a, .int many] => ∃ n, Urn h a n ∧ n < LIM ∧ 0 < many ∧ many < 2 ^ 40 ∧ ∀ d o, 0 ≤ d → d < many → UrnO o (n + 1) → Q (.int d) (dupd h a o)
  | _ => False
def t_law_draw : DS :=
(dSeq (dIf (dTest (dOp dGt (dOp dIx (dVar 0) (dC (.int 0))) (dC (.int 0)))) (dSeq (dAsg (dOp dMod (dOp dIx (dVar 0) (dC (.int 0))) (dVar 1)) 2)
  (dSeq (dSetI (dOp dFdiv (dOp dIx (dVar 0) (dC (.int 0))) (dVar 1)) (dVar 0) (dC (.int 0)))
  (dRet (dVar 2)))) dNext)
  (dSeq (dSetI (dOp dAdd (dOp dIx (dVar 0) (dC (.int 2))) (dC (.int 1))) (dVar 0) (dC (.int 2)))
  (dSeq (dAsg (dOp dMod (dOp dPow (dOp dAdd (dOp dIx (dVar 0) (dC (.int 1))) (dOp dMul (dC (.int 694847539)) (dOp dIx (dVar 0) (dC (.int 2))))) (dC (.int 3))) (dOp dAdd (dOp dPow (dC (.int 10)) (dC (.int 41))) (dC (.int 37)))) 3)
  (dSeq (dAsg (dOp dMod (dOp dPow (dOp dAdd (dVar 3) (dOp dMul (dC (.int 179424691)) (dOp dIx (dVar 0) (dC (.int 2))))) (dC (.int 2))) (dOp dAdd (dOp dPow (dC (.int 10)) (dC (.int 40))) (dC (.int 121)))) 3)
  (dRet (dOp dMod (dOp dFdiv (dVar 3) (dOp dPow (dC (.int 10)) (dC (.int 6)))) (dVar 1)))))))
theorem log2_lt {i : Int} {m : Nat} (hi : i.natAbs < 2 ^ m) (hm : m ≤ 9000) (h0 : 0 < i) : i.natAbs.log2 < 9000 := by
  have : i.natAbs.log2 < m := (Nat.log2_lt (by omega)).mpr hi
  omega
theorem bits_abs {i : Int} {m : Nat} (h : i.natAbs < 2 ^ m) : Builtin.Int.intBits i ≤ m := PySem.intBits_le_iff.mpr h
theorem bits_div {i j : Int} {m : Nat} (h0 : 0 ≤ i) (hj : 0 < j) (h : Builtin.Int.intBits i ≤ m) : Builtin.Int.intBits (i / j) ≤ m := by
  have h2 := PySem.intBits_le_iff.mp h
  refine bits_abs (Nat.lt_of_le_of_lt ?_ h2)
  have a1 : 0 ≤ i / j := Int.ediv_nonneg h0 (by omega)
  have a2 : i / j ≤ i := Int.ediv_le_self _ h0
  omega
theorem pow_ok {Q : DK} {h : DH} {i : Int} {j : Nat} (hb : Builtin.Int.intBits i ≤ 1000) (hj : j ≤ 1000) : dPow (.int i) (.int (j : Nat)) h Q = Q (.int (i ^ j)) h := by
  simp only [dPow]
  refine propext ⟨fun z => z.2.2, fun q => ⟨by omega, ?_, q⟩⟩
  have : Builtin.Int.intBits i * j ≤ 1000 * 1000 := Nat.mul_le_mul hb hj
  have : ((Builtin.Int.intBits i * j : Nat) : Int) ≤ 2 ^ 27 := by omega
  rw [Int.natCast_mul] at this
  exact this
theorem rd_law_draw (ds : List D) (h : DH) (Q : DK) (X : DX) (z : sp_law_draw ds h Q X) : t_law_draw (dEnd Q X) (dstart ["urn", "many", "digit", "mixed"] ds) h := by
  match ds, z with
  | [.ref a, .int many], ⟨n, ⟨o, ea, x, y, t, eo, x0, xb, y0, yb, t0, tn⟩, hn, m0, mb, q⟩ =>
    subst eo
    show t_law_draw (dEnd Q X) [some (.ref a), some (.int many), none, none] h
    unfold t_law_draw
    walk_at "ev"
    refine ⟨fun e => ⟨m0, m0, log2_lt (m := 40) (by omega) (by decide) m0, ?_⟩, fun e => ?_⟩
    · simp only [ea]
      refine ⟨by decide, by show (0 : Int) < 3; decide, dend0 (q _ _ (Int.emod_nonneg _ (by omega)) (Int.emod_lt_of_pos _ m0) ⟨x / many, y, t, rfl, Int.ediv_nonneg x0 (by omega), bits_div x0 m0 xb, y0, yb, t0, by omega⟩)⟩
    · simp only [ea]
      refine ⟨by decide, by show (2 : Int) < 3; decide, ?_⟩
      have ea2 : dupd h a (.lst ([D.int x, D.int y, D.int t].set (2 : Int).toNat (.int (t + 1)))) a = some (.lst [.int x, .int y, .int (t + 1)]) := dupd_same
      have bt : Builtin.Int.intBits t ≤ 64 := bits_abs (by unfold LIM at hn; omega)
      have bt1 : Builtin.Int.intBits (t + 1) ≤ 64 := bits_abs (by unfold LIM at hn; omega)
      simp only [ix_ref1 ea2, ix_ref2 ea2, op_Mul, op_Add]
      refine ⟨IntMulOk.of_right bt1, ?_⟩
      rw [show (D.int 3) = D.int ((3 : Nat) : Int) from rfl, pow_ok (bits_abs (m := 1000) (by unfold LIM at hn; unfold big at yb; omega)) (by decide)]
      simp only [op_Mod]
      refine ⟨by decide, ?_⟩
      simp only [ix_ref2 ea2, op_Mul, op_Add]
      refine ⟨IntMulOk.of_right bt1, ?_⟩
      have p41 : (0 : Int) < 10 ^ 41 + 37 := by decide
      have u0 := Int.emod_nonneg ((y + 694847539 * (t + 1)) ^ 3) (b := 10 ^ 41 + 37) (by decide)
      have u1 := Int.emod_lt_of_pos ((y + 694847539 * (t + 1)) ^ 3) p41
      rw [show (D.int 2) = D.int ((2 : Nat) : Int) from rfl, pow_ok (bits_abs (m := 1000) (by unfold LIM at hn; omega)) (by decide)]
      simp only [op_Mod, op_Fdiv]
      refine ⟨by decide, by decide, by decide, m0, dend0 ?_⟩
      exact q _ _ (Int.emod_nonneg _ (by omega)) (Int.emod_lt_of_pos _ m0) ⟨x, y, t + 1, rfl, x0, xb, y0, yb, by omega, by omega⟩

end DL

namespace DL
open PySem L2
local macro_rules | `(tactic| walk_at "ev") => `(tactic| try simp (disch := (first | assumption | exact dupd_same | (refine (dupd_ne ?_).trans ?_; (first | assumption | (apply Ne.symm; assumption)); first | assumption | exact dupd_same | (refine (dupd_ne ?_).trans ?_; (first | assumption | (apply Ne.symm; assumption)); first | assumption | exact dupd_same)))) only [v0, v1, v2, v3, v4, v5, v6, v7, v8, v9, v10, v11, v12, v13, v14, v15, v16, w0, w1, w2, w3, w4, w5, w6, w7, w8, w9, w10, w11, w12, w13, w14, w15, w16, e_dC, e_dOp, e_dUn, e_dTest, e_dAnd, e_dOr, e_dNot, e_dAndV, e_dOrV, e_dNotV, e_dIfE, e_dChain, e_dNil, e_dCons, e_dTup, e_dLst, e_dLstM, e_dCB, e_dBM, e_dFrz, e_dNoPart, e_dPart, e_dSl, e_dIsi, e_iSeqD, e_iRange1, e_iRange2, e_iEnumD, e_iZipD, e_dNext, e_dSeq, e_dAsg, e_dAsgT, e_dPar, e_dIf, e_dRet, e_dRetN, e_dDrop, e_dBrk, e_dCnt, e_dAug, e_dSetI, e_dFor, e_dWhile, e_dYes, e_dLc, e_dLcM, e_dCall, e_dCallK, e_dNeg, e_dRaise, op_Lt, op_Le, op_Gt, op_Ge, op_IsN, op_IsNN, op_Sub, op_Add, op_AddS, op_AddT, op_AddL, op_Mul, op_MulT, op_MulL, op_Mod, op_Fdiv, op_InS, op_NotInS, cb_lenT, cb_lenL, cb_lenS, cb_lenX, cb_all, cb_any, cb_tupleL, cb_tupleT, cb_max, cb_min, cb_abs, cb_int, cb_intB, cb_strI, me_joinL, me_joinT, me_split, ip_add, ip_sub, ip_mul, ip_div, ix_ref0, ix_ref1, ix_ref2, me_append, me_popAt, me_pop0, me_insert, me_clear, me_reverse, cb_lenR, cb_tupleR, me_joinR, vw_ref, dT_ref, pow_18, pow_38, pow_40, pow_41, pow_6, eq_str, ne_str, eq_int, ne_int, ix_tup0, ix_lst0, sl_from, sl_to, sl_fromL, sl_toL, vw_str, vw_int, vw_bl, vw_non, vw_dct, vw_tup, vw_lst, vw_scr, ty_str, ty_int, ty_bl, ty_non, ty_tup, ty_lst, ty_dct, it_str, it_tup, it_lst, bT_nm, isN_non, isN_str, isN_int, isN_bl, isN_tup, isN_lst, isN_dct, dT_str, dT_lst, en_rt, en_nx, en_ex, t_imp, f_imp, tf_eq, ft_eq, dwipe, true_and, and_true, Bool.not_true, Bool.not_false, Bool.not_eq_true', Bool.not_eq_false', decide_eq_true_eq, decide_eq_false_iff_not, nq_NoneType, is_NoneType_int, is_NoneType_bool, is_NoneType_str, is_NoneType_tuple, is_NoneType_list, is_NoneType_dict, nq_bool, is_bool_int, is_bool_bool, is_bool_str, is_bool_tuple, is_bool_list, is_bool_dict, nq_int, is_int_int, is_int_bool, is_int_str, is_int_tuple, is_int_list, is_int_dict, nq_str, is_str_int, is_str_bool, is_str_str, is_str_tuple, is_str_list, is_str_dict, nq_tuple, is_tuple_int, is_tuple_bool, is_tuple_str, is_tuple_tuple, is_tuple_list, is_tuple_dict, nq_list, is_list_int, is_list_bool, is_list_str, is_list_tuple, is_list_list, is_list_dict, nq_dict, is_dict_int, is_dict_bool, is_dict_str, is_dict_tuple, is_dict_list, is_dict_dict])
/-! R3: rows and pages that are drawn -/
abbrev Row := List (Option Str)
def cD : Option Str → D
  | none => .non
  | some s => .str s
def rowD (r : Row) : D := .tup (r.map cD)
def tabD (t : List Row) : D := .tup (t.map rowD)
def okC : Option Str → Bool
  | none => false
  | some s => okCell s
/-- no blank -/
def full (r : Row) : Prop := ∀ c ∈ r, okC c = true
def blanks : Row → Nat
  | none :: r => blanks r + 1
  | _ => 0
/-- blanks only ahead -/
def pr (r : Row) : Prop := full (r.drop (blanks r))
theorem isN_cD (c : Option Str) : isN (cD c) = c.isNone := by cases c <;> rfl
theorem lead_row : ∀ r : Row, lead (r.map cD) = blanks r
  | [] => rfl
  | none :: r => by
    show (if true = true then lead (r.map cD) + 1 else 0) = blanks r + 1
    rw [if_pos rfl, lead_row r]
  | some s :: r => rfl
theorem isCell_cD (c : Option Str) : isCellD (cD c) = okC c := by cases c <;> rfl
theorem okCell_len {s : Str} (h : okCell s = true) : 1 ≤ s.length ∧ s.length ≤ 8 := by
  simp only [okCell, Bool.and_eq_true, decide_eq_true_eq] at h
  exact h.1
theorem okCell_sign {s : Str} (h : okCell s = true) : ∀ c ∈ s.cps.toList, okSign c = true := by
  simp only [okCell, Bool.and_eq_true, List.all_eq_true] at h
  exact h.2
theorem okSign_lt {c : Nat} (h : okSign c = true) : 48 ≤ c ∧ c ≤ 122 := by
  have : ∀ x ∈ signsT.cps.toList, 48 ≤ x ∧ x ≤ 122 := by decide +kernel
  exact this c (of_decide_eq_true h)
theorem strOk_of {s : Str} (h : ∀ c ∈ s.cps.toList, c < 1114112) : PyData.strOk s = true := by
  show s.cps.all (fun c => decide (c < 0x110000)) = true
  rw [← Array.all_toList, List.all_eq_true]
  exact fun c hc => decide_eq_true (h c hc)
theorem okCell_strOk {s : Str} (h : okCell s = true) : PyData.strOk s = true := strOk_of fun c hc => by
  have := okSign_lt (okCell_sign h c hc)
  omega
def strOkC : Option Str → Bool
  | none => true
  | some s => PyData.strOk s
theorem okC_strOk {c : Option Str} (h : okC c = true) : strOkC c = true := by
  cases c with
  | none => rfl
  | some s => exact okCell_strOk h
theorem eqv_str {a b : Str} : eqvD (.str a) (.str b) = decide (a = b) := by
  show PyData.eqv (.str a) (.str b) = _
  unfold PyData.eqv
  show (a == b) = decide (a = b)
  by_cases e : a = b
  · subst e; simp
  · simp [e]
theorem eqv_cD (a b : Option Str) : eqvD (cD a) (cD b) = decide (a = b) := by
  cases a <;> cases b
  · rfl
  · rfl
  · rfl
  · simp only [cD, eqv_str, Option.some.injEq]
theorem dn_cD {c : Option Str} (n : Nat) (h : strOkC c = true) : dn n (cD c) = true := by
  cases c with
  | none => cases n <;> rfl
  | some s => cases n <;> exact h
theorem ne_cD {a b : Option Str} {h : DH} {Q : DK} (ha : strOkC a = true) (hb : strOkC b = true) : dNe (cD a) (cD b) h Q = Q (.bl (!decide (a = b))) h := by
  have key : dNe (cD a) (cD b) h Q = (dn 12 (cD a) = true ∧ dn 12 (cD b) = true ∧ Q (.bl (!eqvD (cD a) (cD b))) h) ∨ ∃ s t, a = some s ∧ b = some t := by
    cases a <;> cases b
    · exact .inl rfl
    · exact .inl rfl
    · exact .inl rfl
    · exact .inr ⟨_, _, rfl, rfl⟩
  rcases key with e | ⟨s, t, rfl, rfl⟩
  · rw [e, dn_cD 12 ha, dn_cD 12 hb, eqv_cD]; simp only [true_and]
  · show Q _ h = _
    simp only [Option.some.injEq]
theorem eq_cD {a b : Option Str} {h : DH} {Q : DK} (ha : strOkC a = true) (hb : strOkC b = true) : dEq (cD a) (cD b) h Q = Q (.bl (decide (a = b))) h := by
  have key : dEq (cD a) (cD b) h Q = (dn 12 (cD a) = true ∧ dn 12 (cD b) = true ∧ Q (.bl (eqvD (cD a) (cD b))) h) ∨ ∃ s t, a = some s ∧ b = some t := by
    cases a <;> cases b
    · exact .inl rfl
    · exact .inl rfl
    · exact .inl rfl
    · exact .inr ⟨_, _, rfl, rfl⟩
  rcases key with e | ⟨s, t, rfl, rfl⟩
  · rw [e, dn_cD 12 ha, dn_cD 12 hb, eqv_cD]; simp only [true_and]
  · show Q _ h = _
    simp only [Option.some.injEq]
theorem full_drop {r : Row} (h : full r) (k : Nat) : full (r.drop k) := fun c hc => h c (List.mem_of_mem_drop hc)
theorem full_take {r : Row} (h : full r) (k : Nat) : full (r.take k) := fun c hc => h c (List.mem_of_mem_take hc)
theorem full_app {r q : Row} (h : full r) (h2 : full q) : full (r ++ q) := fun c hc => (List.mem_append.mp hc).elim (h c) (h2 c)
theorem blanks_full : ∀ {r : Row}, full r → blanks r = 0
  | [], _ => rfl
  | none :: r, h => by cases h none (by simp)
  | some s :: r, _ => rfl
theorem blanks_rep (k : Nat) {r : Row} (h : full r) : blanks (List.replicate k none ++ r) = k := by
  induction k with
  | zero => exact blanks_full h
  | succ k ih => show blanks (none :: (List.replicate k none ++ r)) = _; show blanks _ + 1 = _; rw [ih]
theorem pr_rep (k : Nat) {r : Row} (h : full r) : pr (List.replicate k none ++ r) := by
  unfold pr
  rw [blanks_rep k h, List.drop_append, List.length_replicate, Nat.sub_self, List.drop_eq_nil_of_le (by simp)]
  exact h
theorem pr_full {r : Row} (h : full r) : pr r := by
  unfold pr
  rw [blanks_full h]
  exact h
/-- nothing but these was changed -/
def Fra (h h' : DH) (l : List Addr) : Prop := ∀ b, b ∉ l → h' b = h b
theorem Fra.upd {h h' : DH} {l : List Addr} {a : Addr} {o : DO} (f : Fra h h' l) (m : a ∈ l) : Fra h (dupd h' a o) l := fun b hb => by
  rw [dupd_ne (fun e => hb (by subst e; exact m))]
  exact f b hb
theorem Fra.refl (h : DH) (l : List Addr) : Fra h h l := fun _ _ => rfl
theorem Fra.new {h h' : DH} {a p : Addr} {o : DO} (f : Fra h h' [a, p]) (ea : h' a = some o) (n : h p = none) : DSub (dupd h a o) h' := fun b u e => by
  by_cases hb : b = a
  · subst hb; rw [dupd_same] at e; rw [ea]; exact e
  · rw [dupd_ne hb] at e
    rw [f b (fun m => by rcases List.mem_cons.mp m with z | z; exact hb z; rw [List.mem_singleton.mp z, n] at e; cases e)]
    exact e
theorem dupd2 {h : DH} {a : Addr} {o u : DO} : dupd (dupd h a o) a u = dupd h a u := dupd_dupd
theorem lenT (ys : List D) : lenD (.tup ys) = ys.length := rfl
/-- a comprehension whose elements change the heap -/
theorem lc_ind {tg : Tgt} {te : DE} {τ : DSt} {Q : List D → DH → Prop} (I : List D → DH → Prop) (ds : List D) {h : DH} (h0 : I [] h)
    (step : ∀ d ∈ ds, ∃ τ', bindT tg d τ = some τ' ∧ ∀ acc h, acc.length < ds.length → I acc h → ∀ Q' : DK, (∀ y h2, I (acc ++ [y]) h2 → Q' y h2) → te τ' h Q' noX) (fin : ∀ ys h2, I ys h2 → ys.length = ds.length → Q ys h2) : lcGo tg dYes te τ ds h Q := by
  have go : ∀ (rest : List D) (h : DH) (acc : List D), acc.length + rest.length = ds.length → (∀ d ∈ rest, d ∈ ds) → I acc h → ∀ Q2 : List D → DH → Prop, (∀ ys h2, I (acc ++ ys) h2 → ys.length = rest.length → Q2 ys h2) → lcGo tg dYes te τ rest h Q2 := by
    intro rest
    induction rest with
    | nil => intro h acc _ _ i Q2 q; exact q [] h (by rw [List.append_nil]; exact i) rfl
    | cons d rest ih =>
      intro h acc hl hm i Q2 q
      obtain ⟨τ', e, t⟩ := step d (hm d (by simp))
      unfold lcGo
      simp only [e, dYes]
      refine ⟨fun _ => t acc h (by simp only [List.length_cons] at hl; omega) i _ fun y h2 i2 => ?_, fun z => by cases z⟩
      exact ih h2 (acc ++ [y]) (by rw [List.length_append, List.length_singleton]; simp only [List.length_cons] at hl; omega) (fun d hd => hm d (by simp [hd])) i2 _ fun ys h3 i3 hl3 => q (y :: ys) h3 (by rw [List.append_assoc] at i3; exact i3) (by rw [List.length_cons, List.length_cons, hl3])
  exact go ds h [] (by simp) (fun _ z => z) h0 Q fun ys h2 i hl => fin ys h2 i hl
/-! the urn -/
def sp_law_urn : DSp := fun ds h Q _ => match ds with
  | [.scr ns, .int k] => 0 ≤ k ∧ k < 1000 ∧ (∀ n ∈ ns, Builtin.Int.intBits n ≤ 1048576) ∧ ∀ p o, h p = none → UrnO o 0 → Q (.ref p) (dupd h p o)
  | _ => False
def t_law_urn : DS :=
(dSeq (dAsg (dIfE (dTest (dOp dLt (dVar 1) (dCB dLen (dCons (dVar 0) dNil)))) (dOp dIx (dVar 0) (dVar 1)) (dC (.int 0))) 2)
  (dRet (dLstM (dCons (dCB dMax2 (dCons (dC (.int 0)) (dCons (dOp dSub (dCB dAbs (dCons (dVar 2) dNil)) (dOp dPow (dC (.int 10)) (dC (.int 18)))) dNil))) (dCons (dOp dMod (dOp dAdd (dOp dAdd (dOp dMul (dVar 2) (dC (.int 101))) (dOp dMul (dC (.int 37)) (dVar 1))) (dC (.int 19))) (dOp dAdd (dOp dPow (dC (.int 10)) (dC (.int 38))) (dC (.int 133)))) (dCons (dC (.int 0)) dNil))))))
def n_law_urn : List Str := ["cells_here", "k", "cell"]
/- 0=cells_here 1=k 2=cell -/
theorem urn_num (c k : Int) (hb : Builtin.Int.intBits c ≤ 1048576) : UrnO (.lst [.int (if (if c < 0 then -c else c) - 10 ^ 18 > 0 then (if c < 0 then -c else c) - 10 ^ 18 else 0), .int ((c * 101 + 37 * k + 19) % (10 ^ 38 + 133)), .int 0]) 0 := by
  refine ⟨_, _, _, rfl, ?_, ?_, ?_, ?_, by decide, by decide⟩
  · split <;> omega
  · have b2 := intBits_le_iff.mp hb
    refine bits_abs ?_
    have : (2 : Nat) ^ 1048577 = 2 * 2 ^ 1048576 := by rw [Nat.pow_succ]; omega
    split <;> split <;> omega
  · exact Int.emod_nonneg _ (by decide)
  · exact Int.emod_lt_of_pos _ (by decide)
theorem urn_of (c k : Int) (h : DH) (Q : DK) (hb : Builtin.Int.intBits c ≤ 1048576) (k0 : 0 ≤ k) (k1 : k < 1000) (q : ∀ p o, h p = none → UrnO o 0 → Q (.ref p) (dupd h p o)) (X : DX) (ns : List Int) :
    (dRet (dLstM (dCons (dCB dMax2 (dCons (dC (.int 0)) (dCons (dOp dSub (dCB dAbs (dCons (dVar 2) dNil)) (dOp dPow (dC (.int 10)) (dC (.int 18)))) dNil))) (dCons (dOp dMod (dOp dAdd (dOp dAdd (dOp dMul (dVar 2) (dC (.int 101))) (dOp dMul (dC (.int 37)) (dVar 1))) (dC (.int 19))) (dOp dAdd (dOp dPow (dC (.int 10)) (dC (.int 38))) (dC (.int 133)))) (dCons (dC (.int 0)) dNil))))) (dEnd Q X) [some (.scr ns), some (.int k), some (.int c)] h := by
  walk_at "ev"
  exact ⟨.of_right (bits_abs (by decide)), .of_right (bits_abs (by omega)), by decide, le_line (m := 3) (Nat.le_refl _), fun p hp => dend0 (q p _ hp (urn_num c k hb))⟩
theorem rd_law_urn (ds : List D) (h : DH) (Q : DK) (X : DX) (z : sp_law_urn ds h Q X) : t_law_urn (dEnd Q X) (dstart n_law_urn ds) h := by
  match ds, z with
  | [.scr ns, .int k], ⟨k0, k1, hb, q⟩ =>
    show t_law_urn (dEnd Q X) [some (.scr ns), some (.int k), none] h
    unfold t_law_urn
    simp only [e_dSeq, e_dAsg, e_dIfE, e_dTest, e_dOp, v0, v1, v2, w2, e_dCB, e_dCons, e_dNil, cb_lenX, op_Lt, e_dC, decide_eq_true_eq, decide_eq_false_iff_not]
    refine ⟨fun e => ?_, fun e => urn_of 0 k h Q (bits_abs (Nat.two_pow_pos _)) k0 k1 q X ns⟩
    have hk : k.toNat < ns.length := by omega
    have e2 : ns[k.toNat]? = some ns[k.toNat] := List.getElem?_eq_getElem hk
    have ek : k = (k.toNat : Int) := by omega
    rw [ek, ix_scr e2, ← ek]
    exact urn_of _ k h Q (hb _ (List.getElem_mem hk)) k0 k1 q X ns
/-! an item -/
theorem join_signs : ∀ cs : List Nat, Txt.join "" (cs.map fun c => (⟨#[c]⟩ : Str)) = ⟨cs.toArray⟩ := by
  intro cs
  rw [Txt.join, StrLaws.glued_eq_join]
  induction cs with
  | nil => rfl
  | cons c cs ih =>
    cases cs with
    | nil => rfl
    | cons d cs =>
      show (⟨#[c]⟩ : Str) ++ "" ++ Str.join "" (((d :: cs).map fun c => (⟨#[c]⟩ : Str))) = _
      rw [ih]
      refine Str.ext' ?_
      show (#[c] ++ #[] ++ (d :: cs).toArray : Array Nat) = _
      simp
theorem i_law_draw {a : Addr} {many : Int} {h : DH} {Q : DK} {X : DX} (n : Nat) (u : Urn h a n) (hn : n < LIM) (m0 : 0 < many) (mb : many < 2 ^ 40) (q : ∀ d o, 0 ≤ d → d < many → UrnO o (n + 1) → Q (.int d) (dupd h a o)) :
    sp_law_draw [.ref a, .int many] h Q X := ⟨n, u, hn, m0, mb, q⟩
def sp_law_item : DSp := fun ds h Q _ => match ds with
  | [.ref a] => ∃ n, Urn h a n ∧ n + 20 ≤ LIM ∧ ∀ s o, okCell s = true → UrnO o (n + 20) → Q (.str s) (dupd h a o)
  | _ => False
def t_law_item : DS :=
(dSeq (dIf (dTest (dOp dEq (dCall sp_law_draw (dCons (dVar 0) (dCons (dC (.int 9)) dNil))) (dC (.int 0)))) (dSeq (dAsg (dC (.str "abcdefghijklmnopqrstuvwxyz0123456789")) 1)
  (dRet (dBM "str" dJoin (dC (.str "")) (dCons (dLc (iRange1 (dOp dAdd (dC (.int 1)) (dCall sp_law_draw (dCons (dVar 0) (dCons (dC (.int 8)) dNil))))) (.nm 2) dYes (dOp dIx (dVar 1) (dCall sp_law_draw (dCons (dVar 0) (dCons (dC (.int 36)) dNil)))) [2]) dNil)))) dNext)
  (dRet (dOp dIx (dLst (dCons (dC (.str "a")) (dCons (dC (.str "b")) (dCons (dC (.str "x")) (dCons (dC (.str "1")) (dCons (dC (.str "10")) (dCons (dC (.str "none")) dNil))))))) (dCall sp_law_draw (dCons (dVar 0) (dCons (dOp dIx (dLst (dCons (dC (.int 2)) (dCons (dC (.int 3)) (dCons (dC (.int 6)) dNil)))) (dCall sp_law_draw (dCons (dVar 0) (dCons (dC (.int 3)) dNil)))) dNil))))))
def n_law_item : List Str := ["urn", "signs", "turn"]
/- 0=urn 1=signs 2=turn -/
theorem rd_law_item (ds : List D) (h : DH) (Q : DK) (X : DX) (z : sp_law_item ds h Q X) : t_law_item (dEnd Q X) (dstart n_law_item ds) h := by
  match ds, z with
  | [.ref a], ⟨n, u, hn, q⟩ =>
    show t_law_item (dEnd Q X) [some (.ref a), none, none] h
    unfold t_law_item
    walk_at "ev"
    refine i_law_draw n u (by omega) (by decide) (by decide) fun d o d0 d9 uo => ?_
    walk_at "ev"
    refine ⟨fun e => ?_, fun e => ?_⟩
    · refine i_law_draw (n + 1) (Urn.upd uo) (by omega) (by decide) (by decide) fun d2 o2 d20 d28 uo2 => ?_
      simp only [dupd2, op_Add]
      refine ⟨by omega, by omega, ?_, ?_⟩
      · rw [List.length_map, List.length_range]; omega
      refine lc_ind (fun acc h' => ∃ o' cs, h' = dupd h a o' ∧ UrnO o' (n + 2 + acc.length) ∧ acc = (cs.map fun c => (⟨#[c]⟩ : Str)).map D.str ∧ ∀ c ∈ cs, okSign c = true) _ ⟨o2, [], rfl, uo2, rfl, fun _ z => nomatch z⟩ ?_ ?_
      · intro x hx
        refine ⟨_, rfl, ?_⟩
        rintro acc h' ha ⟨o', cs, rfl, uo', ea, hc⟩ Q' q'
        have hN : acc.length < 8 := by simp only [List.length_map, List.length_range] at ha; omega
        obtain ⟨i, hi, rfl⟩ := List.mem_map.mp hx
        walk_at "ev"
        refine i_law_draw _ (Urn.upd uo') (by omega) (by decide) (by decide) fun d3 o3 d30 d36 uo3 => ?_
        simp only [dupd2]
        have h36 : signsT.cps.toList.length = 36 := by decide +kernel
        have hk : d3.toNat < signsT.cps.toList.length := by omega
        have e3 : signsT.cps.toList[d3.toNat]? = some signsT.cps.toList[d3.toNat] := List.getElem?_eq_getElem hk
        rw [show d3 = (d3.toNat : Int) by omega, show Str.ofString "abcdefghijklmnopqrstuvwxyz0123456789" = signsT from rfl, ix_str e3]
        refine ⟨le_line (m := 36) (by decide +kernel), q' _ _ ⟨o3, cs ++ [signsT.cps.toList[d3.toNat]], rfl, ?_, ?_, ?_⟩⟩
        · rw [List.length_append, List.length_singleton]; exact uo3
        · rw [ea, List.map_append, List.map_append]; rfl
        · intro c hc2
          rcases List.mem_append.mp hc2 with z | z
          · exact hc c z
          · rw [List.mem_singleton.mp z]
            exact decide_eq_true (List.getElem_mem hk)
      · rintro ys h2 ⟨o', cs, rfl, uo', rfl, hc⟩ hl
        have hl2 : cs.length = (1 + d2).toNat := by simp only [List.length_map, List.length_range] at hl; exact hl
        have hl3 : ((cs.map fun c => (⟨#[c]⟩ : Str)).map D.str).length = cs.length := by rw [List.length_map, List.length_map]
        simp only [strsOf_map]
        rw [show Str.ofString "" = "" from rfl, join_signs]
        have hok : okCell ⟨cs.toArray⟩ = true := by
          have l1 : (⟨cs.toArray⟩ : Str).length = cs.length := by show cs.toArray.size = _; simp
          simp only [okCell, Bool.and_eq_true, decide_eq_true_eq, l1, List.all_eq_true]
          exact ⟨by omega, fun c h => hc c (by simpa using h)⟩
        refine ⟨?_, dend0 (q _ _ hok (uo'.mono (by omega)))⟩
        have : ((cs.map fun c => (⟨#[c]⟩ : Str)).map (·.length)).sum = cs.length := by
          rw [List.map_map]
          clear hl hl2 hl3 hok uo' hc
          induction cs with
          | nil => rfl
          | cons c cs ih => simp only [List.map_cons, List.sum_cons, ih, List.length_cons, Function.comp]; show 1 + cs.length = _; omega
        rw [this, List.length_map]
        show cs.length + cs.length * 0 ≤ _
        omega
    · refine ⟨le_line (m := 6) (Nat.le_refl _), le_line (m := 3) (Nat.le_refl _), ?_⟩
      refine i_law_draw (n + 1) (Urn.upd uo) (by omega) (by decide) (by decide) fun d2 o2 d20 d23 uo2 => ?_
      simp only [dupd2]
      have e2 : d2 = 0 ∨ d2 = 1 ∨ d2 = 2 := by omega
      obtain ⟨m, em, m0, m6⟩ : ∃ m : Int, [D.int 2, D.int 3, D.int 6][d2.toNat]? = some (.int m) ∧ 0 < m ∧ m ≤ 6 := by
        rcases e2 with rfl | rfl | rfl
        · exact ⟨2, rfl, by decide, by decide⟩
        · exact ⟨3, rfl, by decide, by decide⟩
        · exact ⟨6, rfl, by decide, by decide⟩
      rw [show d2 = (d2.toNat : Int) by omega, ix_lst em]
      refine i_law_draw (n + 2) (Urn.upd uo2) (by omega) (by omega) (by omega) fun d3 o3 d30 d36 uo3 => ?_
      simp only [dupd2]
      have e3 : d3 = 0 ∨ d3 = 1 ∨ d3 = 2 ∨ d3 = 3 ∨ d3 = 4 ∨ d3 = 5 := by omega
      obtain ⟨s, es, ok⟩ : ∃ s : Str, [D.str "a", D.str "b", D.str "x", D.str "1", D.str "10", D.str "none"][d3.toNat]? = some (.str s) ∧ okCell s = true := by
        rcases e3 with rfl | rfl | rfl | rfl | rfl | rfl
        · exact ⟨"a", rfl, by decide +kernel⟩
        · exact ⟨"b", rfl, by decide +kernel⟩
        · exact ⟨"x", rfl, by decide +kernel⟩
        · exact ⟨"1", rfl, by decide +kernel⟩
        · exact ⟨"10", rfl, by decide +kernel⟩
        · exact ⟨"none", rfl, by decide +kernel⟩
      rw [show d3 = (d3.toNat : Int) by omega]
      refine (ix_lst es).mpr ?_
      exact dend0 (q _ _ ok (uo3.mono (by omega)))

end DL

namespace DL
open PySem L2
local macro_rules | `(tactic| walk_at "ev") => `(tactic| try simp (disch := (first | assumption | exact dupd_same | (refine (dupd_ne ?_).trans ?_; (first | assumption | (apply Ne.symm; assumption)); first | assumption | exact dupd_same | (refine (dupd_ne ?_).trans ?_; (first | assumption | (apply Ne.symm; assumption)); first | assumption | exact dupd_same)))) only [v0, v1, v2, v3, v4, v5, v6, v7, v8, v9, v10, v11, v12, v13, v14, v15, v16, w0, w1, w2, w3, w4, w5, w6, w7, w8, w9, w10, w11, w12, w13, w14, w15, w16, e_dC, e_dOp, e_dUn, e_dTest, e_dAnd, e_dOr, e_dNot, e_dAndV, e_dOrV, e_dNotV, e_dIfE, e_dChain, e_dNil, e_dCons, e_dTup, e_dLst, e_dLstM, e_dCB, e_dBM, e_dFrz, e_dNoPart, e_dPart, e_dSl, e_dIsi, e_iSeqD, e_iRange1, e_iRange2, e_iEnumD, e_iZipD, e_dNext, e_dSeq, e_dAsg, e_dAsgT, e_dPar, e_dIf, e_dRet, e_dRetN, e_dDrop, e_dBrk, e_dCnt, e_dAug, e_dSetI, e_dFor, e_dWhile, e_dYes, e_dLc, e_dLcM, e_dCall, e_dCallK, e_dNeg, e_dRaise, op_Lt, op_Le, op_Gt, op_Ge, op_IsN, op_IsNN, op_Sub, op_Add, op_AddS, op_AddT, op_AddL, op_Mul, op_MulT, op_MulL, op_Mod, op_Fdiv, op_InS, op_NotInS, cb_lenT, cb_lenL, cb_lenS, cb_lenX, cb_all, cb_any, cb_tupleL, cb_tupleT, cb_max, cb_min, cb_abs, cb_int, cb_intB, cb_strI, me_joinL, me_joinT, me_split, ip_add, ip_sub, ip_mul, ip_div, ix_ref0, ix_ref1, ix_ref2, me_append, me_popAt, me_pop0, me_insert, me_clear, me_reverse, cb_lenR, cb_tupleR, me_joinR, vw_ref, dT_ref, pow_18, pow_38, pow_40, pow_41, pow_6, eq_str, ne_str, eq_int, ne_int, ix_tup0, ix_lst0, sl_from, sl_to, sl_fromL, sl_toL, vw_str, vw_int, vw_bl, vw_non, vw_dct, vw_tup, vw_lst, vw_scr, ty_str, ty_int, ty_bl, ty_non, ty_tup, ty_lst, ty_dct, it_str, it_tup, it_lst, bT_nm, isN_non, isN_str, isN_int, isN_bl, isN_tup, isN_lst, isN_dct, dT_str, dT_lst, en_rt, en_nx, en_ex, t_imp, f_imp, tf_eq, ft_eq, dwipe, true_and, and_true, Bool.not_true, Bool.not_false, Bool.not_eq_true', Bool.not_eq_false', decide_eq_true_eq, decide_eq_false_iff_not, nq_NoneType, is_NoneType_int, is_NoneType_bool, is_NoneType_str, is_NoneType_tuple, is_NoneType_list, is_NoneType_dict, nq_bool, is_bool_int, is_bool_bool, is_bool_str, is_bool_tuple, is_bool_list, is_bool_dict, nq_int, is_int_int, is_int_bool, is_int_str, is_int_tuple, is_int_list, is_int_dict, nq_str, is_str_int, is_str_bool, is_str_str, is_str_tuple, is_str_list, is_str_dict, nq_tuple, is_tuple_int, is_tuple_bool, is_tuple_str, is_tuple_tuple, is_tuple_list, is_tuple_dict, nq_list, is_list_int, is_list_bool, is_list_str, is_list_tuple, is_list_list, is_list_dict, nq_dict, is_dict_int, is_dict_bool, is_dict_str, is_dict_tuple, is_dict_list, is_dict_dict])
/-! R4: rows and pages that are drawn -/
theorem i_law_item {a : Addr} {h : DH} {Q : DK} {X : DX} (n : Nat) (u : Urn h a n) (hn : n + 20 ≤ LIM) (q : ∀ s o, okCell s = true → UrnO o (n + 20) → Q (.str s) (dupd h a o)) : sp_law_item [.ref a] h Q X := ⟨n, u, hn, q⟩
def aboveD : Option Row → D
  | none => .non
  | some r => rowD r
def sp_law_row : DSp := fun ds h Q _ => match ds with
  | [.ref a, .int wide, d] => ∃ n above, Urn h a n ∧ n + 200 ≤ LIM ∧ 1 ≤ wide ∧ wide ≤ 6 ∧ d = aboveD above ∧ (∀ r, above = some r → full r ∧ r.length = wide.toNat) ∧ ∀ r o, full r → r.length = wide.toNat → UrnO o (n + 200) → Q (rowD r) (dupd h a o)
  | _ => False
theorem i_law_row {a : Addr} {wide : Int} {h : DH} {Q : DK} {X : DX} (n : Nat) (above : Option Row) (u : Urn h a n) (hn : n + 200 ≤ LIM) (w1 : 1 ≤ wide) (w6 : wide ≤ 6) (ha : ∀ r, above = some r → full r ∧ r.length = wide.toNat) (q : ∀ r o, full r → r.length = wide.toNat → UrnO o (n + 200) → Q (rowD r) (dupd h a o)) :
    sp_law_row [.ref a, .int wide, aboveD above] h Q X := ⟨n, above, u, hn, w1, w6, rfl, ha, q⟩
def t_law_row : DS :=
(dSeq (dAsg (dCB dTuple (dCons (dLc (iRange1 (dVar 1)) (.nm 5) dYes (dCall sp_law_item (dCons (dVar 0) dNil)) [5]) dNil)) 3)
  (dSeq (dIf (dTest (dOp dIsN (dVar 2) (dC .non))) (dRet (dVar 3)) dNext)
  (dSeq (dAsg (dCall sp_law_draw (dCons (dVar 0) (dCons (dOp dAdd (dVar 1) (dC (.int 1))) dNil))) 4)
  (dRet (dOp dAdd (dSl dSlice (dVar 2) dNoPart (dPart (dVar 4))) (dSl dSlice (dVar 3) (dPart (dVar 4)) dNoPart))))))
def n_law_row : List Str := ["urn", "wide", "above", "fresh", "kept", "turn"]
/- 0=urn 1=wide 2=above 3=fresh 4=kept 5=turn -/
theorem rd_law_row (ds : List D) (h : DH) (Q : DK) (X : DX) (z : sp_law_row ds h Q X) : t_law_row (dEnd Q X) (dstart n_law_row ds) h := by
  match ds, z with
  | [.ref a, .int wide, _], ⟨n, above, u, hn, w1, w6, rfl, ha, q⟩ =>
    show t_law_row (dEnd Q X) [some (.ref a), some (.int wide), some (aboveD above), none, none, none] h
    unfold t_law_row
    walk_at "ev"
    refine ⟨by omega, by omega, by rw [List.length_map, List.length_range]; omega, ?_⟩
    obtain ⟨o0, ea0, uo0⟩ := u
    refine lc_ind (fun acc h' => ∃ o' r, h' = dupd h a o' ∧ UrnO o' (n + 20 * acc.length) ∧ acc = r.map cD ∧ full r) _ ⟨o0, [], by funext b; unfold dupd; split; (rename_i e; rw [e, ea0]); rfl, uo0, rfl, fun _ z => nomatch z⟩ ?_ ?_
    · intro x hx
      refine ⟨_, rfl, ?_⟩
      rintro acc h' hl ⟨o', r, rfl, uo', ea, hf⟩ Q' q'
      have hN : acc.length < 6 := by simp only [List.length_map, List.length_range] at hl; omega
      obtain ⟨i, hi, rfl⟩ := List.mem_map.mp hx
      walk_at "ev"
      refine i_law_item _ (Urn.upd uo') (by omega) fun s o3 ok uo3 => ?_
      simp only [dupd2]
      refine q' _ _ ⟨o3, r ++ [some s], rfl, ?_, ?_, ?_⟩
      · rw [List.length_append, List.length_singleton]; exact uo3.mono (by omega)
      · rw [ea, List.map_append]; rfl
      · exact full_app hf fun c hc => by rw [List.mem_singleton.mp hc]; exact ok
    · rintro ys h2 ⟨o', r, rfl, uo', rfl, hf⟩ hl
      have hl2 : r.length = wide.toNat := by simp only [List.length_map, List.length_range] at hl; exact hl
      have uo2 := uo'.mono (show n + 20 * (r.map cD).length ≤ n + 120 by rw [List.length_map]; omega)
      cases above with
      | none =>
        rw [show aboveD none = D.non from rfl]
        walk_at "ev"
        exact dend0 (q r o' hf hl2 (uo2.mono (by omega)))
      | some ab =>
        obtain ⟨hfa, hla⟩ := ha ab rfl
        rw [show aboveD (some ab) = D.tup (ab.map cD) from rfl]
        walk_at "ev"
        refine i_law_draw _ (Urn.upd uo2) (by omega) (by omega) (by omega) fun d o3 d0 d3 uo3 => ?_
        rw [show d = (d.toNat : Int) by omega]
        walk_at "ev"
        refine ⟨?_, dend0 ?_⟩
        · refine le_line (m := 12) ?_
          simp only [List.length_take, List.length_drop, List.length_map]
          omega
        · rw [← List.map_take, ← List.map_drop, ← List.map_append, dupd2]
          refine q _ _ (full_app (full_take hfa _) (full_drop hf _)) ?_ (uo3.mono (by omega))
          rw [List.length_append, List.length_take, List.length_drop]
          omega
/-- how many they share ahead -/
def shared : Row → Row → Nat
  | x :: xs, y :: ys => if x = y then shared xs ys + 1 else 0
  | _, _ => 0
theorem shared_le : ∀ (r q : Row), shared r q ≤ r.length
  | [], _ => Nat.zero_le _
  | _ :: _, [] => Nat.zero_le _
  | x :: xs, y :: ys => by
    unfold shared
    have := shared_le xs ys
    split <;> simp only [List.length_cons] <;> omega
theorem shared_le2 : ∀ (r q : Row), shared r q ≤ q.length
  | [], _ => Nat.zero_le _
  | _ :: _, [] => Nat.zero_le _
  | x :: xs, y :: ys => by
    unfold shared
    have := shared_le2 xs ys
    split <;> simp only [List.length_cons] <;> omega
def strOkR (r : Row) : Prop := ∀ c ∈ r, strOkC c = true
theorem full_strOk {r : Row} (h : full r) : strOkR r := fun c hc => okC_strOk (h c hc)
def sp_law_shared : DSp := fun ds h Q _ => match ds with
  | [d, e] => ∃ r q, d = rowD r ∧ e = rowD q ∧ strOkR r ∧ strOkR q ∧ Q (.int (shared r q : Nat)) h
  | _ => False
theorem i_law_shared {r q : Row} {h : DH} {Q : DK} {X : DX} (hr : strOkR r) (hq : strOkR q) (z : Q (.int (shared r q : Nat)) h) : sp_law_shared [rowD r, rowD q] h Q X := ⟨r, q, rfl, rfl, hr, hq, z⟩
def t_law_shared : DS :=
(dSeq (dAsg (dC (.int 0)) 2)
  (dSeq (dFor (iZipD (dVar 0) (dVar 1)) (.tp [(.nm 3), (.nm 4)]) (dSeq (dIf (dTest (dOp dNe (dVar 3) (dVar 4))) (dRet (dVar 2)) dNext)
  (dAsg (dOp dAdd (dVar 2) (dC (.int 1))) 2)))
  (dRet (dVar 2))))
def n_law_shared : List Str := ["one", "two", "many", "here", "there"]
/- 0=one 1=two 2=many 3=here 4=there -/
theorem zip_rows (r q : Row) : zipD (r.map cD) (q.map cD) = (r.zip q).map fun p => .tup [cD p.1, cD p.2] := by
  unfold zipD
  rw [List.zip_map, List.map_map]
  rfl
theorem shared_go : ∀ (r q : Row) (k : Nat) (d1 d2 : D) (v3 v4 : Option D) (h : DH) (Q : DK) (X : DX) (tb : DS) (E : DEnds), strOkR r → strOkR q →
    (∀ (k : Nat) (x y : Option Str) (E2 : DEnds), strOkC x = true → strOkC y = true → (x ≠ y → E2.rt (.int (k : Nat)) h) → (x = y → E2.nx [some d1, some d2, some (.int ((k + 1 : Nat) : Int)), some (cD x), some (cD y)] h) → tb E2 [some d1, some d2, some (.int (k : Nat)), some (cD x), some (cD y)] h) →
    (∀ v3 v4, E.nx [some d1, some d2, some (.int ((k + shared r q : Nat) : Int)), v3, v4] h) → E.rt (.int ((k + shared r q : Nat) : Int)) h →
    forGo (.tp [.nm 3, .nm 4]) tb ((r.zip q).map fun p => .tup [cD p.1, cD p.2]) E [some d1, some d2, some (.int (k : Nat)), v3, v4] h
  | [], q, k, d1, d2, v3, v4, h, Q, X, tb, E, _, _, _, nx, _ => nx v3 v4
  | _ :: _, [], k, d1, d2, v3, v4, h, Q, X, tb, E, _, _, _, nx, _ => nx v3 v4
  | x :: xs, y :: ys, k, d1, d2, v3, v4, h, Q, X, tb, E, hr, hq, ht, nx, rt => by
    show tb _ [some d1, some d2, some (.int (k : Nat)), some (cD x), some (cD y)] h
    refine ht k x y _ (hr x (by simp)) (hq y (by simp)) (fun e => ?_) (fun e => ?_)
    · have : shared (x :: xs) (y :: ys) = 0 := by unfold shared; rw [if_neg e]
      rw [this] at rt
      exact rt
    · have es : k + shared (x :: xs) (y :: ys) = (k + 1) + shared xs ys := by
        rw [show shared (x :: xs) (y :: ys) = shared xs ys + 1 by rw [shared.eq_1, if_pos e]]; omega
      rw [es] at nx rt
      exact shared_go xs ys (k + 1) d1 d2 _ _ h Q X tb E (fun c hc => hr c (by simp [hc])) (fun c hc => hq c (by simp [hc])) ht nx rt
theorem rd_law_shared (ds : List D) (h : DH) (Q : DK) (X : DX) (z : sp_law_shared ds h Q X) : t_law_shared (dEnd Q X) (dstart n_law_shared ds) h := by
  match ds, z with
  | [_, _], ⟨r, q, rfl, rfl, hr, hq, z⟩ =>
    show t_law_shared (dEnd Q X) [some (.tup (r.map cD)), some (.tup (q.map cD)), none, none, none] h
    unfold t_law_shared
    walk_at "ev"
    rw [zip_rows]
    refine shared_go r q 0 _ _ _ _ h Q X _ _ hr hq ?_ ?_ ?_
    · intro k x y E2 hx hy n1 n2
      walk_at "ev"
      rw [ne_cD hx hy]
      walk_at "ev"
      exact ⟨fun e => n1 (by simpa using e), fun e => n2 (by simpa using e)⟩
    · intro v3 v4
      walk_at "ev"
      rw [Nat.zero_add]
      exact dend0 z
    · rw [Nat.zero_add]
      exact dend0 z

end DL

namespace DL
open PySem L2
local macro_rules | `(tactic| walk_at "ev") => `(tactic| try simp (disch := (first | assumption | exact dupd_same | (refine (dupd_ne ?_).trans ?_; (first | assumption | (apply Ne.symm; assumption)); first | assumption | exact dupd_same | (refine (dupd_ne ?_).trans ?_; (first | assumption | (apply Ne.symm; assumption)); first | assumption | exact dupd_same)))) only [v0, v1, v2, v3, v4, v5, v6, v7, v8, v9, v10, v11, v12, v13, v14, v15, v16, w0, w1, w2, w3, w4, w5, w6, w7, w8, w9, w10, w11, w12, w13, w14, w15, w16, e_dC, e_dOp, e_dUn, e_dTest, e_dAnd, e_dOr, e_dNot, e_dAndV, e_dOrV, e_dNotV, e_dIfE, e_dChain, e_dNil, e_dCons, e_dTup, e_dLst, e_dLstM, e_dCB, e_dBM, e_dFrz, e_dNoPart, e_dPart, e_dSl, e_dIsi, e_iSeqD, e_iRange1, e_iRange2, e_iEnumD, e_iZipD, e_dNext, e_dSeq, e_dAsg, e_dAsgT, e_dPar, e_dIf, e_dRet, e_dRetN, e_dDrop, e_dBrk, e_dCnt, e_dAug, e_dSetI, e_dFor, e_dWhile, e_dYes, e_dLc, e_dLcM, e_dCall, e_dCallK, e_dNeg, e_dRaise, op_Lt, op_Le, op_Gt, op_Ge, op_IsN, op_IsNN, op_Sub, op_Add, op_AddS, op_AddT, op_AddL, op_Mul, op_MulT, op_MulL, op_Mod, op_Fdiv, op_InS, op_NotInS, cb_lenT, cb_lenL, cb_lenS, cb_lenX, cb_all, cb_any, cb_tupleL, cb_tupleT, cb_max, cb_min, cb_abs, cb_int, cb_intB, cb_strI, me_joinL, me_joinT, me_split, ip_add, ip_sub, ip_mul, ip_div, ix_ref0, ix_ref1, ix_ref2, me_append, me_popAt, me_pop0, me_insert, me_clear, me_reverse, cb_lenR, cb_tupleR, me_joinR, vw_ref, dT_ref, pow_18, pow_38, pow_40, pow_41, pow_6, eq_str, ne_str, eq_int, ne_int, ix_tup0, ix_lst0, sl_from, sl_to, sl_fromL, sl_toL, vw_str, vw_int, vw_bl, vw_non, vw_dct, vw_tup, vw_lst, vw_scr, ty_str, ty_int, ty_bl, ty_non, ty_tup, ty_lst, ty_dct, it_str, it_tup, it_lst, bT_nm, isN_non, isN_str, isN_int, isN_bl, isN_tup, isN_lst, isN_dct, dT_str, dT_lst, en_rt, en_nx, en_ex, t_imp, f_imp, tf_eq, ft_eq, dwipe, true_and, and_true, Bool.not_true, Bool.not_false, Bool.not_eq_true', Bool.not_eq_false', decide_eq_true_eq, decide_eq_false_iff_not, nq_NoneType, is_NoneType_int, is_NoneType_bool, is_NoneType_str, is_NoneType_tuple, is_NoneType_list, is_NoneType_dict, nq_bool, is_bool_int, is_bool_bool, is_bool_str, is_bool_tuple, is_bool_list, is_bool_dict, nq_int, is_int_int, is_int_bool, is_int_str, is_int_tuple, is_int_list, is_int_dict, nq_str, is_str_int, is_str_bool, is_str_str, is_str_tuple, is_str_list, is_str_dict, nq_tuple, is_tuple_int, is_tuple_bool, is_tuple_str, is_tuple_tuple, is_tuple_list, is_tuple_dict, nq_list, is_list_int, is_list_bool, is_list_str, is_list_tuple, is_list_list, is_list_dict, nq_dict, is_dict_int, is_dict_bool, is_dict_str, is_dict_tuple, is_dict_list, is_dict_dict])
/-! R5: pages that are drawn -/
/-- printed rows of one width, the first one full -/
structure PageP (t : List Row) : Prop where
  ne : 1 ≤ t.length
  le : t.length ≤ 60
  w : ∃ w, 1 ≤ w ∧ w ≤ 6 ∧ ∀ r ∈ t, r.length = w ∧ pr r
  first : ∀ r, t[0]? = some r → full r
def sp_law_page : DSp := fun ds h Q _ => match ds with
  | [.ref a, .int most] => ∃ n, Urn h a n ∧ n + 20000 ≤ LIM ∧ 1 ≤ most ∧ most ≤ 60 ∧ ∀ t o, PageP t → t.length ≤ most.toNat → UrnO o (n + 20000) → Q (tabD t) (dupd h a o)
  | _ => False
theorem i_law_page {a : Addr} {most : Int} {h : DH} {Q : DK} {X : DX} (n : Nat) (u : Urn h a n) (hn : n + 20000 ≤ LIM) (m1 : 1 ≤ most) (m60 : most ≤ 60) (q : ∀ t o, PageP t → t.length ≤ most.toNat → UrnO o (n + 20000) → Q (tabD t) (dupd h a o)) :
    sp_law_page [.ref a, .int most] h Q X := ⟨n, u, hn, m1, m60, q⟩
def t_law_page : DS :=
(dSeq (dPar 2 3 (dOp dAdd (dC (.int 1)) (dCall sp_law_draw (dCons (dVar 0) (dCons (dOp dIx (dLst (dCons (dC (.int 3)) (dCons (dC (.int 6)) dNil))) (dCall sp_law_draw (dCons (dVar 0) (dCons (dC (.int 2)) dNil)))) dNil)))) (dOp dIx (dLst (dCons (dOp dAdd (dC (.int 1)) (dCall sp_law_draw (dCons (dVar 0) (dCons (dVar 1) dNil)))) (dCons (dVar 1) dNil))) (dCall sp_law_draw (dCons (dVar 0) (dCons (dC (.int 2)) dNil)))))
  (dSeq (dPar 4 5 (dLstM dNil) (dC .non))
  (dSeq (dFor (iRange1 (dVar 3)) (.nm 6) (dSeq (dAsg (dCall sp_law_row (dCons (dVar 0) (dCons (dVar 2) (dCons (dVar 5) dNil)))) 7)
  (dSeq (dAsg (dIfE (dTest (dOp dIsN (dVar 5) (dC .non))) (dC (.int 0)) (dCall sp_law_shared (dCons (dVar 7) (dCons (dVar 5) dNil)))) 8)
  (dSeq (dAsg (dOp dIx (dLst (dCons (dVar 8) (dCons (dCall sp_law_draw (dCons (dVar 0) (dCons (dOp dAdd (dVar 8) (dC (.int 1))) dNil))) dNil))) (dCall sp_law_draw (dCons (dVar 0) (dCons (dC (.int 2)) dNil)))) 8)
  (dSeq (dDrop (dBM "list" dAppend (dVar 4) (dCons (dOp dAdd (dOp dMul (dTup (dCons (dC .non) dNil)) (dVar 8)) (dSl dSlice (dVar 7) (dPart (dVar 8)) dNoPart)) dNil)))
  (dAsg (dVar 7) 5))))))
  (dRet (dCB dTuple (dCons (dVar 4) dNil))))))
def n_law_page : List Str := ["urn", "most", "wide", "many", "found", "above", "turn", "own", "few"]
/- 0=urn 1=most 2=wide 3=many 4=found 5=above 6=turn 7=own 8=few -/
theorem rpt_non (k : Nat) : rpt (k : Int) [D.non] = List.replicate k D.non := by
  unfold rpt
  rw [Int.toNat_natCast]
  induction k with
  | zero => rfl
  | succ k ih => rw [List.replicate_succ, List.flatten_cons, ih]; rfl
theorem rep_none (k : Nat) : List.replicate k D.non = (List.replicate k (none : Option Str)).map cD := by rw [List.map_replicate]; rfl
theorem Urn.fra {h' : DH} {a : Addr} {o : DO} {n : Nat} (u : UrnO o n) (e : h' a = some o) : Urn h' a n := ⟨o, e, u⟩
theorem rd_law_page (ds : List D) (h : DH) (Q : DK) (X : DX) (z : sp_law_page ds h Q X) : t_law_page (dEnd Q X) (dstart n_law_page ds) h := by
  match ds, z with
  | [.ref a, .int most], ⟨n, u, hn, m1, m60, q⟩ =>
    show t_law_page (dEnd Q X) [some (.ref a), some (.int most), none, none, none, none, none, none, none] h
    unfold t_law_page
    walk_at "ev"
    refine ⟨le_line (m := 2) (Nat.le_refl _), ?_⟩
    refine i_law_draw n u (by omega) (by decide) (by decide) fun d o d0 d2 uo => ?_
    obtain ⟨w0, ew, w0p, w06⟩ : ∃ m : Int, [D.int 3, D.int 6][d.toNat]? = some (.int m) ∧ 0 < m ∧ m ≤ 6 := by
      have : d = 0 ∨ d = 1 := by omega
      rcases this with rfl | rfl
      · exact ⟨3, rfl, by decide, by decide⟩
      · exact ⟨6, rfl, by decide, by decide⟩
    rw [show d = (d.toNat : Int) by omega, ix_lst ew]
    refine i_law_draw (n + 1) (Urn.upd uo) (by omega) (by omega) (by omega) fun d1 o1 d10 d16 uo1 => ?_
    walk_at "ev"
    refine i_law_draw (n + 2) (Urn.upd uo1) (by omega) (by omega) (by omega) fun d2 o2 d20 d26 uo2 => ?_
    refine ⟨le_line (m := 2) (Nat.le_refl _), ?_⟩
    refine i_law_draw (n + 3) (Urn.upd uo2) (by omega) (by omega) (by omega) fun d3 o3 d30 d36 uo3 => ?_
    obtain ⟨m, em, mp, mq⟩ : ∃ m : Int, [D.int (1 + d2), D.int most][d3.toNat]? = some (.int m) ∧ 1 ≤ m ∧ m ≤ most := by
      have : d3 = 0 ∨ d3 = 1 := by omega
      rcases this with rfl | rfl
      · exact ⟨_, rfl, by omega, by omega⟩
      · exact ⟨_, rfl, by omega, by omega⟩
    rw [show d3 = (d3.toNat : Int) by omega, ix_lst em]
    simp only [dupd2]
    walk_at "ev"
    refine ⟨Nat.zero_le _, fun p hp => ⟨by omega, by omega, ?_⟩⟩
    have hpa : p ≠ a := fun e => by subst e; rw [dupd_same] at hp; cases hp
    have hp0 : h p = none := by rw [dupd_ne hpa] at hp; exact hp
    generalize hw : (1 + d1 : Int) = wide
    have hw1 : 1 ≤ wide := by omega
    have hw6 : wide ≤ 6 := by omega
    refine for_indG (fun i : Nat => D.int i) (fun pre τ h' => ∃ o found ab x6 x7 x8, τ = [some (.ref a), some (.int most), some (.int wide), some (.int m), some (.ref p), some (aboveD ab), x6, x7, x8] ∧ h' p = some (.lst (found.map rowD)) ∧ h' a = some o ∧ UrnO o (n + 4 + 300 * pre.length) ∧ Fra h h' [a, p] ∧
        found.length = pre.length ∧ (∀ r ∈ found, r.length = wide.toNat ∧ pr r) ∧ (∀ r, found[0]? = some r → full r) ∧ (∀ r, ab = some r → full r ∧ r.length = wide.toNat) ∧ (ab = none ↔ found = [])) (List.range m.toNat) ?_ ?_ ?_
    · exact ⟨o3, [], none, none, none, none, rfl, dupd_same, (dupd_ne (Ne.symm hpa)).trans dupd_same, uo3, ((Fra.refl h _).upd (by simp)).upd (by simp), rfl, (fun _ z => nomatch z), (fun _ z => nomatch z), (fun _ z => nomatch z), by simp⟩
    · rintro pre i post τ h' eq ⟨o, found, ab, x6, x7, x8, rfl, ep, ea, uo, fr, hl, hr, hf, hab, hn0⟩ D' T
      refine ⟨_, rfl, ?_⟩
      have hlen : pre.length < 60 := by
        have := congrArg List.length eq
        simp only [List.length_range, List.length_append, List.length_cons] at this
        omega
      walk_at "ev"
      refine i_law_row _ ab (Urn.fra uo ea) (by omega) hw1 hw6 hab fun r o4 hfr hlr uo4 => ?_
      walk_at "ev"
      have step : ∀ (few : Nat) (o5 : DO), few ≤ r.length → (found = [] → few = 0) → UrnO o5 (n + 4 + 300 * pre.length + 202) →
          (found.map rowD).length < sizeLine ∧ D'.nx [some (.ref a), some (.int most), some (.int wide), some (.int m), some (.ref p), some (rowD r), some (.int i), some (rowD r), some (.int few)] (dupd (dupd h' a o5) p (.lst (found.map rowD ++ [.tup (List.replicate few D.non ++ (r.map cD).drop few)]))) := by
        intro few o5 hk hz uo5
        have hrow : (D.tup (List.replicate few D.non ++ (r.map cD).drop few)) = rowD (List.replicate few none ++ r.drop few) := by
          rw [rep_none, ← List.map_drop, ← List.map_append]; rfl
        refine ⟨by rw [List.length_map]; exact Nat.lt_of_lt_of_le (show found.length < 60 by omega) (by decide), T.nx _ _ ⟨o5, found ++ [List.replicate few none ++ r.drop few], some r, _, _, _, rfl, ?_, ?_, ?_, ?_, ?_, ?_, ?_, ?_, ?_⟩⟩
        · rw [hrow, List.map_append]; exact dupd_same
        · exact (dupd_ne (Ne.symm hpa)).trans dupd_same
        · rw [List.length_append, List.length_singleton]; exact uo5.mono (by omega)
        · exact (fr.upd (by simp)).upd (by simp)
        · rw [List.length_append, List.length_append, hl]; rfl
        · intro r2 hr2
          rcases List.mem_append.mp hr2 with z | z
          · exact hr r2 z
          · rw [List.mem_singleton.mp z]
            exact ⟨by rw [List.length_append, List.length_replicate, List.length_drop]; omega, pr_rep few (full_drop hfr few)⟩
        · intro r2 hr2
          cases found with
          | nil =>
            rw [hz rfl] at hr2
            cases hr2
            exact hfr
          | cons f fs => exact hf r2 hr2
        · intro r2 hr2; cases hr2; exact ⟨hfr, hlr⟩
        · simp
      have mid : ∀ (X1 X2 : DX) (few : Nat), few ≤ r.length → (found = [] → few = 0) → sp_law_draw [D.ref a, D.int ((few : Int) + 1)] (dupd h' a o4)
        (fun x h1 => [D.int few, x].length ≤ sizeLine ∧ sp_law_draw [D.ref a, D.int 2] h1 (fun y h2 => dIx (D.lst [D.int few, x]) y h2 fun d h1 => dTy "list" (D.ref p) h1 ∧ [D.non].length ≤ sizeLine ∧ dMul (D.tup [D.non]) d h1 fun x h1 =>
                        match d with
                        | D.int i_1 =>
                          dSlice (rowD r) (some i_1) none h1 fun y h2 =>
                            dAdd x y h2 fun x h1 =>
                              dAppend (D.ref p) [x] h1 fun x h1 =>
                                D'.nx [some (D.ref a), some (D.int most), some (D.int wide), some (D.int m), some (D.ref p), some (rowD r), some (D.int ↑i), some (rowD r), some d] h1
                        | x => False) X1) X2 := by
        intro X1 X2 few hk hz
        refine i_law_draw _ (Urn.upd uo4) (by omega) (by omega) (by omega) fun e o5 e0 e1 uo5 => ?_
        refine ⟨le_line (m := 2) (Nat.le_refl _), ?_⟩
        refine i_law_draw _ (Urn.upd uo5) (by omega) (by omega) (by omega) fun g o6 g0 g1 uo6 => ?_
        simp only [dupd2]
        obtain ⟨k, ek, kk, kz⟩ : ∃ k : Nat, [D.int few, D.int e][g.toNat]? = some (.int k) ∧ k ≤ few ∧ (found = [] → k = 0) := by
          have : g = 0 ∨ g = 1 := by omega
          rcases this with rfl | rfl
          · exact ⟨few, rfl, Nat.le_refl _, hz⟩
          · exact ⟨e.toNat, by show some (D.int e) = _; rw [show e = (e.toNat : Int) by omega]; rfl, by omega, fun z => by have := hz z; omega⟩
        rw [show g = (g.toNat : Int) by omega, ix_lst ek]
        have ep6 : dupd h' a o6 p = some (.lst (found.map rowD)) := (dupd_ne hpa).trans ep
        walk_at "ev"
        refine ⟨le_line (m := 1) (Nat.le_refl _), by simp, by omega, by omega, by simp, ?_⟩
        rw [rpt_non, show rowD r = .tup (r.map cD) from rfl]
        walk_at "ev"
        refine ⟨?_, ?_⟩
        · refine le_line (m := 12) ?_
          rw [List.length_replicate, List.length_drop, List.length_map]
          omega
        exact step k o6 (by omega) kz (uo6.mono (by omega))
      cases ab with
      | none =>
        have hz := hn0.mp rfl
        refine ⟨fun _ => mid noX noX 0 (Nat.zero_le _) (fun _ => rfl), fun z => (by cases z)⟩
      | some ab =>
        refine ⟨fun z => (by cases z), fun _ => ?_⟩
        refine i_law_shared (full_strOk hfr) (full_strOk (hab ab rfl).1) ?_
        exact mid noX noX (shared r ab) (shared_le _ _) (fun z => by have := hn0.mpr z; cases this)
    · rintro τ h' ⟨o, found, ab, x6, x7, x8, rfl, ep, ea, uo, fr, hl, hr, hf, hab, hn0⟩
      walk_at "ev"
      rw [List.length_range] at hl
      refine ⟨dupd h a o, fr.new ea hp0, q found o ⟨by omega, by omega, ⟨wide.toNat, by omega, by omega, hr⟩, hf⟩ (by omega) (uo.mono (by rw [List.length_range]; omega))⟩

end DL

namespace DL
open PySem L2
local macro_rules | `(tactic| walk_at "ev") => `(tactic| try simp (disch := (first | assumption | exact dupd_same | (refine (dupd_ne ?_).trans ?_; (first | assumption | (apply Ne.symm; assumption)); first | assumption | exact dupd_same | (refine (dupd_ne ?_).trans ?_; (first | assumption | (apply Ne.symm; assumption)); first | assumption | exact dupd_same)))) only [v0, v1, v2, v3, v4, v5, v6, v7, v8, v9, v10, v11, v12, v13, v14, v15, v16, w0, w1, w2, w3, w4, w5, w6, w7, w8, w9, w10, w11, w12, w13, w14, w15, w16, e_dC, e_dOp, e_dUn, e_dTest, e_dAnd, e_dOr, e_dNot, e_dAndV, e_dOrV, e_dNotV, e_dIfE, e_dChain, e_dNil, e_dCons, e_dTup, e_dLst, e_dLstM, e_dCB, e_dBM, e_dFrz, e_dNoPart, e_dPart, e_dSl, e_dIsi, e_iSeqD, e_iRange1, e_iRange2, e_iEnumD, e_iZipD, e_dNext, e_dSeq, e_dAsg, e_dAsgT, e_dPar, e_dIf, e_dRet, e_dRetN, e_dDrop, e_dBrk, e_dCnt, e_dAug, e_dSetI, e_dFor, e_dWhile, e_dYes, e_dLc, e_dLcM, e_dCall, e_dCallK, e_dNeg, e_dRaise, op_Lt, op_Le, op_Gt, op_Ge, op_IsN, op_IsNN, op_Sub, op_Add, op_AddS, op_AddT, op_AddL, op_Mul, op_MulT, op_MulL, op_Mod, op_Fdiv, op_InS, op_NotInS, cb_lenT, cb_lenL, cb_lenS, cb_lenX, cb_all, cb_any, cb_tupleL, cb_tupleT, cb_max, cb_min, cb_abs, cb_int, cb_intB, cb_strI, me_joinL, me_joinT, me_split, ip_add, ip_sub, ip_mul, ip_div, ix_ref0, ix_ref1, ix_ref2, me_append, me_popAt, me_pop0, me_insert, me_clear, me_reverse, cb_lenR, cb_tupleR, me_joinR, vw_ref, dT_ref, pow_18, pow_38, pow_40, pow_41, pow_6, eq_str, ne_str, eq_int, ne_int, ix_tup0, ix_lst0, sl_from, sl_to, sl_fromL, sl_toL, vw_str, vw_int, vw_bl, vw_non, vw_dct, vw_tup, vw_lst, vw_scr, ty_str, ty_int, ty_bl, ty_non, ty_tup, ty_lst, ty_dct, it_str, it_tup, it_lst, bT_nm, isN_non, isN_str, isN_int, isN_bl, isN_tup, isN_lst, isN_dct, dT_str, dT_lst, en_rt, en_nx, en_ex, t_imp, f_imp, tf_eq, ft_eq, dwipe, true_and, and_true, Bool.not_true, Bool.not_false, Bool.not_eq_true', Bool.not_eq_false', decide_eq_true_eq, decide_eq_false_iff_not, nq_NoneType, is_NoneType_int, is_NoneType_bool, is_NoneType_str, is_NoneType_tuple, is_NoneType_list, is_NoneType_dict, nq_bool, is_bool_int, is_bool_bool, is_bool_str, is_bool_tuple, is_bool_list, is_bool_dict, nq_int, is_int_int, is_int_bool, is_int_str, is_int_tuple, is_int_list, is_int_dict, nq_str, is_str_int, is_str_bool, is_str_str, is_str_tuple, is_str_list, is_str_dict, nq_tuple, is_tuple_int, is_tuple_bool, is_tuple_str, is_tuple_tuple, is_tuple_list, is_tuple_dict, nq_list, is_list_int, is_list_bool, is_list_str, is_list_tuple, is_list_list, is_list_dict, nq_dict, is_dict_int, is_dict_bool, is_dict_str, is_dict_tuple, is_dict_list, is_dict_dict])
/-! R6: texts of rows -/
/-- what raising a class asks: of the value it is made with, the wishes, the heap -/
structure Er where
  er : D → DX → DH → Prop
  tr : Option Nat → DS
  ok : ∀ (i : Option Nat) (D : DEnds) (τ : DSt) (h : DH), er (match i with | none => .non | some j => ((τ[j]?).getD none).getD .non) (fun C fs h2 => D.ex C fs τ h2) h → tr i D τ h
  mono : ∀ d (X Y : DX) h h', (∀ C fs, X C fs h → Y C fs h') → er d X h → er d Y h'
def Er.never : Er := ⟨fun _ _ _ => False, fun _ => dNever, fun _ _ _ _ z => z, fun _ _ _ _ _ _ z => z⟩
def Er.raise (C : Addr) : Er := ⟨fun _ X h => X C [] h, fun _ => dRaise C, fun _ _ _ _ z => z, fun _ _ _ _ _ m z => m _ _ z⟩
/-! a loose page: printed rows -/
structure RowsP (t : List Row) : Prop where
  ne : 1 ≤ t.length
  le : t.length ≤ 60
  w : ∃ w, 1 ≤ w ∧ w ≤ 6 ∧ ∀ r ∈ t, r.length = w ∧ pr r
theorem PageP.rows {t : List Row} (p : PageP t) : RowsP t := ⟨p.ne, p.le, p.w⟩
def sp_law_loose : DSp := fun ds h Q _ => match ds with
  | [.ref a, .int most] => ∃ n, Urn h a n ∧ n + 30000 ≤ LIM ∧ 1 ≤ most ∧ most ≤ 60 ∧ ∀ t o, RowsP t → UrnO o (n + 30000) → Q (tabD t) (dupd h a o)
  | _ => False
theorem i_law_loose {a : Addr} {most : Int} {h : DH} {Q : DK} {X : DX} (n : Nat) (u : Urn h a n) (hn : n + 30000 ≤ LIM) (m1 : 1 ≤ most) (m60 : most ≤ 60) (q : ∀ t o, RowsP t → UrnO o (n + 30000) → Q (tabD t) (dupd h a o)) :
    sp_law_loose [.ref a, .int most] h Q X := ⟨n, u, hn, m1, m60, q⟩
def t_law_loose : DS :=
(dSeq (dAsg (dCall sp_law_page (dCons (dVar 0) (dCons (dVar 1) dNil))) 2)
  (dSeq (dAsg (dOp dMul (dCall sp_law_draw (dCons (dVar 0) (dCons (dCB dLen (dCons (dVar 2) dNil)) dNil))) (dCall sp_law_draw (dCons (dVar 0) (dCons (dC (.int 2)) dNil)))) 3)
  (dSeq (dAsg (dCall sp_law_draw (dCons (dVar 0) (dCons (dOp dAdd (dCB dLen (dCons (dOp dIx (dVar 2) (dC (.int 0))) dNil)) (dC (.int 1))) dNil))) 4)
  (dRet (dOp dIx (dLst (dCons (dSl dSlice (dVar 2) (dPart (dVar 3)) dNoPart) (dCons (dOp dAdd (dTup (dCons (dOp dAdd (dOp dMul (dTup (dCons (dC .non) dNil)) (dVar 4)) (dSl dSlice (dOp dIx (dVar 2) (dC (.int 0))) (dPart (dVar 4)) dNoPart)) dNil)) (dSl dSlice (dVar 2) (dPart (dC (.int 1))) dNoPart)) dNil))) (dCall sp_law_draw (dCons (dVar 0) (dCons (dC (.int 2)) dNil))))))))
def n_law_loose : List Str := ["urn", "most", "some", "cut", "few"]
/- 0=urn 1=most 2=some 3=cut 4=few -/
theorem ix_tabD {t : List Row} {k : Nat} {r : Row} {h : DH} {Q : DK} (e : t[k]? = some r) : dIx (tabD t) (.int (k : Nat)) h Q = Q (rowD r) h := ix_tup (by rw [List.getElem?_map, e]; rfl)
theorem rd_law_loose (ds : List D) (h : DH) (Q : DK) (X : DX) (z : sp_law_loose ds h Q X) : t_law_loose (dEnd Q X) (dstart n_law_loose ds) h := by
  match ds, z with
  | [.ref a, .int most], ⟨n, u, hn, m1, m60, q⟩ =>
    show t_law_loose (dEnd Q X) [some (.ref a), some (.int most), none, none, none] h
    unfold t_law_loose
    walk_at "ev"
    refine i_law_page n u (by omega) m1 m60 fun t o pt hl uo => ?_
    obtain ⟨w, w1, w6, hw⟩ := pt.w
    have p1 := pt.ne
    have p60 := pt.le
    rw [show tabD t = .tup (t.map rowD) from rfl]
    walk_at "ev"
    refine i_law_draw _ (Urn.upd uo) (by omega) (by rw [List.length_map]; omega) (by rw [List.length_map]; omega) fun d o1 d0 d1 uo1 => ?_
    rw [List.length_map] at d1
    refine i_law_draw _ (Urn.upd uo1) (by omega) (by decide) (by decide) fun d2 o2 d20 d22 uo2 => ?_
    walk_at "ev"
    obtain ⟨cut, ec, hc⟩ : ∃ k : Nat, d * d2 = (k : Int) ∧ k < t.length := by
      have : d2 = 0 ∨ d2 = 1 := by omega
      rcases this with rfl | rfl
      · exact ⟨0, by simp, by omega⟩
      · exact ⟨d.toNat, by rw [Int.mul_one]; omega, by omega⟩
    obtain ⟨r0, rs, rfl⟩ : ∃ r0 rs, t = r0 :: rs := by
      cases t with
      | nil => exact absurd p1 (by simp)
      | cons r0 rs => exact ⟨r0, rs, rfl⟩
    have h0 := hw r0 (by simp)
    have f0 := pt.first r0 rfl
    refine ⟨.of_right (bits_abs (by omega)), ?_⟩
    rw [ec]
    simp only [List.map_cons, rowD]
    walk_at "ev"
    simp only [dupd2]
    refine i_law_draw _ (Urn.upd uo2) (by omega) (by omega) (by rw [List.length_map]; omega) fun d3 o3 d30 d33 uo3 => ?_
    rw [List.length_map] at d33
    rw [show d3 = (d3.toNat : Int) by omega]
    walk_at "ev"
    refine ⟨le_line (m := 1) (Nat.le_refl _), by simp, by omega, by omega, by simp, ?_⟩
    rw [rpt_non, rep_none]
    walk_at "ev"
    refine ⟨?_, ?_⟩
    · refine le_line (m := 12) ?_
      simp only [List.length_map, List.length_replicate, List.length_drop]
      omega
    refine ⟨le_line (m := 1) (Nat.le_refl _), ?_⟩
    rw [show (some (1 : Int)) = some ((1 : Nat) : Int) from rfl, sl_from]
    walk_at "ev"
    refine ⟨le_line (m := 61) (by simp only [List.length_append, List.length_cons, List.length_nil, List.length_drop, List.length_map]; simp only [List.length_cons] at p60; omega), le_line (m := 2) (Nat.le_refl _), ?_⟩
    simp only [dupd2]
    refine i_law_draw _ (Urn.upd uo3) (by omega) (by decide) (by decide) fun d4 o4 d40 d42 uo4 => ?_
    simp only [dupd2]
    have e1 : D.tup (List.drop cut (D.tup (List.map cD r0) :: List.map rowD rs)) = tabD ((r0 :: rs).drop cut) := by
      unfold tabD; rw [List.map_drop]; rfl
    have e2 : D.tup ([D.tup (List.map cD (List.replicate d3.toNat none) ++ List.drop d3.toNat (List.map cD r0))] ++ List.drop 1 (D.tup (List.map cD r0) :: List.map rowD rs)) = tabD ((List.replicate d3.toNat none ++ r0.drop d3.toNat) :: rs) := by
      unfold tabD; rw [List.map_cons]; unfold rowD; rw [List.map_append, List.map_drop]; rfl
    rw [e1, e2]
    have go : ∀ t2 : List Row, RowsP t2 → ∃ h2, DSub h2 (dupd h a o4) ∧ Q (tabD t2) h2 := fun t2 r2 => dend0 (q t2 o4 r2 (uo4.mono (by omega)))
    have : d4 = 0 ∨ d4 = 1 := by omega
    rcases this with rfl | rfl
    · rw [ix_lst0]
      refine go _ ⟨?_, ?_, w, w1, w6, fun r hr => hw r (List.mem_of_mem_drop hr)⟩
      · rw [List.length_drop]; omega
      · rw [List.length_drop]; omega
    · rw [show (D.int 1) = .int ((1 : Nat) : Int) from rfl]
      refine (ix_lst (x := tabD ((List.replicate d3.toNat none ++ r0.drop d3.toNat) :: rs)) rfl).mpr ?_
      refine go _ ⟨by simp, p60, w, w1, w6, fun r hr => ?_⟩
      rcases List.mem_cons.mp hr with z | z
      · rw [z]
        exact ⟨by rw [List.length_append, List.length_replicate, List.length_drop]; omega, pr_rep _ (full_drop f0 _)⟩
      · exact hw r (by simp [z])
/-! texts -/
def cellT (b : Str) : Option Str → Str
  | none => b
  | some s => s
def lineB (b : Str) (r : Row) : Str := Txt.join "," (r.map (cellT b))
def textT (t : List Row) : Str := Txt.join "\n" (t.map (lineB ""))
/-- short cells -/
def shortR (r : Row) : Prop := ∀ c ∈ r, ∀ s, c = some s → s.length ≤ 8
theorem sum_le (B : Nat) : ∀ l : List Nat, (∀ x ∈ l, x ≤ B) → l.sum ≤ l.length * B
  | [], _ => by simp
  | x :: l, h => by
    have := sum_le B l fun y hy => h y (by simp [hy])
    have := h x (by simp)
    simp only [List.sum_cons, List.length_cons]
    rw [Nat.add_mul]
    omega
theorem join_len (a : Str) (zs : List Str) : (Txt.join a zs).length ≤ (zs.map (·.length)).sum + zs.length * a.length := by
  rw [Txt.join, StrLaws.glued_eq_join]
  exact StrLaws.join_length_le a zs
theorem lineB_len {b : Str} {r : Row} (hb : b.length ≤ 8) (hr : shortR r) (hl : r.length ≤ 6) : (lineB b r).length ≤ 54 ∧ ((r.map (cellT b)).map (·.length)).sum + (r.map (cellT b)).length * (Str.ofString ",").length ≤ 54 := by
  have h1 := sum_le 8 ((r.map (cellT b)).map (·.length)) (fun x hx => by
    rw [List.map_map] at hx
    obtain ⟨c, hc, rfl⟩ := List.mem_map.mp hx
    cases c with
    | none => exact hb
    | some s => exact hr _ hc s rfl)
  have h2 : ((r.map (cellT b)).map (·.length)).sum + (r.map (cellT b)).length * (Str.ofString ",").length ≤ 54 := by
    rw [List.length_map, List.length_map] at h1
    rw [List.length_map, show (Str.ofString ",").length = 1 from rfl]
    omega
  exact ⟨Nat.le_trans (join_len _ _) h2, h2⟩
def sp_line_of : DSp := fun ds h Q _ => match ds with
  | [d, .str b] => ∃ r, d = rowD r ∧ shortR r ∧ r.length ≤ 6 ∧ b.length ≤ 8 ∧ Q (.str (lineB b r)) h
  | _ => False
theorem i_line_of {r : Row} {b : Str} {h : DH} {Q : DK} {X : DX} (hr : shortR r) (hl : r.length ≤ 6) (hb : b.length ≤ 8) (z : Q (.str (lineB b r)) h) : sp_line_of [rowD r, .str b] h Q X := ⟨r, rfl, hr, hl, hb, z⟩
def t_line_of : DS :=
(dRet (dBM "str" dJoin (dC (.str ",")) (dCons (dLc (iSeqD (dVar 0)) (.nm 2) dYes (dIfE (dTest (dOp dIsN (dVar 2) (dC .non))) (dVar 1) (dVar 2)) [2]) dNil)))
def n_line_of : List Str := ["row", "blank", "cell"]
/- 0=row 1=blank 2=cell -/
theorem rd_line_of (ds : List D) (h : DH) (Q : DK) (X : DX) (z : sp_line_of ds h Q X) : t_line_of (dEnd Q X) (dstart n_line_of ds) h := by
  match ds, z with
  | [_, .str b], ⟨r, rfl, hr, hl, hb, z⟩ =>
    show t_line_of (dEnd Q X) [some (rowD r), some (.str b), none] h
    unfold t_line_of
    rw [show rowD r = .tup (r.map cD) from rfl]
    walk_at "ev"
    refine ⟨by rw [List.length_map]; omega, ?_⟩
    refine lc_map cD (fun c => .str (cellT b c)) r (fun c _ Q' q' => ?_) ?_
    · walk_at "ev"
      cases c with
      | none => exact ⟨fun _ => q', fun z => (by cases z)⟩
      | some s => exact ⟨fun z => (by cases z), fun _ => q'⟩
    · rw [show (r.map fun c => D.str (cellT b c)) = (r.map (cellT b)).map D.str by rw [List.map_map]; rfl, strsOf_map]
      exact ⟨Nat.le_trans (lineB_len hb hr hl).2 (by decide), dend0 z⟩
/-- a line is read -/
def splitR (s : Str) : Row := (Txt.split s ",").map fun p : Str => if p = ("" : Str) then none else some p
def rowIn (s : Str) : Option Row := if isRowD (rowD (splitR s)) then some (splitR s) else none
def sp_row_in : DSp := fun ds h Q _ => match ds with
  | [.str s] => s.length ≤ 1000000 ∧ Q (aboveD (rowIn s)) h
  | _ => False
theorem i_row_in {s : Str} {h : DH} {Q : DK} {X : DX} (hs : s.length ≤ 1000000) (z : Q (aboveD (rowIn s)) h) : sp_row_in [.str s] h Q X := ⟨hs, z⟩
theorem split_len (x y : Str) : (Txt.split x y).length ≤ x.length + 2 := PyProof.Rows.split_le x y
theorem part_len (x : Str) (c : Nat) : ∀ p ∈ Txt.split x ⟨#[c]⟩, p.length ≤ x.length := by
  intro p hp
  have := StrLaws.join_split x ⟨#[c]⟩
  have key : ∀ (l : List Str), p ∈ l → p.length ≤ (Str.join ⟨#[c]⟩ l).length := by
    intro l
    induction l with
    | nil => intro h; cases h
    | cons a l ih =>
      intro h
      cases l with
      | nil =>
        rw [List.mem_singleton.mp h]
        exact Nat.le_refl _
      | cons b l =>
        show p.length ≤ (a ++ ⟨#[c]⟩ ++ Str.join ⟨#[c]⟩ (b :: l)).length
        rw [Str.length_append, Str.length_append]
        rcases List.mem_cons.mp h with z | z
        · rw [z]; omega
        · have := ih z; omega
  rw [← this]
  exact key _ hp
def t_row_in : DS :=
(dSeq (dAsg (dCB dTuple (dCons (dLc (iSeqD (dBM "str" dSplit (dVar 0) (dCons (dC (.str ",")) dNil))) (.nm 2) dYes (dIfE (dTest (dOp dNe (dVar 2) (dC (.str "")))) (dVar 2) (dC .non)) [2]) dNil)) 1)
  (dRet (dIfE (dTest (dCall sp_is_printed_row (dCons (dVar 1) dNil))) (dVar 1) (dC .non))))
def n_row_in : List Str := ["line", "found", "cell"]
/- 0=line 1=found 2=cell -/
theorem rd_row_in (ds : List D) (h : DH) (Q : DK) (X : DX) (z : sp_row_in ds h Q X) : t_row_in (dEnd Q X) (dstart n_row_in ds) h := by
  match ds, z with
  | [.str s], ⟨hs, z⟩ =>
    show t_row_in (dEnd Q X) [some (.str s), none, none] h
    unfold t_row_in
    walk_at "ev"
    have hl := split_len s ","
    refine ⟨by decide, le_line (m := 1000002) (by omega), by rw [List.length_map]; omega, ?_⟩
    refine lc_map D.str (fun p : Str => cD (if p = ("" : Str) then none else some p)) _ (fun c _ Q' q' => ?_) ?_
    · walk_at "ev"
      refine ⟨fun e => ?_, fun e => ?_⟩
      · rw [if_neg (by simpa using e)] at q'; exact q'
      · rw [if_pos (by simpa using e)] at q'; exact q'
    · rw [show ((Txt.split s (Str.ofString ",")).map fun p : Str => cD (if p = ("" : Str) then none else some p)) = (splitR s).map cD by unfold splitR; rw [List.map_map]; rfl]
      have hn : nr (.tup ((splitR s).map cD)) = true := by
        simp only [nr, Bool.and_eq_true, decide_eq_true_eq]
        refine ⟨by unfold splitR; rw [List.length_map, List.length_map]; exact Nat.le_trans hl (by omega), nrL_of fun x hx => ?_⟩
        obtain ⟨c, hc, rfl⟩ := List.mem_map.mp hx
        obtain ⟨p, hp, rfl⟩ := List.mem_map.mp hc
        split
        · rfl
        · show decide (p.length ≤ 16000000) = true
          have := part_len s 44 p hp
          exact decide_eq_true (by omega)
      unfold sp_is_printed_row
      walk_at "ev"
      refine ⟨hn, fun e => dend0 ?_, fun e => dend0 ?_⟩
      · have : rowIn s = some (splitR s) := if_pos e
        rw [this] at z
        exact z
      · have : rowIn s = none := if_neg (by rw [show isRowD (rowD (splitR s)) = false from e]; decide)
        rw [this] at z
        exact z

end DL

namespace DL
open PySem L2
local macro_rules | `(tactic| walk_at "ev") => `(tactic| try simp (disch := (first | assumption | exact dupd_same | (refine (dupd_ne ?_).trans ?_; (first | assumption | (apply Ne.symm; assumption)); first | assumption | exact dupd_same | (refine (dupd_ne ?_).trans ?_; (first | assumption | (apply Ne.symm; assumption)); first | assumption | exact dupd_same)))) only [v0, v1, v2, v3, v4, v5, v6, v7, v8, v9, v10, v11, v12, v13, v14, v15, v16, w0, w1, w2, w3, w4, w5, w6, w7, w8, w9, w10, w11, w12, w13, w14, w15, w16, e_dC, e_dOp, e_dUn, e_dTest, e_dAnd, e_dOr, e_dNot, e_dAndV, e_dOrV, e_dNotV, e_dIfE, e_dChain, e_dNil, e_dCons, e_dTup, e_dLst, e_dLstM, e_dCB, e_dBM, e_dFrz, e_dNoPart, e_dPart, e_dSl, e_dIsi, e_iSeqD, e_iRange1, e_iRange2, e_iEnumD, e_iZipD, e_dNext, e_dSeq, e_dAsg, e_dAsgT, e_dPar, e_dIf, e_dRet, e_dRetN, e_dDrop, e_dBrk, e_dCnt, e_dAug, e_dSetI, e_dFor, e_dWhile, e_dYes, e_dLc, e_dLcM, e_dCall, e_dCallK, e_dNeg, e_dRaise, op_Lt, op_Le, op_Gt, op_Ge, op_IsN, op_IsNN, op_Sub, op_Add, op_AddS, op_AddT, op_AddL, op_Mul, op_MulT, op_MulL, op_Mod, op_Fdiv, op_InS, op_NotInS, cb_lenT, cb_lenL, cb_lenS, cb_lenX, cb_all, cb_any, cb_tupleL, cb_tupleT, cb_max, cb_min, cb_abs, cb_int, cb_intB, cb_strI, me_joinL, me_joinT, me_split, ip_add, ip_sub, ip_mul, ip_div, ix_ref0, ix_ref1, ix_ref2, me_append, me_popAt, me_pop0, me_insert, me_clear, me_reverse, cb_lenR, cb_tupleR, me_joinR, vw_ref, dT_ref, pow_18, pow_38, pow_40, pow_41, pow_6, eq_str, ne_str, eq_int, ne_int, ix_tup0, ix_lst0, sl_from, sl_to, sl_fromL, sl_toL, vw_str, vw_int, vw_bl, vw_non, vw_dct, vw_tup, vw_lst, vw_scr, ty_str, ty_int, ty_bl, ty_non, ty_tup, ty_lst, ty_dct, it_str, it_tup, it_lst, bT_nm, isN_non, isN_str, isN_int, isN_bl, isN_tup, isN_lst, isN_dct, dT_str, dT_lst, en_rt, en_nx, en_ex, t_imp, f_imp, tf_eq, ft_eq, dwipe, true_and, and_true, Bool.not_true, Bool.not_false, Bool.not_eq_true', Bool.not_eq_false', decide_eq_true_eq, decide_eq_false_iff_not, nq_NoneType, is_NoneType_int, is_NoneType_bool, is_NoneType_str, is_NoneType_tuple, is_NoneType_list, is_NoneType_dict, nq_bool, is_bool_int, is_bool_bool, is_bool_str, is_bool_tuple, is_bool_list, is_bool_dict, nq_int, is_int_int, is_int_bool, is_int_str, is_int_tuple, is_int_list, is_int_dict, nq_str, is_str_int, is_str_bool, is_str_str, is_str_tuple, is_str_list, is_str_dict, nq_tuple, is_tuple_int, is_tuple_bool, is_tuple_str, is_tuple_tuple, is_tuple_list, is_tuple_dict, nq_list, is_list_int, is_list_bool, is_list_str, is_list_tuple, is_list_list, is_list_dict, nq_dict, is_dict_int, is_dict_bool, is_dict_str, is_dict_tuple, is_dict_list, is_dict_dict])
/-! R7: rows as a text -/
theorem take_blanks : ∀ (r : Row), ∀ c ∈ r.take (blanks r), c = none
  | none :: r, c, h => by
    rcases List.mem_cons.mp h with z | z
    · exact z
    · exact take_blanks r c z
  | [], c, h => by cases h
  | some s :: r, c, h => by cases h
theorem pr_mem {r : Row} (h : pr r) : ∀ c ∈ r, c = none ∨ okC c = true := by
  intro c hc
  rw [← List.take_append_drop (blanks r) r] at hc
  rcases List.mem_append.mp hc with z | z
  · exact .inl (take_blanks r c z)
  · exact .inr (h c z)
theorem pr_short {r : Row} (h : pr r) : shortR r := fun c hc s e => by
  rcases pr_mem h c hc with z | z
  · rw [z] at e; cases e
  · rw [e] at z; exact (okCell_len z).2
theorem pr_strOk {r : Row} (h : pr r) : strOkR r := fun c hc => by
  rcases pr_mem h c hc with z | z
  · rw [z]; rfl
  · exact okC_strOk z
theorem isRow_rowD (r : Row) : isRowD (rowD r) = (decide (1 ≤ r.length ∧ r.length ≤ 6) && (r.drop (blanks r)).all okC) := by
  show (decide _ && _) = _
  rw [lead_row, List.length_map, ← List.map_drop, List.all_map]
  congr 1
  refine congrArg (fun f => List.all _ f) ?_
  funext c
  exact isCell_cD c
theorem isRow_of {r : Row} (h1 : 1 ≤ r.length) (h6 : r.length ≤ 6) (p : pr r) : isRowD (rowD r) = true := by
  rw [isRow_rowD, decide_eq_true ⟨h1, h6⟩, Bool.true_and, List.all_eq_true]
  exact p
theorem row_of_is {r : Row} (h : isRowD (rowD r) = true) : 1 ≤ r.length ∧ r.length ≤ 6 ∧ pr r := by
  rw [isRow_rowD, Bool.and_eq_true, decide_eq_true_eq, List.all_eq_true] at h
  exact ⟨h.1.1, h.1.2, h.2⟩
theorem cells_of : ∀ (xs : List D), (xs.drop (lead xs)).all isCellD = true → ∃ r : Row, xs = r.map cD
  | [], _ => ⟨[], rfl⟩
  | x :: xs, h => by
    by_cases hx : isN x = true
    · have e : lead (x :: xs) = lead xs + 1 := by show (if isN x = true then _ else _) = _; rw [if_pos hx]
      rw [e] at h
      obtain ⟨r, rfl⟩ := cells_of xs h
      cases x with
      | non => exact ⟨none :: r, rfl⟩
      | _ => cases hx
    · have e : lead (x :: xs) = 0 := by show (if isN x = true then _ else _) = _; rw [if_neg hx]
      rw [e, List.drop_zero] at h
      have key : ∀ l : List D, l.all isCellD = true → ∃ r : Row, l = r.map cD := by
        intro l
        induction l with
        | nil => intro _; exact ⟨[], rfl⟩
        | cons y l ih =>
          intro h
          simp only [List.all_cons, Bool.and_eq_true] at h
          obtain ⟨r, rfl⟩ := ih h.2
          cases y with
          | str s => exact ⟨some s :: r, rfl⟩
          | _ => cases h.1
      exact key _ h
theorem row_of {d : D} (h : isRowD d = true) : ∃ r, d = rowD r ∧ 1 ≤ r.length ∧ r.length ≤ 6 ∧ pr r := by
  cases d with
  | tup xs =>
    have h2 := h
    simp only [isRowD, Bool.and_eq_true] at h2
    obtain ⟨r, rfl⟩ := cells_of xs h2.2
    exact ⟨r, rfl, row_of_is h⟩
  | _ => cases h
theorem rows_list : ∀ {xs : List D}, xs.all isRowD = true → ∃ t : List Row, xs = t.map rowD ∧ ∀ r ∈ t, 1 ≤ r.length ∧ r.length ≤ 6 ∧ pr r
  | [], _ => ⟨[], rfl, fun _ z => nomatch z⟩
  | x :: xs, h => by
    simp only [List.all_cons, Bool.and_eq_true] at h
    obtain ⟨r, rfl, hr⟩ := row_of h.1
    obtain ⟨t, rfl, ht⟩ := rows_list h.2
    exact ⟨r :: t, rfl, fun q hq => by rcases List.mem_cons.mp hq with z | z; rw [z]; exact hr; exact ht q z⟩
theorem lenD_row (r : Row) : lenD (rowD r) = r.length := by show (r.map cD).length = _; rw [List.length_map]
theorem rows_of {d : D} (h : isRowsD d = true) : ∃ t, d = tabD t ∧ RowsP t := by
  cases d with
  | tup xs =>
    simp only [isRowsD, Bool.and_eq_true, decide_eq_true_eq] at h
    obtain ⟨⟨h1, h60⟩, hr, hw⟩ := h
    obtain ⟨t, rfl, ht⟩ := rows_list hr
    rw [List.length_map] at h1 h60
    cases t with
    | nil => exact absurd h1 (by simp)
    | cons r0 rs =>
      refine ⟨r0 :: rs, rfl, h1, h60, r0.length, (ht r0 (by simp)).1, (ht r0 (by simp)).2.1, fun r hr => ⟨?_, (ht r hr).2.2⟩⟩
      have := List.all_eq_true.mp hw (rowD r) (List.mem_map_of_mem hr)
      have := of_decide_eq_true this
      rw [lenD_row] at this
      rw [this]
      exact lenD_row r0
  | _ => cases h
theorem isRows_of {t : List Row} (p : RowsP t) : isRowsD (tabD t) = true := by
  obtain ⟨w, w1, w6, hw⟩ := p.w
  have ht : (t.map rowD).all isRowD = true := by
    rw [List.all_eq_true]
    intro x hx
    obtain ⟨r, hr, rfl⟩ := List.mem_map.mp hx
    exact isRow_of (by rw [(hw r hr).1]; exact w1) (by rw [(hw r hr).1]; exact w6) (hw r hr).2
  show (decide _ && (_ && _)) = true
  rw [ht, Bool.true_and, Bool.and_eq_true, List.length_map]
  refine ⟨decide_eq_true ⟨p.ne, p.le⟩, ?_⟩
  cases t with
  | nil => rfl
  | cons r0 rs =>
    rw [List.all_eq_true]
    intro x hx
    obtain ⟨r, hr, rfl⟩ := List.mem_map.mp hx
    show decide (lenD (rowD r) = lenD (rowD r0)) = true
    rw [lenD_row, lenD_row, (hw r hr).1, (hw r0 (by simp)).1]
    exact decide_eq_true rfl
theorem nr_cD {c : Option Str} (h : ∀ s, c = some s → s.length ≤ 16000000) : nr (cD c) = true := by
  cases c with
  | none => rfl
  | some s => exact decide_eq_true (h s rfl)
theorem nr_row {r : Row} (hl : r.length ≤ 16000000) (h : shortR r) : nr (rowD r) = true := by
  simp only [rowD, nr, Bool.and_eq_true, decide_eq_true_eq, List.length_map]
  refine ⟨hl, nrL_of fun x hx => ?_⟩
  obtain ⟨c, hc, rfl⟩ := List.mem_map.mp hx
  exact nr_cD fun s e => Nat.le_trans (h c hc s e) (by decide)
theorem nr_tab {t : List Row} (p : RowsP t) : nr (tabD t) = true := by
  obtain ⟨w, w1, w6, hw⟩ := p.w
  simp only [tabD, nr, Bool.and_eq_true, decide_eq_true_eq, List.length_map]
  refine ⟨Nat.le_trans p.le (by decide), nrL_of fun x hx => ?_⟩
  obtain ⟨r, hr, rfl⟩ := List.mem_map.mp hx
  exact nr_row (by rw [(hw r hr).1]; omega) (pr_short (hw r hr).2)
def sp_format_rows (E : Er) : DSp := fun ds h Q X => match ds with
  | [d] => nr d = true ∧ (∀ t, d = tabD t → RowsP t → Q (.str (textT t)) h) ∧ (isRowsD d = false → E.er .non X h)
  | _ => False
theorem i_format_rows {E : Er} {t : List Row} {h : DH} {Q : DK} {X : DX} (p : RowsP t) (z : Q (.str (textT t)) h) : sp_format_rows E [tabD t] h Q X :=
  ⟨nr_tab p, fun t2 e _ => by
    have inj : ∀ a b : List Row, tabD a = tabD b → a = b := by
      intro a b e
      simp only [tabD, D.tup.injEq] at e
      refine List.map_inj_right (fun x y e2 => ?_) |>.mp e
      simp only [rowD, D.tup.injEq] at e2
      refine List.map_inj_right (fun x y e3 => ?_) |>.mp e2
      cases x <;> cases y <;> first | rfl | cases e3 | skip
      rfl
    rw [← inj _ _ e]
    exact z, fun e => by rw [isRows_of p] at e; cases e⟩
def t_format_rows (E_InvalidRows : Er) : DS :=
(dSeq (dIf (dNot (dTest (dCall sp_are_printed_rows (dCons (dVar 0) dNil)))) (E_InvalidRows.tr none) dNext)
  (dRet (dBM "str" dJoin (dC (.str "\n")) (dCons (dLc (iSeqD (dVar 0)) (.nm 1) dYes (dCall sp_line_of (dCons (dVar 1) (dCons (dC (.str "")) dNil))) [1]) dNil))))
def n_format_rows : List Str := ["rows", "row"]
/- 0=rows 1=row -/
theorem text_len {t : List Row} (p : RowsP t) : ((t.map (lineB "")).map (·.length)).sum + (t.map (lineB "")).length * 1 ≤ 3300 := by
  obtain ⟨w, w1, w6, hw⟩ := p.w
  have h1 := sum_le 54 ((t.map (lineB "")).map (·.length)) (fun x hx => by
    rw [List.map_map] at hx
    obtain ⟨r, hr, rfl⟩ := List.mem_map.mp hx
    exact (lineB_len (b := "") (by decide) (pr_short (hw r hr).2) (by rw [(hw r hr).1]; exact w6)).1)
  have := p.le
  rw [List.length_map, List.length_map] at h1
  rw [List.length_map]
  omega
theorem rd_format_rows (E : Er) (ds : List D) (h : DH) (Q : DK) (X : DX) (z : sp_format_rows E ds h Q X) : t_format_rows E (dEnd Q X) (dstart n_format_rows ds) h := by
  match ds, z with
  | [d], ⟨hn, z, zx⟩ =>
    show t_format_rows E (dEnd Q X) [some d, none] h
    unfold t_format_rows
    unfold sp_are_printed_rows
    walk_at "ev"
    refine ⟨hn, fun e => E.ok _ _ _ _ (E.mono _ _ _ _ _ (fun C fs xe => ⟨h, DSub.refl h, xe⟩) (zx e)), fun e => ?_⟩
    obtain ⟨t, rfl, p⟩ := rows_of e
    have z := z t rfl p
    obtain ⟨w, w1, w6, hw⟩ := p.w
    rw [show tabD t = .tup (t.map rowD) from rfl]
    walk_at "ev"
    have h60 := p.le
    refine ⟨by rw [List.length_map]; omega, ?_⟩
    have key := lc_fil (tg := .nm 1) (tt := dYes) (te := dCall sp_line_of (dCons (dVar 1) (dCons (dC (.str "")) dNil))) (τ := [some (.tup (t.map rowD)), none]) (h := h) (Q := fun ys h2 => match strsOf ys with
        | some zs => (List.map (fun x => x.length) zs).sum + zs.length * (Str.ofString "\n").length ≤ 16777216 ∧ ∃ h2_1, DSub h2_1 h2 ∧ Q (D.str (Txt.join (Str.ofString "\n") zs)) h2_1
        | none => False) rowD (fun r => .str (lineB "" r)) (fun _ => true) t (fun r hr => ⟨_, rfl, fun Q' q => q, fun _ Q' q' => ?_⟩) ?_
    · exact key
    · walk_at "ev"
      exact i_line_of (pr_short (hw r hr).2) (by rw [(hw r hr).1]; exact w6) (by decide) q'
    · rw [List.filter_eq_self.mpr (fun _ _ => rfl), show (t.map fun r => D.str (lineB "" r)) = (t.map (lineB "")).map D.str by rw [List.map_map]; rfl, strsOf_map]
      exact ⟨Nat.le_trans (text_len p) (by decide), dend0 z⟩

end DL

namespace DL
open PySem L2
local macro_rules | `(tactic| walk_at "ev") => `(tactic| try simp (disch := (first | assumption | exact dupd_same | (refine (dupd_ne ?_).trans ?_; (first | assumption | (apply Ne.symm; assumption)); first | assumption | exact dupd_same | (refine (dupd_ne ?_).trans ?_; (first | assumption | (apply Ne.symm; assumption)); first | assumption | exact dupd_same)))) only [v0, v1, v2, v3, v4, v5, v6, v7, v8, v9, v10, v11, v12, v13, v14, v15, v16, w0, w1, w2, w3, w4, w5, w6, w7, w8, w9, w10, w11, w12, w13, w14, w15, w16, e_dC, e_dOp, e_dUn, e_dTest, e_dAnd, e_dOr, e_dNot, e_dAndV, e_dOrV, e_dNotV, e_dIfE, e_dChain, e_dNil, e_dCons, e_dTup, e_dLst, e_dLstM, e_dCB, e_dBM, e_dFrz, e_dNoPart, e_dPart, e_dSl, e_dIsi, e_iSeqD, e_iRange1, e_iRange2, e_iEnumD, e_iZipD, e_dNext, e_dSeq, e_dAsg, e_dAsgT, e_dPar, e_dIf, e_dRet, e_dRetN, e_dDrop, e_dBrk, e_dCnt, e_dAug, e_dSetI, e_dFor, e_dWhile, e_dYes, e_dLc, e_dLcM, e_dCall, e_dCallK, e_dNeg, e_dRaise, op_Lt, op_Le, op_Gt, op_Ge, op_IsN, op_IsNN, op_Sub, op_Add, op_AddS, op_AddT, op_AddL, op_Mul, op_MulT, op_MulL, op_Mod, op_Fdiv, op_InS, op_NotInS, cb_lenT, cb_lenL, cb_lenS, cb_lenX, cb_all, cb_any, cb_tupleL, cb_tupleT, cb_max, cb_min, cb_abs, cb_int, cb_intB, cb_strI, me_joinL, me_joinT, me_split, ip_add, ip_sub, ip_mul, ip_div, ix_ref0, ix_ref1, ix_ref2, me_append, me_popAt, me_pop0, me_insert, me_clear, me_reverse, cb_lenR, cb_tupleR, me_joinR, vw_ref, dT_ref, pow_18, pow_38, pow_40, pow_41, pow_6, eq_str, ne_str, eq_int, ne_int, ix_tup0, ix_lst0, sl_from, sl_to, sl_fromL, sl_toL, vw_str, vw_int, vw_bl, vw_non, vw_dct, vw_tup, vw_lst, vw_scr, ty_str, ty_int, ty_bl, ty_non, ty_tup, ty_lst, ty_dct, it_str, it_tup, it_lst, bT_nm, isN_non, isN_str, isN_int, isN_bl, isN_tup, isN_lst, isN_dct, dT_str, dT_lst, en_rt, en_nx, en_ex, t_imp, f_imp, tf_eq, ft_eq, dwipe, true_and, and_true, Bool.not_true, Bool.not_false, Bool.not_eq_true', Bool.not_eq_false', decide_eq_true_eq, decide_eq_false_iff_not, nq_NoneType, is_NoneType_int, is_NoneType_bool, is_NoneType_str, is_NoneType_tuple, is_NoneType_list, is_NoneType_dict, nq_bool, is_bool_int, is_bool_bool, is_bool_str, is_bool_tuple, is_bool_list, is_bool_dict, nq_int, is_int_int, is_int_bool, is_int_str, is_int_tuple, is_int_list, is_int_dict, nq_str, is_str_int, is_str_bool, is_str_str, is_str_tuple, is_str_list, is_str_dict, nq_tuple, is_tuple_int, is_tuple_bool, is_tuple_str, is_tuple_tuple, is_tuple_list, is_tuple_dict, nq_list, is_list_int, is_list_bool, is_list_str, is_list_tuple, is_list_list, is_list_dict, nq_dict, is_dict_int, is_dict_bool, is_dict_str, is_dict_tuple, is_dict_list, is_dict_dict])
/-! R8: a text read as rows -/
def rowAt (found : List Row) (i : Nat) (line : Str) : Option Row := match rowIn line with
  | none => none
  | some r => if (found ≠ [] ∧ r.length ≠ (found.headD []).length) ∨ i = 60 then none else some r
def parseGo : Nat → List Row → List Str → Except Nat (List Row)
  | _, found, [] => .ok found
  | i, found, l :: ls => match rowAt found i l with
    | none => .error i
    | some r => parseGo (i + 1) (found ++ [r]) ls
def parseT (s : Str) : Except Nat (List Row) := parseGo 0 [] (Txt.split s "\n")
def sp_parse_rows (E : Er) : DSp := fun ds h Q X => match ds with
  | [d] => nr d = true ∧ (∀ s, d = .str s → s.length ≤ 1000000 ∧ (∀ t, parseT s = .ok t → Q (tabD t) h) ∧ (∀ i, parseT s = .error i → E.er (.int (i : Nat)) X h)) ∧ ((∀ s, d ≠ .str s) → E.er .non X h)
  | _ => False
theorem i_parse_rows {E : Er} {s : Str} {t : List Row} {h : DH} {Q : DK} {X : DX} (hs : s.length ≤ 1000000) (e : parseT s = .ok t) (z : Q (tabD t) h) : sp_parse_rows E [.str s] h Q X :=
  ⟨decide_eq_true (by omega), fun s2 e2 => by cases e2; exact ⟨hs, fun t2 e2 => by rw [e] at e2; cases e2; exact z, fun i e2 => by rw [e] at e2; cases e2⟩, fun n => (n s rfl).elim⟩
def t_parse_rows (E_InvalidLines : Er) : DS :=
(dSeq (dIf (dNot (dTest (dIsi "str" (dVar 0)))) (E_InvalidLines.tr none) dNext)
  (dSeq (dAsg (dLstM dNil) 1)
  (dSeq (dFor (iEnumD (dBM "str" dSplit (dVar 0) (dCons (dC (.str "\n")) dNil))) (.tp [(.nm 2), (.nm 3)]) (dSeq (dAsg (dCall sp_row_in (dCons (dVar 3) dNil)) 4)
  (dSeq (dIf (dOr (dTest (dOp dIsN (dVar 4) (dC .non))) (dOr (dAnd (dTest (dOp dNe (dVar 1) (dLst dNil))) (dTest (dOp dNe (dCB dLen (dCons (dVar 4) dNil)) (dCB dLen (dCons (dOp dIx (dVar 1) (dC (.int 0))) dNil))))) (dTest (dOp dEq (dVar 2) (dC (.int 60)))))) (E_InvalidLines.tr (some 2)) dNext)
  (dDrop (dBM "list" dAppend (dVar 1) (dCons (dVar 4) dNil))))))
  (dRet (dCB dTuple (dCons (dVar 1) dNil))))))
def n_parse_rows : List Str := ["text", "found", "index", "line", "row"]
/- 0=text 1=found 2=index 3=line 4=row -/
theorem enum_eq (ls : List Str) : enumD (ls.map D.str) = ((List.range ls.length).zip ls).map fun p => .tup [.int (p.1 : Nat), .str p.2] := by
  unfold enumD
  rw [List.length_map, List.zip_map_right, List.map_map]
  rfl
theorem dn_row {r : Row} (h : strOkR r) (n : Nat) : dn (n + 1) (rowD r) = true := by
  show (r.map cD).all (dn n) = true
  rw [List.all_eq_true]
  intro x hx
  obtain ⟨c, hc, rfl⟩ := List.mem_map.mp hx
  exact dn_cD n (h c hc)
theorem rowIn_pr {s : Str} {r : Row} (h : rowIn s = some r) : 1 ≤ r.length ∧ r.length ≤ 6 ∧ pr r := by
  unfold rowIn at h
  split at h
  · rename_i e
    cases h
    exact row_of_is e
  · cases h
theorem eqv_nil {xs : List D} : eqvD (.lst xs) (.lst []) = decide (xs = []) := by
  cases xs with
  | nil => rfl
  | cons x xs => rfl
theorem rd_parse_rows (E : Er) (ds : List D) (h : DH) (Q : DK) (X : DX) (z : sp_parse_rows E ds h Q X) : t_parse_rows E (dEnd Q X) (dstart n_parse_rows ds) h := by
  match ds, z with
  | [d], ⟨hn, z, zx⟩ =>
    show t_parse_rows E (dEnd Q X) [some d, none, none, none, none] h
    unfold t_parse_rows
    cases d with
    | str s =>
      obtain ⟨hs, zo, ze⟩ := z s rfl
      walk_at "ev"
      have hl := split_len s "\n"
      refine ⟨Nat.zero_le _, fun p hp => ⟨by decide, le_line (m := 1000002) (by omega), ?_⟩⟩
      rw [show Str.ofString "\n" = "\n" from rfl, enum_eq]
      refine for_indG (fun p : Nat × Str => D.tup [.int (p.1 : Nat), .str p.2]) (fun pre τ h' => ∃ found x2 x3 x4, τ = [some (.str s), some (.ref p), x2, x3, x4] ∧ h' = dupd h p (.lst (found.map rowD)) ∧ found.length = pre.length ∧
          (∀ r ∈ found, pr r) ∧ parseT s = parseGo pre.length found ((Txt.split s "\n").drop pre.length)) _ ⟨[], none, none, none, rfl, rfl, rfl, (fun _ z => nomatch z), rfl⟩ ?_ ?_
      · rintro pre ⟨i, line⟩ post τ h' eq ⟨found, x2, x3, x4, rfl, rfl, hfl, hfp, hpa⟩ D' T
        refine ⟨_, rfl, ?_⟩
        have hi : ((List.range (Txt.split s "\n").length).zip (Txt.split s "\n"))[pre.length]? = some (i, line) := by rw [eq]; simp
        rw [List.getElem?_zip_eq_some] at hi
        obtain ⟨h1, h2⟩ := hi
        have hlen : pre.length < (Txt.split s "\n").length := by
          rcases Nat.lt_or_ge pre.length (Txt.split s "\n").length with l | l
          · exact l
          · rw [List.getElem?_eq_none l] at h2; cases h2
        have e1 : i = pre.length := by
          rw [List.getElem?_range hlen] at h1
          exact (Option.some.inj h1).symm
        subst e1
        have e2 : (Txt.split s "\n").drop pre.length = line :: (Txt.split s "\n").drop (pre.length + 1) := by
          rw [List.drop_eq_getElem_cons hlen]
          rw [List.getElem?_eq_getElem hlen] at h2
          rw [Option.some.inj h2]
        have hlm : line.length ≤ s.length := part_len s 10 line (List.mem_of_getElem? h2)
        rw [e2] at hpa
        simp only [parseGo] at hpa
        walk_at "ev"
        refine i_row_in (by omega) ?_
        have err : rowAt found pre.length line = none → ∀ (D2 : DEnds) (x : Option D), D2.ex = D'.ex → E.tr (some 2) D2 [some (.str s), some (.ref p), some (.int (pre.length : Nat)), some (.str line), x] (dupd h p (.lst (found.map rowD))) := by
          intro e D2 x eD
          rw [e] at hpa
          have := ze _ hpa
          refine E.ok _ _ _ _ (E.mono _ _ _ _ _ (fun C fs xe => ?_) this)
          rw [eD]
          refine T.ex _ _ _ _ ⟨h, ?_, xe⟩
          exact DSub.new (DSub.refl h) hp
        cases hr : rowIn line with
        | none =>
          have e3 : rowAt found pre.length line = none := by unfold rowAt; rw [hr]
          rw [show aboveD none = D.non from rfl]
          walk_at "ev"
          exact err e3 _ _ rfl
        | some r =>
          obtain ⟨r1, r6, rp⟩ := rowIn_pr hr
          rw [show aboveD (some r) = .tup (r.map cD) from rfl]
          walk_at "ev"
          have hd : dn 12 (.lst (found.map rowD)) = true := by
            show (found.map rowD).all (dn 11) = true
            rw [List.all_eq_true]
            intro x hx
            obtain ⟨q, hq, rfl⟩ := List.mem_map.mp hx
            exact dn_row (pr_strOk (hfp q hq)) 10
          have last : (found = [] ∨ r.length = (found.headD []).length) → ((pre.length : Int) = 60 → E.tr (some 2) { D' with nx := dDrop (dBM "list" dAppend (dVar 1) (dCons (dVar 4) dNil)) D' } [some (.str s), some (.ref p), some (.int (pre.length : Nat)), some (.str line), some (D.tup (List.map cD r))] (dupd h p (.lst (found.map rowD)))) ∧
              (¬ (pre.length : Int) = 60 → (found.map rowD).length < sizeLine ∧ D'.nx [some (.str s), some (.ref p), some (.int (pre.length : Nat)), some (.str line), some (D.tup (List.map cD r))] (dupd (dupd h p (.lst (found.map rowD))) p (.lst (found.map rowD ++ [.tup (r.map cD)])))) := by
            intro hc
            refine ⟨fun e => err ?_ _ _ rfl, fun e => ?_⟩
            · unfold rowAt; rw [hr]; exact if_pos (.inr (by omega))
            · have e3 : rowAt found pre.length line = some r := by
                unfold rowAt; rw [hr]
                refine if_neg fun q => ?_
                rcases q with ⟨q1, q2⟩ | q
                · rcases hc with z | z
                  · exact q1 z
                  · exact q2 z
                · exact e (by omega)
              rw [e3] at hpa
              refine ⟨by rw [List.length_map]; exact Nat.lt_of_lt_of_le (show found.length < 1000002 by omega) (by decide), T.nx _ _ ⟨found ++ [r], _, _, _, rfl, ?_, ?_, ?_, ?_⟩⟩
              · rw [dupd2, List.map_append]; rfl
              · rw [List.length_append, List.length_append, hfl]; rfl
              · intro q hq
                rcases List.mem_append.mp hq with z | z
                · exact hfp q z
                · rw [List.mem_singleton.mp z]; exact rp
              · rw [List.length_append]; exact hpa
          refine ⟨Nat.zero_le _, ?_⟩
          show dn 12 (view _ (.ref p)) = true ∧ dn 12 (.lst []) = true ∧ _
          rw [vw_ref dupd_same]
          refine ⟨hd, rfl, ?_⟩
          rw [show (view (dupd h p (.lst (found.map rowD))) (D.lst [])) = .lst [] from rfl, eqv_nil]
          cases found with
          | nil =>
            walk_at "ev"
            exact ⟨fun z => (by simp at z), fun _ => last (.inl rfl)⟩
          | cons f fs =>
            refine ⟨fun _ => ?_, fun z => (by simp at z)⟩
            have e0 : dupd h p (.lst ((f :: fs).map rowD)) p = some (.lst (D.tup (f.map cD) :: fs.map rowD)) := dupd_same
            walk_at "ev"
            simp only [List.length_map]
            refine ⟨fun e => err ?_ _ _ rfl, fun e => ?_⟩
            · unfold rowAt; rw [hr]; refine if_pos (.inl ⟨by simp, fun e2 => ?_⟩)
              have e2 : r.length = f.length := e2
              omega
            · refine last (.inr ?_)
              show r.length = f.length
              omega
      · rintro τ h' ⟨found, x2, x3, x4, rfl, rfl, hfl, hfp, hpa⟩
        have e : parseT s = .ok found := by
          rw [hpa, List.length_zip, List.length_range, Nat.min_self, List.drop_length]; rfl
        walk_at "ev"
        exact ⟨h, DSub.new (DSub.refl h) hp, zo _ e⟩
    | ref a => cases hn
    | scr a => cases hn
    | _ =>
      walk_at "ev"
      exact E.ok _ _ _ _ (E.mono _ _ _ _ _ (fun C fs xe => ⟨h, DSub.refl h, xe⟩) (zx fun s e => by cases e))

end DL

namespace DL
open PySem L2
local macro_rules | `(tactic| walk_at "ev") => `(tactic| try simp (disch := (first | assumption | exact dupd_same | (refine (dupd_ne ?_).trans ?_; (first | assumption | (apply Ne.symm; assumption)); first | assumption | exact dupd_same | (refine (dupd_ne ?_).trans ?_; (first | assumption | (apply Ne.symm; assumption)); first | assumption | exact dupd_same)))) only [v0, v1, v2, v3, v4, v5, v6, v7, v8, v9, v10, v11, v12, v13, v14, v15, v16, w0, w1, w2, w3, w4, w5, w6, w7, w8, w9, w10, w11, w12, w13, w14, w15, w16, e_dC, e_dOp, e_dUn, e_dTest, e_dAnd, e_dOr, e_dNot, e_dAndV, e_dOrV, e_dNotV, e_dIfE, e_dChain, e_dNil, e_dCons, e_dTup, e_dLst, e_dLstM, e_dCB, e_dBM, e_dFrz, e_dNoPart, e_dPart, e_dSl, e_dIsi, e_iSeqD, e_iRange1, e_iRange2, e_iEnumD, e_iZipD, e_dNext, e_dSeq, e_dAsg, e_dAsgT, e_dPar, e_dIf, e_dRet, e_dRetN, e_dDrop, e_dBrk, e_dCnt, e_dAug, e_dSetI, e_dFor, e_dWhile, e_dYes, e_dLc, e_dLcM, e_dCall, e_dCallK, e_dNeg, e_dRaise, op_Lt, op_Le, op_Gt, op_Ge, op_IsN, op_IsNN, op_Sub, op_Add, op_AddS, op_AddT, op_AddL, op_Mul, op_MulT, op_MulL, op_Mod, op_Fdiv, op_InS, op_NotInS, cb_lenT, cb_lenL, cb_lenS, cb_lenX, cb_all, cb_any, cb_tupleL, cb_tupleT, cb_max, cb_min, cb_abs, cb_int, cb_intB, cb_strI, me_joinL, me_joinT, me_split, ip_add, ip_sub, ip_mul, ip_div, ix_ref0, ix_ref1, ix_ref2, me_append, me_popAt, me_pop0, me_insert, me_clear, me_reverse, cb_lenR, cb_tupleR, me_joinR, vw_ref, dT_ref, pow_18, pow_38, pow_40, pow_41, pow_6, eq_str, ne_str, eq_int, ne_int, ix_tup0, ix_lst0, sl_from, sl_to, sl_fromL, sl_toL, vw_str, vw_int, vw_bl, vw_non, vw_dct, vw_tup, vw_lst, vw_scr, ty_str, ty_int, ty_bl, ty_non, ty_tup, ty_lst, ty_dct, it_str, it_tup, it_lst, bT_nm, isN_non, isN_str, isN_int, isN_bl, isN_tup, isN_lst, isN_dct, dT_str, dT_lst, en_rt, en_nx, en_ex, t_imp, f_imp, tf_eq, ft_eq, dwipe, true_and, and_true, Bool.not_true, Bool.not_false, Bool.not_eq_true', Bool.not_eq_false', decide_eq_true_eq, decide_eq_false_iff_not, nq_NoneType, is_NoneType_int, is_NoneType_bool, is_NoneType_str, is_NoneType_tuple, is_NoneType_list, is_NoneType_dict, nq_bool, is_bool_int, is_bool_bool, is_bool_str, is_bool_tuple, is_bool_list, is_bool_dict, nq_int, is_int_int, is_int_bool, is_int_str, is_int_tuple, is_int_list, is_int_dict, nq_str, is_str_int, is_str_bool, is_str_str, is_str_tuple, is_str_list, is_str_dict, nq_tuple, is_tuple_int, is_tuple_bool, is_tuple_str, is_tuple_tuple, is_tuple_list, is_tuple_dict, nq_list, is_list_int, is_list_bool, is_list_str, is_list_tuple, is_list_list, is_list_dict, nq_dict, is_dict_int, is_dict_bool, is_dict_str, is_dict_tuple, is_dict_list, is_dict_dict])
/-! R9: there and back -/
theorem join_inj (c : Nat) : ∀ (a b : List Str), a ≠ [] → b ≠ [] → (∀ p ∈ a, c ∉ p.cps.toList) → (∀ p ∈ b, c ∉ p.cps.toList) → Str.join ⟨#[c]⟩ a = Str.join ⟨#[c]⟩ b → a = b := by
  have cut : ∀ (x y r q : List Nat), c ∉ x → c ∉ y → x ++ c :: r = y ++ c :: q → x = y ∧ r = q := by
    intro x
    induction x with
    | nil =>
      intro y r q hx hy e
      cases y with
      | nil => exact ⟨rfl, (List.cons.inj e).2⟩
      | cons z y => exact absurd (List.cons.inj e).1 fun w => hy (by rw [w]; simp)
    | cons z x ih =>
      intro y r q hx hy e
      cases y with
      | nil => exact absurd (List.cons.inj e).1 fun w => hx (by rw [← w]; simp)
      | cons w y =>
        obtain ⟨e1, e2⟩ := List.cons.inj e
        obtain ⟨e3, e4⟩ := ih y r q (fun m => hx (by simp [m])) (fun m => hy (by simp [m])) e2
        exact ⟨by rw [e1, e3], e4⟩
  have tl : ∀ (x : Str) (y : Str) (l : List Str), (Str.join ⟨#[c]⟩ (x :: y :: l)).cps.toList = x.cps.toList ++ c :: (Str.join ⟨#[c]⟩ (y :: l)).cps.toList := by
    intro x y l
    show (x ++ ⟨#[c]⟩ ++ Str.join ⟨#[c]⟩ (y :: l)).cps.toList = _
    simp only [Str.cps_append, Array.toList_append, List.append_assoc]
    rfl
  intro a
  induction a with
  | nil => intro b h; exact absurd rfl h
  | cons x a ih =>
    intro b _ hb ha hb2 e
    cases b with
    | nil => exact absurd rfl hb
    | cons y b =>
      cases a with
      | nil =>
        cases b with
        | nil => rw [show x = y from e]
        | cons z b =>
          have e2 : x.cps.toList = y.cps.toList ++ c :: (Str.join ⟨#[c]⟩ (z :: b)).cps.toList := by rw [← tl, ← e]; rfl
          exact absurd (ha x (by simp)) fun n => n (by rw [e2]; simp)
      | cons w a =>
        cases b with
        | nil =>
          have e2 : y.cps.toList = x.cps.toList ++ c :: (Str.join ⟨#[c]⟩ (w :: a)).cps.toList := by rw [← tl, e]; rfl
          exact absurd (hb2 y (by simp)) fun n => n (by rw [e2]; simp)
        | cons z b =>
          have e2 := congrArg (fun s : Str => s.cps.toList) e
          simp only [tl] at e2
          obtain ⟨e3, e4⟩ := cut _ _ _ _ (ha x (by simp)) (hb2 y (by simp)) e2
          have e5 : x = y := Str.ext' (Array.toList_inj.mp e3)
          have e6 := ih (z :: b) (by simp) (by simp) (fun p hp => ha p (by simp only [List.mem_cons] at hp ⊢; exact .inr hp)) (fun p hp => hb2 p (by simp only [List.mem_cons] at hp ⊢; exact .inr hp)) (Str.ext' (Array.toList_inj.mp e4))
          rw [e5, e6]
theorem split_ne (x y : Str) : Txt.split x y ≠ [] := fun e => by
  have := PyProof.Rows.split_pos x y
  rw [e] at this
  exact absurd this (by decide)
theorem split_join (c : Nat) {a : List Str} (h0 : a ≠ []) (h : ∀ p ∈ a, c ∉ p.cps.toList) : Txt.split (Txt.join ⟨#[c]⟩ a) ⟨#[c]⟩ = a := by
  refine join_inj c _ _ (split_ne _ _) h0 (StrLaws.split_free _ c) h ?_
  rw [StrLaws.join_split, Txt.join, StrLaws.glued_eq_join]
theorem cell_free {c : Option Str} (h : c = none ∨ okC c = true) (k : Nat) (hk : k < 48) : k ∉ (cellT "" c).cps.toList := by
  rcases h with z | z
  · rw [z]; show k ∉ []; simp
  · cases c with
    | none => cases z
    | some s =>
      intro m
      have := okSign_lt (okCell_sign z k m)
      omega
theorem splitR_line {r : Row} (p : pr r) (h1 : 1 ≤ r.length) : splitR (lineB "" r) = r := by
  unfold splitR lineB
  have hne : r.map (cellT "") ≠ [] := by
    intro e
    rw [List.map_eq_nil_iff] at e
    rw [e] at h1
    exact absurd h1 (by decide)
  rw [show ("," : Str) = ⟨#[44]⟩ from rfl, split_join 44 hne (fun q hq => by
    obtain ⟨c, hc, rfl⟩ := List.mem_map.mp hq
    exact cell_free (pr_mem p c hc) 44 (by decide)), List.map_map]
  have : ∀ c ∈ r, (if cellT "" c = ("" : Str) then none else some (cellT "" c)) = c := by
    intro c hc
    cases c with
    | none => exact if_pos rfl
    | some s =>
      rcases pr_mem p _ hc with z | z
      · cases z
      · refine if_neg fun e => ?_
        have := (okCell_len z).1
        rw [show s = ("" : Str) from e] at this
        exact absurd this (by decide)
  exact (List.map_congr_left this).trans (List.map_id r)
theorem rowIn_line {r : Row} (p : pr r) (h1 : 1 ≤ r.length) (h6 : r.length ≤ 6) : rowIn (lineB "" r) = some r := by
  unfold rowIn
  rw [splitR_line p h1, if_pos (isRow_of h1 h6 p)]
theorem join_mem (k : Nat) (sep : Str) (hs : k ∉ sep.cps.toList) : ∀ (l : List Str), (∀ p ∈ l, k ∉ p.cps.toList) → k ∉ (Txt.join sep l).cps.toList := by
  intro l
  rw [Txt.join, StrLaws.glued_eq_join]
  induction l with
  | nil => intro _; show k ∉ []; simp
  | cons x l ih =>
    intro h
    cases l with
    | nil => exact h x (by simp)
    | cons y l =>
      show k ∉ (x ++ sep ++ Str.join sep (y :: l)).cps.toList
      simp only [Str.cps_append, Array.toList_append, List.mem_append, not_or]
      exact ⟨⟨h x (by simp), hs⟩, ih fun p hp => h p (by simp only [List.mem_cons] at hp ⊢; exact .inr hp)⟩
theorem line_free {r : Row} (p : pr r) : 10 ∉ (lineB "" r).cps.toList := join_mem 10 "," (by decide +kernel) _ fun q hq => by
  obtain ⟨c, hc, rfl⟩ := List.mem_map.mp hq
  exact cell_free (pr_mem p c hc) 10 (by decide)
theorem parse_go (w : Nat) (w1 : 1 ≤ w) (w6 : w ≤ 6) : ∀ (t found : List Row) (i : Nat), i = found.length → i + t.length ≤ 60 → (∀ r ∈ found, r.length = w) → (∀ r ∈ t, r.length = w ∧ pr r) → parseGo i found (t.map (lineB "")) = .ok (found ++ t)
  | [], found, i, _, _, _, _ => by simp [parseGo]
  | r :: t, found, i, hi, hl, hf, ht => by
    obtain ⟨hr, hp⟩ := ht r (by simp)
    have e : rowAt found i (lineB "" r) = some r := by
      unfold rowAt
      rw [rowIn_line hp (by omega) (by omega)]
      refine if_neg fun q => ?_
      rcases q with ⟨q1, q2⟩ | q
      · cases found with
        | nil => exact q1 rfl
        | cons f fs => exact q2 (by rw [hr]; exact (hf f (by simp)).symm)
      · simp only [List.length_cons] at hl; omega
    simp only [List.map_cons, parseGo, e]
    rw [parse_go w w1 w6 t (found ++ [r]) (i + 1) (by rw [List.length_append]; simp [hi]) (by simp only [List.length_cons] at hl; omega) (fun q hq => by
      rcases List.mem_append.mp hq with z | z
      · exact hf q z
      · rw [List.mem_singleton.mp z]; exact hr) (fun q hq => ht q (by simp [hq])), List.append_assoc]
    rfl
theorem parse_text {t : List Row} (p : RowsP t) : parseT (textT t) = .ok t := by
  obtain ⟨w, w1, w6, hw⟩ := p.w
  unfold parseT textT
  have hne : t.map (lineB "") ≠ [] := by
    intro e
    rw [List.map_eq_nil_iff] at e
    have := p.ne
    rw [e] at this
    exact absurd this (by decide)
  rw [show ("\n" : Str) = ⟨#[10]⟩ from rfl, split_join 10 hne (fun q hq => by
    obtain ⟨r, hr, rfl⟩ := List.mem_map.mp hq
    exact line_free (hw r hr).2)]
  exact parse_go w w1 w6 t [] 0 rfl (by have := p.le; omega) (fun _ z => nomatch z) hw
theorem textT_len {t : List Row} (p : RowsP t) : (textT t).length ≤ 3300 := Nat.le_trans (join_len _ _) (text_len p)
theorem text_inj {t u : List Row} (p : RowsP t) (q : RowsP u) : textT t = textT u ↔ t = u := ⟨fun e => by
  have := parse_text p
  rw [e, parse_text q] at this
  cases this; rfl, fun e => by rw [e]⟩
theorem cD_inj {a b : Option Str} (h : cD a = cD b) : a = b := by
  cases a <;> cases b <;> first | rfl | cases h | skip
  rfl
theorem rowD_inj {a b : Row} (h : rowD a = rowD b) : a = b := by
  simp only [rowD, D.tup.injEq] at h
  exact (List.map_inj_right fun x y e => cD_inj e).mp h
theorem tabD_inj {a b : List Row} (h : tabD a = tabD b) : a = b := by
  simp only [tabD, D.tup.injEq] at h
  exact (List.map_inj_right fun x y e => rowD_inj e).mp h
theorem eqvAll_map {α : Type} [DecidableEq α] (g : α → D) (hg : ∀ a b, PyData.eqv (py (g a)) (py (g b)) = decide (a = b)) : ∀ a b : List α, PyData.eqvAll (pyL (a.map g)) (pyL (b.map g)) = decide (a = b)
  | [], [] => rfl
  | [], _ :: _ => rfl
  | _ :: _, [] => rfl
  | x :: a, y :: b => by
    show (PyData.eqv (py (g x)) (py (g y)) && PyData.eqvAll (pyL (a.map g)) (pyL (b.map g))) = _
    rw [hg, eqvAll_map g hg a b]
    by_cases h1 : x = y <;> by_cases h2 : a = b <;> simp [h1, h2]
theorem eqv_row (a b : Row) : eqvD (rowD a) (rowD b) = decide (a = b) := by
  unfold rowD
  rw [eqv_tup]
  exact eqvAll_map cD (fun a b => eqv_cD a b) a b
theorem eqv_tab (a b : List Row) : eqvD (tabD a) (tabD b) = decide (a = b) := by
  unfold tabD
  rw [eqv_tup]
  exact eqvAll_map rowD (fun a b => eqv_row a b) a b
theorem dn_tab {t : List Row} (h : ∀ r ∈ t, strOkR r) (n : Nat) : dn (n + 2) (tabD t) = true := by
  show (t.map rowD).all (dn (n + 1)) = true
  rw [List.all_eq_true]
  intro x hx
  obtain ⟨r, hr, rfl⟩ := List.mem_map.mp hx
  exact dn_row (h r hr) n
theorem rows_strOk {t : List Row} (p : RowsP t) : ∀ r ∈ t, strOkR r := by
  obtain ⟨w, w1, w6, hw⟩ := p.w
  exact fun r hr => pr_strOk (hw r hr).2

end DL

namespace DL
open PySem L2
local macro_rules | `(tactic| walk_at "ev") => `(tactic| try simp (disch := (first | assumption | exact dupd_same | (refine (dupd_ne ?_).trans ?_; (first | assumption | (apply Ne.symm; assumption)); first | assumption | exact dupd_same | (refine (dupd_ne ?_).trans ?_; (first | assumption | (apply Ne.symm; assumption)); first | assumption | exact dupd_same)))) only [v0, v1, v2, v3, v4, v5, v6, v7, v8, v9, v10, v11, v12, v13, v14, v15, v16, w0, w1, w2, w3, w4, w5, w6, w7, w8, w9, w10, w11, w12, w13, w14, w15, w16, e_dC, e_dOp, e_dUn, e_dTest, e_dAnd, e_dOr, e_dNot, e_dAndV, e_dOrV, e_dNotV, e_dIfE, e_dChain, e_dNil, e_dCons, e_dTup, e_dLst, e_dLstM, e_dCB, e_dBM, e_dFrz, e_dNoPart, e_dPart, e_dSl, e_dIsi, e_iSeqD, e_iRange1, e_iRange2, e_iEnumD, e_iZipD, e_dNext, e_dSeq, e_dAsg, e_dAsgT, e_dPar, e_dIf, e_dRet, e_dRetN, e_dDrop, e_dBrk, e_dCnt, e_dAug, e_dSetI, e_dFor, e_dWhile, e_dYes, e_dLc, e_dLcM, e_dCall, e_dCallK, e_dNeg, e_dRaise, op_Lt, op_Le, op_Gt, op_Ge, op_IsN, op_IsNN, op_Sub, op_Add, op_AddS, op_AddT, op_AddL, op_Mul, op_MulT, op_MulL, op_Mod, op_Fdiv, op_InS, op_NotInS, cb_lenT, cb_lenL, cb_lenS, cb_lenX, cb_all, cb_any, cb_tupleL, cb_tupleT, cb_max, cb_min, cb_abs, cb_int, cb_intB, cb_strI, me_joinL, me_joinT, me_split, ip_add, ip_sub, ip_mul, ip_div, ix_ref0, ix_ref1, ix_ref2, me_append, me_popAt, me_pop0, me_insert, me_clear, me_reverse, cb_lenR, cb_tupleR, me_joinR, vw_ref, dT_ref, pow_18, pow_38, pow_40, pow_41, pow_6, eq_str, ne_str, eq_int, ne_int, ix_tup0, ix_lst0, sl_from, sl_to, sl_fromL, sl_toL, vw_str, vw_int, vw_bl, vw_non, vw_dct, vw_tup, vw_lst, vw_scr, ty_str, ty_int, ty_bl, ty_non, ty_tup, ty_lst, ty_dct, it_str, it_tup, it_lst, bT_nm, isN_non, isN_str, isN_int, isN_bl, isN_tup, isN_lst, isN_dct, dT_str, dT_lst, en_rt, en_nx, en_ex, t_imp, f_imp, tf_eq, ft_eq, dwipe, true_and, and_true, Bool.not_true, Bool.not_false, Bool.not_eq_true', Bool.not_eq_false', decide_eq_true_eq, decide_eq_false_iff_not, nq_NoneType, is_NoneType_int, is_NoneType_bool, is_NoneType_str, is_NoneType_tuple, is_NoneType_list, is_NoneType_dict, nq_bool, is_bool_int, is_bool_bool, is_bool_str, is_bool_tuple, is_bool_list, is_bool_dict, nq_int, is_int_int, is_int_bool, is_int_str, is_int_tuple, is_int_list, is_int_dict, nq_str, is_str_int, is_str_bool, is_str_str, is_str_tuple, is_str_list, is_str_dict, nq_tuple, is_tuple_int, is_tuple_bool, is_tuple_str, is_tuple_tuple, is_tuple_list, is_tuple_dict, nq_list, is_list_int, is_list_bool, is_list_str, is_list_tuple, is_list_list, is_list_dict, nq_dict, is_dict_int, is_dict_bool, is_dict_str, is_dict_tuple, is_dict_list, is_dict_dict])
/-! R10: the law's own text; how long a text is told -/
def sp_law_text : DSp := fun ds h Q _ => match ds with
  | [d] => ∃ t, d = tabD t ∧ RowsP t ∧ Q (.str (textT t)) h
  | _ => False
theorem i_law_text {t : List Row} {h : DH} {Q : DK} {X : DX} (p : RowsP t) (z : Q (.str (textT t)) h) : sp_law_text [tabD t] h Q X := ⟨t, rfl, p, z⟩
def t_law_text : DS :=
(dSeq (dAsg (dLstM dNil) 1)
  (dSeq (dFor (iSeqD (dVar 0)) (.nm 2) (dDrop (dBM "list" dAppend (dVar 1) (dCons (dBM "str" dJoin (dC (.str ",")) (dCons (dLc (iSeqD (dVar 2)) (.nm 3) dYes (dIfE (dTest (dOp dIsN (dVar 3) (dC .non))) (dC (.str "")) (dVar 3)) [3]) dNil)) dNil))))
  (dRet (dBM "str" dJoin (dC (.str "\n")) (dCons (dVar 1) dNil)))))
def n_law_text : List Str := ["some", "found", "own", "cell"]
/- 0=some 1=found 2=own 3=cell -/
theorem rd_law_text (ds : List D) (h : DH) (Q : DK) (X : DX) (z : sp_law_text ds h Q X) : t_law_text (dEnd Q X) (dstart n_law_text ds) h := by
  match ds, z with
  | [_], ⟨t, rfl, p, z⟩ =>
    show t_law_text (dEnd Q X) [some (.tup (t.map rowD)), none, none, none] h
    unfold t_law_text
    obtain ⟨w, w1, w6, hw⟩ := p.w
    walk_at "ev"
    refine ⟨Nat.zero_le _, fun a ha => ?_⟩
    refine for_indG rowD (fun pre τ h' => ∃ x2 x3, τ = [some (.tup (t.map rowD)), some (.ref a), x2, x3] ∧ h' = dupd h a (.lst ((pre.map (lineB "")).map D.str))) t ⟨none, none, rfl, rfl⟩ ?_ ?_
    · rintro pre r post τ h' eq ⟨x2, x3, rfl, rfl⟩ D' T
      refine ⟨_, rfl, ?_⟩
      have hr := hw r (by rw [eq]; simp)
      rw [show rowD r = .tup (r.map cD) from rfl]
      walk_at "ev"
      refine ⟨by rw [List.length_map]; omega, ?_⟩
      refine lc_map cD (fun c => .str (cellT "" c)) r (fun c _ Q' q' => ?_) ?_
      · walk_at "ev"
        cases c with
        | none => exact ⟨fun _ => q', fun z => (by cases z)⟩
        | some s => exact ⟨fun z => (by cases z), fun _ => q'⟩
      · rw [show (r.map fun c => D.str (cellT "" c)) = (r.map (cellT "")).map D.str by rw [List.map_map]; rfl, strsOf_map]
        have e0 : dupd h a (DO.lst ((pre.map (lineB "")).map D.str)) a = some (.lst ((pre.map (lineB "")).map D.str)) := dupd_same
        refine ⟨Nat.le_trans (lineB_len (b := "") (by decide) (pr_short hr.2) (by omega)).2 (by decide), ?_⟩
        walk_at "ev"
        have hl := congrArg List.length eq
        have := p.le
        simp only [List.length_append, List.length_cons] at hl
        refine ⟨by rw [List.length_map, List.length_map]; exact Nat.lt_of_lt_of_le (show pre.length < 60 by omega) (by decide), T.nx _ _ ⟨_, _, rfl, ?_⟩⟩
        rw [dupd2, List.map_append, List.map_append]; rfl
    · rintro τ h' ⟨x2, x3, rfl, rfl⟩
      have e0 : dupd h a (DO.lst ((t.map (lineB "")).map D.str)) a = some (.lst ((t.map (lineB "")).map D.str)) := dupd_same
      walk_at "ev"
      rw [strsOf_map]
      exact ⟨Nat.le_trans (text_len p) (by decide), ⟨h, DSub.new (DSub.refl h) ha, z⟩⟩
theorem join_all (P : Nat → Prop) (sep : Str) (hs : ∀ c ∈ sep.cps.toList, P c) : ∀ (l : List Str), (∀ p ∈ l, ∀ c ∈ p.cps.toList, P c) → ∀ c ∈ (Txt.join sep l).cps.toList, P c := by
  intro l
  rw [Txt.join, StrLaws.glued_eq_join]
  induction l with
  | nil => intro _ c hc; exact absurd hc (by show ¬ c ∈ []; simp)
  | cons x l ih =>
    intro h
    cases l with
    | nil => exact h x (by simp)
    | cons y l =>
      intro c hc
      rw [show Str.join sep (x :: y :: l) = x ++ sep ++ Str.join sep (y :: l) from rfl] at hc
      simp only [Str.cps_append, Array.toList_append, List.mem_append] at hc
      rcases hc with (hc | hc) | hc
      · exact h x (by simp) c hc
      · exact hs c hc
      · exact ih (fun p hp => h p (by simp only [List.mem_cons] at hp ⊢; exact .inr hp)) c hc
theorem cell_lt {c : Option Str} (h : c = none ∨ okC c = true) : ∀ k ∈ (cellT "" c).cps.toList, k < 1114112 := by
  rcases h with z | z
  · rw [z]; intro k hk; exact absurd hk (by show ¬ k ∈ []; simp)
  · cases c with
    | none => cases z
    | some s =>
      intro k m
      have := okSign_lt (okCell_sign z k m)
      omega
theorem line_lt {r : Row} (p : pr r) : ∀ k ∈ (lineB "" r).cps.toList, k < 1114112 := join_all (· < 1114112) "," (by decide +kernel) _ fun q hq => by
  obtain ⟨c, hc, rfl⟩ := List.mem_map.mp hq
  exact cell_lt (pr_mem p c hc)
theorem text_strOk {t : List Row} (p : RowsP t) : PyData.strOk (textT t) = true := strOk_of (join_all (· < 1114112) "\n" (by decide +kernel) _ fun q hq => by
  obtain ⟨w, w1, w6, hw⟩ := p.w
  obtain ⟨r, hr, rfl⟩ := List.mem_map.mp hq
  exact line_lt (hw r hr).2)
theorem wtL_le (B : Nat) : ∀ (xs : List D), (∀ x ∈ xs, wt x ≤ B) → wt.wtL xs ≤ xs.length * (B + 2)
  | [], _ => Nat.zero_le _
  | x :: xs, h => by
    have := wtL_le B xs fun y hy => h y (by simp [hy])
    have := h x (by simp)
    simp only [wt.wtL, List.length_cons]
    rw [Nat.add_mul]
    omega
theorem wt_cD {c : Option Str} (h : ∀ s, c = some s → s.length ≤ 8) : wt (cD c) ≤ 82 := by
  cases c with
  | none => show 4 ≤ 82; omega
  | some s => have := h s rfl; show 10 * s.length + 2 ≤ 82; omega
theorem wt_row {r : Row} (hl : r.length ≤ 6) (h : shortR r) : wt (rowD r) ≤ 508 := by
  have := wtL_le 82 (r.map cD) fun x hx => by
    obtain ⟨c, hc, rfl⟩ := List.mem_map.mp hx
    exact wt_cD (h c hc)
  rw [List.length_map] at this
  show wt.wtL _ + 4 ≤ 508
  omega
theorem wt_tab {t : List Row} (p : RowsP t) : wt (tabD t) ≤ 30604 := by
  obtain ⟨w, w1, w6, hw⟩ := p.w
  have := wtL_le 508 (t.map rowD) fun x hx => by
    obtain ⟨r, hr, rfl⟩ := List.mem_map.mp hx
    exact wt_row (by rw [(hw r hr).1]; exact w6) (pr_short (hw r hr).2)
  rw [List.length_map] at this
  have := p.le
  show wt.wtL _ + 4 ≤ 30604
  omega
theorem rn_cD {c : Option Str} (n : Nat) (h : strOkC c = true) : rn n (cD c) = true := by
  cases c with
  | none => cases n <;> rfl
  | some s => cases n <;> exact h
theorem rn_row {r : Row} (h : strOkR r) (n : Nat) : rn (n + 1) (rowD r) = true := by
  show (r.map cD).all (rn n) = true
  rw [List.all_eq_true]
  intro x hx
  obtain ⟨c, hc, rfl⟩ := List.mem_map.mp hx
  exact rn_cD n (h c hc)
theorem rn_tab {t : List Row} (h : ∀ r ∈ t, strOkR r) (n : Nat) : rn (n + 2) (tabD t) = true := by
  show (t.map rowD).all (rn (n + 1)) = true
  rw [List.all_eq_true]
  intro x hx
  obtain ⟨r, hr, rfl⟩ := List.mem_map.mp hx
  exact rn_row (h r hr) n
theorem i_repr {x : D} {h : DH} {Q : DK} (hv : view h x = x) (h1 : rn 12 x = true) (h2 : wt x ≤ 16000000) (q : Q (.str (shownD x)) h) : dRepr [x] h Q := by
  show rn 12 (view h x) = true ∧ wt (view h x) ≤ 16000000 ∧ Q (.str (shownD (view h x))) h
  rw [hv]; exact ⟨h1, h2, q⟩

end DL

namespace DL
open PySem L2
local macro_rules | `(tactic| walk_at "ev") => `(tactic| try simp (disch := (first | assumption | exact dupd_same | (refine (dupd_ne ?_).trans ?_; (first | assumption | (apply Ne.symm; assumption)); first | assumption | exact dupd_same | (refine (dupd_ne ?_).trans ?_; (first | assumption | (apply Ne.symm; assumption)); first | assumption | exact dupd_same)))) only [v0, v1, v2, v3, v4, v5, v6, v7, v8, v9, v10, v11, v12, v13, v14, v15, v16, w0, w1, w2, w3, w4, w5, w6, w7, w8, w9, w10, w11, w12, w13, w14, w15, w16, e_dC, e_dOp, e_dUn, e_dTest, e_dAnd, e_dOr, e_dNot, e_dAndV, e_dOrV, e_dNotV, e_dIfE, e_dChain, e_dNil, e_dCons, e_dTup, e_dLst, e_dLstM, e_dCB, e_dBM, e_dFrz, e_dNoPart, e_dPart, e_dSl, e_dIsi, e_iSeqD, e_iRange1, e_iRange2, e_iEnumD, e_iZipD, e_dNext, e_dSeq, e_dAsg, e_dAsgT, e_dPar, e_dIf, e_dRet, e_dRetN, e_dDrop, e_dBrk, e_dCnt, e_dAug, e_dSetI, e_dFor, e_dWhile, e_dYes, e_dLc, e_dLcM, e_dCall, e_dCallK, e_dNeg, e_dRaise, op_Lt, op_Le, op_Gt, op_Ge, op_IsN, op_IsNN, op_Sub, op_Add, op_AddS, op_AddT, op_AddL, op_Mul, op_MulT, op_MulL, op_Mod, op_Fdiv, op_InS, op_NotInS, cb_lenT, cb_lenL, cb_lenS, cb_lenX, cb_all, cb_any, cb_tupleL, cb_tupleT, cb_max, cb_min, cb_abs, cb_int, cb_intB, cb_strI, me_joinL, me_joinT, me_split, ip_add, ip_sub, ip_mul, ip_div, ix_ref0, ix_ref1, ix_ref2, me_append, me_popAt, me_pop0, me_insert, me_clear, me_reverse, cb_lenR, cb_tupleR, me_joinR, vw_ref, dT_ref, pow_18, pow_38, pow_40, pow_41, pow_6, eq_str, ne_str, eq_int, ne_int, ix_tup0, ix_lst0, sl_from, sl_to, sl_fromL, sl_toL, vw_str, vw_int, vw_bl, vw_non, vw_dct, vw_tup, vw_lst, vw_scr, ty_str, ty_int, ty_bl, ty_non, ty_tup, ty_lst, ty_dct, it_str, it_tup, it_lst, bT_nm, isN_non, isN_str, isN_int, isN_bl, isN_tup, isN_lst, isN_dct, dT_str, dT_lst, en_rt, en_nx, en_ex, t_imp, f_imp, not_true_eq_false, not_false_eq_true, tf_eq, ft_eq, dwipe, true_and, and_true, Bool.not_true, Bool.not_false, Bool.not_eq_true', Bool.not_eq_false', decide_eq_true_eq, decide_eq_false_iff_not, nq_NoneType, is_NoneType_int, is_NoneType_bool, is_NoneType_str, is_NoneType_tuple, is_NoneType_list, is_NoneType_dict, nq_bool, is_bool_int, is_bool_bool, is_bool_str, is_bool_tuple, is_bool_list, is_bool_dict, nq_int, is_int_int, is_int_bool, is_int_str, is_int_tuple, is_int_list, is_int_dict, nq_str, is_str_int, is_str_bool, is_str_str, is_str_tuple, is_str_list, is_str_dict, nq_tuple, is_tuple_int, is_tuple_bool, is_tuple_str, is_tuple_tuple, is_tuple_list, is_tuple_dict, nq_list, is_list_int, is_list_bool, is_list_str, is_list_tuple, is_list_list, is_list_dict, nq_dict, is_dict_int, is_dict_bool, is_dict_str, is_dict_tuple, is_dict_list, is_dict_dict])
/-! R11: pages read, rows moved -/
theorem i_blanks_in {r : Row} {h : DH} {Q : DK} {X : DX} (z : Q (.int (blanks r : Nat)) h) : sp_blanks_in [.tup (r.map cD)] h Q X := by
  show Q (.int (lead (r.map cD) : Nat)) h
  rw [lead_row]; exact z
def isIntD (lo : Int) (hi : Option Int) : D → Bool
  | .int i => decide (lo ≤ i) && (match hi with | none => true | some h => decide (i ≤ h))
  | _ => false
def hiD : Option Int → D
  | none => .non
  | some i => .int i
def sp_is_integer : DSp := fun ds h Q _ => match ds with
  | [d, .int lo, e] => nr d = true ∧ ∃ hi, e = hiD hi ∧ Q (.bl (isIntD lo hi d)) h
  | _ => False
theorem i_is_integer {d : D} {lo : Int} {hi : Option Int} {h : DH} {Q : DK} {X : DX} (hd : nr d = true) (z : Q (.bl (isIntD lo hi d)) h) : sp_is_integer [d, .int lo, hiD hi] h Q X := ⟨hd, hi, rfl, z⟩
def t_is_integer : DS :=
(dSeq (dIf (dOr (dNot (dTest (dIsi "int" (dVar 0)))) (dTest (dIsi "bool" (dVar 0)))) (dRet (dC (.bl false))) dNext)
  (dRet (dAndV (dOp dLe (dVar 1) (dVar 0)) (dOrV (dOp dIsN (dVar 2) (dC .non)) (dOp dLe (dVar 0) (dVar 2))))))
def n_is_integer : List Str := ["value", "low", "high"]
/- 0=value 1=low 2=high -/
theorem rd_is_integer (ds : List D) (h : DH) (Q : DK) (X : DX) (z : sp_is_integer ds h Q X) : t_is_integer (dEnd Q X) (dstart n_is_integer ds) h := by
  match ds, z with
  | [d, .int lo, _], ⟨hd, hi, rfl, z⟩ =>
    show t_is_integer (dEnd Q X) [some d, some (.int lo), some (hiD hi)] h
    unfold t_is_integer
    cases d with
    | int i =>
      cases hi with
      | none =>
        rw [show hiD none = D.non from rfl]
        walk_at "ev"
        refine ⟨fun e => ?_, fun e => ?_⟩
        · refine dend0 ?_
          have : isIntD lo none (.int i) = true := by show (decide _ && true) = true; rw [decide_eq_true e]; rfl
          rw [this] at z; exact z
        · refine dend0 ?_
          have : isIntD lo none (.int i) = false := by show (decide _ && true) = false; rw [decide_eq_false e]; rfl
          rw [this] at z; exact z
      | some hh =>
        rw [show hiD (some hh) = D.int hh from rfl]
        walk_at "ev"
        refine ⟨fun e => ?_, fun e => ?_⟩
        · refine dend0 ?_
          have : isIntD lo (some hh) (.int i) = decide (i ≤ hh) := by show (decide _ && _) = _; rw [decide_eq_true e, Bool.true_and]
          rw [this] at z; exact z
        · refine dend0 ?_
          have : isIntD lo (some hh) (.int i) = false := by show (decide _ && _) = false; rw [decide_eq_false e]; rfl
          rw [this] at z; exact z
    | ref a => cases hd
    | scr a => cases hd
    | _ => walk_at "ev"; exact dend0 z
/-! pages -/
def leads : D → Bool
  | .tup ys => decide (lead ys = 0)
  | _ => false
def isPageD : D → Bool
  | .tup (x :: xs) => isRowsD (.tup (x :: xs)) && leads x
  | _ => false
def sp_has_page_form : DSp := fun ds h Q _ => match ds with
  | [d] => nr d = true ∧ Q (.bl (isPageD d)) h
  | _ => False
theorem i_has_page_form {d : D} {h : DH} {Q : DK} {X : DX} (hd : nr d = true) (z : Q (.bl (isPageD d)) h) : sp_has_page_form [d] h Q X := ⟨hd, z⟩
def t_has_page_form : DS :=
(dRet (dAndV (dCall sp_are_printed_rows (dCons (dVar 0) dNil)) (dOp dEq (dCall sp_blanks_in (dCons (dOp dIx (dVar 0) (dC (.int 0))) dNil)) (dC (.int 0)))))
def n_has_page_form : List Str := ["value"]
/- 0=value -/
theorem rd_has_page_form (ds : List D) (h : DH) (Q : DK) (X : DX) (z : sp_has_page_form ds h Q X) : t_has_page_form (dEnd Q X) (dstart n_has_page_form ds) h := by
  match ds, z with
  | [d], ⟨hd, z⟩ =>
    show t_has_page_form (dEnd Q X) [some d] h
    unfold t_has_page_form
    walk_at "ev"
    refine ⟨hd, ?_⟩
    walk_at "ev"
    refine ⟨fun e => ?_, fun e => ?_⟩
    · obtain ⟨t, rfl, p⟩ := rows_of e
      cases t with
      | nil => exact absurd p.ne (by decide)
      | cons r rs =>
        rw [show tabD (r :: rs) = .tup (.tup (r.map cD) :: rs.map rowD) from rfl]
        walk_at "ev"
        refine i_blanks_in ?_
        walk_at "ev"
        refine dend0 ?_
        have : isPageD (tabD (r :: rs)) = decide (((blanks r : Nat) : Int) = 0) := by
          show (isRowsD _ && decide (lead (r.map cD) = 0)) = _
          rw [show isRowsD (.tup (rowD r :: rs.map rowD)) = true from e, Bool.true_and, lead_row]
          exact decide_eq_decide.mpr (by omega)
        rw [this] at z; exact z
    · refine dend0 ?_
      have : isPageD d = false := by
        cases d with
        | tup xs =>
          cases xs with
          | nil => rfl
          | cons x xs => show (isRowsD _ && _) = false; rw [e]; rfl
        | _ => rfl
      rw [this] at z; exact z
theorem isPage_of {t : List Row} (p : PageP t) : isPageD (tabD t) = true := by
  have q := isRows_of p.rows
  cases t with
  | nil => exact absurd p.ne (by decide)
  | cons r rs =>
    show (isRowsD _ && decide (lead (r.map cD) = 0)) = true
    rw [show isRowsD (.tup (rowD r :: rs.map rowD)) = true from q, Bool.true_and, lead_row, blanks_full (p.first r rfl)]
    rfl
theorem page_of {d : D} (h : isPageD d = true) : ∃ t, d = tabD t ∧ PageP t := by
  cases d with
  | tup xs =>
    cases xs with
    | nil => cases h
    | cons x xs =>
      have h2 : (isRowsD (.tup (x :: xs)) && leads x) = true := h
      rw [Bool.and_eq_true] at h2
      obtain ⟨t, e, p⟩ := rows_of h2.1
      refine ⟨t, e, p.ne, p.le, p.w, fun r hr => ?_⟩
      cases t with
      | nil => cases hr
      | cons r0 rs =>
        cases hr
        obtain ⟨w, w1, w6, hw⟩ := p.w
        simp only [tabD, List.map_cons, D.tup.injEq, List.cons.injEq] at e
        have h3 := h2.2
        rw [e.1] at h3
        have h4 : lead (r.map cD) = 0 := of_decide_eq_true h3
        rw [lead_row] at h4
        have := (hw r (by simp)).2
        unfold pr at this
        rw [h4] at this
        exact this
  | _ => cases h
def sp_require_page (E : Er) : DSp := fun ds h Q X => match ds with
  | [d] => nr d = true ∧ (isPageD d = true → Q .non h) ∧ (isPageD d = false → E.er .non X h)
  | _ => False
theorem i_require_page {E : Er} {t : List Row} {h : DH} {Q : DK} {X : DX} (p : PageP t) (z : Q .non h) : sp_require_page E [tabD t] h Q X := ⟨nr_tab p.rows, fun _ => z, fun e => by rw [isPage_of p] at e; cases e⟩
def t_require_page (E_InvalidPage : Er) : DS :=
(dIf (dNot (dTest (dCall sp_has_page_form (dCons (dVar 0) dNil)))) (E_InvalidPage.tr none) dNext)
def n_require_page : List Str := ["value"]
/- 0=value -/
theorem rd_require_page (E : Er) (ds : List D) (h : DH) (Q : DK) (X : DX) (z : sp_require_page E ds h Q X) : t_require_page E (dEnd Q X) (dstart n_require_page ds) h := by
  match ds, z with
  | [d], ⟨hd, z, zx⟩ =>
    show t_require_page E (dEnd Q X) [some d] h
    unfold t_require_page
    walk_at "ev"
    refine i_has_page_form hd ?_
    walk_at "ev"
    exact ⟨fun e => E.ok _ _ _ _ (E.mono _ _ _ _ _ (fun C fs xe => ⟨h, DSub.refl h, xe⟩) (zx e)), fun e => dend0 (z e)⟩
def sp_require_row (E : Er) : DSp := fun ds h Q X => match ds with
  | [.int many, d] => nr d = true ∧ (isIntD 0 (some (many - 1)) d = true → Q .non h) ∧ (isIntD 0 (some (many - 1)) d = false → E.er .non X h)
  | _ => False
theorem i_require_row {E : Er} {many i : Int} {h : DH} {Q : DK} {X : DX} (h0 : 0 ≤ i) (h1 : i < many) (z : Q .non h) : sp_require_row E [.int many, .int i] h Q X := by
  have e : isIntD 0 (some (many - 1)) (.int i) = true := by show (decide _ && decide _) = true; rw [decide_eq_true h0, decide_eq_true (by omega)]; rfl
  exact ⟨rfl, fun _ => z, fun e2 => by rw [e] at e2; cases e2⟩
def t_require_row (E_InvalidRow : Er) : DS :=
(dIf (dNot (dTest (dCall sp_is_integer (dCons (dVar 1) (dCons (dC (.int 0)) (dCons (dOp dSub (dVar 0) (dC (.int 1))) dNil)))))) (E_InvalidRow.tr none) dNext)
def n_require_row : List Str := ["many", "value"]
/- 0=many 1=value -/
theorem rd_require_row (E : Er) (ds : List D) (h : DH) (Q : DK) (X : DX) (z : sp_require_row E ds h Q X) : t_require_row E (dEnd Q X) (dstart n_require_row ds) h := by
  match ds, z with
  | [.int many, d], ⟨hd, z, zx⟩ =>
    show t_require_row E (dEnd Q X) [some (.int many), some d] h
    unfold t_require_row
    walk_at "ev"
    refine i_is_integer (hi := some (many - 1)) hd ?_
    walk_at "ev"
    exact ⟨fun e => E.ok _ _ _ _ (E.mono _ _ _ _ _ (fun C fs xe => ⟨h, DSub.refl h, xe⟩) (zx e)), fun e => dend0 (z e)⟩
def sp_require_place (E : Er) : DSp := fun ds h Q X => match ds with
  | [d, .int most] => nr d = true ∧ (isIntD 0 (some most) d = true → Q .non h) ∧ (isIntD 0 (some most) d = false → E.er .non X h)
  | _ => False
theorem i_require_place {E : Er} {most i : Int} {h : DH} {Q : DK} {X : DX} (h0 : 0 ≤ i) (h1 : i ≤ most) (z : Q .non h) : sp_require_place E [.int i, .int most] h Q X := by
  have e : isIntD 0 (some most) (.int i) = true := by show (decide _ && decide _) = true; rw [decide_eq_true h0, decide_eq_true h1]; rfl
  exact ⟨rfl, fun _ => z, fun e2 => by rw [e] at e2; cases e2⟩
def t_require_place (E_InvalidPlace : Er) : DS :=
(dIf (dNot (dTest (dCall sp_is_integer (dCons (dVar 0) (dCons (dC (.int 0)) (dCons (dVar 1) dNil)))))) (E_InvalidPlace.tr none) dNext)
def n_require_place : List Str := ["value", "most"]
/- 0=value 1=most -/
theorem rd_require_place (E : Er) (ds : List D) (h : DH) (Q : DK) (X : DX) (z : sp_require_place E ds h Q X) : t_require_place E (dEnd Q X) (dstart n_require_place ds) h := by
  match ds, z with
  | [d, .int most], ⟨hd, z, zx⟩ =>
    show t_require_place E (dEnd Q X) [some d, some (.int most)] h
    unfold t_require_place
    walk_at "ev"
    refine i_is_integer (hi := some most) hd ?_
    walk_at "ev"
    exact ⟨fun e => E.ok _ _ _ _ (E.mono _ _ _ _ _ (fun C fs xe => ⟨h, DSub.refl h, xe⟩) (zx e)), fun e => dend0 (z e)⟩
def withBlanks (r : Row) (k : Nat) : Row := List.replicate k none ++ r.drop k
def sp_with_blanks : DSp := fun ds h Q _ => match ds with
  | [d, .int k] => ∃ r, d = rowD r ∧ 0 ≤ k ∧ k ≤ 6 ∧ r.length ≤ 6 ∧ Q (rowD (withBlanks r k.toNat)) h
  | _ => False
theorem i_with_blanks {r : Row} {k : Int} {h : DH} {Q : DK} {X : DX} (k0 : 0 ≤ k) (k6 : k ≤ 6) (hr : r.length ≤ 6) (z : Q (rowD (withBlanks r k.toNat)) h) : sp_with_blanks [rowD r, .int k] h Q X := ⟨r, rfl, k0, k6, hr, z⟩
theorem t_with_blanks_go (k : Nat) (r : Row) : D.tup (rpt (k : Int) [D.non] ++ List.drop k (r.map cD)) = rowD (withBlanks r k) := by
  rw [rpt_non, rep_none, ← List.map_drop, ← List.map_append]; rfl
def t_with_blanks : DS :=
(dRet (dOp dAdd (dOp dMul (dTup (dCons (dC .non) dNil)) (dVar 1)) (dSl dSlice (dVar 0) (dPart (dVar 1)) dNoPart)))
def n_with_blanks : List Str := ["row", "count"]
/- 0=row 1=count -/
theorem rd_with_blanks (ds : List D) (h : DH) (Q : DK) (X : DX) (z : sp_with_blanks ds h Q X) : t_with_blanks (dEnd Q X) (dstart n_with_blanks ds) h := by
  match ds, z with
  | [_, .int k], ⟨r, rfl, k0, k6, hr, z⟩ =>
    show t_with_blanks (dEnd Q X) [some (.tup (r.map cD)), some (.int k)] h
    unfold t_with_blanks
    rw [show k = (k.toNat : Int) by omega]
    walk_at "ev"
    refine ⟨le_line (m := 1) (Nat.le_refl _), by simp, by omega, by omega, by simp, ?_, ?_⟩
    · rw [rpt_non]
      refine le_line (m := 12) ?_
      rw [List.length_replicate, List.length_drop, List.length_map]
      omega
    · rw [t_with_blanks_go]
      exact dend0 z
/-! what a page means -/
def readRow (above : Option Row) (r : Row) : Row := (above.getD r).take (blanks r) ++ r.drop (blanks r)
def readRows : Option Row → List Row → List Row
  | _, [] => []
  | ab, r :: rs => readRow ab r :: readRows (some (readRow ab r)) rs
theorem readRow_len {ab : Option Row} {r : Row} {w : Nat} (hr : r.length = w) (ha : ∀ a, ab = some a → a.length = w) : (readRow ab r).length = w := by
  unfold readRow
  have hb : blanks r ≤ r.length := by rw [← lead_row]; have := lead_le (r.map cD); rw [List.length_map] at this; exact this
  have : (ab.getD r).length = w := by
    cases ab with
    | none => exact hr
    | some a => exact ha a rfl
  rw [List.length_append, List.length_take, List.length_drop, this]
  omega
theorem readRows_len : ∀ (t : List Row) (ab : Option Row), (readRows ab t).length = t.length
  | [], _ => rfl
  | r :: t, ab => by show (readRows _ t).length + 1 = t.length + 1; rw [readRows_len t]
theorem readRows_w {w : Nat} : ∀ {t : List Row} {ab : Option Row}, (∀ r ∈ t, r.length = w) → (∀ a, ab = some a → a.length = w) → ∀ r ∈ readRows ab t, r.length = w
  | r :: t, ab, ht, ha, x, hx => by
    have h0 := readRow_len (ht r (by simp)) ha
    rcases List.mem_cons.mp hx with rfl | hx
    · exact h0
    · exact readRows_w (fun r hr => ht r (by simp [hr])) (fun a e => by cases e; exact h0) x hx
/-- rows of one width, at most 60 -/
structure Wid (t : List Row) (w : Nat) : Prop where
  le : t.length ≤ 60
  w6 : w ≤ 6
  all : ∀ r ∈ t, r.length = w
def sp_read_rows : DSp := fun ds h Q _ => match ds with
  | [d] => ∃ t w, itemsD d = some (t.map rowD) ∧ Wid t w ∧ ∀ p, h p = none → Q (.ref p) (dupd h p (.lst ((readRows none t).map rowD)))
  | _ => False
theorem i_read_rowsL {t : List Row} {w : Nat} {h : DH} {Q : DK} {X : DX} (ht : Wid t w) (z : ∀ p, h p = none → Q (.ref p) (dupd h p (.lst ((readRows none t).map rowD)))) : sp_read_rows [.lst (t.map rowD)] h Q X := ⟨t, w, rfl, ht, z⟩
theorem i_read_rows {t : List Row} {w : Nat} {h : DH} {Q : DK} {X : DX} (ht : Wid t w) (z : ∀ p, h p = none → Q (.ref p) (dupd h p (.lst ((readRows none t).map rowD)))) : sp_read_rows [tabD t] h Q X := ⟨t, w, rfl, ht, z⟩
def t_read_rows : DS :=
(dSeq (dAsg (dLstM dNil) 1)
  (dSeq (dAsg (dC .non) 2)
  (dSeq (dFor (iSeqD (dVar 0)) (.nm 3) (dSeq (dAsg (dCall sp_blanks_in (dCons (dVar 3) dNil)) 4)
  (dSeq (dAsg (dOp dAdd (dSl dSlice (dIfE (dTest (dOp dIsN (dVar 2) (dC .non))) (dVar 3) (dVar 2)) dNoPart (dPart (dVar 4))) (dSl dSlice (dVar 3) (dPart (dVar 4)) dNoPart)) 2)
  (dDrop (dBM "list" dAppend (dVar 1) (dCons (dVar 2) dNil))))))
  (dRet (dVar 1)))))
def n_read_rows : List Str := ["rows", "found", "above", "row", "count"]
/- 0=rows 1=found 2=above 3=row 4=count -/
theorem rd_read_rows (ds : List D) (h : DH) (Q : DK) (X : DX) (z : sp_read_rows ds h Q X) : t_read_rows (dEnd Q X) (dstart n_read_rows ds) h := by
  match ds, z with
  | [d0], ⟨t, w, hd, ht, z⟩ =>
    show t_read_rows (dEnd Q X) [some d0, none, none, none, none] h
    unfold t_read_rows
    walk_at "ev"
    refine ⟨Nat.zero_le _, fun p hp => ?_⟩
    simp only [hd]
    refine for_indG rowD (fun pre τ h' => ∃ found ab x3 x4, τ = [some d0, some (.ref p), some (aboveD ab), x3, x4] ∧ h' = dupd h p (.lst (found.map rowD)) ∧ (∀ post, t = pre ++ post → readRows none t = found ++ readRows ab post) ∧
      (∀ a, ab = some a → a.length = w) ∧ found.length = pre.length) t ⟨[], none, none, none, rfl, rfl, (fun post e => by rw [e]; rfl), (fun _ e => by cases e), rfl⟩ ?_ ?_
    · rintro pre r post τ h' eq ⟨found, ab, x3, x4, rfl, rfl, hq, hab, hfl⟩ D' T
      refine ⟨_, rfl, ?_⟩
      have hr := ht.all r (by rw [eq]; simp)
      have hlen := congrArg List.length eq
      simp only [List.length_append, List.length_cons] at hlen
      have h60 := ht.le
      rw [show rowD r = .tup (r.map cD) from rfl]
      walk_at "ev"
      refine i_blanks_in ?_
      have last : ∀ a : Row, a = ab.getD r → (List.take (blanks r) (a.map cD)).length + (List.drop (blanks r) (r.map cD)).length ≤ sizeLine ∧ (found.map rowD).length < sizeLine ∧ D'.nx [some d0, some (.ref p), some (D.tup (List.take (blanks r) (a.map cD) ++ List.drop (blanks r) (r.map cD))), some (.tup (r.map cD)), some (.int (blanks r : Nat))]
          (dupd (dupd h p (.lst (found.map rowD))) p (.lst (found.map rowD ++ [D.tup (List.take (blanks r) (a.map cD) ++ List.drop (blanks r) (r.map cD))]))) := by
        rintro a ea
        have e1 : D.tup (List.take (blanks r) (a.map cD) ++ List.drop (blanks r) (r.map cD)) = rowD (readRow ab r) := by
          unfold readRow rowD
          rw [List.map_append, List.map_take, List.map_drop, ea]
        have hal : a.length = w := by
          rw [ea]
          cases ab with
          | none => exact hr
          | some x => exact hab x rfl
        have hw6 := ht.w6
        refine ⟨?_, ?_, T.nx _ _ ⟨found ++ [readRow ab r], some (readRow ab r), some (.tup (r.map cD)), some (.int (blanks r : Nat)), ?_, ?_, ?_, ?_, ?_⟩⟩
        · refine le_line (m := 12) ?_
          simp only [List.length_take, List.length_drop, List.length_map]
          omega
        · rw [List.length_map]; exact Nat.lt_of_lt_of_le (show found.length < 61 by omega) (by decide)
        · rw [e1]; rfl
        · rw [dupd2, e1, List.map_append]; rfl
        · intro post2 e2
          rw [hq (r :: post2) (by rw [e2, List.append_assoc]; rfl), List.append_assoc]
          rfl
        · intro x ex; cases ex; exact readRow_len hr hab
        · rw [List.length_append, List.length_append, hfl]; rfl
      cases ab with
      | none =>
        rw [show aboveD none = D.non from rfl]
        walk_at "ev"
        exact last r rfl
      | some a =>
        rw [show aboveD (some a) = .tup (a.map cD) from rfl]
        walk_at "ev"
        exact last a rfl
    · rintro τ h' ⟨found, ab, x3, x4, rfl, rfl, hq, hab, hfl⟩
      walk_at "ev"
      have e : readRows none t = found := by
        have := hq [] (by rw [List.append_nil])
        rw [this]; show found ++ [] = found; rw [List.append_nil]
      rw [← e]
      exact dend0 (z p hp)

end DL

namespace DL
open PySem L2
local macro_rules | `(tactic| walk_at "ev") => `(tactic| try simp (disch := (first | assumption | exact dupd_same | (refine (dupd_ne ?_).trans ?_; (first | assumption | (apply Ne.symm; assumption)); first | assumption | exact dupd_same | (refine (dupd_ne ?_).trans ?_; (first | assumption | (apply Ne.symm; assumption)); first | assumption | exact dupd_same)))) only [v0, v1, v2, v3, v4, v5, v6, v7, v8, v9, v10, v11, v12, v13, v14, v15, v16, w0, w1, w2, w3, w4, w5, w6, w7, w8, w9, w10, w11, w12, w13, w14, w15, w16, e_dC, e_dOp, e_dUn, e_dTest, e_dAnd, e_dOr, e_dNot, e_dAndV, e_dOrV, e_dNotV, e_dIfE, e_dChain, e_dNil, e_dCons, e_dTup, e_dLst, e_dLstM, e_dCB, e_dBM, e_dFrz, e_dNoPart, e_dPart, e_dSl, e_dIsi, e_iSeqD, e_iRange1, e_iRange2, e_iEnumD, e_iZipD, e_dNext, e_dSeq, e_dAsg, e_dAsgT, e_dPar, e_dIf, e_dRet, e_dRetN, e_dDrop, e_dBrk, e_dCnt, e_dAug, e_dSetI, e_dFor, e_dWhile, e_dYes, e_dLc, e_dLcM, e_dCall, e_dCallK, e_dNeg, e_dRaise, op_Lt, op_Le, op_Gt, op_Ge, op_IsN, op_IsNN, op_Sub, op_Add, op_AddS, op_AddT, op_AddL, op_Mul, op_MulT, op_MulL, op_Mod, op_Fdiv, op_InS, op_NotInS, cb_lenT, cb_lenL, cb_lenS, cb_lenX, cb_all, cb_any, cb_tupleL, cb_tupleT, cb_max, cb_min, cb_abs, cb_int, cb_intB, cb_strI, me_joinL, me_joinT, me_split, ip_add, ip_sub, ip_mul, ip_div, ix_ref0, ix_ref1, ix_ref2, me_append, me_popAt, me_pop0, me_insert, me_clear, me_reverse, cb_lenR, cb_tupleR, me_joinR, vw_ref, dT_ref, pow_18, pow_38, pow_40, pow_41, pow_6, eq_str, ne_str, eq_int, ne_int, ix_tup0, ix_lst0, sl_from, sl_to, sl_fromL, sl_toL, vw_str, vw_int, vw_bl, vw_non, vw_dct, vw_tup, vw_lst, vw_scr, ty_str, ty_int, ty_bl, ty_non, ty_tup, ty_lst, ty_dct, it_str, it_tup, it_lst, bT_nm, isN_non, isN_str, isN_int, isN_bl, isN_tup, isN_lst, isN_dct, dT_str, dT_lst, en_rt, en_nx, en_ex, t_imp, f_imp, not_true_eq_false, not_false_eq_true, tf_eq, ft_eq, dwipe, true_and, and_true, Bool.not_true, Bool.not_false, Bool.not_eq_true', Bool.not_eq_false', decide_eq_true_eq, decide_eq_false_iff_not, nq_NoneType, is_NoneType_int, is_NoneType_bool, is_NoneType_str, is_NoneType_tuple, is_NoneType_list, is_NoneType_dict, nq_bool, is_bool_int, is_bool_bool, is_bool_str, is_bool_tuple, is_bool_list, is_bool_dict, nq_int, is_int_int, is_int_bool, is_int_str, is_int_tuple, is_int_list, is_int_dict, nq_str, is_str_int, is_str_bool, is_str_str, is_str_tuple, is_str_list, is_str_dict, nq_tuple, is_tuple_int, is_tuple_bool, is_tuple_str, is_tuple_tuple, is_tuple_list, is_tuple_dict, nq_list, is_list_int, is_list_bool, is_list_str, is_list_tuple, is_list_list, is_list_dict, nq_dict, is_dict_int, is_dict_bool, is_dict_str, is_dict_tuple, is_dict_list, is_dict_dict])
/-! R12: sheets -/
theorem sIx_nat (n k : Nat) (d : Nat) : HT.sIx n d (some (k : Int)) = min k n := by
  have h1 : (cutG (List.replicate n ()) (some (k : Int)) none).length = n - k := by rw [cutG_from, List.length_drop, List.length_replicate]
  unfold HT.sIx
  simp only
  split <;> omega
theorem cutG_both {α : Type} (xs : List α) (a b : Nat) : cutG xs (some (a : Int)) (some (b : Int)) = (xs.drop a).take (b - a) := by
  unfold cutG
  rw [sIx_nat, sIx_nat]
  have full : ∀ n k, xs.length - n ≤ k → (xs.drop n).take k = xs.drop n := fun n k h => List.take_of_length_le (by rw [List.length_drop]; exact h)
  by_cases ha : a ≤ xs.length
  · rw [Nat.min_eq_left ha]
    by_cases hb : b ≤ xs.length
    · rw [Nat.min_eq_left hb]
    · rw [Nat.min_eq_right (by omega), full a _ (Nat.le_refl _), full a _ (by omega)]
  · have e1 : xs.drop (min a xs.length) = [] := List.drop_eq_nil_of_le (by omega)
    have e2 : xs.drop a = [] := List.drop_eq_nil_of_le (by omega)
    rw [e1, e2, List.take_nil, List.take_nil]
theorem sl_both {xs : List D} {a b : Nat} {h : DH} {Q : DK} : dSlice (.tup xs) (some (a : Nat)) (some (b : Nat)) h Q = Q (.tup ((xs.drop a).take (b - a))) h := by simp only [dSlice, vw_tup, cutG_both]
theorem ddel_dupd {h : DH} {p : Addr} {o : DO} (hp : h p = none) : ddel (dupd h p o) p = h := by
  funext b
  unfold ddel dupd
  by_cases e : b = p
  · rw [if_pos e, e, hp]
  · rw [if_neg e, if_neg e]
/-- a table: at most 60 rows of one width, cells right -/
structure Tab (t : List Row) (w : Nat) : Prop where
  le : t.length ≤ 60
  w6 : w ≤ 6
  all : ∀ r ∈ t, r.length = w ∧ ∀ c ∈ r, c = none ∨ okC c = true
theorem Tab.wid {t : List Row} {w : Nat} (p : Tab t w) : Wid t w := ⟨p.le, p.w6, fun r hr => (p.all r hr).1⟩
theorem Tab.strOk {t : List Row} {w : Nat} (p : Tab t w) : ∀ r ∈ t, strOkR r := fun r hr c hc => by
  rcases (p.all r hr).2 c hc with z | z
  · rw [z]; rfl
  · exact okC_strOk z
theorem Tab.short {t : List Row} {w : Nat} (p : Tab t w) : ∀ r ∈ t, shortR r := fun r hr c hc s e => by
  rcases (p.all r hr).2 c hc with z | z
  · rw [z] at e; cases e
  · rw [e] at z; exact (okCell_len z).2
theorem PageP.tab {t : List Row} (p : PageP t) : ∃ w, 1 ≤ w ∧ Tab t w := by
  obtain ⟨w, w1, w6, hw⟩ := p.w
  exact ⟨w, w1, p.le, w6, fun r hr => ⟨(hw r hr).1, pr_mem (hw r hr).2⟩⟩
theorem readRow_mem {ab : Option Row} {r : Row} {P : Option Str → Prop} (hr : ∀ c ∈ r, P c) (ha : ∀ a, ab = some a → ∀ c ∈ a, P c) : ∀ c ∈ readRow ab r, P c := by
  intro c hc
  unfold readRow at hc
  rcases List.mem_append.mp hc with z | z
  · have z := List.mem_of_mem_take z
    cases ab with
    | none => exact hr c z
    | some a => exact ha a rfl c z
  · exact hr c (List.mem_of_mem_drop z)
theorem readRows_mem {P : Option Str → Prop} : ∀ {t : List Row} {ab : Option Row}, (∀ r ∈ t, ∀ c ∈ r, P c) → (∀ a, ab = some a → ∀ c ∈ a, P c) → ∀ r ∈ readRows ab t, ∀ c ∈ r, P c
  | r :: t, ab, ht, ha, x, hx => by
    have h0 := readRow_mem (ht r (by simp)) ha
    rcases List.mem_cons.mp hx with rfl | hx
    · exact h0
    · exact readRows_mem (fun r hr => ht r (by simp [hr])) (fun a e => by cases e; exact h0) x hx
theorem Tab.read {t : List Row} {w : Nat} (p : Tab t w) : Tab (readRows none t) w :=
  ⟨by rw [readRows_len]; exact p.le, p.w6, fun r hr => ⟨readRows_w (fun r hr => (p.all r hr).1) (fun _ e => by cases e) r hr, readRows_mem (P := fun c => c = none ∨ okC c = true) (fun r hr => (p.all r hr).2) (fun _ e => by cases e) r hr⟩⟩
/-- a block is moved -/
def movedL {α : Type} (xs : List α) (f l p : Nat) : List α := ((xs.take f ++ xs.drop (l + 1)).take p ++ (xs.drop f).take (l + 1 - f)) ++ (xs.take f ++ xs.drop (l + 1)).drop p
theorem movedL_mem {α : Type} {xs : List α} {f l p : Nat} : ∀ x ∈ movedL xs f l p, x ∈ xs := by
  intro x hx
  have key : ∀ y ∈ xs.take f ++ xs.drop (l + 1), y ∈ xs := fun y hy => (List.mem_append.mp hy).elim List.mem_of_mem_take List.mem_of_mem_drop
  unfold movedL at hx
  rcases List.mem_append.mp hx with z | z
  · rcases List.mem_append.mp z with z | z
    · exact key x (List.mem_of_mem_take z)
    · exact List.mem_of_mem_drop (List.mem_of_mem_take z)
  · exact key x (List.mem_of_mem_drop z)
theorem movedL_len {α : Type} {xs : List α} {f l p : Nat} (h1 : f ≤ l) (h2 : l < xs.length) : (movedL xs f l p).length = xs.length := by
  unfold movedL
  simp only [List.length_append, List.length_take, List.length_drop]
  omega
theorem movedL_map {α β : Type} (g : α → β) (xs : List α) (f l p : Nat) : movedL (xs.map g) f l p = (movedL xs f l p).map g := by
  unfold movedL
  simp only [List.map_append, List.map_take, List.map_drop]
theorem Tab.moved {t : List Row} {w f l p : Nat} (q : Tab t w) (h1 : f ≤ l) (h2 : l < t.length) : Tab (movedL t f l p) w :=
  ⟨by rw [movedL_len h1 h2]; exact q.le, q.w6, fun r hr => q.all r (movedL_mem r hr)⟩
def sp_moved : DSp := fun ds h Q _ => match ds with
  | [d, .int f, .int l, .int p] => ∃ t : List Row, d = tabD t ∧ t.length ≤ 60 ∧ 0 ≤ f ∧ f ≤ l ∧ l < t.length ∧ 0 ≤ p ∧ Q (tabD (movedL t f.toNat l.toNat p.toNat)) h
  | _ => False
theorem i_moved {t : List Row} {f l p : Int} {h : DH} {Q : DK} {X : DX} (ht : t.length ≤ 60) (f0 : 0 ≤ f) (fl : f ≤ l) (lt : l < t.length) (p0 : 0 ≤ p) (z : Q (tabD (movedL t f.toNat l.toNat p.toNat)) h) : sp_moved [tabD t, .int f, .int l, .int p] h Q X := ⟨t, rfl, ht, f0, fl, lt, p0, z⟩
def t_moved : DS :=
(dSeq (dAsg (dOp dAdd (dSl dSlice (dVar 0) dNoPart (dPart (dVar 1))) (dSl dSlice (dVar 0) (dPart (dOp dAdd (dVar 2) (dC (.int 1)))) dNoPart)) 4)
  (dRet (dOp dAdd (dOp dAdd (dSl dSlice (dVar 4) dNoPart (dPart (dVar 3))) (dSl dSlice (dVar 0) (dPart (dVar 1)) (dPart (dOp dAdd (dVar 2) (dC (.int 1)))))) (dSl dSlice (dVar 4) (dPart (dVar 3)) dNoPart))))
def n_moved : List Str := ["items", "first", "last", "place", "others"]
/- 0=items 1=first 2=last 3=place 4=others -/
theorem rd_moved (ds : List D) (h : DH) (Q : DK) (X : DX) (z : sp_moved ds h Q X) : t_moved (dEnd Q X) (dstart n_moved ds) h := by
  match ds, z with
  | [_, .int f, .int l, .int p], ⟨t, rfl, ht, f0, fl, lt, p0, z⟩ =>
    show t_moved (dEnd Q X) [some (.tup (t.map rowD)), some (.int f), some (.int l), some (.int p), none] h
    unfold t_moved
    obtain ⟨f, rfl⟩ := Int.eq_ofNat_of_zero_le f0
    obtain ⟨l, rfl⟩ := Int.eq_ofNat_of_zero_le (show 0 ≤ l by omega)
    obtain ⟨p, rfl⟩ := Int.eq_ofNat_of_zero_le p0
    walk_at "ev"
    rw [show (some ((l : Int) + 1)) = some ((l + 1 : Nat) : Int) from rfl]
    simp only [sl_from, sl_to, sl_both, op_AddT]
    have hz : ∀ n, n ≤ 200 → n ≤ sizeLine := fun n h => le_line h
    refine ⟨hz _ ?_, hz _ ?_, hz _ ?_, dend0 ?_⟩
    · simp only [List.length_append, List.length_take, List.length_drop, List.length_map]; omega
    · simp only [List.length_append, List.length_take, List.length_drop, List.length_map]; omega
    · simp only [List.length_append, List.length_take, List.length_drop, List.length_map]; omega
    · have e : D.tup (movedL (t.map rowD) f l p) = tabD (movedL t f l p) := by rw [movedL_map]; rfl
      unfold movedL at e
      rw [e]
      exact z
def stD (cells full : List Row) : D := .tup [tabD cells, tabD full]
def sheetO (C p : Addr) (cells full : List Row) : DO := .ins C [("state", stD cells full), ("past", .ref p)]
/-- a sheet at a, its past at p -/
structure SheetAt (C : Addr) (h : DH) (a p : Addr) (cells full : List Row) (past : List D) : Prop where
  at_ : h a = some (sheetO C p cells full)
  pa : h p = some (.lst past)
theorem SheetAt.ne {C : Addr} {h : DH} {a p : Addr} {c f : List Row} {past : List D} (s : SheetAt C h a p c f past) : p ≠ a := fun e => by
  have := s.at_
  rw [← e, s.pa] at this
  cases this
theorem SheetAt.upd {C : Addr} {h : DH} {a p b : Addr} {c f : List Row} {past : List D} {o : DO} (s : SheetAt C h a p c f past) (n1 : b ≠ a) (n2 : b ≠ p) : SheetAt C (dupd h b o) a p c f past :=
  ⟨(dupd_ne (Ne.symm n1)).trans s.at_, (dupd_ne (Ne.symm n2)).trans s.pa⟩
theorem sp_ne : ¬ (("past" : Str) = "state") := by decide +kernel
theorem ss_ne : ¬ (("state" : Str) = "past") := by decide +kernel
theorem lk_state {x : D} {fs : List (Str × D)} : List.lookup ("state" : Str) (("state", x) :: fs) = some x := by rw [List.lookup_cons]; simp
theorem lk_past {x y : D} {fs : List (Str × D)} : List.lookup ("past" : Str) (("state", x) :: ("past", y) :: fs) = some y := by
  rw [List.lookup_cons]
  have : (("past" : Str) == "state") = false := by decide +kernel
  rw [this]
  simp only [List.lookup_cons]
  have : (("past" : Str) == "past") = true := by decide +kernel
  rw [this]
theorem put_state0 {x : D} : putD "state" x [] = [(("state" : Str), x)] := rfl
theorem put_state {x y : D} {fs : List (Str × D)} : putD "state" y ((("state" : Str), x) :: fs) = (("state" : Str), y) :: fs := by unfold putD; rw [if_pos rfl]
theorem put_past {x y : D} : putD "past" y [(("state" : Str), x)] = [(("state" : Str), x), (("past" : Str), y)] := by unfold putD; rw [if_neg ss_ne]; rfl
theorem dFld_of {C a : Addr} {f : Str} {fs : List (Str × D)} {x : D} {h : DH} {Q : DK} {X : DX} {τ : DSt} (i : Nat) (hi : τ[i]? = some (some (.ref a))) (e : h a = some (.ins C fs)) (l : fs.lookup f = some x) (q : Q x h) : dFld C f (dVar i) τ h Q X := by
  unfold dFld dVar
  simp only [hi]
  exact ⟨a, fs, x, rfl, e, l, q⟩
def sp_Sheet_init (C : Addr) (E : Er) : DSp := fun ds h Q X => match ds with
  | [.ref a, d] => h a = some (.ins C []) ∧ nr d = true ∧ (∀ t, d = tabD t → PageP t → ∀ p, h p = none → Q .non (dupd (dupd h a (sheetO C p t (readRows none t))) p (.lst []))) ∧ (isPageD d = false → E.er .non X h)
  | _ => False
theorem i_Sheet_init {C a : Addr} {E : Er} {t : List Row} {h : DH} {Q : DK} {X : DX} (ea : h a = some (.ins C [])) (p : PageP t) (z : ∀ p, h p = none → Q .non (dupd (dupd h a (sheetO C p t (readRows none t))) p (.lst []))) : sp_Sheet_init C E [.ref a, tabD t] h Q X :=
  ⟨ea, nr_tab p.rows, fun u e _ => by rw [← tabD_inj e]; exact z, fun e => by rw [isPage_of p] at e; cases e⟩
def t_Sheet_init (C_Sheet : Addr) (E_InvalidPage : Er) : DS :=
(dSeq (dDrop (dCall (sp_require_page E_InvalidPage) (dCons (dVar 1) dNil)))
  (dSeq (dSetF C_Sheet "state" (dTup (dCons (dVar 1) (dCons (dCB dTuple (dCons (dCall sp_read_rows (dCons (dVar 1) dNil)) dNil)) dNil))) (dVar 0))
  (dSetF C_Sheet "past" (dLstM dNil) (dVar 0))))
def n_Sheet_init : List Str := ["self", "page"]
/- 0=self 1=page -/
theorem rd_Sheet_init (C : Addr) (E : Er) (ds : List D) (h : DH) (Q : DK) (X : DX) (z : sp_Sheet_init C E ds h Q X) : t_Sheet_init C E (dEnd Q X) (dstart n_Sheet_init ds) h := by
  match ds, z with
  | [.ref a, d], ⟨ea, hn, z, zx⟩ =>
    show t_Sheet_init C E (dEnd Q X) [some (.ref a), some d] h
    unfold t_Sheet_init
    walk_at "ev"
    refine ⟨hn, fun e => ?_, fun e => E.mono _ _ _ _ _ (fun C fs xe => ⟨h, DSub.refl h, xe⟩) (zx e)⟩
    obtain ⟨t, rfl, p⟩ := page_of e
    obtain ⟨w, w1, tb⟩ := p.tab
    simp only [dSetF]
    walk_at "ev"
    refine i_read_rows tb.wid fun q hq => ?_
    have hqa : q ≠ a := fun e => by rw [e, ea] at hq; cases hq
    have e1 : dupd h q (.lst ((readRows none t).map rowD)) q = some (.lst ((readRows none t).map rowD)) := dupd_same
    walk_at "ev"
    refine ⟨le_line (m := 2) (Nat.le_refl _), a, [], rfl, (dupd_ne (Ne.symm hqa)).trans ea, by decide, ?_⟩
    refine ⟨Nat.zero_le _, fun p2 hp2 => ⟨a, putD "state" (stD t (readRows none t)) [], rfl, ?_, ?_, ?_⟩⟩
    · have : p2 ≠ a := fun e => by rw [e, dupd_same] at hp2; cases hp2
      exact (dupd_ne (Ne.symm this)).trans dupd_same
    · show 1 < 1000; decide
    · have n1 : p2 ≠ a := fun e => by rw [e, dupd_same] at hp2; cases hp2
      have n2 : p2 ≠ q := fun e => by rw [e, dupd_ne hqa, dupd_same] at hp2; cases hp2
      have hp : h p2 = none := by rw [dupd_ne n1, dupd_ne n2] at hp2; exact hp2
      refine ⟨_, ?_, z t rfl p p2 hp⟩
      simp only [put_state0, put_past]
      intro b o e
      by_cases b1 : b = a
      · subst b1
        rw [dupd_ne (Ne.symm n1), dupd_same] at e
        rw [dupd_same]; exact e
      · rw [dupd_ne b1]
        by_cases b2 : b = p2
        · subst b2; rw [dupd_same] at e ⊢; exact e
        · rw [dupd_ne b2] at e ⊢
          rw [dupd_ne b1] at e ⊢
          rw [dupd_ne (fun e2 => by rw [e2, hq] at e; cases e)]; exact e
/-- rows told by a tuple, a list, or a list that lies apart -/
def TabAt (h : DH) (p : Addr) (d : D) (t : List Row) : Prop := d = tabD t ∨ d = .lst (t.map rowD) ∨ ∃ b, d = .ref b ∧ b ≠ p ∧ h b = some (.lst (t.map rowD))
theorem TabAt.tup {h : DH} {p : Addr} {t : List Row} : TabAt h p (tabD t) t := .inl rfl
theorem TabAt.lst {h : DH} {p : Addr} {t : List Row} : TabAt h p (.lst (t.map rowD)) t := .inr (.inl rfl)
theorem TabAt.tuple {h : DH} {p : Addr} {d : D} {t : List Row} {o : DO} (q : TabAt h p d t) {Q : DK} : dTuple [d] (dupd h p o) Q = Q (tabD t) (dupd h p o) := by
  rcases q with rfl | rfl | ⟨b, rfl, nb, eb⟩
  · rfl
  · rfl
  · exact cb_tupleR ((dupd_ne nb).trans eb)
def sp_Sheet_change (C : Addr) : DSp := fun ds h Q _ => match ds with
  | [.ref a, d, e] => ∃ p c f past c2 f2, SheetAt C h a p c f past ∧ past.length ≤ 1000000 ∧ TabAt h p d c2 ∧ TabAt h p e f2 ∧ Q .non (dupd (dupd h p (.lst (past ++ [stD c f]))) a (sheetO C p c2 f2))
  | _ => False
theorem i_Sheet_change {C a p : Addr} {c f c2 f2 : List Row} {past : List D} {h : DH} {Q : DK} {X : DX} (s : SheetAt C h a p c f past) (hl : past.length ≤ 1000000) (z : Q .non (dupd (dupd h p (.lst (past ++ [stD c f]))) a (sheetO C p c2 f2))) : sp_Sheet_change C [.ref a, tabD c2, tabD f2] h Q X :=
  ⟨p, c, f, past, c2, f2, s, hl, .tup, .tup, z⟩
theorem i_Sheet_changeG {C a p : Addr} {c f c2 f2 : List Row} {past : List D} {d e : D} {h : DH} {Q : DK} {X : DX} (s : SheetAt C h a p c f past) (hl : past.length ≤ 1000000) (hd : TabAt h p d c2) (he : TabAt h p e f2) (z : Q .non (dupd (dupd h p (.lst (past ++ [stD c f]))) a (sheetO C p c2 f2))) : sp_Sheet_change C [.ref a, d, e] h Q X :=
  ⟨p, c, f, past, c2, f2, s, hl, hd, he, z⟩
def t_Sheet_change (C_Sheet : Addr) : DS :=
(dSeq (dDrop (dBM "list" dAppend (dFld C_Sheet "past" (dVar 0)) (dCons (dFld C_Sheet "state" (dVar 0)) dNil)))
  (dSetF C_Sheet "state" (dTup (dCons (dCB dTuple (dCons (dVar 1) dNil)) (dCons (dCB dTuple (dCons (dVar 2) dNil)) dNil))) (dVar 0)))
def n_Sheet_change : List Str := ["self", "cells", "full_rows"]
/- 0=self 1=cells 2=full_rows -/
theorem rd_Sheet_change (C : Addr) (ds : List D) (h : DH) (Q : DK) (X : DX) (z : sp_Sheet_change C ds h Q X) : t_Sheet_change C (dEnd Q X) (dstart n_Sheet_change ds) h := by
  match ds, z with
  | [.ref a, d, e], ⟨p, c, f, past, c2, f2, s, hl, hd, he, z⟩ =>
    show t_Sheet_change C (dEnd Q X) [some (.ref a), some d, some e] h
    unfold t_Sheet_change
    rw [e_dSeq, e_dDrop, e_dBM]
    refine dFld_of 0 rfl s.at_ lk_past ⟨⟨rfl, past, s.pa⟩, ?_⟩
    rw [e_dCons]
    refine dFld_of 0 rfl s.at_ lk_state ?_
    rw [e_dNil, me_append s.pa]
    refine ⟨Nat.lt_of_le_of_lt hl (by decide), ?_⟩
    simp only [dSetF, e_dTup, e_dCons, e_dCB, e_dNil, v0, v1, v2, hd.tuple, he.tuple]
    refine ⟨le_line (m := 2) (Nat.le_refl _), a, _, rfl, (dupd_ne (Ne.symm s.ne)).trans s.at_, by show 2 < 1000; decide, ?_⟩
    rw [put_state]
    exact dend0 z

end DL

namespace DL
open PySem L2
local macro_rules | `(tactic| walk_at "ev") => `(tactic| try simp (disch := (first | assumption | exact dupd_same | (refine (dupd_ne ?_).trans ?_; (first | assumption | (apply Ne.symm; assumption)); first | assumption | exact dupd_same | (refine (dupd_ne ?_).trans ?_; (first | assumption | (apply Ne.symm; assumption)); first | assumption | exact dupd_same)))) only [v0, v1, v2, v3, v4, v5, v6, v7, v8, v9, v10, v11, v12, v13, v14, v15, v16, w0, w1, w2, w3, w4, w5, w6, w7, w8, w9, w10, w11, w12, w13, w14, w15, w16, e_dC, e_dOp, e_dUn, e_dTest, e_dAnd, e_dOr, e_dNot, e_dAndV, e_dOrV, e_dNotV, e_dIfE, e_dChain, e_dNil, e_dCons, e_dTup, e_dLst, e_dLstM, e_dCB, e_dBM, e_dFrz, e_dNoPart, e_dPart, e_dSl, e_dIsi, e_iSeqD, e_iRange1, e_iRange2, e_iEnumD, e_iZipD, e_dNext, e_dSeq, e_dAsg, e_dAsgT, e_dPar, e_dIf, e_dRet, e_dRetN, e_dDrop, e_dBrk, e_dCnt, e_dAug, e_dSetI, e_dFor, e_dWhile, e_dYes, e_dLc, e_dLcM, e_dCall, e_dCallK, e_dNeg, e_dRaise, op_Lt, op_Le, op_Gt, op_Ge, op_IsN, op_IsNN, op_Sub, op_Add, op_AddS, op_AddT, op_AddL, op_Mul, op_MulT, op_MulL, op_Mod, op_Fdiv, op_InS, op_NotInS, cb_lenT, cb_lenL, cb_lenS, cb_lenX, cb_all, cb_any, cb_tupleL, cb_tupleT, cb_max, cb_min, cb_abs, cb_int, cb_intB, cb_strI, me_joinL, me_joinT, me_split, ip_add, ip_sub, ip_mul, ip_div, ix_ref0, ix_ref1, ix_ref2, me_append, me_popAt, me_pop0, me_insert, me_clear, me_reverse, cb_lenR, cb_tupleR, me_joinR, vw_ref, dT_ref, pow_18, pow_38, pow_40, pow_41, pow_6, eq_str, ne_str, eq_int, ne_int, ix_tup0, ix_lst0, sl_from, sl_to, sl_fromL, sl_toL, vw_str, vw_int, vw_bl, vw_non, vw_dct, vw_tup, vw_lst, vw_scr, ty_str, ty_int, ty_bl, ty_non, ty_tup, ty_lst, ty_dct, it_str, it_tup, it_lst, bT_nm, isN_non, isN_str, isN_int, isN_bl, isN_tup, isN_lst, isN_dct, dT_str, dT_lst, en_rt, en_nx, en_ex, t_imp, f_imp, not_true_eq_false, not_false_eq_true, tf_eq, ft_eq, dwipe, true_and, and_true, Bool.not_true, Bool.not_false, Bool.not_eq_true', Bool.not_eq_false', decide_eq_true_eq, decide_eq_false_iff_not, nq_NoneType, is_NoneType_int, is_NoneType_bool, is_NoneType_str, is_NoneType_tuple, is_NoneType_list, is_NoneType_dict, nq_bool, is_bool_int, is_bool_bool, is_bool_str, is_bool_tuple, is_bool_list, is_bool_dict, nq_int, is_int_int, is_int_bool, is_int_str, is_int_tuple, is_int_list, is_int_dict, nq_str, is_str_int, is_str_bool, is_str_str, is_str_tuple, is_str_list, is_str_dict, nq_tuple, is_tuple_int, is_tuple_bool, is_tuple_str, is_tuple_tuple, is_tuple_list, is_tuple_dict, nq_list, is_list_int, is_list_bool, is_list_str, is_list_tuple, is_list_list, is_list_dict, nq_dict, is_dict_int, is_dict_bool, is_dict_str, is_dict_tuple, is_dict_list, is_dict_dict])
/-! R13: what a sheet does -/
def sp_Sheet_move (C : Addr) (E1 E2 : Er) : DSp := fun ds h Q X => match ds with
  | [.ref a, d1, d2, d3] => ∃ p c fu past w, SheetAt C h a p c fu past ∧ Tab c w ∧ fu.length = c.length ∧ past.length ≤ 1000000 ∧ nr d1 = true ∧ nr d2 = true ∧ nr d3 = true ∧
      (∀ f l pl : Int, d1 = .int f → d2 = .int l → d3 = .int pl → 0 ≤ f → f ≤ l → l < c.length → 0 ≤ pl → pl ≤ c.length - (l - f + 1) → Q .non (dupd (dupd h p (.lst (past ++ [stD c fu]))) a (sheetO C p (movedL c f.toNat l.toNat pl.toNat) (movedL fu f.toNat l.toNat pl.toNat)))) ∧
      (isIntD 0 (some ((c.length : Int) - 1)) d1 = false → E2.er .non X h) ∧
      (∀ f, d1 = .int f → isIntD 0 (some ((c.length : Int) - 1)) d1 = true → isIntD f (some ((c.length : Int) - 1)) d2 = false → E2.er .non X h) ∧
      (∀ f l, d1 = .int f → d2 = .int l → isIntD 0 (some ((c.length : Int) - 1)) d1 = true → isIntD f (some ((c.length : Int) - 1)) d2 = true → isIntD 0 (some ((c.length : Int) - (l - f + 1))) d3 = false → E1.er .non X h)
  | _ => False
theorem isInt_of {lo : Int} {hi : Int} {d : D} (h : isIntD lo (some hi) d = true) : ∃ i, d = .int i ∧ lo ≤ i ∧ i ≤ hi := by
  cases d with
  | int i =>
    have h2 : (decide (lo ≤ i) && decide (i ≤ hi)) = true := h
    simp only [Bool.and_eq_true, decide_eq_true_eq] at h2
    exact ⟨i, rfl, h2.1, h2.2⟩
  | _ => cases h
theorem isInt_t {lo hi i : Int} (h1 : lo ≤ i) (h2 : i ≤ hi) : isIntD lo (some hi) (.int i) = true := by
  show (decide _ && decide _) = true
  rw [decide_eq_true h1, decide_eq_true h2]; rfl
theorem i_Sheet_move {C a p : Addr} {E1 E2 : Er} {c fu : List Row} {past : List D} {w : Nat} {f l pl : Int} {h : DH} {Q : DK} {X : DX} (s : SheetAt C h a p c fu past) (t : Tab c w) (hl : fu.length = c.length) (hp : past.length ≤ 1000000)
    (f0 : 0 ≤ f) (fl : f ≤ l) (lc : l < c.length) (p0 : 0 ≤ pl) (p1 : pl ≤ c.length - (l - f + 1)) (z : Q .non (dupd (dupd h p (.lst (past ++ [stD c fu]))) a (sheetO C p (movedL c f.toNat l.toNat pl.toNat) (movedL fu f.toNat l.toNat pl.toNat)))) :
    sp_Sheet_move C E1 E2 [.ref a, .int f, .int l, .int pl] h Q X :=
  ⟨p, c, fu, past, w, s, t, hl, hp, rfl, rfl, rfl, (fun f' l' pl' e1 e2 e3 _ _ _ _ _ => by cases e1; cases e2; cases e3; exact z), (fun e => by rw [isInt_t f0 (by omega)] at e; cases e),
    (fun f' e1 _ e => by cases e1; rw [isInt_t fl (by omega)] at e; cases e), (fun f' l' e1 e2 _ _ e => by cases e1; cases e2; rw [isInt_t p0 p1] at e; cases e)⟩
def t_Sheet_move (C_Sheet : Addr) (E_InvalidPlace : Er) (E_InvalidRow : Er) : DS :=
(dSeq (dAsgT (dFld C_Sheet "state" (dVar 0)) (.tp [(.nm 4), (.nm 5)]))
  (dSeq (dDrop (dCall (sp_require_row E_InvalidRow) (dCons (dCB dLen (dCons (dVar 4) dNil)) (dCons (dVar 1) dNil))))
  (dSeq (dIf (dNot (dTest (dCall sp_is_integer (dCons (dVar 2) (dCons (dVar 1) (dCons (dOp dSub (dCB dLen (dCons (dVar 4) dNil)) (dC (.int 1))) dNil)))))) (E_InvalidRow.tr none) dNext)
  (dSeq (dDrop (dCall (sp_require_place E_InvalidPlace) (dCons (dVar 3) (dCons (dOp dSub (dCB dLen (dCons (dVar 4) dNil)) (dOp dAdd (dOp dSub (dVar 2) (dVar 1)) (dC (.int 1)))) dNil))))
  (dDrop (dMeth C_Sheet "change" (sp_Sheet_change C_Sheet) (dVar 0) (dCons (dCall sp_moved (dCons (dVar 4) (dCons (dVar 1) (dCons (dVar 2) (dCons (dVar 3) dNil))))) (dCons (dCall sp_moved (dCons (dVar 5) (dCons (dVar 1) (dCons (dVar 2) (dCons (dVar 3) dNil))))) dNil))))))))
def n_Sheet_move : List Str := ["self", "first", "last", "place", "cells", "full_rows"]
/- 0=self 1=first 2=last 3=place 4=cells 5=full_rows -/
theorem lk_no {f : Str} {x y : D} (h1 : (f == ("state" : Str)) = false := by decide +kernel) (h2 : (f == ("past" : Str)) = false := by decide +kernel) : List.lookup f [(("state" : Str), x), (("past" : Str), y)] = none := by
  simp only [List.lookup_cons, h1, h2, List.lookup_nil]
theorem bT_two {x y : D} {τ : DSt} {i j : Nat} : bindT (.tp [.nm i, .nm j]) (.tup [x, y]) τ = some ((τ.set i (some x)).set j (some y)) := bT_2 rfl rfl
theorem rd_Sheet_move (C : Addr) (E1 E2 : Er) (ds : List D) (h : DH) (Q : DK) (X : DX) (z : sp_Sheet_move C E1 E2 ds h Q X) : t_Sheet_move C E1 E2 (dEnd Q X) (dstart n_Sheet_move ds) h := by
  match ds, z with
  | [.ref a, d1, d2, d3], ⟨p, c, fu, past, w, s, t, hl, hp, n1, n2, n3, z, z1, z2, z3⟩ =>
    show t_Sheet_move C E1 E2 (dEnd Q X) [some (.ref a), some d1, some d2, some d3, none, none] h
    unfold t_Sheet_move
    walk_at "ev"
    refine dFld_of 0 rfl s.at_ lk_state ?_
    rw [show stD c fu = .tup [.tup (c.map rowD), .tup (fu.map rowD)] from rfl]
    simp only [bT_two]
    walk_at "ev"
    simp only [List.length_map]
    have err : ∀ {E : Er} {D2 : DEnds} {τ : DSt}, D2.ex = (dEnd Q X).ex → E.er .non X h → E.tr none D2 τ h := fun {E D2 τ} eD ee => E.ok _ _ _ _ (E.mono _ _ _ _ _ (fun C fs xe => by rw [eD]; exact ⟨h, DSub.refl h, xe⟩) ee)
    refine ⟨n1, fun e1 => ?_, fun e1 => E2.mono _ _ _ _ _ (fun C fs xe => ⟨h, DSub.refl h, xe⟩) (z1 e1)⟩
    obtain ⟨f, rfl, f0, f1⟩ := isInt_of e1
    walk_at "ev"
    refine i_is_integer (hi := some ((c.length : Int) - 1)) n2 ?_
    walk_at "ev"
    refine ⟨fun e2 => err rfl (z2 f rfl e1 e2), fun e2 => ?_⟩
    obtain ⟨l, rfl, l0, l1⟩ := isInt_of e2
    walk_at "ev"
    refine ⟨n3, fun e3 => ?_, fun e3 => E1.mono _ _ _ _ _ (fun C fs xe => ⟨h, DSub.refl h, xe⟩) (z3 f l rfl rfl e1 e2 e3)⟩
    obtain ⟨pl, rfl, p0, p1⟩ := isInt_of e3
    have h60 := t.le
    simp only [dMeth]
    walk_at "ev"
    refine ⟨a, _, rfl, s.at_, lk_no, ?_⟩
    refine i_moved h60 f0 l0 (by omega) p0 ?_
    walk_at "ev"
    refine i_moved (by omega) f0 l0 (by omega) p0 ?_
    exact i_Sheet_change s hp (dend0 (z f l pl rfl rfl rfl f0 l0 (by omega) p0 p1))
/-- the rows at which two tables differ -/
def wrongL (rd fu : List Row) : List Nat := (List.range rd.length).filter fun i => decide (rd[i]? ≠ fu[i]?)
def intsD (l : List Nat) : List D := l.map fun i => .int (i : Nat)
def sp_Sheet_wrong (C : Addr) : DSp := fun ds h Q _ => match ds with
  | [.ref a] => ∃ p c fu past w, SheetAt C h a p c fu past ∧ Tab c w ∧ Tab fu w ∧ fu.length = c.length ∧ ∀ q, h q = none → Q (.ref q) (dupd h q (.lst (intsD (wrongL (readRows none c) fu))))
  | _ => False
theorem i_Sheet_wrong {C a p : Addr} {c fu : List Row} {past : List D} {w : Nat} {h : DH} {Q : DK} {X : DX} (s : SheetAt C h a p c fu past) (t : Tab c w) (t2 : Tab fu w) (hl : fu.length = c.length) (z : ∀ q, h q = none → Q (.ref q) (dupd h q (.lst (intsD (wrongL (readRows none c) fu))))) :
    sp_Sheet_wrong C [.ref a] h Q X := ⟨p, c, fu, past, w, s, t, t2, hl, z⟩
/-- [i for i, x in enumerate(rd) if x != fu[i]] -/
theorem wrong_go {vi vx : Nat} {τ : DSt} {h : DH} {Q : List D → DH → Prop} {tt : DT} {te : DE} (rd fu : List Row) (hl : fu.length = rd.length) (h1 : ∀ r ∈ rd, strOkR r) (h2 : ∀ r ∈ fu, strOkR r)
    (ht : ∀ (i : Nat) (r : Row) (Q' : Bool → DH → Prop), i < rd.length → (∀ Q2 : DK, ∀ f : Row, fu[i]? = some f → dNe (rowD r) (rowD f) h Q2 = Q2 (.bl (!decide (r = f))) h) → (∀ f : Row, fu[i]? = some f → Q' (!decide (r = f)) h) → tt ((τ.set vi (some (.int (i : Nat)))).set vx (some (rowD r))) h Q' noX)
    (he : ∀ (i : Nat) (r : Row) (Q' : DK), Q' (.int (i : Nat)) h → te ((τ.set vi (some (.int (i : Nat)))).set vx (some (rowD r))) h Q' noX)
    (q : Q (intsD (wrongL rd fu)) h) : lcGo (.tp [.nm vi, .nm vx]) tt te τ (enumD (rd.map rowD)) h Q := by
  have ne_row : ∀ (r f : Row) (Q2 : DK), strOkR r → strOkR f → dNe (rowD r) (rowD f) h Q2 = Q2 (.bl (!decide (r = f))) h := fun r f Q2 a b => by
    unfold rowD
    rw [ne_tup (dn_row a 11) (dn_row b 11)]
    have := eqv_row r f
    unfold rowD at this
    rw [this]
  have e0 : enumD (rd.map rowD) = (List.range rd.length).map fun i => .tup [.int (i : Nat), rowD (rd.getD i [])] := by
    unfold enumD
    rw [List.length_map]
    apply List.ext_getElem
    · simp
    · intro n a b
      simp only [List.length_map, List.length_range] at b
      simp [List.getD, List.getElem?_eq_getElem b]
  rw [e0]
  refine lc_fil (fun i : Nat => D.tup [.int (i : Nat), rowD (rd.getD i [])]) (fun i : Nat => .int (i : Nat)) (fun i => decide (rd[i]? ≠ fu[i]?)) _ (fun i hi => ⟨_, bT_two, fun Q' q' => ?_, fun _ Q' q' => he i _ Q' q'⟩) q
  have hi : i < rd.length := List.mem_range.mp hi
  have er : rd[i]? = some (rd.getD i []) := by simp [List.getD, List.getElem?_eq_getElem hi]
  refine ht i _ Q' hi (fun Q2 f ef => ne_row _ _ Q2 (h1 _ (List.mem_of_getElem? er)) (h2 f (List.mem_of_getElem? ef))) fun f ef => ?_
  have : decide (rd[i]? ≠ fu[i]?) = !decide (rd.getD i [] = f) := by
    rw [er, ef]
    by_cases e : rd.getD i [] = f <;> simp [e]
  rw [← this]
  exact q'
def t_Sheet_wrong (C_Sheet : Addr) : DS :=
(dSeq (dAsgT (dFld C_Sheet "state" (dVar 0)) (.tp [(.nm 1), (.nm 2)]))
  (dRet (dLcM (iEnumD (dFrz (dCall sp_read_rows (dCons (dVar 1) dNil)))) (.tp [(.nm 3), (.nm 4)]) (dTest (dOp dNe (dVar 4) (dOp dIx (dVar 2) (dVar 3)))) (dVar 3) [3, 4])))
def n_Sheet_wrong : List Str := ["self", "cells", "full_rows", "row", "read"]
/- 0=self 1=cells 2=full_rows 3=row 4=read -/
theorem ix_tabT {t : List Row} {k : Nat} {h : DH} {Q : DK} (hk : k < t.length) : ∃ r, t[k]? = some r ∧ dIx (.tup (t.map rowD)) (.int (k : Nat)) h Q = Q (rowD r) h := by
  have e : t[k]? = some t[k] := List.getElem?_eq_getElem hk
  exact ⟨_, e, ix_tup (by rw [List.getElem?_map, e]; rfl)⟩
theorem rd_Sheet_wrong (C : Addr) (ds : List D) (h : DH) (Q : DK) (X : DX) (z : sp_Sheet_wrong C ds h Q X) : t_Sheet_wrong C (dEnd Q X) (dstart n_Sheet_wrong ds) h := by
  match ds, z with
  | [.ref a], ⟨p, c, fu, past, w, s, t, t2, hl, z⟩ =>
    show t_Sheet_wrong C (dEnd Q X) [some (.ref a), none, none, none, none] h
    unfold t_Sheet_wrong
    walk_at "ev"
    refine dFld_of 0 rfl s.at_ lk_state ?_
    rw [show stD c fu = .tup [tabD c, .tup (fu.map rowD)] from rfl]
    simp only [bT_two]
    walk_at "ev"
    refine i_read_rows t.wid fun q hq => ?_
    simp only [dupd_same, ddel_dupd hq, it_lst]
    refine ⟨?_, ?_⟩
    · unfold enumD
      simp only [List.length_map, List.length_zip, List.length_range, Nat.min_self, readRows_len]
      have := t.le; omega
    refine wrong_go (readRows none c) fu (by rw [hl, readRows_len]) t.read.strOk t2.strOk (fun i r Q' hi hne q' => ?_) (fun i r Q' q' => ?_) ?_
    · obtain ⟨f, ef, ei⟩ := ix_tabT (t := fu) (k := i) (h := h) (Q := fun y h2 => dNe (rowD r) y h2 fun x h1 => match x with | .bl b => Q' b h1 | _ => False) (by rw [readRows_len] at hi; omega)
      walk_at "ev"
      refine Eq.mpr ei ?_
      refine Eq.mpr (hne _ f ef) ?_
      exact q' f ef
    · walk_at "ev"
      exact q'
    · exact fun q2 hq2 => dend0 (z q2 hq2)
def sp_Sheet_cells_now (C : Addr) : DSp := fun ds h Q _ => match ds with
  | [.ref a] => ∃ p c fu past, SheetAt C h a p c fu past ∧ Q (tabD c) h
  | _ => False
theorem i_Sheet_cells_now {C a p : Addr} {c fu : List Row} {past : List D} {h : DH} {Q : DK} {X : DX} (s : SheetAt C h a p c fu past) (z : Q (tabD c) h) : sp_Sheet_cells_now C [.ref a] h Q X := ⟨p, c, fu, past, s, z⟩
def t_Sheet_cells_now (C_Sheet : Addr) : DS :=
(dRet (dOp dIx (dFld C_Sheet "state" (dVar 0)) (dC (.int 0))))
def n_Sheet_cells_now : List Str := ["self"]
/- 0=self -/
theorem rd_Sheet_cells_now (C : Addr) (ds : List D) (h : DH) (Q : DK) (X : DX) (z : sp_Sheet_cells_now C ds h Q X) : t_Sheet_cells_now C (dEnd Q X) (dstart n_Sheet_cells_now ds) h := by
  match ds, z with
  | [.ref a], ⟨p, c, fu, past, s, z⟩ =>
    show t_Sheet_cells_now C (dEnd Q X) [some (.ref a)] h
    unfold t_Sheet_cells_now
    walk_at "ev"
    refine dFld_of 0 rfl s.at_ lk_state ?_
    rw [show stD c fu = .tup [tabD c, tabD fu] from rfl]
    walk_at "ev"
    exact dend0 z
def sp_Sheet_read_now (C : Addr) : DSp := fun ds h Q _ => match ds with
  | [.ref a] => ∃ p c fu past w, SheetAt C h a p c fu past ∧ Tab c w ∧ ∀ q, h q = none → Q (.ref q) (dupd h q (.lst ((readRows none c).map rowD)))
  | _ => False
theorem i_Sheet_read_now {C a p : Addr} {c fu : List Row} {past : List D} {w : Nat} {h : DH} {Q : DK} {X : DX} (s : SheetAt C h a p c fu past) (t : Tab c w) (z : ∀ q, h q = none → Q (.ref q) (dupd h q (.lst ((readRows none c).map rowD)))) : sp_Sheet_read_now C [.ref a] h Q X := ⟨p, c, fu, past, w, s, t, z⟩
def t_Sheet_read_now (C_Sheet : Addr) : DS :=
(dRet (dCall sp_read_rows (dCons (dOp dIx (dFld C_Sheet "state" (dVar 0)) (dC (.int 0))) dNil)))
def n_Sheet_read_now : List Str := ["self"]
/- 0=self -/
theorem rd_Sheet_read_now (C : Addr) (ds : List D) (h : DH) (Q : DK) (X : DX) (z : sp_Sheet_read_now C ds h Q X) : t_Sheet_read_now C (dEnd Q X) (dstart n_Sheet_read_now ds) h := by
  match ds, z with
  | [.ref a], ⟨p, c, fu, past, w, s, t, z⟩ =>
    show t_Sheet_read_now C (dEnd Q X) [some (.ref a)] h
    unfold t_Sheet_read_now
    walk_at "ev"
    refine dFld_of 0 rfl s.at_ lk_state ?_
    rw [show stD c fu = .tup [tabD c, tabD fu] from rfl]
    walk_at "ev"
    exact i_read_rows t.wid fun q hq => dend0 (z q hq)
def sp_Sheet_true_now (C : Addr) : DSp := fun ds h Q _ => match ds with
  | [.ref a] => ∃ p c fu past, SheetAt C h a p c fu past ∧ ∀ q, h q = none → Q (.ref q) (dupd h q (.lst (fu.map rowD)))
  | _ => False
theorem i_Sheet_true_now {C a p : Addr} {c fu : List Row} {past : List D} {h : DH} {Q : DK} {X : DX} (s : SheetAt C h a p c fu past) (z : ∀ q, h q = none → Q (.ref q) (dupd h q (.lst (fu.map rowD)))) : sp_Sheet_true_now C [.ref a] h Q X := ⟨p, c, fu, past, s, z⟩
def t_Sheet_true_now (C_Sheet : Addr) : DS :=
(dRet (dCB dListM (dCons (dOp dIx (dFld C_Sheet "state" (dVar 0)) (dC (.int 1))) dNil)))
def n_Sheet_true_now : List Str := ["self"]
/- 0=self -/
theorem ix_tup1 {x y : D} {xs : List D} {h : DH} {Q : DK} : dIx (.tup (y :: x :: xs)) (.int 1) h Q = Q x h := ix_tup (k := 1) rfl
theorem rd_Sheet_true_now (C : Addr) (ds : List D) (h : DH) (Q : DK) (X : DX) (z : sp_Sheet_true_now C ds h Q X) : t_Sheet_true_now C (dEnd Q X) (dstart n_Sheet_true_now ds) h := by
  match ds, z with
  | [.ref a], ⟨p, c, fu, past, s, z⟩ =>
    show t_Sheet_true_now C (dEnd Q X) [some (.ref a)] h
    unfold t_Sheet_true_now
    walk_at "ev"
    refine dFld_of 0 rfl s.at_ lk_state ?_
    rw [show stD c fu = .tup [tabD c, tabD fu] from rfl]
    rw [ix_tup1]
    show ∀ q, h q = none → _
    exact fun q hq => dend0 (z q hq)
def sp_Sheet_len (C : Addr) : DSp := fun ds h Q _ => match ds with
  | [.ref a] => ∃ p c fu past, SheetAt C h a p c fu past ∧ Q (.int (c.length : Nat)) h
  | _ => False
theorem i_Sheet_len {C a p : Addr} {c fu : List Row} {past : List D} {h : DH} {Q : DK} {X : DX} (s : SheetAt C h a p c fu past) (z : Q (.int (c.length : Nat)) h) : sp_Sheet_len C [.ref a] h Q X := ⟨p, c, fu, past, s, z⟩
def t_Sheet_len (C_Sheet : Addr) : DS :=
(dRet (dCB dLen (dCons (dOp dIx (dFld C_Sheet "state" (dVar 0)) (dC (.int 0))) dNil)))
def n_Sheet_len : List Str := ["self"]
/- 0=self -/
theorem rd_Sheet_len (C : Addr) (ds : List D) (h : DH) (Q : DK) (X : DX) (z : sp_Sheet_len C ds h Q X) : t_Sheet_len C (dEnd Q X) (dstart n_Sheet_len ds) h := by
  match ds, z with
  | [.ref a], ⟨p, c, fu, past, s, z⟩ =>
    show t_Sheet_len C (dEnd Q X) [some (.ref a)] h
    unfold t_Sheet_len
    walk_at "ev"
    refine dFld_of 0 rfl s.at_ lk_state ?_
    rw [show stD c fu = .tup [.tup (c.map rowD), tabD fu] from rfl]
    walk_at "ev"
    rw [List.length_map]
    exact dend0 z

end DL

namespace DL
open PySem L2
local macro_rules | `(tactic| walk_at "ev") => `(tactic| try simp (disch := (first | assumption | exact dupd_same | (refine (dupd_ne ?_).trans ?_; (first | assumption | (apply Ne.symm; assumption)); first | assumption | exact dupd_same | (refine (dupd_ne ?_).trans ?_; (first | assumption | (apply Ne.symm; assumption)); first | assumption | exact dupd_same)))) only [v0, v1, v2, v3, v4, v5, v6, v7, v8, v9, v10, v11, v12, v13, v14, v15, v16, w0, w1, w2, w3, w4, w5, w6, w7, w8, w9, w10, w11, w12, w13, w14, w15, w16, e_dC, e_dOp, e_dUn, e_dTest, e_dAnd, e_dOr, e_dNot, e_dAndV, e_dOrV, e_dNotV, e_dIfE, e_dChain, e_dNil, e_dCons, e_dTup, e_dLst, e_dLstM, e_dCB, e_dBM, e_dFrz, e_dNoPart, e_dPart, e_dSl, e_dIsi, e_iSeqD, e_iRange1, e_iRange2, e_iEnumD, e_iZipD, e_dNext, e_dSeq, e_dAsg, e_dAsgT, e_dPar, e_dIf, e_dRet, e_dRetN, e_dDrop, e_dBrk, e_dCnt, e_dAug, e_dSetI, e_dFor, e_dWhile, e_dYes, e_dLc, e_dLcM, e_dCall, e_dCallK, e_dNeg, e_dRaise, op_Lt, op_Le, op_Gt, op_Ge, op_IsN, op_IsNN, op_Sub, op_Add, op_AddS, op_AddT, op_AddL, op_Mul, op_MulT, op_MulL, op_Mod, op_Fdiv, op_InS, op_NotInS, cb_lenT, cb_lenL, cb_lenS, cb_lenX, cb_all, cb_any, cb_tupleL, cb_tupleT, cb_max, cb_min, cb_abs, cb_int, cb_intB, cb_strI, me_joinL, me_joinT, me_split, ip_add, ip_sub, ip_mul, ip_div, ix_ref0, ix_ref1, ix_ref2, me_append, me_popAt, me_pop0, me_insert, me_clear, me_reverse, cb_lenR, cb_tupleR, me_joinR, vw_ref, dT_ref, pow_18, pow_38, pow_40, pow_41, pow_6, eq_str, ne_str, eq_int, ne_int, ix_tup0, ix_lst0, sl_from, sl_to, sl_fromL, sl_toL, vw_str, vw_int, vw_bl, vw_non, vw_dct, vw_tup, vw_lst, vw_scr, ty_str, ty_int, ty_bl, ty_non, ty_tup, ty_lst, ty_dct, it_str, it_tup, it_lst, bT_nm, isN_non, isN_str, isN_int, isN_bl, isN_tup, isN_lst, isN_dct, dT_str, dT_lst, en_rt, en_nx, en_ex, t_imp, f_imp, not_true_eq_false, not_false_eq_true, tf_eq, ft_eq, dwipe, true_and, and_true, Bool.not_true, Bool.not_false, Bool.not_eq_true', Bool.not_eq_false', decide_eq_true_eq, decide_eq_false_iff_not, nq_NoneType, is_NoneType_int, is_NoneType_bool, is_NoneType_str, is_NoneType_tuple, is_NoneType_list, is_NoneType_dict, nq_bool, is_bool_int, is_bool_bool, is_bool_str, is_bool_tuple, is_bool_list, is_bool_dict, nq_int, is_int_int, is_int_bool, is_int_str, is_int_tuple, is_int_list, is_int_dict, nq_str, is_str_int, is_str_bool, is_str_str, is_str_tuple, is_str_list, is_str_dict, nq_tuple, is_tuple_int, is_tuple_bool, is_tuple_str, is_tuple_tuple, is_tuple_list, is_tuple_dict, nq_list, is_list_int, is_list_bool, is_list_str, is_list_tuple, is_list_list, is_list_dict, nq_dict, is_dict_int, is_dict_bool, is_dict_str, is_dict_tuple, is_dict_list, is_dict_dict])
/-! R14: the law's own reading and moving -/
theorem Tab.row {t : List Row} {w : Nat} (p : Tab t w) : ∀ r ∈ t, r.length ≤ 6 := fun r hr => by rw [(p.all r hr).1]; exact p.w6
theorem ix_last {h : DH} {Q : DK} {a : Addr} {xs : List D} {x : D} (e : h a = some (.lst (xs ++ [x]))) : dIx (.ref a) (.int (-1)) h Q = Q x h := by
  have : atI (xs ++ [x]) (-1) = some x := by
    unfold atI ixN
    rw [if_neg (by decide), if_pos (by simp; omega)]
    have : (-1 + ((xs ++ [x]).length : Int)).toNat = xs.length := by rw [List.length_append, List.length_singleton]; omega
    rw [this]
    simp
  simp only [dIx, vw_ref e, this]
/-- the cells of a row, up to a place -/
def aboveAt : Option Row → Nat → Option Str
  | some a, i => a.getD i none
  | none, _ => none
def cellAt (ab : Option Row) (r : Row) (i : Nat) : Option Str := if i < blanks r then aboveAt ab i else r.getD i none
theorem readRow_at {ab : Option Row} {r : Row} (ha : ∀ a, ab = some a → a.length = r.length) : readRow ab r = (List.range r.length).map (cellAt ab r) := by
  have hb : blanks r ≤ r.length := by rw [← lead_row]; have := lead_le (r.map cD); rw [List.length_map] at this; exact this
  have hbl : ∀ i, i < blanks r → r.getD i none = none := by
    have : ∀ (r : Row) i, i < blanks r → r.getD i none = none := by
      intro r
      induction r with
      | nil => intro i h; exact absurd h (Nat.not_lt_zero _)
      | cons c r ih =>
        intro i h
        cases c with
        | some s => exact absurd h (Nat.not_lt_zero _)
        | none =>
          cases i with
          | zero => rfl
          | succ i => exact ih i (by have : i + 1 < blanks r + 1 := h; omega)
    exact this r
  apply List.ext_getElem
  · rw [readRow_len rfl ha, List.length_map, List.length_range]
  · intro n h1 h2
    have h3 : n < r.length := by rw [List.length_map, List.length_range] at h2; exact h2
    simp only [List.getElem_map, List.getElem_range, cellAt, readRow]
    have hab : (ab.getD r).length = r.length := by
      cases ab with
      | none => rfl
      | some a => exact ha a rfl
    have gd : ∀ (l : Row) (m : Nat) (hm : m < l.length), l.getD m none = l[m] := fun l m hm => by simp [List.getD, List.getElem?_eq_getElem hm]
    rw [List.getElem_append]
    split
    · rename_i hn
      rw [List.length_take] at hn
      rw [if_pos (by omega), List.getElem_take]
      cases ab with
      | none => show r[n]'h3 = none; rw [← hbl n (by omega)]; exact (gd r n h3).symm
      | some a => show a[n]'(by have := ha a rfl; omega) = a.getD n none; exact (gd a n (by have := ha a rfl; omega)).symm
    · rename_i hn
      rw [List.length_take, hab] at hn
      rw [if_neg (by omega), List.getElem_drop]
      rw [gd r n h3]
      congr 1
      rw [List.length_take, hab]
      omega
theorem blank_step (r : Row) (i : Nat) (hi : i < r.length) : decide (i + 1 ≤ blanks r) = (decide (i ≤ blanks r) && (r.getD i none).isNone) := by
  induction r generalizing i with
  | nil => exact absurd hi (Nat.not_lt_zero _)
  | cons c r ih =>
    cases c with
    | some s =>
      show decide (i + 1 ≤ 0) = (decide (i ≤ 0) && _)
      cases i with
      | zero => rfl
      | succ i => rfl
    | none =>
      cases i with
      | zero => show decide (0 + 1 ≤ blanks r + 1) = _; simp
      | succ i =>
        have := ih i (by simp only [List.length_cons] at hi; omega)
        show decide (i + 1 + 1 ≤ blanks r + 1) = (decide (i + 1 ≤ blanks r + 1) && (r.getD i none).isNone)
        simp only [Nat.add_le_add_iff_right]
        exact this
def sp_law_read : DSp := fun ds h Q _ => match ds with
  | [d] => ∃ t w, d = tabD t ∧ Tab t w ∧ Q (.lst ((readRows none t).map rowD)) h
  | _ => False
theorem i_law_read {t : List Row} {w : Nat} {h : DH} {Q : DK} {X : DX} (p : Tab t w) (z : Q (.lst ((readRows none t).map rowD)) h) : sp_law_read [tabD t] h Q X := ⟨t, w, rfl, p, z⟩
def t_law_read : DS :=
(dSeq (dAsg (dLstM dNil) 1)
  (dSeq (dFor (iEnumD (dVar 0)) (.tp [(.nm 2), (.nm 3)]) (dSeq (dPar 4 5 (dLstM dNil) (dC (.bl true)))
  (dSeq (dFor (iEnumD (dVar 3)) (.tp [(.nm 6), (.nm 7)]) (dSeq (dAsg (dAndV (dVar 5) (dOp dIsN (dVar 7) (dC .non))) 5)
  (dSeq (dAsg (dIfE (dTest (dOp dNe (dVar 1) (dLst dNil))) (dOp dIx (dOp dIx (dVar 1) (dNeg (dC (.int 1)))) (dVar 6)) (dC .non)) 8)
  (dDrop (dBM "list" dAppend (dVar 4) (dCons (dIfE (dTest (dVar 5)) (dVar 8) (dVar 7)) dNil))))))
  (dDrop (dBM "list" dAppend (dVar 1) (dCons (dCB dTuple (dCons (dVar 4) dNil)) dNil))))))
  (dRet (dFrz (dVar 1)))))
def n_law_read : List Str := ["some", "found", "spot", "own", "cells_here", "is_blank", "place_here", "cell", "above"]
/- 0=some 1=found 2=spot 3=own 4=cells_here 5=is_blank 6=place_here 7=cell 8=above -/
theorem enum_rows (t : List Row) : enumD (t.map rowD) = ((List.range t.length).zip t).map fun p => .tup [.int (p.1 : Nat), rowD p.2] := by
  unfold enumD
  rw [List.length_map, List.zip_map_right, List.map_map]
  rfl
theorem enum_cells (r : Row) : enumD (r.map cD) = (List.range r.length).map fun i => .tup [.int (i : Nat), cD (r.getD i none)] := by
  unfold enumD
  rw [List.length_map]
  apply List.ext_getElem
  · simp
  · intro n a b
    simp only [List.length_map, List.length_range] at b
    simp [List.getD, List.getElem?_eq_getElem b]
theorem dn_rows {t : List Row} (h : ∀ r ∈ t, strOkR r) (n : Nat) : dn (n + 2) (.lst (t.map rowD)) = true := by
  show (t.map rowD).all (dn (n + 1)) = true
  rw [List.all_eq_true]
  intro x hx
  obtain ⟨r, hr, rfl⟩ := List.mem_map.mp hx
  exact dn_row (h r hr) n
theorem zip_at {α : Type} {xs : List α} {pre post : List (Nat × α)} {p : Nat × α} (e : (List.range xs.length).zip xs = pre ++ p :: post) : p.1 = pre.length ∧ xs[pre.length]? = some p.2 ∧ pre.length < xs.length ∧ xs.drop pre.length = p.2 :: xs.drop (pre.length + 1) := by
  have hi : ((List.range xs.length).zip xs)[pre.length]? = some p := by rw [e]; simp
  rw [List.getElem?_zip_eq_some] at hi
  obtain ⟨h1, h2⟩ := hi
  have hl : pre.length < xs.length := by
    rcases Nat.lt_or_ge pre.length xs.length with l | l
    · exact l
    · rw [List.getElem?_eq_none l] at h2; cases h2
  refine ⟨?_, h2, hl, ?_⟩
  · rw [List.getElem?_range hl] at h1
    exact (Option.some.inj h1).symm
  · rw [List.drop_eq_getElem_cons hl]
    rw [List.getElem?_eq_getElem hl] at h2
    rw [Option.some.inj h2]
theorem rd_law_read (ds : List D) (h : DH) (Q : DK) (X : DX) (z : sp_law_read ds h Q X) : t_law_read (dEnd Q X) (dstart n_law_read ds) h := by
  match ds, z with
  | [_], ⟨t, w, rfl, tb, z⟩ =>
    show t_law_read (dEnd Q X) [some (.tup (t.map rowD)), none, none, none, none, none, none, none, none] h
    unfold t_law_read
    walk_at "ev"
    refine ⟨Nat.zero_le _, fun p hp => ?_⟩
    rw [enum_rows]
    refine for_indG (fun p : Nat × Row => D.tup [.int (p.1 : Nat), rowD p.2]) (fun pre τ h' => ∃ found ab x2 x3 x4 x5 x6 x7 x8, τ = [some (.tup (t.map rowD)), some (.ref p), x2, x3, x4, x5, x6, x7, x8] ∧ h' p = some (.lst (found.map rowD)) ∧ (∀ b o, h b = some o → h' b = some o) ∧
        readRows none t = found ++ readRows ab (t.drop pre.length) ∧ found.length = pre.length ∧ (∀ r ∈ found, r.length = w ∧ strOkR r) ∧ (ab = none → found = []) ∧ (∀ a, ab = some a → ∃ f2, found = f2 ++ [a])) _ ⟨[], none, none, none, none, none, none, none, none, rfl, dupd_same, ?_, rfl, rfl, (fun _ z => nomatch z), (fun _ => rfl), (fun _ e => by cases e)⟩ ?_ ?_
    · intro b o e
      rw [dupd_ne (fun e2 => by rw [e2, hp] at e; cases e)]; exact e
    · rintro pre ⟨i, r⟩ post τ h' eq ⟨found, ab, x2, x3, x4, x5, x6, x7, x8, rfl, ep, keep, hq, hfl, hf, hab0, hab⟩ D' T
      refine ⟨_, bT_two, ?_⟩
      obtain ⟨e1, hr2, hlen, hdrop⟩ := zip_at eq
      simp only at e1
      subst e1
      have hmem := List.mem_of_getElem? hr2
      obtain ⟨hrw, hrc⟩ := tb.all r hmem
      have hla : ∀ a, ab = some a → a.length = r.length := fun a e => by
        obtain ⟨f2, e2⟩ := hab a e
        rw [hrw]; exact (hf a (by rw [e2]; simp)).1
      have h60 := tb.le
      have w6 := tb.w6
      have hstr : strOkR r := tb.strOk r hmem
      rw [show rowD r = .tup (r.map cD) from rfl]
      walk_at "ev"
      refine ⟨Nat.zero_le _, fun q hq2 => ?_⟩
      have hqp : q ≠ p := fun e => by rw [e, ep] at hq2; cases hq2
      rw [enum_cells]
      refine for_indG (fun i : Nat => D.tup [.int (i : Nat), cD (r.getD i none)]) (fun pre2 τ h2 => ∃ x6 x7 x8, τ = [some (.tup (t.map rowD)), some (.ref p), some (.int (pre.length : Nat)), some (.tup (r.map cD)), some (.ref q), some (.bl (decide (pre2.length ≤ blanks r))), x6, x7, x8] ∧
          h2 p = some (.lst (found.map rowD)) ∧ h2 q = some (.lst (((List.range pre2.length).map (cellAt ab r)).map cD)) ∧ (∀ b o, h b = some o → h2 b = some o)) _ ⟨_, _, _, rfl, (dupd_ne (Ne.symm hqp)).trans ep, dupd_same, ?_⟩ ?_ ?_
      · intro b o e
        rw [dupd_ne (fun e2 => by rw [e2] at e; rw [keep _ _ e] at hq2; cases hq2)]; exact keep b o e
      · rintro pre2 i2 post2 τ h2 eq2 ⟨x6, x7, x8, rfl, ep2, eq3, keep2⟩ D2 T2
        refine ⟨_, bT_two, ?_⟩
        have hz : (List.range r.length)[pre2.length]? = some i2 := by rw [eq2]; simp
        have hl2 : pre2.length < r.length := by
          rcases Nat.lt_or_ge pre2.length r.length with l | l
          · exact l
          · rw [List.getElem?_eq_none (by rw [List.length_range]; exact l)] at hz; cases hz
        have e2 : i2 = pre2.length := by rw [List.getElem?_range hl2] at hz; exact (Option.some.inj hz).symm
        subst e2
        walk_at "ev"
        rw [isN_cD]
        have last : ∀ abv : Option Str, (pre2.length < blanks r → abv = aboveAt ab pre2.length) → ∀ y8 : Option D,
            dAppend (.ref q) [if pre2.length < blanks r then cD abv else cD (r.getD pre2.length none)] h2 (fun _ h1 => D2.nx [some (.tup (t.map rowD)), some (.ref p), some (.int (pre.length : Nat)), some (.tup (r.map cD)), some (.ref q), some (.bl (decide (pre2.length + 1 ≤ blanks r))), some (.int (pre2.length : Nat)), some (cD (r.getD pre2.length none)), y8] h1) := by
          intro abv ha y8
          have e5 : (if pre2.length < blanks r then cD abv else cD (r.getD pre2.length none)) = cD (cellAt ab r pre2.length) := by
            unfold cellAt
            split
            · rename_i hlt; rw [ha hlt]
            · rfl
          rw [e5]
          walk_at "ev"
          refine ⟨by rw [List.length_map, List.length_map, List.length_range]; exact Nat.lt_of_lt_of_le (show pre2.length < 7 by omega) (by decide), T2.nx _ _ ⟨some (.int (pre2.length : Nat)), some (cD (r.getD pre2.length none)), y8, ?_, ?_, ?_, ?_⟩⟩
          · rw [List.length_append, List.length_singleton]
          · exact (dupd_ne (Ne.symm hqp)).trans ep2
          · rw [dupd_same, List.length_append, List.length_singleton, List.range_succ, List.map_append, List.map_append]; rfl
          · intro b o e
            have hbq : b ≠ q := fun e2 => by rw [e2] at e; rw [keep _ _ e] at hq2; cases hq2
            rw [dupd_ne hbq]; exact keep2 b o e
        have two : ∀ (abv : Option Str), abv = aboveAt ab pre2.length → ∀ (y8 : Option D) , (decide (pre2.length + 1 ≤ blanks r) = true → dAppend (.ref q) [cD abv] h2 fun _ h1 => D2.nx [some (.tup (t.map rowD)), some (.ref p), some (.int (pre.length : Nat)), some (.tup (r.map cD)), some (.ref q), some (.bl (decide (pre2.length + 1 ≤ blanks r))), some (.int (pre2.length : Nat)), some (cD (r.getD pre2.length none)), y8] h1) ∧
            (decide (pre2.length + 1 ≤ blanks r) = false → dAppend (.ref q) [cD (r.getD pre2.length none)] h2 fun _ h1 => D2.nx [some (.tup (t.map rowD)), some (.ref p), some (.int (pre.length : Nat)), some (.tup (r.map cD)), some (.ref q), some (.bl (decide (pre2.length + 1 ≤ blanks r))), some (.int (pre2.length : Nat)), some (cD (r.getD pre2.length none)), y8] h1) := by
          intro abv ea y8
          have l := last abv (fun _ => ea) y8
          refine ⟨fun e => ?_, fun e => ?_⟩
          · rw [if_pos (by simp only [decide_eq_true_eq] at e; omega)] at l; exact l
          · rw [if_neg (by simp only [decide_eq_false_iff_not] at e; omega)] at l; exact l
        have neT : ∀ (Q2 : DK), (found ≠ [] → Q2 (.bl true) h2) → (found = [] → Q2 (.bl false) h2) → dNe (.ref p) (.lst []) h2 Q2 := by
          intro Q2 a1 a2
          show dn 12 (view _ (.ref p)) = true ∧ dn 12 (.lst []) = true ∧ _
          rw [vw_ref ep2]
          refine ⟨dn_rows (fun r hr => (hf r hr).2) 10, rfl, ?_⟩
          rw [vw_lst, eqv_nil]
          cases found with
          | nil => exact a2 rfl
          | cons f fs => exact a1 (by simp)
        have dty : dTy "list" (.ref q) h2 := ⟨rfl, _, eq3⟩
        have wholeA : ∀ (Q2 : DK), (∀ abv, abv = aboveAt ab pre2.length → Q2 (cD abv) h2) → dNe (.ref p) (.lst []) h2 fun x h1 => match x with | .bl b => (b = true → dIx (.ref p) (.int (-1)) h1 fun x h1 => dIx x (.int (pre2.length : Nat)) h1 Q2) ∧ (b = false → Q2 .non h1) | _ => False := by
          intro Q2 hQ
          refine neT _ (fun hne => ?_) (fun he => ?_)
          · refine ⟨fun _ => ?_, fun z => (by cases z)⟩
            cases ab with
            | none => exact absurd (hab0 rfl) hne
            | some a =>
              obtain ⟨f2, e2⟩ := hab a rfl
              rw [ix_last (xs := f2.map rowD) (x := rowD a) (by rw [ep2, e2, List.map_append]; rfl)]
              have ha := hla a rfl
              refine Eq.mpr (ix_tup (x := cD (a.getD pre2.length none)) ?_) (hQ _ rfl)
              rw [List.getElem?_map, List.getElem?_eq_getElem (by omega)]
              simp [List.getD, List.getElem?_eq_getElem (show pre2.length < a.length by omega)]
          · refine ⟨fun z => (by cases z), fun _ => hQ none ?_⟩
            cases ab with
            | none => rfl
            | some a =>
              obtain ⟨f2, e2⟩ := hab a rfl
              rw [he] at e2
              exact absurd e2 (by simp)
        refine ⟨fun e => ⟨Nat.zero_le _, ?_⟩, fun e => ⟨Nat.zero_le _, ?_⟩⟩
        · have eb : (r.getD pre2.length none).isNone = decide (pre2.length + 1 ≤ blanks r) := by rw [blank_step r _ hl2, decide_eq_true e, Bool.true_and]
          rw [eb]
          exact wholeA _ fun abv ea => ⟨dty, two abv ea _⟩
        · have eb : decide (pre2.length + 1 ≤ blanks r) = false := decide_eq_false (by omega)
          rw [eb] at two
          exact wholeA _ fun abv ea => ⟨dty, (two abv ea _).2 rfl⟩
      · rintro τ h2 ⟨x6, x7, x8, rfl, ep2, eq3, keep2⟩
        walk_at "ev"
        have e9 : D.tup (((List.range (List.range r.length).length).map (cellAt ab r)).map cD) = rowD (readRow ab r) := by
          rw [List.length_range, readRow_at hla]; rfl
        rw [e9]
        have hro : readRows none t = (found ++ [readRow ab r]) ++ readRows (some (readRow ab r)) (t.drop (pre.length + 1)) := by
          rw [hq, hdrop, List.append_assoc]; rfl
        refine ⟨by rw [List.length_map]; exact Nat.lt_of_lt_of_le (show found.length < 61 by omega) (by decide), T.nx _ _ ⟨found ++ [readRow ab r], some (readRow ab r), _, _, _, _, _, _, _, rfl, ?_, ?_, ?_, ?_, ?_, ?_, ?_⟩⟩
        · rw [dupd_same, List.map_append]; rfl
        · intro b o e
          rw [dupd_ne (fun e2 => by rw [e2, hp] at e; cases e)]; exact keep2 b o e
        · rw [List.length_append]; exact hro
        · rw [List.length_append, List.length_append, hfl]; rfl
        · intro x hx
          rcases List.mem_append.mp hx with z | z
          · exact hf x z
          · rw [List.mem_singleton.mp z]
            refine ⟨by rw [readRow_len rfl hla, hrw], readRow_mem (P := fun c => strOkC c = true) hstr fun a ea => ?_⟩
            obtain ⟨f2, e2⟩ := hab a ea
            exact (hf a (by rw [e2]; simp)).2
        · intro e; cases e
        · intro a ea; cases ea; exact ⟨found, rfl⟩
    · rintro τ h' ⟨found, ab, x2, x3, x4, x5, x6, x7, x8, rfl, ep, keep, hq, hfl, hf, hab0, hab⟩
      walk_at "ev"
      simp only [ep]
      have e : readRows none t = found := by
        rw [hq, List.length_zip, List.length_range, Nat.min_self, List.drop_length]
        show found ++ [] = found
        rw [List.append_nil]
      rw [← e]
      refine ⟨h, fun b o eb => ?_, z⟩
      rw [ddel_ne (fun e2 => by rw [e2, hp] at eb; cases eb)]
      exact keep b o eb

end DL

namespace DL
open PySem L2
local macro_rules | `(tactic| walk_at "ev") => `(tactic| try simp (disch := (first | assumption | exact dupd_same | (refine (dupd_ne ?_).trans ?_; (first | assumption | (apply Ne.symm; assumption)); first | assumption | exact dupd_same | (refine (dupd_ne ?_).trans ?_; (first | assumption | (apply Ne.symm; assumption)); first | assumption | exact dupd_same)))) only [v0, v1, v2, v3, v4, v5, v6, v7, v8, v9, v10, v11, v12, v13, v14, v15, v16, w0, w1, w2, w3, w4, w5, w6, w7, w8, w9, w10, w11, w12, w13, w14, w15, w16, e_dC, e_dOp, e_dUn, e_dTest, e_dAnd, e_dOr, e_dNot, e_dAndV, e_dOrV, e_dNotV, e_dIfE, e_dChain, e_dNil, e_dCons, e_dTup, e_dLst, e_dLstM, e_dCB, e_dBM, e_dFrz, e_dNoPart, e_dPart, e_dSl, e_dIsi, e_iSeqD, e_iRange1, e_iRange2, e_iEnumD, e_iZipD, e_dNext, e_dSeq, e_dAsg, e_dAsgT, e_dPar, e_dIf, e_dRet, e_dRetN, e_dDrop, e_dBrk, e_dCnt, e_dAug, e_dSetI, e_dFor, e_dWhile, e_dYes, e_dLc, e_dLcM, e_dCall, e_dCallK, e_dNeg, e_dRaise, op_Lt, op_Le, op_Gt, op_Ge, op_IsN, op_IsNN, op_Sub, op_Add, op_AddS, op_AddT, op_AddL, op_Mul, op_MulT, op_MulL, op_Mod, op_Fdiv, op_InS, op_NotInS, cb_lenT, cb_lenL, cb_lenS, cb_lenX, cb_all, cb_any, cb_tupleL, cb_tupleT, cb_max, cb_min, cb_abs, cb_int, cb_intB, cb_strI, me_joinL, me_joinT, me_split, ip_add, ip_sub, ip_mul, ip_div, ix_ref0, ix_ref1, ix_ref2, me_append, me_popAt, me_pop0, me_insert, me_clear, me_reverse, cb_lenR, cb_tupleR, me_joinR, vw_ref, dT_ref, pow_18, pow_38, pow_40, pow_41, pow_6, eq_str, ne_str, eq_int, ne_int, ix_tup0, ix_lst0, sl_from, sl_to, sl_fromL, sl_toL, vw_str, vw_int, vw_bl, vw_non, vw_dct, vw_tup, vw_lst, vw_scr, ty_str, ty_int, ty_bl, ty_non, ty_tup, ty_lst, ty_dct, it_str, it_tup, it_lst, bT_nm, isN_non, isN_str, isN_int, isN_bl, isN_tup, isN_lst, isN_dct, dT_str, dT_lst, en_rt, en_nx, en_ex, t_imp, f_imp, not_true_eq_false, not_false_eq_true, tf_eq, ft_eq, dwipe, true_and, and_true, Bool.not_true, Bool.not_false, Bool.not_eq_true', Bool.not_eq_false', decide_eq_true_eq, decide_eq_false_iff_not, nq_NoneType, is_NoneType_int, is_NoneType_bool, is_NoneType_str, is_NoneType_tuple, is_NoneType_list, is_NoneType_dict, nq_bool, is_bool_int, is_bool_bool, is_bool_str, is_bool_tuple, is_bool_list, is_bool_dict, nq_int, is_int_int, is_int_bool, is_int_str, is_int_tuple, is_int_list, is_int_dict, nq_str, is_str_int, is_str_bool, is_str_str, is_str_tuple, is_str_list, is_str_dict, nq_tuple, is_tuple_int, is_tuple_bool, is_tuple_str, is_tuple_tuple, is_tuple_list, is_tuple_dict, nq_list, is_list_int, is_list_bool, is_list_str, is_list_tuple, is_list_list, is_list_dict, nq_dict, is_dict_int, is_dict_bool, is_dict_str, is_dict_tuple, is_dict_list, is_dict_dict])
/-! R15: the law's own moving -/
def leftGo {α : Type} (f l : Nat) : Nat → List α → List α
  | _, [] => []
  | k, x :: xs => if f ≤ k ∧ k ≤ l then leftGo f l (k + 1) xs else x :: leftGo f l (k + 1) xs
theorem leftGo_past {α : Type} {f l : Nat} : ∀ (xs : List α) (k : Nat), l < k → leftGo f l k xs = xs
  | [], _, _ => rfl
  | x :: xs, k, h => by unfold leftGo; rw [if_neg (by omega), leftGo_past xs (k + 1) (by omega)]
theorem leftGo_eq {α : Type} {f l : Nat} (hf : f ≤ l) : ∀ (xs : List α) (k : Nat), k ≤ l + 1 → leftGo f l k xs = xs.take (f - k) ++ xs.drop (l + 1 - k)
  | [], _, _ => by simp [leftGo]
  | x :: xs, k, h => by
    unfold leftGo
    by_cases h1 : f ≤ k ∧ k ≤ l
    · rw [if_pos h1, leftGo_eq hf xs (k + 1) (by omega), show f - (k + 1) = 0 by omega, show f - k = 0 by omega, show l + 1 - k = (l + 1 - (k + 1)) + 1 by omega]
      rfl
    · rw [if_neg h1]
      by_cases h2 : k < f
      · rw [leftGo_eq hf xs (k + 1) (by omega), show f - k = (f - (k + 1)) + 1 by omega, show l + 1 - k = (l + 1 - (k + 1)) + 1 by omega]
        rfl
      · rw [leftGo_past xs (k + 1) (by omega), show f - k = 0 by omega, show l + 1 - k = 0 by omega]
        rfl
theorem left_zip {α : Type} (f l : Nat) : ∀ (xs : List α) (k : Nat), (((List.range' k xs.length).zip xs).filter fun p => !(decide (f ≤ p.1) && decide (p.1 ≤ l))).map (·.2) = leftGo f l k xs
  | [], _ => rfl
  | x :: xs, k => by
    rw [List.length_cons, List.range'_succ, List.zip_cons_cons, List.filter_cons]
    unfold leftGo
    have ih := left_zip f l xs (k + 1)
    by_cases h : f ≤ k ∧ k ≤ l
    · rw [if_pos h, if_neg (by simp [h.1, h.2])]; exact ih
    · rw [if_neg h, if_pos (by simp; omega), List.map_cons, ih]
def sp_law_moved : DSp := fun ds h Q _ => match ds with
  | [d, .int f, .int l, .int p] => ∃ t : List Row, d = tabD t ∧ t.length ≤ 60 ∧ 0 ≤ f ∧ f ≤ l ∧ l < t.length ∧ 0 ≤ p ∧ p ≤ t.length - (l - f + 1) ∧ Q (tabD (movedL t f.toNat l.toNat p.toNat)) h
  | _ => False
theorem i_law_moved {t : List Row} {f l p : Int} {h : DH} {Q : DK} {X : DX} (ht : t.length ≤ 60) (f0 : 0 ≤ f) (fl : f ≤ l) (lt : l < t.length) (p0 : 0 ≤ p) (p1 : p ≤ t.length - (l - f + 1)) (z : Q (tabD (movedL t f.toNat l.toNat p.toNat)) h) : sp_law_moved [tabD t, .int f, .int l, .int p] h Q X := ⟨t, rfl, ht, f0, fl, lt, p0, p1, z⟩
def t_law_moved : DS :=
(dSeq (dPar 4 5 (dCB dList (dCons (dSl dSlice (dVar 0) (dPart (dVar 1)) (dPart (dOp dAdd (dVar 2) (dC (.int 1))))) dNil)) (dLstM dNil))
  (dSeq (dAsg (dLc (iEnumD (dVar 0)) (.tp [(.nm 7), (.nm 8)]) (dNot (dTest (dChain dLe dLe (dVar 1) (dVar 7) (dVar 2)))) (dVar 8) [7, 8]) 6)
  (dSeq (dFor (iEnumD (dVar 6)) (.tp [(.nm 7), (.nm 8)]) (dSeq (dIf (dTest (dOp dEq (dVar 7) (dVar 3))) (dDrop (dBM "list" dExtend (dVar 5) (dCons (dVar 4) dNil))) dNext)
  (dDrop (dBM "list" dAppend (dVar 5) (dCons (dVar 8) dNil)))))
  (dSeq (dIf (dTest (dOp dEq (dVar 3) (dCB dLen (dCons (dVar 6) dNil)))) (dDrop (dBM "list" dExtend (dVar 5) (dCons (dVar 4) dNil))) dNext)
  (dRet (dCB dTuple (dCons (dVar 5) dNil)))))))
def n_law_moved : List Str := ["some", "begin", "final", "place_here", "block", "found", "left", "spot", "own"]
/- 0=some 1=begin 2=final 3=place_here 4=block 5=found 6=left 7=spot 8=own -/
theorem cb_listT {xs : List D} {h : DH} {Q : DK} : dList [.tup xs] h Q = Q (.lst xs) h := rfl
theorem rd_law_moved (ds : List D) (h : DH) (Q : DK) (X : DX) (z : sp_law_moved ds h Q X) : t_law_moved (dEnd Q X) (dstart n_law_moved ds) h := by
  match ds, z with
  | [_, .int f, .int l, .int p], ⟨t, rfl, ht, f0, fl, lt, p0, p1, z⟩ =>
    show t_law_moved (dEnd Q X) [some (.tup (t.map rowD)), some (.int f), some (.int l), some (.int p), none, none, none, none, none] h
    unfold t_law_moved
    obtain ⟨f, rfl⟩ := Int.eq_ofNat_of_zero_le f0
    obtain ⟨l, rfl⟩ := Int.eq_ofNat_of_zero_le (show 0 ≤ l by omega)
    obtain ⟨p, rfl⟩ := Int.eq_ofNat_of_zero_le p0
    walk_at "ev"
    rw [show (some ((l : Int) + 1)) = some ((l + 1 : Nat) : Int) from rfl, sl_both, cb_listT]
    walk_at "ev"
    refine ⟨Nat.zero_le _, fun q hq => ?_⟩
    rw [enum_rows]
    refine ⟨by rw [List.length_map, List.length_zip, List.length_range, Nat.min_self]; omega, ?_⟩
    refine lc_fil (fun p : Nat × Row => D.tup [.int (p.1 : Nat), rowD p.2]) (fun p => rowD p.2) (fun p => !(decide (f ≤ p.1) && decide (p.1 ≤ l))) _ (fun x hx => ⟨_, bT_two, fun Q' q' => ?_, fun _ Q' q' => ?_⟩) ?_
    · walk_at "ev"
      by_cases h1 : f ≤ x.1
      · by_cases h2 : x.1 ≤ l
        · have : (!(decide (f ≤ x.1) && decide (x.1 ≤ l))) = false := by simp [h1, h2]
          rw [this] at q'
          refine ⟨fun _ => ?_, fun e => absurd (Int.ofNat_le.mpr h1) e⟩
          rw [decide_eq_true (Int.ofNat_le.mpr h2)]
          exact q'
        · have : (!(decide (f ≤ x.1) && decide (x.1 ≤ l))) = true := by simp [h2]
          rw [this] at q'
          refine ⟨fun _ => ?_, fun e => absurd (Int.ofNat_le.mpr h1) e⟩
          rw [decide_eq_false (by omega)]
          exact q'
      · have : (!(decide (f ≤ x.1) && decide (x.1 ≤ l))) = true := by simp [h1]
        rw [this] at q'
        exact ⟨fun e => absurd (Int.ofNat_le.mp e) h1, fun _ => q'⟩
    · walk_at "ev"
      exact q'
    · have hleft : (((List.range t.length).zip t).filter fun p => !(decide (f ≤ p.1) && decide (p.1 ≤ l))).map (fun p => rowD p.2) = (t.take f ++ t.drop (l + 1)).map rowD := by
        have := left_zip f l t 0
        rw [← List.range_eq_range', leftGo_eq (by omega) t 0 (by omega)] at this
        have := congrArg (List.map rowD) this
        rw [List.map_map] at this
        exact this
      rw [hleft]
      generalize hL : t.take f ++ t.drop (l + 1) = L
      generalize hB : (t.drop f).take (l + 1 - f) = B
      have hLl : L.length + (l + 1 - f) = t.length := by rw [← hL]; simp only [List.length_append, List.length_take, List.length_drop]; omega
      have hBl : B.length = l + 1 - f := by rw [← hB]; simp only [List.length_take, List.length_drop]; omega
      have hpl : p ≤ L.length := by omega
      have hBD : List.take (l + 1 - f) (List.drop f (t.map rowD)) = B.map rowD := by rw [← hB, List.map_take, List.map_drop]
      rw [hBD]
      have hres : movedL t f l p = (L.take p ++ B) ++ L.drop p := by unfold movedL; rw [hL, hB]
      have z2 : Q (tabD ((L.take p ++ B) ++ L.drop p)) h := by rw [← hres]; exact z
      walk_at "ev"
      rw [enum_rows]
      have foundAt : Nat → List Row := fun i => if i ≤ p then L.take i else (L.take p ++ B) ++ (L.take i).drop p
      refine for_indG (fun p : Nat × Row => D.tup [.int (p.1 : Nat), rowD p.2]) (fun pre τ h' => ∃ x7 x8 F, τ = [some (.tup (t.map rowD)), some (.int f), some (.int l), some (.int p), some (.lst (B.map rowD)), some (.ref q), some (.lst (L.map rowD)), x7, x8] ∧
          h' = dupd h q (.lst (F.map rowD)) ∧ (pre.length ≤ p → F = L.take pre.length) ∧ (p < pre.length → F = (L.take p ++ B) ++ (L.take pre.length).drop p)) _ ⟨_, _, [], rfl, rfl, fun _ => rfl, fun e => by cases e⟩ ?_ ?_
      · rintro pre ⟨i, r⟩ post τ h' eq ⟨x7, x8, F, rfl, rfl, hF1, hF2⟩ D' T
        refine ⟨_, bT_two, ?_⟩
        obtain ⟨e1, hr2, hlen, hdrop⟩ := zip_at eq
        simp only at e1
        subst e1
        have htk : L.take (pre.length + 1) = L.take pre.length ++ [r] := by
          rw [List.take_succ, hr2]; rfl
        have app : ∀ G : List Row, G.length ≤ 200 → (pre.length + 1 ≤ p → G ++ [r] = L.take (pre.length + 1)) → (p < pre.length + 1 → G ++ [r] = (L.take p ++ B) ++ (L.take (pre.length + 1)).drop p) → ∀ h1, h1 = dupd h q (.lst (G.map rowD)) →
            dAppend (.ref q) [rowD r] h1 fun _ h2 => D'.nx [some (.tup (t.map rowD)), some (.int f), some (.int l), some (.int p), some (.lst (B.map rowD)), some (.ref q), some (.lst (L.map rowD)), some (.int (pre.length : Nat)), some (rowD r)] h2 := by
          rintro G hG c1 c2 h1 rfl
          have eg : dupd h q (DO.lst (G.map rowD)) q = some (.lst (G.map rowD)) := dupd_same
          walk_at "ev"
          refine ⟨by rw [List.length_map]; exact Nat.lt_of_le_of_lt hG (by decide), T.nx _ _ ⟨_, _, G ++ [r], rfl, ?_, ?_, ?_⟩⟩
          · rw [dupd2, List.map_append]; rfl
          · rw [List.length_append]; exact c1
          · rw [List.length_append]; exact c2
        have eg : dupd h q (DO.lst (F.map rowD)) q = some (.lst (F.map rowD)) := dupd_same
        have dty : ∀ G : List Row, dTy "list" (.ref q) (dupd h q (.lst (G.map rowD))) := fun G => ⟨rfl, _, dupd_same⟩
        have hFl : F.length ≤ 120 := by
          rcases Nat.lt_or_ge p pre.length with e | e
          · rw [hF2 e]; simp only [List.length_append, List.length_take, List.length_drop]; omega
          · rw [hF1 e]; simp only [List.length_take]; omega
        walk_at "ev"
        refine ⟨fun e => ?_, fun e => ?_⟩
        · have ep : pre.length = p := by omega
          rw [me_extend (y := .lst (B.map rowD)) eg rfl]
          refine ⟨le_line (m := 400) (by rw [List.length_map, List.length_map]; omega), ⟨rfl, _, dupd_same⟩, ?_⟩
          have hF := hF1 (by omega)
          refine app (F ++ B) (by rw [List.length_append]; omega) (fun e => by omega) (fun _ => ?_) _ ?_
          · rw [hF, ep, ← ep, htk, List.drop_append, List.length_take, Nat.min_eq_left (by omega), Nat.sub_self, List.drop_eq_nil_of_le (by rw [List.length_take]; omega)]
            rfl
          · rw [dupd2, List.map_append]
        · have := app F (by omega) (fun h1 => by rw [hF1 (by omega), htk]) (fun h1 => by
            rw [hF2 (by omega), htk, List.drop_append_of_le_length (by rw [List.length_take]; omega)]; simp only [List.append_assoc]) _ rfl
          rw [me_append eg] at this
          exact this
      · rintro τ h' ⟨x7, x8, F, rfl, rfl, hF1, hF2⟩
        rw [List.length_zip, List.length_range, Nat.min_self] at hF1 hF2
        have eg : dupd h q (DO.lst (F.map rowD)) q = some (.lst (F.map rowD)) := dupd_same
        have fin : ∀ G : List Row, G = (L.take p ++ B) ++ L.drop p → ∃ h2, DSub h2 (dupd h q (.lst (G.map rowD))) ∧ Q (.tup (G.map rowD)) h2 := fun G e => ⟨h, DSub.new (DSub.refl h) hq, by rw [e]; exact z2⟩
        walk_at "ev"
        simp only [List.length_map]
        refine ⟨fun e => ?_, fun e => ?_⟩
        · have ep : p = L.length := by omega
          have hF := hF1 (by omega)
          rw [me_extend (y := .lst (B.map rowD)) eg rfl]
          refine ⟨le_line (m := 400) (by rw [List.length_map, List.length_map, hF, List.length_take]; omega), ?_⟩
          rw [dupd2, ← List.map_append]
          rw [cb_tupleR (dupd_same)]
          refine fin (F ++ B) ?_
          rw [hF, ep, List.take_length, List.drop_length, List.append_nil]
        · have hF := hF2 (by omega)
          refine fin F ?_
          rw [hF, List.take_length]

end DL

namespace DL
open PySem L2
local macro_rules | `(tactic| walk_at "ev") => `(tactic| try simp (disch := (first | assumption | exact dupd_same | (refine (dupd_ne ?_).trans ?_; (first | assumption | (apply Ne.symm; assumption)); first | assumption | exact dupd_same | (refine (dupd_ne ?_).trans ?_; (first | assumption | (apply Ne.symm; assumption)); first | assumption | exact dupd_same)))) only [v0, v1, v2, v3, v4, v5, v6, v7, v8, v9, v10, v11, v12, v13, v14, v15, v16, w0, w1, w2, w3, w4, w5, w6, w7, w8, w9, w10, w11, w12, w13, w14, w15, w16, e_dC, e_dOp, e_dUn, e_dTest, e_dAnd, e_dOr, e_dNot, e_dAndV, e_dOrV, e_dNotV, e_dIfE, e_dChain, e_dNil, e_dCons, e_dTup, e_dLst, e_dLstM, e_dCB, e_dBM, e_dFrz, e_dNoPart, e_dPart, e_dSl, e_dIsi, e_iSeqD, e_iRange1, e_iRange2, e_iEnumD, e_iZipD, e_dNext, e_dSeq, e_dAsg, e_dAsgT, e_dPar, e_dIf, e_dRet, e_dRetN, e_dDrop, e_dBrk, e_dCnt, e_dAug, e_dSetI, e_dFor, e_dWhile, e_dYes, e_dLc, e_dLcM, e_dCall, e_dCallK, e_dNeg, e_dRaise, op_Lt, op_Le, op_Gt, op_Ge, op_IsN, op_IsNN, op_Sub, op_Add, op_AddS, op_AddT, op_AddL, op_Mul, op_MulT, op_MulL, op_Mod, op_Fdiv, op_InS, op_NotInS, cb_lenT, cb_lenL, cb_lenS, cb_lenX, cb_all, cb_any, cb_tupleL, cb_tupleT, cb_max, cb_min, cb_abs, cb_int, cb_intB, cb_strI, me_joinL, me_joinT, me_split, ip_add, ip_sub, ip_mul, ip_div, ix_ref0, ix_ref1, ix_ref2, me_append, me_popAt, me_pop0, me_insert, me_clear, me_reverse, cb_lenR, cb_tupleR, me_joinR, vw_ref, dT_ref, pow_18, pow_38, pow_40, pow_41, pow_6, eq_str, ne_str, eq_int, ne_int, ix_tup0, ix_lst0, sl_from, sl_to, sl_fromL, sl_toL, vw_str, vw_int, vw_bl, vw_non, vw_dct, vw_tup, vw_lst, vw_scr, ty_str, ty_int, ty_bl, ty_non, ty_tup, ty_lst, ty_dct, it_str, it_tup, it_lst, bT_nm, isN_non, isN_str, isN_int, isN_bl, isN_tup, isN_lst, isN_dct, dT_str, dT_lst, en_rt, en_nx, en_ex, t_imp, f_imp, not_true_eq_false, not_false_eq_true, tf_eq, ft_eq, dwipe, true_and, and_true, Bool.not_true, Bool.not_false, Bool.not_eq_true', Bool.not_eq_false', decide_eq_true_eq, decide_eq_false_iff_not, nq_NoneType, is_NoneType_int, is_NoneType_bool, is_NoneType_str, is_NoneType_tuple, is_NoneType_list, is_NoneType_dict, nq_bool, is_bool_int, is_bool_bool, is_bool_str, is_bool_tuple, is_bool_list, is_bool_dict, nq_int, is_int_int, is_int_bool, is_int_str, is_int_tuple, is_int_list, is_int_dict, nq_str, is_str_int, is_str_bool, is_str_str, is_str_tuple, is_str_list, is_str_dict, nq_tuple, is_tuple_int, is_tuple_bool, is_tuple_str, is_tuple_tuple, is_tuple_list, is_tuple_dict, nq_list, is_list_int, is_list_bool, is_list_str, is_list_tuple, is_list_list, is_list_dict, nq_dict, is_dict_int, is_dict_bool, is_dict_str, is_dict_tuple, is_dict_list, is_dict_dict])
/-! R16: what a sheet shows -/
theorem dv_id : ∀ (n : Nat) (h : DH) (d : D), nr d = true → dv n h d = d := by
  intro n h
  induction n with
  | zero => intro d _; unfold dv; rfl
  | succ n ih =>
    intro d hd
    have all : ∀ xs : List D, (∀ x ∈ xs, nr x = true) → xs.map (dv n h) = xs := fun xs hx => (List.map_congr_left fun x m => ih x (hx x m)).trans (List.map_id xs)
    cases d with
    | tup xs => show D.tup (xs.map (dv n h)) = _; rw [all xs (nr_tup hd).2]
    | lst xs => show D.lst (xs.map (dv n h)) = _; rw [all xs (nr_lst hd).2]
    | ref a => cases hd
    | _ => rfl
theorem Tab.nrR {t : List Row} {w : Nat} (p : Tab t w) : ∀ x ∈ t.map rowD, nr x = true := fun x hx => by
  obtain ⟨r, hr, rfl⟩ := List.mem_map.mp hx
  exact nr_row (Nat.le_trans (p.row r hr) (by decide)) (p.short r hr)
theorem Tab.nrT {t : List Row} {w : Nat} (p : Tab t w) : nr (tabD t) = true := by
  simp only [tabD, nr, Bool.and_eq_true, decide_eq_true_eq, List.length_map]
  exact ⟨Nat.le_trans p.le (by decide), nrL_of p.nrR⟩
theorem Tab.nrLst {t : List Row} {w : Nat} (p : Tab t w) : nr (.lst (t.map rowD)) = true := by
  simp only [nr, Bool.and_eq_true, decide_eq_true_eq, List.length_map]
  exact ⟨Nat.le_trans p.le (by decide), nrL_of p.nrR⟩
theorem nr_ints (l : List Nat) (h : l.length ≤ 1000) : nr (.lst (intsD l)) = true := by
  simp only [intsD, nr, Bool.and_eq_true, decide_eq_true_eq, List.length_map]
  exact ⟨Nat.le_trans h (by decide), nrL_of fun x hx => by obtain ⟨i, _, rfl⟩ := List.mem_map.mp hx; rfl⟩
theorem Tab.wtL {t : List Row} {w : Nat} (p : Tab t w) : wt.wtL (t.map rowD) ≤ 30600 := by
  have := wtL_le 508 (t.map rowD) fun x hx => by
    obtain ⟨r, hr, rfl⟩ := List.mem_map.mp hx
    exact wt_row (p.row r hr) (p.short r hr)
  rw [List.length_map] at this
  have := p.le
  omega
theorem Tab.rnT {t : List Row} {w : Nat} (p : Tab t w) (n : Nat) : rn (n + 2) (tabD t) = true := rn_tab p.strOk n
theorem Tab.rnL {t : List Row} {w : Nat} (p : Tab t w) (n : Nat) : rn (n + 2) (.lst (t.map rowD)) = true := rn_tab p.strOk n
theorem log2_small {i : Nat} (h : i < 2 ^ 64) : (i : Int).natAbs.log2 < 64 := by
  rw [Int.natAbs_natCast]
  cases i with
  | zero => decide
  | succ i => exact (Nat.log2_lt (by omega)).mpr h
theorem rn_int {i : Nat} (h : i < 2 ^ 64) (n : Nat) : rn n (.int (i : Nat)) = true := by
  have := log2_small h
  cases n <;> exact decide_eq_true (by omega)
theorem wrongL_lt (rd fu : List Row) : ∀ i ∈ wrongL rd fu, i < rd.length := fun i hi => List.mem_range.mp (List.mem_filter.mp hi).1
theorem wrongL_len (rd fu : List Row) : (wrongL rd fu).length ≤ rd.length := by
  have := List.length_filter_le (fun i => decide (rd[i]? ≠ fu[i]?)) (List.range rd.length)
  rw [List.length_range] at this
  exact this
theorem rn_ints {l : List Nat} (h : ∀ i ∈ l, i < 2 ^ 64) (n : Nat) : rn (n + 1) (.lst (intsD l)) = true := by
  show (intsD l).all (rn n) = true
  rw [List.all_eq_true]
  intro x hx
  obtain ⟨i, hi, rfl⟩ := List.mem_map.mp hx
  exact rn_int (h i hi) n
theorem wt_ints {l : List Nat} (h : ∀ i ∈ l, i < 2 ^ 64) : wt.wtL (intsD l) ≤ l.length * 68 := by
  have := wtL_le 66 (intsD l) fun x hx => by
    obtain ⟨i, hi, rfl⟩ := List.mem_map.mp hx
    have := log2_small (h i hi)
    show (i : Int).natAbs.log2 + 3 ≤ 66
    omega
  rw [intsD, List.length_map] at this
  exact this
theorem SheetAt.new {C : Addr} {h : DH} {a p q : Addr} {c f : List Row} {past : List D} {o : DO} (s : SheetAt C h a p c f past) (hq : h q = none) : SheetAt C (dupd h q o) a p c f past :=
  s.upd (fun e => by rw [e, s.at_] at hq; cases hq) (fun e => by rw [e, s.pa] at hq; cases hq)
/-- what is told of a sheet -/
def showL (c fu : List Row) : List D := [tabD c, .lst ((readRows none c).map rowD), .lst (fu.map rowD), .lst (intsD (wrongL (readRows none c) fu)), .int (c.length : Nat)]
theorem showL_ok {c fu : List Row} {w : Nat} (t : Tab c w) (t2 : Tab fu w) : (∀ (h : DH), dv 3 h (.lst (showL c fu)) = .lst (showL c fu)) ∧ rn 12 (.lst (showL c fu)) = true ∧ wt (.lst (showL c fu)) ≤ 16000000 := by
  have hl := wrongL_len (readRows none c) fu
  have h60 := t.le
  rw [readRows_len] at hl
  have hlt : ∀ i ∈ wrongL (readRows none c) fu, i < 2 ^ 64 := fun i hi => by
    have := wrongL_lt _ _ i hi
    rw [readRows_len] at this
    omega
  have hn : nr (.lst (showL c fu)) = true := by
    show (decide (5 ≤ 16000000) && (nr (tabD c) && (nr (.lst ((readRows none c).map rowD)) && (nr (.lst (fu.map rowD)) && (nr (.lst (intsD (wrongL (readRows none c) fu))) && (true && true)))))) = true
    rw [t.nrT, t.read.nrLst, t2.nrLst, nr_ints _ (show (wrongL (readRows none c) fu).length ≤ 1000 by omega)]
    decide
  refine ⟨fun h => dv_id 3 h _ hn, ?_, ?_⟩
  · show (showL c fu).all (rn 11) = true
    simp only [showL, List.all_cons, List.all_nil, t.rnT 9, t.read.rnL 9, t2.rnL 9, rn_ints hlt 10, rn_int (show c.length < 2 ^ 64 by omega) 11, Bool.and_true]
  · have a1 := t.wtL
    have a2 := t.read.wtL
    have a3 := t2.wtL
    have a4 := wt_ints hlt
    have a5 := log2_small (show c.length < 2 ^ 64 by omega)
    show ((wt.wtL (c.map rowD) + 4) + 2 + ((wt.wtL _ + 4) + 2 + ((wt.wtL _ + 4) + 2 + ((wt.wtL _ + 4) + 2 + (((c.length : Int).natAbs.log2 + 3) + 2 + 0))))) + 4 ≤ 16000000
    omega
def sp_law_shows (C : Addr) : DSp := fun ds h Q _ => match ds with
  | [.ref a, d, e] => ∃ p c fu past w, SheetAt C h a p c fu past ∧ d = tabD c ∧ e = tabD fu ∧ Tab c w ∧ Tab fu w ∧ fu.length = c.length ∧ Q (.bl true) h
  | _ => False
theorem i_law_shows {C a p : Addr} {c fu : List Row} {past : List D} {w : Nat} {h : DH} {Q : DK} {X : DX} (s : SheetAt C h a p c fu past) (t : Tab c w) (t2 : Tab fu w) (hl : fu.length = c.length) (z : Q (.bl true) h) : sp_law_shows C [.ref a, tabD c, tabD fu] h Q X :=
  ⟨p, c, fu, past, w, s, rfl, rfl, t, t2, hl, z⟩
def t_law_shows (C_Sheet : Addr) : DS :=
(dSeq (dAsg (dCall sp_law_read (dCons (dVar 1) dNil)) 3)
  (dSeq (dAsg (dLc (iEnumD (dVar 3)) (.tp [(.nm 7), (.nm 8)]) (dTest (dOp dNe (dVar 8) (dOp dIx (dVar 2) (dVar 7)))) (dVar 7) [7, 8]) 4)
  (dSeq (dAsg (dCB dReprV (dCons (dLst (dCons (dCB dTuple (dCons (dVar 1) dNil)) (dCons (dVar 3) (dCons (dCB dList (dCons (dVar 2) dNil)) (dCons (dVar 4) (dCons (dCB dLen (dCons (dVar 1) dNil)) dNil)))))) dNil)) 5)
  (dSeq (dAsg (dLst (dCons (dProp C_Sheet (sp_Sheet_cells_now C_Sheet) (dVar 0)) (dCons (dProp C_Sheet (sp_Sheet_read_now C_Sheet) (dVar 0)) (dCons (dProp C_Sheet (sp_Sheet_true_now C_Sheet) (dVar 0)) (dCons (dMeth C_Sheet "wrong" (sp_Sheet_wrong C_Sheet) (dVar 0) dNil) (dCons (dCB (dLenO C_Sheet (sp_Sheet_len C_Sheet)) (dCons (dVar 0) dNil)) dNil)))))) 6)
  (dSeq (dIf (dTest (dOp dNe (dCB dReprV (dCons (dVar 6) dNil)) (dVar 5))) (dRet (dC (.bl false))) dNext)
  (dSeq (dDrop (dBM "list" dClear (dOp dIx (dVar 6) (dC (.int 1))) dNil))
  (dSeq (dDrop (dBM "list" dReverse (dOp dIx (dVar 6) (dC (.int 2))) dNil))
  (dSeq (dDrop (dBM "list" dAppend (dOp dIx (dVar 6) (dC (.int 2))) (dCons (dC .non) dNil)))
  (dSeq (dDrop (dBM "list" dAppend (dOp dIx (dVar 6) (dC (.int 3))) (dCons (dC (.int 0)) dNil)))
  (dRet (dOp dEq (dCB dReprV (dCons (dLst (dCons (dProp C_Sheet (sp_Sheet_cells_now C_Sheet) (dVar 0)) (dCons (dProp C_Sheet (sp_Sheet_read_now C_Sheet) (dVar 0)) (dCons (dProp C_Sheet (sp_Sheet_true_now C_Sheet) (dVar 0)) (dCons (dMeth C_Sheet "wrong" (sp_Sheet_wrong C_Sheet) (dVar 0) dNil) (dCons (dCB (dLenO C_Sheet (sp_Sheet_len C_Sheet)) (dCons (dVar 0) dNil)) dNil)))))) dNil)) (dVar 5))))))))))))
def n_law_shows : List Str := ["sheet", "cells_here", "full_rows", "found", "bent", "due", "told", "spot", "own"]
/- 0=sheet 1=cells_here 2=full_rows 3=found 4=bent 5=due 6=told 7=spot 8=own -/
theorem reprV_of {xs ys : List D} {h : DH} {Q : DK} (e : dv 3 h (.lst xs) = .lst ys) (h1 : rn 12 (.lst ys) = true) (h2 : wt (.lst ys) ≤ 16000000) (q : Q (.str (shownD (.lst ys))) h) : dReprV [.lst xs] h Q := by
  show rn 12 (dv 3 h (.lst xs)) = true ∧ wt (dv 3 h (.lst xs)) ≤ 16000000 ∧ Q (.str (shownD (dv 3 h (.lst xs)))) h
  rw [e]; exact ⟨h1, h2, q⟩
/-- the list of what a sheet tells -/
theorem told_go {C a p : Addr} {c fu : List Row} {past : List D} {w : Nat} {h : DH} {Q : List D → DH → Prop} {X : DX} {τ : DSt} (hτ : τ[0]? = some (some (.ref a))) (s : SheetAt C h a p c fu past) (t : Tab c w) (t2 : Tab fu w) (hl : fu.length = c.length)
    (z : ∀ q1 q2 q3 h3, q2 ≠ q1 → q3 ≠ q1 → q3 ≠ q2 → (∀ b o, h b = some o → h3 b = some o) → h q1 = none → h q2 = none → h q3 = none → h3 q1 = some (.lst ((readRows none c).map rowD)) → h3 q2 = some (.lst (fu.map rowD)) → h3 q3 = some (.lst (intsD (wrongL (readRows none c) fu))) → Q [tabD c, .ref q1, .ref q2, .ref q3, .int (c.length : Nat)] h3) :
    (dCons (dProp C (sp_Sheet_cells_now C) (dVar 0)) (dCons (dProp C (sp_Sheet_read_now C) (dVar 0)) (dCons (dProp C (sp_Sheet_true_now C) (dVar 0)) (dCons (dMeth C "wrong" (sp_Sheet_wrong C) (dVar 0) dNil) (dCons (dCB (dLenO C (sp_Sheet_len C)) (dCons (dVar 0) dNil)) dNil))))) τ h Q X := by
  have hv : ∀ (h : DH) (Q : DK) (X : DX), dVar 0 τ h Q X = Q (.ref a) h := fun h Q X => by unfold dVar; simp only [hτ]
  simp only [e_dCons, e_dNil, dProp, dMeth, e_dCB, dLenO, hv]
  refine ⟨a, _, rfl, s.at_, i_Sheet_cells_now s ?_⟩
  refine ⟨a, _, rfl, s.at_, i_Sheet_read_now s t fun q1 hq1 => ?_⟩
  have s1 := s.new (o := .lst ((readRows none c).map rowD)) hq1
  refine ⟨a, _, rfl, s1.at_, i_Sheet_true_now s1 fun q2 hq2 => ?_⟩
  have s2 := s1.new (o := .lst (fu.map rowD)) hq2
  have n21 : q2 ≠ q1 := fun e => by rw [e, dupd_same] at hq2; cases hq2
  refine ⟨a, _, rfl, s2.at_, lk_no, i_Sheet_wrong s2 t t2 hl fun q3 hq3 => ?_⟩
  have s3 := s2.new (o := .lst (intsD (wrongL (readRows none c) fu))) hq3
  have n32 : q3 ≠ q2 := fun e => by rw [e, dupd_same] at hq3; cases hq3
  have n31 : q3 ≠ q1 := fun e => by rw [e, dupd_ne (Ne.symm n21), dupd_same] at hq3; cases hq3
  have f2 : h q2 = none := by rw [dupd_ne n21] at hq2; exact hq2
  have f3 : h q3 = none := by rw [dupd_ne n32, dupd_ne n31] at hq3; exact hq3
  refine ⟨a, _, rfl, s3.at_, i_Sheet_len s3 ⟨c.length, rfl, by have := t.le; omega, ?_⟩⟩
  refine z q1 q2 q3 _ n21 n31 n32 (fun b o e => ?_) hq1 f2 f3 ?_ ?_ dupd_same
  · rw [dupd_ne (fun e2 => by rw [e2, f3] at e; cases e), dupd_ne (fun e2 => by rw [e2, f2] at e; cases e), dupd_ne (fun e2 => by rw [e2, hq1] at e; cases e)]; exact e
  · rw [dupd_ne (Ne.symm n31), dupd_ne (Ne.symm n21), dupd_same]
  · rw [dupd_ne (Ne.symm n32), dupd_same]
theorem SheetAt.keep {C : Addr} {h h' : DH} {a p : Addr} {c f : List Row} {past : List D} (s : SheetAt C h a p c f past) (k : ∀ b o, h b = some o → h' b = some o) : SheetAt C h' a p c f past := ⟨k _ _ s.at_, k _ _ s.pa⟩
theorem told_dv {c fu : List Row} {w : Nat} {h3 : DH} {q1 q2 q3 : Addr} (t : Tab c w) (t2 : Tab fu w) (e1 : h3 q1 = some (.lst ((readRows none c).map rowD))) (e2 : h3 q2 = some (.lst (fu.map rowD))) (e3 : h3 q3 = some (.lst (intsD (wrongL (readRows none c) fu)))) :
    dv 3 h3 (.lst [tabD c, .ref q1, .ref q2, .ref q3, .int (c.length : Nat)]) = .lst (showL c fu) := by
  have hl := wrongL_len (readRows none c) fu
  have h60 := t.le
  rw [readRows_len] at hl
  have one : ∀ (xs : List D), (∀ x ∈ xs, nr x = true) → xs.map (dv 1 h3) = xs := fun xs hx => (List.map_congr_left fun x m => dv_id 1 h3 x (hx x m)).trans (List.map_id xs)
  have f1 : dv 2 h3 (.ref q1) = .lst ((readRows none c).map rowD) := by simp only [dv, e1]; rw [one _ t.read.nrR]
  have f2 : dv 2 h3 (.ref q2) = .lst (fu.map rowD) := by simp only [dv, e2]; rw [one _ t2.nrR]
  have f3 : dv 2 h3 (.ref q3) = .lst (intsD (wrongL (readRows none c) fu)) := by
    simp only [dv, e3]
    rw [one _ fun x hx => ?_]
    obtain ⟨i, _, rfl⟩ := List.mem_map.mp hx
    rfl
  show D.lst [dv 2 h3 (tabD c), dv 2 h3 (.ref q1), dv 2 h3 (.ref q2), dv 2 h3 (.ref q3), dv 2 h3 (.int (c.length : Nat))] = _
  rw [f1, f2, f3, dv_id 2 h3 _ t.nrT]
  rfl
theorem rd_law_shows (C : Addr) (ds : List D) (h : DH) (Q : DK) (X : DX) (z : sp_law_shows C ds h Q X) : t_law_shows C (dEnd Q X) (dstart n_law_shows ds) h := by
  match ds, z with
  | [.ref a, _, _], ⟨p, c, fu, past, w, s, rfl, rfl, t, t2, hl, z⟩ =>
    show t_law_shows C (dEnd Q X) [some (.ref a), some (tabD c), some (.tup (fu.map rowD)), none, none, none, none, none, none] h
    unfold t_law_shows
    obtain ⟨sv, sr, sw⟩ := showL_ok t t2
    rw [e_dSeq, e_dAsg]
    simp only [e_dCall, e_dCons, e_dNil, v1, w3]
    refine i_law_read t ?_
    rw [e_dSeq, e_dAsg]
    simp only [e_dLc, e_iEnumD, v3, it_lst]
    refine ⟨?_, ?_⟩
    · unfold enumD
      simp only [List.length_map, List.length_zip, List.length_range, Nat.min_self, readRows_len]
      have := t.le; omega
    refine wrong_go (readRows none c) fu (by rw [hl, readRows_len]) t.read.strOk t2.strOk (fun i r Q' hi hne q' => ?_) (fun i r Q' q' => ?_) ?_
    · obtain ⟨f, ef, ei⟩ := ix_tabT (t := fu) (k := i) (h := h) (Q := fun y h2 => dNe (rowD r) y h2 fun x h1 => match x with | .bl b => Q' b h1 | _ => False) (by rw [readRows_len] at hi; omega)
      walk_at "ev"
      refine Eq.mpr ei ?_
      refine Eq.mpr (hne _ f ef) ?_
      exact q' f ef
    · walk_at "ev"
      exact q'
    · simp only [w4]
      rw [e_dSeq, e_dAsg, e_dCB, e_dCons, e_dLst]
      simp only [e_dCB, e_dCons, e_dNil, v1, v2, v3, v4, show tabD c = .tup (c.map rowD) from rfl, cb_tupleT, cb_listT, cb_lenT, List.length_map, w5]
      refine ⟨le_line (m := 5) (Nat.le_refl _), ?_⟩
      refine reprV_of (ys := showL c fu) (sv h) sr sw ?_
      rw [e_dSeq, e_dAsg, e_dLst]
      rw [show D.tup (c.map rowD) = tabD c from rfl]
      refine told_go (p := p) (c := c) (fu := fu) (past := past) rfl s t t2 hl fun q1 q2 q3 h3 n21 n31 n32 keep hq1 hq2 hq3 e1 e2 e3 => ?_
      refine ⟨le_line (m := 5) (Nat.le_refl _), ?_⟩
      simp only [w6]
      rw [e_dSeq, e_dIf, e_dTest, e_dOp, e_dCB, e_dCons]
      simp only [e_dNil, v6, v5]
      refine reprV_of (told_dv t t2 e1 e2 e3) sr sw ?_
      simp only [ne_str, decide_true, Bool.not_true, ff_eq, e_dNext]
      refine ⟨fun z => (by cases z), fun _ => ?_⟩
      have i1 : ∀ (h : DH) (Q : DK), dIx (.lst [tabD c, .ref q1, .ref q2, .ref q3, .int (c.length : Nat)]) (.int 1) h Q = Q (.ref q1) h := fun h Q => ix_lst (k := 1) rfl
      have i2 : ∀ (h : DH) (Q : DK), dIx (.lst [tabD c, .ref q1, .ref q2, .ref q3, .int (c.length : Nat)]) (.int 2) h Q = Q (.ref q2) h := fun h Q => ix_lst (k := 2) rfl
      have i3 : ∀ (h : DH) (Q : DK), dIx (.lst [tabD c, .ref q1, .ref q2, .ref q3, .int (c.length : Nat)]) (.int 3) h Q = Q (.ref q3) h := fun h Q => ix_lst (k := 3) rfl
      rw [e_dSeq, e_dDrop, e_dBM, e_dOp]
      simp only [v6, e_dC, i1, e_dNil]
      refine ⟨⟨rfl, _, e1⟩, ?_⟩
      rw [me_clear e1, e_dSeq, e_dDrop, e_dBM, e_dOp]
      simp only [v6, e_dC, i2, e_dNil]
      have e2' : dupd h3 q1 (.lst []) q2 = some (.lst (fu.map rowD)) := (dupd_ne n21).trans e2
      refine ⟨⟨rfl, _, e2'⟩, ?_⟩
      rw [me_reverse e2', e_dSeq, e_dDrop, e_dBM, e_dOp]
      simp only [v6, e_dC, i2, e_dNil, e_dCons]
      have e2'' : dupd (dupd h3 q1 (.lst [])) q2 (.lst (fu.map rowD).reverse) q2 = some (.lst (fu.map rowD).reverse) := dupd_same
      refine ⟨⟨rfl, _, e2''⟩, ?_⟩
      rw [me_append e2'']
      refine ⟨by rw [List.length_reverse, List.length_map]; have := t2.le; exact Nat.lt_of_lt_of_le (show fu.length < 61 by omega) (by decide), ?_⟩
      rw [e_dSeq, e_dDrop, e_dBM, e_dOp]
      simp only [v6, e_dC, i3, e_dNil, e_dCons, dupd2]
      have e3' : dupd (dupd h3 q1 (.lst [])) q2 (.lst ((fu.map rowD).reverse ++ [D.non])) q3 = some (.lst (intsD (wrongL (readRows none c) fu))) := by rw [dupd_ne n32, dupd_ne n31]; exact e3
      refine ⟨⟨rfl, _, e3'⟩, ?_⟩
      rw [me_append e3']
      refine ⟨?_, ?_⟩
      · have := wrongL_len (readRows none c) fu
        rw [readRows_len] at this
        have := t.le
        rw [intsD, List.length_map]
        exact Nat.lt_of_lt_of_le (show (wrongL (readRows none c) fu).length < 61 by omega) (by decide)
      have keep2 : ∀ b o, h b = some o → dupd (dupd (dupd h3 q1 (.lst [])) q2 (.lst ((fu.map rowD).reverse ++ [D.non]))) q3 (.lst (intsD (wrongL (readRows none c) fu) ++ [D.int 0])) b = some o := fun b o e => by
        rw [dupd_ne (fun z => by rw [z, hq3] at e; cases e), dupd_ne (fun z => by rw [z, hq2] at e; cases e), dupd_ne (fun z => by rw [z, hq1] at e; cases e)]
        exact keep b o e
      rw [e_dRet, e_dOp, e_dCB, e_dCons, e_dLst]
      refine told_go (p := p) (c := c) (fu := fu) (past := past) rfl (s.keep keep2) t t2 hl fun r1 r2 r3 h9 m21 m31 m32 keep9 hr1 hr2 hr3 f1 f2 f3 => ?_
      refine ⟨le_line (m := 5) (Nat.le_refl _), ?_⟩
      simp only [e_dNil]
      refine reprV_of (told_dv t t2 f1 f2 f3) sr sw ?_
      simp only [v5, eq_str, decide_true]
      exact ⟨h, fun b o e => keep9 b o (keep2 b o e), z⟩

end DL

namespace DL
open PySem L2
local macro_rules | `(tactic| walk_at "ev") => `(tactic| try simp (disch := (first | assumption | exact dupd_same | (refine (dupd_ne ?_).trans ?_; (first | assumption | (apply Ne.symm; assumption)); first | assumption | exact dupd_same | (refine (dupd_ne ?_).trans ?_; (first | assumption | (apply Ne.symm; assumption)); first | assumption | exact dupd_same)))) only [v0, v1, v2, v3, v4, v5, v6, v7, v8, v9, v10, v11, v12, v13, v14, v15, v16, w0, w1, w2, w3, w4, w5, w6, w7, w8, w9, w10, w11, w12, w13, w14, w15, w16, e_dC, e_dOp, e_dUn, e_dTest, e_dAnd, e_dOr, e_dNot, e_dAndV, e_dOrV, e_dNotV, e_dIfE, e_dChain, e_dNil, e_dCons, e_dTup, e_dLst, e_dLstM, e_dCB, e_dBM, e_dFrz, e_dNoPart, e_dPart, e_dSl, e_dIsi, e_iSeqD, e_iRange1, e_iRange2, e_iEnumD, e_iZipD, e_dNext, e_dSeq, e_dAsg, e_dAsgT, e_dPar, e_dIf, e_dRet, e_dRetN, e_dDrop, e_dBrk, e_dCnt, e_dAug, e_dSetI, e_dFor, e_dWhile, e_dYes, e_dLc, e_dLcM, e_dCall, e_dCallK, e_dNeg, e_dRaise, op_Lt, op_Le, op_Gt, op_Ge, op_IsN, op_IsNN, op_Sub, op_Add, op_AddS, op_AddT, op_AddL, op_Mul, op_MulT, op_MulL, op_Mod, op_Fdiv, op_InS, op_NotInS, cb_lenT, cb_lenL, cb_lenS, cb_lenX, cb_all, cb_any, cb_tupleL, cb_tupleT, cb_max, cb_min, cb_abs, cb_int, cb_intB, cb_strI, me_joinL, me_joinT, me_split, ip_add, ip_sub, ip_mul, ip_div, ix_ref0, ix_ref1, ix_ref2, me_append, me_popAt, me_pop0, me_insert, me_clear, me_reverse, cb_lenR, cb_tupleR, me_joinR, vw_ref, dT_ref, pow_18, pow_38, pow_40, pow_41, pow_6, eq_str, ne_str, eq_int, ne_int, ix_tup0, ix_lst0, sl_from, sl_to, sl_fromL, sl_toL, vw_str, vw_int, vw_bl, vw_non, vw_dct, vw_tup, vw_lst, vw_scr, ty_str, ty_int, ty_bl, ty_non, ty_tup, ty_lst, ty_dct, it_str, it_tup, it_lst, bT_nm, isN_non, isN_str, isN_int, isN_bl, isN_tup, isN_lst, isN_dct, dT_str, dT_lst, en_rt, en_nx, en_ex, t_imp, f_imp, not_true_eq_false, not_false_eq_true, tf_eq, ft_eq, dwipe, true_and, and_true, Bool.not_true, Bool.not_false, Bool.not_eq_true', Bool.not_eq_false', decide_eq_true_eq, decide_eq_false_iff_not, nq_NoneType, is_NoneType_int, is_NoneType_bool, is_NoneType_str, is_NoneType_tuple, is_NoneType_list, is_NoneType_dict, nq_bool, is_bool_int, is_bool_bool, is_bool_str, is_bool_tuple, is_bool_list, is_bool_dict, nq_int, is_int_int, is_int_bool, is_int_str, is_int_tuple, is_int_list, is_int_dict, nq_str, is_str_int, is_str_bool, is_str_str, is_str_tuple, is_str_list, is_str_dict, nq_tuple, is_tuple_int, is_tuple_bool, is_tuple_str, is_tuple_tuple, is_tuple_list, is_tuple_dict, nq_list, is_list_int, is_list_bool, is_list_str, is_list_tuple, is_list_list, is_list_dict, nq_dict, is_dict_int, is_dict_bool, is_dict_str, is_dict_tuple, is_dict_list, is_dict_dict])
/-! R17: rows removed, rows put in -/
def rmL {α : Type} (xs : List α) (i : Nat) : List α := xs.take i ++ xs.drop (i + 1)
def insL {α : Type} (xs : List α) (i : Nat) (y : α) : List α := xs.take i ++ y :: xs.drop i
theorem rmL_len {α : Type} {xs : List α} {i : Nat} (h : i < xs.length) : (rmL xs i).length + 1 = xs.length := by
  unfold rmL
  simp only [List.length_append, List.length_take, List.length_drop]
  omega
theorem insL_len {α : Type} {xs : List α} {i : Nat} {y : α} (h : i ≤ xs.length) : (insL xs i y).length = xs.length + 1 := by
  unfold insL
  simp only [List.length_append, List.length_take, List.length_drop, List.length_cons]
  omega
theorem rmL_mem {α : Type} {xs : List α} {i : Nat} : ∀ x ∈ rmL xs i, x ∈ xs := fun x hx => by
  rcases List.mem_append.mp hx with z | z
  · exact List.mem_of_mem_take z
  · exact List.mem_of_mem_drop z
theorem insL_mem {α : Type} {xs : List α} {i : Nat} {y : α} : ∀ x ∈ insL xs i y, x = y ∨ x ∈ xs := fun x hx => by
  rcases List.mem_append.mp hx with z | z
  · exact .inr (List.mem_of_mem_take z)
  · rcases List.mem_cons.mp z with z | z
    · exact .inl z
    · exact .inr (List.mem_of_mem_drop z)
theorem Tab.rm {t : List Row} {w i : Nat} (q : Tab t w) (h : i < t.length) : Tab (rmL t i) w :=
  ⟨by have := rmL_len h; have := q.le; omega, q.w6, fun r hr => q.all r (rmL_mem r hr)⟩
theorem Tab.ins {t : List Row} {w i : Nat} {y : Row} (q : Tab t w) (h : i ≤ t.length) (h60 : t.length < 60) (hy : y.length = w ∧ ∀ c ∈ y, c = none ∨ okC c = true) : Tab (insL t i y) w :=
  ⟨by rw [insL_len h]; omega, q.w6, fun r hr => by
    rcases insL_mem r hr with z | z
    · rw [z]; exact hy
    · exact q.all r z⟩
theorem rmL_map {α β : Type} (g : α → β) (xs : List α) (i : Nat) : (xs.map g).take i ++ (xs.map g).drop (i + 1) = (rmL xs i).map g := by
  unfold rmL
  simp only [List.map_append, List.map_take, List.map_drop]
theorem insL_map {α β : Type} (g : α → β) (xs : List α) (i : Nat) (y : α) : (xs.map g).take i ++ g y :: (xs.map g).drop i = (insL xs i y).map g := by
  unfold insL
  simp only [List.map_append, List.map_take, List.map_drop, List.map_cons]
def changed (C a p : Addr) (h : DH) (c fu : List Row) (past : List D) (c2 f2 : List Row) : DH := dupd (dupd h p (.lst (past ++ [stD c fu]))) a (sheetO C p c2 f2)
def sp_Sheet_remove (C : Addr) (E1 E2 : Er) : DSp := fun ds h Q X => match ds with
  | [.ref a, d] => ∃ p c fu past, SheetAt C h a p c fu past ∧ c.length ≤ 60 ∧ fu.length = c.length ∧ past.length ≤ 1000000 ∧ nr d = true ∧
      (∀ i : Int, d = .int i → 0 ≤ i → i < c.length → 2 ≤ c.length → ∀ r, fu[i.toNat]? = some r → Q (rowD r) (changed C a p h c fu past (rmL c i.toNat) (rmL fu i.toNat))) ∧
      (isIntD 0 (some ((c.length : Int) - 1)) d = false → E1.er .non X h) ∧ (isIntD 0 (some ((c.length : Int) - 1)) d = true → c.length = 1 → E2.er .non X h)
  | _ => False
theorem i_Sheet_remove {C a p : Addr} {E1 E2 : Er} {c fu : List Row} {past : List D} {i : Int} {r : Row} {h : DH} {Q : DK} {X : DX} (s : SheetAt C h a p c fu past) (h60 : c.length ≤ 60) (hl : fu.length = c.length) (hp : past.length ≤ 1000000) (i0 : 0 ≤ i) (i1 : i < c.length) (h2 : 2 ≤ c.length)
    (er : fu[i.toNat]? = some r) (z : Q (rowD r) (changed C a p h c fu past (rmL c i.toNat) (rmL fu i.toNat))) : sp_Sheet_remove C E1 E2 [.ref a, .int i] h Q X :=
  ⟨p, c, fu, past, s, h60, hl, hp, rfl, (fun i' e _ _ _ r' e2 => by cases e; rw [er] at e2; cases e2; exact z), (fun e => by rw [isInt_t i0 (by omega)] at e; cases e), (fun _ e => by omega)⟩
def t_Sheet_remove (C_Sheet : Addr) (E_InvalidRow : Er) (E_TooFew : Er) : DS :=
(dSeq (dAsgT (dFld C_Sheet "state" (dVar 0)) (.tp [(.nm 2), (.nm 3)]))
  (dSeq (dDrop (dCall (sp_require_row E_InvalidRow) (dCons (dCB dLen (dCons (dVar 2) dNil)) (dCons (dVar 1) dNil))))
  (dSeq (dIf (dTest (dOp dEq (dCB dLen (dCons (dVar 2) dNil)) (dC (.int 1)))) (E_TooFew.tr none) dNext)
  (dSeq (dDrop (dMeth C_Sheet "change" (sp_Sheet_change C_Sheet) (dVar 0) (dCons (dOp dAdd (dSl dSlice (dVar 2) dNoPart (dPart (dVar 1))) (dSl dSlice (dVar 2) (dPart (dOp dAdd (dVar 1) (dC (.int 1)))) dNoPart)) (dCons (dOp dAdd (dSl dSlice (dVar 3) dNoPart (dPart (dVar 1))) (dSl dSlice (dVar 3) (dPart (dOp dAdd (dVar 1) (dC (.int 1)))) dNoPart)) dNil))))
  (dRet (dOp dIx (dVar 3) (dVar 1)))))))
def n_Sheet_remove : List Str := ["self", "row", "cells", "full_rows"]
/- 0=self 1=row 2=cells 3=full_rows -/
theorem rd_Sheet_remove (C : Addr) (E1 E2 : Er) (ds : List D) (h : DH) (Q : DK) (X : DX) (z : sp_Sheet_remove C E1 E2 ds h Q X) : t_Sheet_remove C E1 E2 (dEnd Q X) (dstart n_Sheet_remove ds) h := by
  match ds, z with
  | [.ref a, d], ⟨p, c, fu, past, s, h60, hl, hp, hn, z, z1, z2⟩ =>
    show t_Sheet_remove C E1 E2 (dEnd Q X) [some (.ref a), some d, none, none] h
    unfold t_Sheet_remove
    rw [e_dSeq, e_dAsgT]
    refine dFld_of 0 rfl s.at_ lk_state ?_
    rw [show stD c fu = .tup [.tup (c.map rowD), .tup (fu.map rowD)] from rfl]
    simp only [bT_two, w2, w3]
    rw [e_dSeq, e_dDrop]
    simp only [e_dCall, e_dCons, e_dNil, e_dCB, v1, v2, cb_lenT, List.length_map]
    refine ⟨hn, fun e1 => ?_, fun e1 => E1.mono _ _ _ _ _ (fun C fs xe => ⟨h, DSub.refl h, xe⟩) (z1 e1)⟩
    obtain ⟨i, rfl, i0, i1⟩ := isInt_of e1
    rw [e_dSeq, e_dIf, e_dTest, e_dOp]
    simp only [e_dCB, e_dCons, e_dNil, e_dC, v2, cb_lenT, List.length_map, eq_int, decide_eq_true_eq, decide_eq_false_iff_not]
    refine ⟨fun e2 => E2.ok _ _ _ _ (E2.mono _ _ _ _ _ (fun C fs xe => ⟨h, DSub.refl h, xe⟩) (z2 e1 (by omega))), fun e2 => ?_⟩
    obtain ⟨i, rfl⟩ := Int.eq_ofNat_of_zero_le i0
    have hi : i < c.length := by omega
    obtain ⟨r, er, eix⟩ := ix_tabT (t := fu) (k := i) (h := changed C a p h c fu past (rmL c i) (rmL fu i)) (Q := (dEnd Q X).rt) (by omega)
    rw [e_dNext]
    dsimp only
    rw [e_dSeq, e_dDrop]
    unfold dMeth
    simp only [v0, v1, v2, v3, e_dCons, e_dNil, e_dOp, e_dSl, e_dPart, e_dNoPart, e_dC, sl_to, op_Add]
    refine ⟨a, _, rfl, s.at_, lk_no, ?_⟩
    rw [show (some ((i : Int) + 1)) = some ((i + 1 : Nat) : Int) from rfl]
    simp only [sl_from, op_AddT, rmL_map]
    have sz : ∀ n, n ≤ 200 → n ≤ sizeLine := fun n h => le_line h
    refine ⟨sz _ ?_, sz _ ?_, ?_⟩
    · simp only [List.length_take, List.length_drop, List.length_map]; omega
    · simp only [List.length_take, List.length_drop, List.length_map]; omega
    refine i_Sheet_change (c2 := rmL c i) (f2 := rmL fu i) s hp ?_
    rw [e_dRet, e_dOp]
    simp only [v3, v1]
    refine Eq.mpr eix ?_
    exact dend0 (z i rfl (by omega) (by omega) (by omega) r er)
/-! put in -/
def meantAt (c : List Row) (i : Nat) (r : Row) : Row := readRow (readRows none (c.take i)).getLast? r
theorem readRows_snoc : ∀ (t : List Row) (ab : Option Row) (r : Row), readRows ab (t ++ [r]) = readRows ab t ++ [readRow ((readRows ab t).getLast?.or ab) r]
  | [], ab, r => by
    show [readRow ab r] = [] ++ [readRow ((List.getLast? ([] : List Row)).or ab) r]
    rfl
  | x :: t, ab, r => by
    show readRow ab x :: readRows (some (readRow ab x)) (t ++ [r]) = (readRow ab x :: readRows (some (readRow ab x)) t) ++ [_]
    rw [readRows_snoc t]
    show _ = readRow ab x :: (readRows (some (readRow ab x)) t ++ [_])
    congr 3
    congr 1
    show _ = ((readRow ab x :: readRows (some (readRow ab x)) t).getLast?).or ab
    rw [List.getLast?_cons]
    cases (readRows (some (readRow ab x)) t).getLast? <;> rfl
theorem readRows_take : ∀ (t : List Row) (ab : Option Row) (k : Nat), readRows ab (t.take k) = (readRows ab t).take k
  | [], _, k => by cases k <;> rfl
  | x :: t, ab, 0 => rfl
  | x :: t, ab, k + 1 => by
    show readRow ab x :: readRows _ (t.take k) = readRow ab x :: (readRows _ t).take k
    rw [readRows_take t]
theorem read_put (c : List Row) (i : Nat) (r : Row) : readRows none (c.take i ++ [r]) = readRows none (c.take i) ++ [meantAt c i r] := by
  rw [readRows_snoc]
  unfold meantAt
  cases (readRows none (c.take i)).getLast? <;> rfl
theorem in_none {r : Row} {h : DH} {Q : DK} (hr : strOkR r) : dIn .non (.tup (r.map cD)) h Q = Q (.bl (decide (none ∈ r))) h := by
  have e1 : (r.map cD).all (dn 11) = true := by
    rw [List.all_eq_true]
    intro x hx
    obtain ⟨c, hc, rfl⟩ := List.mem_map.mp hx
    exact dn_cD 11 (hr c hc)
  have e2 : inD .non (r.map cD) = decide (none ∈ r) := by
    unfold inD
    clear e1 hr
    induction r with
    | nil => rfl
    | cons c r ih =>
      rw [List.map_cons, List.any_cons, ih]
      have : eqvD (cD c) .non = decide (c = none) := eqv_cD c none
      rw [this]
      by_cases e : c = none
      · subst e; simp
      · have : (none : Option Str) ∈ c :: r ↔ none ∈ r := by simp only [List.mem_cons]; exact ⟨fun z => z.elim (fun z => absurd z.symm e) id, .inr⟩
        simp only [e, decide_false, Bool.false_or, this]
  have e3 : dIn .non (.tup (r.map cD)) h Q = (dn 12 .non = true ∧ ((r.map cD).all (dn 11) = true ∧ Q (.bl (inD .non (r.map cD))) h)) := rfl
  rw [e3, e1, e2]
  exact propext ⟨fun z => z.2.2, fun z => ⟨rfl, rfl, z⟩⟩
theorem changed_sub {C a p q : Addr} {h : DH} {c fu : List Row} {past : List D} {c2 f2 : List Row} {o : DO} (hq : h q = none) (s : SheetAt C h a p c fu past) : DSub (changed C a p h c fu past c2 f2) (changed C a p (dupd h q o) c fu past c2 f2) := fun b u e => by
  unfold changed at e ⊢
  by_cases b1 : b = a
  · subst b1; rw [dupd_same] at e ⊢; exact e
  · rw [dupd_ne b1] at e ⊢
    by_cases b2 : b = p
    · subst b2; rw [dupd_same] at e ⊢; exact e
    · rw [dupd_ne b2] at e ⊢
      rw [dupd_ne (fun z => by rw [z, hq] at e; cases e)]; exact e
def sp_Sheet_insert (C : Addr) (Ec Ep El Em : Er) : DSp := fun ds h Q X => match ds with
  | [.ref a, d, e] => ∃ p c fu past w, SheetAt C h a p c fu past ∧ Tab c w ∧ Tab fu w ∧ 1 ≤ c.length ∧ fu.length = c.length ∧ past.length ≤ 1000000 ∧ nr d = true ∧ nr e = true ∧
      (∀ (i : Int) (r : Row), d = .int i → e = rowD r → 0 ≤ i → i ≤ c.length → isRowD (rowD r) = true → r.length = w → c.length < 60 → none ∉ meantAt c i.toNat r → Q .non (changed C a p h c fu past (insL c i.toNat r) (insL fu i.toNat (meantAt c i.toNat r)))) ∧
      (isIntD 0 (some (c.length : Int)) d = false → Ep.er .non X h) ∧ (isIntD 0 (some (c.length : Int)) d = true → (isRowD e = false ∨ lenD e ≠ w) → Ec.er .non X h) ∧
      (isIntD 0 (some (c.length : Int)) d = true → isRowD e = true → lenD e = w → 60 ≤ c.length → Em.er .non X h) ∧
      (∀ (i : Int) (r : Row), d = .int i → e = rowD r → 0 ≤ i → i ≤ c.length → isRowD (rowD r) = true → r.length = w → c.length < 60 → none ∈ meantAt c i.toNat r → El.er .non X h)
  | _ => False
theorem i_Sheet_insert {C a p : Addr} {Ec Ep El Em : Er} {c fu : List Row} {past : List D} {w : Nat} {i : Int} {r : Row} {h : DH} {Q : DK} {X : DX} (s : SheetAt C h a p c fu past) (t : Tab c w) (t2 : Tab fu w) (c1 : 1 ≤ c.length) (hl : fu.length = c.length) (hp : past.length ≤ 1000000)
    (i0 : 0 ≤ i) (i1 : i ≤ c.length) (hr : isRowD (rowD r) = true) (hw : r.length = w) (h60 : c.length < 60) (hm : none ∉ meantAt c i.toNat r) (z : Q .non (changed C a p h c fu past (insL c i.toNat r) (insL fu i.toNat (meantAt c i.toNat r)))) : sp_Sheet_insert C Ec Ep El Em [.ref a, .int i, rowD r] h Q X :=
  ⟨p, c, fu, past, w, s, t, t2, c1, hl, hp, rfl, nr_row (by have := (row_of_is hr).2.1; omega) (pr_short (row_of_is hr).2.2), (fun i' r' e1 e2 _ _ _ _ _ _ => by cases e1; rw [← rowD_inj e2]; exact z), (fun e => by rw [isInt_t i0 i1] at e; cases e),
    (fun _ e => e.elim (fun e => by rw [hr] at e; cases e) (fun e => absurd (by rw [lenD_row, hw]) e)), (fun _ _ _ e => by omega), (fun i' r' e1 e2 _ _ _ _ _ e => by cases e1; rw [← rowD_inj e2] at e; exact absurd e hm)⟩
def t_Sheet_insert (C_Sheet : Addr) (E_InvalidCells : Er) (E_InvalidPlace : Er) (E_Loose : Er) (E_TooMany : Er) : DS :=
(dSeq (dAsgT (dFld C_Sheet "state" (dVar 0)) (.tp [(.nm 3), (.nm 4)]))
  (dSeq (dDrop (dCall (sp_require_place E_InvalidPlace) (dCons (dVar 1) (dCons (dCB dLen (dCons (dVar 3) dNil)) dNil))))
  (dSeq (dIf (dOr (dNot (dTest (dCall sp_is_printed_row (dCons (dVar 2) dNil)))) (dTest (dOp dNe (dCB dLen (dCons (dVar 2) dNil)) (dCB dLen (dCons (dOp dIx (dVar 3) (dC (.int 0))) dNil))))) (E_InvalidCells.tr none) dNext)
  (dSeq (dIf (dTest (dOp dGe (dCB dLen (dCons (dVar 3) dNil)) (dC (.int 60)))) (E_TooMany.tr none) dNext)
  (dSeq (dAsg (dOp dIx (dCall sp_read_rows (dCons (dLst (dStar (dSl dSlice (dVar 3) dNoPart (dPart (dVar 1))) (dCons (dVar 2) dNil))) dNil)) (dNeg (dC (.int 1)))) 5)
  (dSeq (dIf (dTest (dOp dIn (dC .non) (dVar 5))) (E_Loose.tr none) dNext)
  (dDrop (dMeth C_Sheet "change" (sp_Sheet_change C_Sheet) (dVar 0) (dCons (dTup (dStar (dSl dSlice (dVar 3) dNoPart (dPart (dVar 1))) (dCons (dVar 2) (dStar (dSl dSlice (dVar 3) (dPart (dVar 1)) dNoPart) dNil)))) (dCons (dTup (dStar (dSl dSlice (dVar 4) dNoPart (dPart (dVar 1))) (dCons (dVar 5) (dStar (dSl dSlice (dVar 4) (dPart (dVar 1)) dNoPart) dNil)))) dNil))))))))))
def n_Sheet_insert : List Str := ["self", "place", "cells", "rows", "full_rows", "meant"]
/- 0=self 1=place 2=cells 3=rows 4=full_rows 5=meant -/
theorem rd_Sheet_insert (C : Addr) (Ec Ep El Em : Er) (ds : List D) (h : DH) (Q : DK) (X : DX) (z : sp_Sheet_insert C Ec Ep El Em ds h Q X) : t_Sheet_insert C Ec Ep El Em (dEnd Q X) (dstart n_Sheet_insert ds) h := by
  match ds, z with
  | [.ref a, d, e], ⟨p, c, fu, past, w, s, t, t2, c1, hl, hp, n1, n2, z, zp, zc, zm, zl⟩ =>
    show t_Sheet_insert C Ec Ep El Em (dEnd Q X) [some (.ref a), some d, some e, none, none, none] h
    unfold t_Sheet_insert
    have err : ∀ {E : Er} {D2 : DEnds} {τ : DSt} {h' : DH}, D2.ex = (dEnd Q X).ex → DSub h h' → E.er .non X h → E.tr none D2 τ h' := fun {E D2 τ h'} eD s' ee => E.ok _ _ _ _ (E.mono _ _ _ _ _ (fun C fs xe => by rw [eD]; exact ⟨h, s', xe⟩) ee)
    obtain ⟨c0, cs, rfl⟩ : ∃ c0 cs, c = c0 :: cs := by
      cases c with
      | nil => exact absurd c1 (by decide)
      | cons c0 cs => exact ⟨c0, cs, rfl⟩
    have hw0 : c0.length = w := (t.all c0 (by simp)).1
    rw [e_dSeq, e_dAsgT]
    refine dFld_of 0 rfl s.at_ lk_state ?_
    rw [show stD (c0 :: cs) fu = .tup [.tup ((c0 :: cs).map rowD), .tup (fu.map rowD)] from rfl]
    simp only [bT_two, w3, w4]
    rw [e_dSeq, e_dDrop]
    simp only [e_dCall, e_dCons, e_dNil, e_dCB, v1, v3, cb_lenT, List.length_map]
    refine ⟨n1, fun e1 => ?_, fun e1 => Ep.mono _ _ _ _ _ (fun C fs xe => ⟨h, DSub.refl h, xe⟩) (zp e1)⟩
    obtain ⟨i, rfl, i0, i1⟩ := isInt_of e1
    rw [e_dSeq, e_dIf, e_dOr, e_dNot, e_dTest]
    simp only [e_dCall, e_dCons, e_dNil, v2]
    refine ⟨n2, ?_⟩
    refine ⟨fun e2 => ?_, fun e2 => ?_⟩
    · have e3 : isRowD e = false := by simpa using e2
      exact ⟨fun _ => err rfl (DSub.refl h) (zc e1 (.inl e3)), fun z => (by cases z)⟩
    have e3 : isRowD e = true := by simpa using e2
    obtain ⟨r, rfl, r1, r6, rp⟩ := row_of e3
    rw [e_dTest, e_dOp]
    simp only [e_dCB, e_dCons, e_dNil, e_dOp, e_dC, v2, v3, List.map_cons, ix_tup0, show rowD r = .tup (r.map cD) from rfl, show rowD c0 = .tup (c0.map cD) from rfl, cb_lenT, List.length_map, ne_int]
    rw [show D.tup (r.map cD) = rowD r from rfl, show D.tup (c0.map cD) = rowD c0 from rfl]
    refine ⟨fun e4 => err rfl (DSub.refl h) (zc e1 (.inr ?_)), fun e4 => ?_⟩
    · rw [lenD_row]
      simp only [Bool.not_eq_true', decide_eq_false_iff_not] at e4
      omega
    have hrw : r.length = w := by simp only [Bool.not_eq_false', decide_eq_true_eq] at e4; omega
    rw [e_dNext]
    dsimp only
    rw [e_dSeq, e_dIf, e_dTest, e_dOp]
    simp only [e_dCB, e_dCons, e_dNil, e_dC, v3, cb_lenT, op_Ge]
    rw [show (rowD c0 :: cs.map rowD) = (c0 :: cs).map rowD from rfl, List.length_map]
    refine ⟨fun e5 => err rfl (DSub.refl h) (zm e1 e3 (by rw [lenD_row]; exact hrw) (by simp only [decide_eq_true_eq] at e5; omega)), fun e5 => ?_⟩
    have h60 : (c0 :: cs).length < 60 := by simp only [decide_eq_false_iff_not] at e5; omega
    obtain ⟨i, rfl⟩ := Int.eq_ofNat_of_zero_le i0
    have hi : i ≤ (c0 :: cs).length := by omega
    generalize (c0 :: cs) = c at *
    rw [e_dNext]
    dsimp only
    rw [e_dSeq, e_dAsg, e_dOp]
    simp only [e_dCall, e_dCons, e_dNil, e_dLst, e_dStar, e_dSl, e_dNoPart, e_dPart, v1, v2, v3, sl_to, e_dNeg, e_dC]
    refine ⟨_, .inl rfl, ?_⟩
    have hlen1 : (List.take i (c.map rowD) ++ [rowD r]).length = i + 1 := by simp only [List.length_append, List.length_take, List.length_map, List.length_singleton]; omega
    refine ⟨le_line (m := 61) (by rw [hlen1]; omega), ?_⟩
    have hw' : Wid (c.take i ++ [r]) w := ⟨by simp only [List.length_append, List.length_take, List.length_singleton]; omega, t.w6, fun x hx => by
      rcases List.mem_append.mp hx with y | y
      · exact (t.all x (List.mem_of_mem_take y)).1
      · rw [List.mem_singleton.mp y]; exact hrw⟩
    rw [show List.take i (c.map rowD) ++ [rowD r] = (c.take i ++ [r]).map rowD by rw [List.map_append, List.map_take]; rfl]
    refine i_read_rowsL hw' fun q hq => ?_
    have mt : (meantAt c i r).length = w ∧ ∀ x ∈ meantAt c i r, x = none ∨ okC x = true := by
      have tt : Tab (c.take i ++ [r]) w := ⟨hw'.le, t.w6, fun x hx => by
        rcases List.mem_append.mp hx with y | y
        · exact t.all x (List.mem_of_mem_take y)
        · rw [List.mem_singleton.mp y]; exact ⟨hrw, pr_mem rp⟩⟩
      have := tt.read.all (meantAt c i r) (by rw [read_put]; simp)
      exact this
    have mstr : strOkR (meantAt c i r) := fun x hx => by
      rcases mt.2 x hx with y | y
      · rw [y]; rfl
      · exact okC_strOk y
    rw [ix_last (xs := (readRows none (c.take i)).map rowD) (x := rowD (meantAt c i r)) (by rw [dupd_same, read_put, List.map_append]; rfl)]
    simp only [w5]
    rw [e_dSeq, e_dIf, e_dTest, e_dOp]
    simp only [e_dC, v5]
    rw [show rowD (meantAt c i r) = .tup ((meantAt c i r).map cD) from rfl, in_none mstr]
    rw [show D.tup ((meantAt c i r).map cD) = rowD (meantAt c i r) from rfl]
    refine ⟨fun e6 => err rfl (DSub.new (DSub.refl h) hq) (zl i r rfl rfl i0 (by omega) e3 hrw h60 (by simpa using e6)), fun e6 => ?_⟩
    have hm : none ∉ meantAt c i r := by simpa using e6
    rw [e_dNext]
    dsimp only
    rw [e_dDrop]
    unfold dMeth
    simp only [v0, v1, v2, v3, v4, v5, e_dCons, e_dNil, e_dTup, e_dStar, e_dSl, e_dPart, e_dNoPart, sl_to, sl_from]
    refine ⟨a, _, rfl, (s.new hq).at_, lk_no, ?_⟩
    refine ⟨_, .inl rfl, _, .inl rfl, ?_⟩
    have sz : ∀ n, n ≤ 200 → n ≤ sizeLine := fun n h => le_line h
    refine ⟨sz _ ?_, _, .inl rfl, _, .inl rfl, ?_⟩
    · simp only [List.length_append, List.length_cons, List.length_take, List.length_drop, List.length_map, List.length_nil]; omega
    refine ⟨sz _ ?_, ?_⟩
    · simp only [List.length_append, List.length_cons, List.length_take, List.length_drop, List.length_map, List.length_nil]; omega
    simp only [List.append_nil, insL_map]
    refine i_Sheet_change (c2 := insL c i r) (f2 := insL fu i (meantAt c i r)) (s.new hq) hp ?_
    exact ⟨_, changed_sub hq s, z i r rfl rfl i0 (by omega) e3 hrw h60 hm⟩

end DL

namespace DL
open PySem L2
local macro_rules | `(tactic| walk_at "ev") => `(tactic| try simp (disch := (first | assumption | exact dupd_same | (refine (dupd_ne ?_).trans ?_; (first | assumption | (apply Ne.symm; assumption)); first | assumption | exact dupd_same | (refine (dupd_ne ?_).trans ?_; (first | assumption | (apply Ne.symm; assumption)); first | assumption | exact dupd_same)))) only [v0, v1, v2, v3, v4, v5, v6, v7, v8, v9, v10, v11, v12, v13, v14, v15, v16, w0, w1, w2, w3, w4, w5, w6, w7, w8, w9, w10, w11, w12, w13, w14, w15, w16, e_dC, e_dOp, e_dUn, e_dTest, e_dAnd, e_dOr, e_dNot, e_dAndV, e_dOrV, e_dNotV, e_dIfE, e_dChain, e_dNil, e_dCons, e_dTup, e_dLst, e_dLstM, e_dCB, e_dBM, e_dFrz, e_dNoPart, e_dPart, e_dSl, e_dIsi, e_iSeqD, e_iRange1, e_iRange2, e_iEnumD, e_iZipD, e_dNext, e_dSeq, e_dAsg, e_dAsgT, e_dPar, e_dIf, e_dRet, e_dRetN, e_dDrop, e_dBrk, e_dCnt, e_dAug, e_dSetI, e_dFor, e_dWhile, e_dYes, e_dLc, e_dLcM, e_dCall, e_dCallK, e_dNeg, e_dRaise, op_Lt, op_Le, op_Gt, op_Ge, op_IsN, op_IsNN, op_Sub, op_Add, op_AddS, op_AddT, op_AddL, op_Mul, op_MulT, op_MulL, op_Mod, op_Fdiv, op_InS, op_NotInS, cb_lenT, cb_lenL, cb_lenS, cb_lenX, cb_all, cb_any, cb_tupleL, cb_tupleT, cb_max, cb_min, cb_abs, cb_int, cb_intB, cb_strI, me_joinL, me_joinT, me_split, ip_add, ip_sub, ip_mul, ip_div, ix_ref0, ix_ref1, ix_ref2, me_append, me_popAt, me_pop0, me_insert, me_clear, me_reverse, cb_lenR, cb_tupleR, me_joinR, vw_ref, dT_ref, pow_18, pow_38, pow_40, pow_41, pow_6, eq_str, ne_str, eq_int, ne_int, ix_tup0, ix_lst0, sl_from, sl_to, sl_fromL, sl_toL, vw_str, vw_int, vw_bl, vw_non, vw_dct, vw_tup, vw_lst, vw_scr, ty_str, ty_int, ty_bl, ty_non, ty_tup, ty_lst, ty_dct, it_str, it_tup, it_lst, bT_nm, isN_non, isN_str, isN_int, isN_bl, isN_tup, isN_lst, isN_dct, dT_str, dT_lst, en_rt, en_nx, en_ex, t_imp, f_imp, not_true_eq_false, not_false_eq_true, tf_eq, ft_eq, dwipe, true_and, and_true, Bool.not_true, Bool.not_false, Bool.not_eq_true', Bool.not_eq_false', decide_eq_true_eq, decide_eq_false_iff_not, nq_NoneType, is_NoneType_int, is_NoneType_bool, is_NoneType_str, is_NoneType_tuple, is_NoneType_list, is_NoneType_dict, nq_bool, is_bool_int, is_bool_bool, is_bool_str, is_bool_tuple, is_bool_list, is_bool_dict, nq_int, is_int_int, is_int_bool, is_int_str, is_int_tuple, is_int_list, is_int_dict, nq_str, is_str_int, is_str_bool, is_str_str, is_str_tuple, is_str_list, is_str_dict, nq_tuple, is_tuple_int, is_tuple_bool, is_tuple_str, is_tuple_tuple, is_tuple_list, is_tuple_dict, nq_list, is_list_int, is_list_bool, is_list_str, is_list_tuple, is_list_list, is_list_dict, nq_dict, is_dict_int, is_dict_bool, is_dict_str, is_dict_tuple, is_dict_list, is_dict_dict])
/-! R18: the law puts a row in -/
theorem i_in_range {P : Prop} (h : P) : P := h
/-- how many cells ahead mean something -/
def filled : Row → Nat
  | some _ :: r => filled r + 1
  | _ => 0
theorem filled_le : ∀ r : Row, filled r ≤ r.length
  | [] => Nat.le_refl 0
  | none :: r => Nat.zero_le _
  | some s :: r => by show filled r + 1 ≤ r.length + 1; have := filled_le r; omega
theorem filled_at : ∀ (r : Row) (k : Nat), k < filled r → ∃ s, r[k]? = some (some s)
  | some s :: r, 0, _ => ⟨s, rfl⟩
  | some s :: r, k + 1, h => filled_at r k (by have : k + 1 < filled r + 1 := h; omega)
  | [], k, h => absurd h (Nat.not_lt_zero _)
  | none :: r, k, h => absurd h (Nat.not_lt_zero _)
theorem filled_stop : ∀ (r : Row), filled r < r.length → r[filled r]? = some none
  | [], h => absurd h (Nat.lt_irrefl 0)
  | none :: r, _ => rfl
  | some s :: r, h => filled_stop r (by have : filled r + 1 < r.length + 1 := h; omega)
theorem filled_take : ∀ (r : Row) (k : Nat), k ≤ filled r → ∀ c ∈ r.take k, c ≠ none
  | _, 0, _, c, hc => by cases hc
  | some s :: r, k + 1, h, c, hc => by
    rcases List.mem_cons.mp hc with z | z
    · rw [z]; exact fun e => by cases e
    · exact filled_take r k (by have : k + 1 ≤ filled r + 1 := h; omega) c z
  | [], k + 1, h, _, _ => absurd h (Nat.not_succ_le_zero k)
  | none :: r, k + 1, h, _, _ => absurd h (Nat.not_succ_le_zero k)
def abTake : Option Row → Nat → Row
  | some x, k => x.take k
  | none, _ => []
theorem full_none {r : Row} (h : full r) : none ∉ r := fun m => by cases h none m
def insDeed (pl : Int) (own : Row) (c2 f2 : List Row) : D := .tup [.tup [.str "insert", .int pl, rowD own], .non, tabD c2, tabD f2]
def sp_law_put_in : DSp := fun ds h Q _ => match ds with
  | [.ref a, d, e, .int pl] => ∃ n c fu w, Urn h a n ∧ n + 200 ≤ LIM ∧ d = tabD c ∧ e = tabD fu ∧ Tab c w ∧ Tab fu w ∧ 1 ≤ w ∧ 1 ≤ c.length ∧ fu.length = c.length ∧ 0 ≤ pl ∧ pl ≤ c.length ∧
      ∀ own o, own.length = w → pr own → none ∉ meantAt c pl.toNat own → UrnO o (n + 200) → Q (insDeed pl own (insL c pl.toNat own) (insL fu pl.toNat (meantAt c pl.toNat own))) (dupd h a o)
  | _ => False
theorem i_law_put_in {a : Addr} {pl : Int} {c fu : List Row} {w : Nat} {h : DH} {Q : DK} {X : DX} (n : Nat) (u : Urn h a n) (hn : n + 200 ≤ LIM) (t : Tab c w) (t2 : Tab fu w) (w1 : 1 ≤ w) (c1 : 1 ≤ c.length) (hl : fu.length = c.length) (p0 : 0 ≤ pl) (p1 : pl ≤ c.length)
    (z : ∀ own o, own.length = w → pr own → none ∉ meantAt c pl.toNat own → UrnO o (n + 200) → Q (insDeed pl own (insL c pl.toNat own) (insL fu pl.toNat (meantAt c pl.toNat own))) (dupd h a o)) : sp_law_put_in [.ref a, tabD c, tabD fu, .int pl] h Q X := ⟨n, c, fu, w, u, hn, rfl, rfl, t, t2, w1, c1, hl, p0, p1, z⟩
def t_law_put_in : DS :=
(dSeq (dPar 4 5 (dCB dLen (dCons (dOp dIx (dVar 1) (dC (.int 0))) dNil)) (dC .non))
  (dSeq (dIf (dTest (dOp dGt (dVar 3) (dC (.int 0)))) (dAsg (dOp dIx (dCall sp_law_read (dCons (dVar 1) dNil)) (dOp dSub (dVar 3) (dC (.int 1)))) 5) dNext)
  (dSeq (dAsg (dC (.int 0)) 6)
  (dSeq (dWhile (dAnd (dTest (dOp dIsNN (dVar 5) (dC .non))) (dAnd (dTest (dOp dLt (dVar 6) (dVar 4))) (dTest (dOp dIsNN (dOp dIx (dVar 5) (dVar 6)) (dC .non))))) (dAsg (dOp dAdd (dVar 6) (dC (.int 1))) 6))
  (dSeq (dAsg (dOp dIx (dLst (dCons (dC (.int 0)) (dCons (dCall sp_law_draw (dCons (dVar 0) (dCons (dOp dAdd (dVar 6) (dC (.int 1))) dNil))) dNil))) (dCall sp_law_draw (dCons (dVar 0) (dCons (dC (.int 2)) dNil)))) 7)
  (dSeq (dAsg (dOp dAdd (dOp dMul (dTup (dCons (dC .non) dNil)) (dVar 7)) (dCB dTuple (dCons (dLc (iRange1 (dOp dSub (dVar 4) (dVar 7))) (.nm 12) dYes (dCall sp_law_item (dCons (dVar 0) dNil)) [12]) dNil))) 8)
  (dSeq (dAsg (dOp dAdd (dIfE (dTest (dOp dIsN (dVar 5) (dC .non))) (dTup dNil) (dSl dSlice (dVar 5) dNoPart (dPart (dVar 7)))) (dSl dSlice (dVar 8) (dPart (dVar 7)) dNoPart)) 9)
  (dSeq (dAsg (dOp dAdd (dOp dAdd (dSl dSlice (dVar 1) dNoPart (dPart (dVar 3))) (dTup (dCons (dVar 8) dNil))) (dSl dSlice (dVar 1) (dPart (dVar 3)) dNoPart)) 10)
  (dSeq (dAsg (dOp dAdd (dOp dAdd (dSl dSlice (dVar 2) dNoPart (dPart (dVar 3))) (dTup (dCons (dVar 9) dNil))) (dSl dSlice (dVar 2) (dPart (dVar 3)) dNoPart)) 11)
  (dRet (dTup (dCons (dTup (dCons (dC (.str "insert")) (dCons (dVar 3) (dCons (dVar 8) dNil)))) (dCons (dC .non) (dCons (dVar 10) (dCons (dVar 11) dNil)))))))))))))))
def n_law_put_in : List Str := ["urn", "cells_here", "full_rows", "place_here", "wide", "above", "most", "few", "own", "meant", "later", "true_here", "turn"]
/- 0=urn 1=cells_here 2=full_rows 3=place_here 4=wide 5=above 6=most 7=few 8=own 9=meant 10=later 11=true_here 12=turn -/
theorem rd_law_put_in (ds : List D) (h : DH) (Q : DK) (X : DX) (z : sp_law_put_in ds h Q X) : t_law_put_in (dEnd Q X) (dstart n_law_put_in ds) h := by
  match ds, z with
  | [.ref a, _, _, .int pl], ⟨n, c, fu, w, u, hn, rfl, rfl, t, t2, w1, c1, hl, p0, p1, z⟩ =>
    show t_law_put_in (dEnd Q X) [some (.ref a), some (tabD c), some (tabD fu), some (.int pl), none, none, none, none, none, none, none, none, none] h
    unfold t_law_put_in
    obtain ⟨i, rfl⟩ := Int.eq_ofNat_of_zero_le p0
    have z : ∀ own o, own.length = w → pr own → none ∉ meantAt c i own → UrnO o (n + 200) → Q (insDeed (i : Int) own (insL c i own) (insL fu i (meantAt c i own))) (dupd h a o) := z
    have w6 := t.w6
    have h60 := t.le
    obtain ⟨c0, ec0, eix0⟩ := ix_tabT (t := c) (k := 0) (h := h) (Q := fun x h1 => dLen [x] h1 fun x h1 => dLen [x] h1 fun _ _ => True) (by omega)
    have hw0 : c0.length = w := (t.all c0 (List.mem_of_getElem? ec0)).1
    rw [e_dSeq, e_dPar]
    simp only [e_dCB, e_dCons, e_dNil, e_dOp, v1, e_dC]
    have ix0 : ∀ (Q2 : DK), dIx (tabD c) (.int 0) h Q2 = Q2 (rowD c0) h := fun Q2 => ix_tup (k := 0) (by rw [List.getElem?_map, ec0]; rfl)
    rw [ix0]
    simp only [show rowD c0 = .tup (c0.map cD) from rfl, cb_lenT, List.length_map, hw0, w4, w5]
    -- behind the row above
    have main : ∀ (ab : Option Row), ab = (readRows none (c.take i)).getLast? → 
        (dSeq (dAsg (dC (.int 0)) 6)
  (dSeq (dWhile (dAnd (dTest (dOp dIsNN (dVar 5) (dC .non))) (dAnd (dTest (dOp dLt (dVar 6) (dVar 4))) (dTest (dOp dIsNN (dOp dIx (dVar 5) (dVar 6)) (dC .non))))) (dAsg (dOp dAdd (dVar 6) (dC (.int 1))) 6))
  (dSeq (dAsg (dOp dIx (dLst (dCons (dC (.int 0)) (dCons (dCall sp_law_draw (dCons (dVar 0) (dCons (dOp dAdd (dVar 6) (dC (.int 1))) dNil))) dNil))) (dCall sp_law_draw (dCons (dVar 0) (dCons (dC (.int 2)) dNil)))) 7)
  (dSeq (dAsg (dOp dAdd (dOp dMul (dTup (dCons (dC .non) dNil)) (dVar 7)) (dCB dTuple (dCons (dLc (iRange1 (dOp dSub (dVar 4) (dVar 7))) (.nm 12) dYes (dCall sp_law_item (dCons (dVar 0) dNil)) [12]) dNil))) 8)
  (dSeq (dAsg (dOp dAdd (dIfE (dTest (dOp dIsN (dVar 5) (dC .non))) (dTup dNil) (dSl dSlice (dVar 5) dNoPart (dPart (dVar 7)))) (dSl dSlice (dVar 8) (dPart (dVar 7)) dNoPart)) 9)
  (dSeq (dAsg (dOp dAdd (dOp dAdd (dSl dSlice (dVar 1) dNoPart (dPart (dVar 3))) (dTup (dCons (dVar 8) dNil))) (dSl dSlice (dVar 1) (dPart (dVar 3)) dNoPart)) 10)
  (dSeq (dAsg (dOp dAdd (dOp dAdd (dSl dSlice (dVar 2) dNoPart (dPart (dVar 3))) (dTup (dCons (dVar 9) dNil))) (dSl dSlice (dVar 2) (dPart (dVar 3)) dNoPart)) 11)
  (dRet (dTup (dCons (dTup (dCons (dC (.str "insert")) (dCons (dVar 3) (dCons (dVar 8) dNil)))) (dCons (dC .non) (dCons (dVar 10) (dCons (dVar 11) dNil)))))))))))))
            (dEnd Q X) [some (.ref a), some (tabD c), some (tabD fu), some (.int (i : Nat)), some (.int (w : Nat)), some (aboveD ab), none, none, none, none, none, none, none] h := by
      intro ab eab
      have habw : ∀ r, ab = some r → r.length = w ∧ ∀ x ∈ r, x = none ∨ okC x = true := fun r e => by
        have tt : Tab (c.take i) w := ⟨by rw [List.length_take]; omega, t.w6, fun x hx => t.all x (List.mem_of_mem_take hx)⟩
        rw [e] at eab
        exact tt.read.all r (List.mem_of_getLast? eab.symm)
      generalize hf : (match ab with | some r => filled r | none => 0) = F
      have hFw : F ≤ w := by
        rw [← hf]
        cases ab with
        | none => exact Nat.zero_le _
        | some r => have := filled_le r; have := (habw r rfl).1; show filled r ≤ w; omega
      rw [e_dSeq, e_dAsg]
      simp only [e_dC]
      rw [e_dSeq]
      refine while_ind (fun τ h' => h' = h ∧ ∃ (k : Nat) (y : Option D), (y = some (.int k)) ∧ τ = [some (.ref a), some (tabD c), some (tabD fu), some (.int (i : Nat)), some (.int (w : Nat)), some (aboveD ab), y, none, none, none, none, none, none] ∧ k ≤ F) (fun τ _ => match τ with | [_, _, _, _, _, _, some (.int k), _, _, _, _, _, _] => F - k.toNat | _ => 0) ⟨rfl, 0, _, rfl, rfl, Nat.zero_le _⟩ ?_
      rintro τ h' ⟨rfl, k, _, rfl, rfl, hk⟩ D' T
      have fin : k = F → (dSeq (dAsg (dOp dIx (dLst (dCons (dC (.int 0)) (dCons (dCall sp_law_draw (dCons (dVar 0) (dCons (dOp dAdd (dVar 6) (dC (.int 1))) dNil))) dNil))) (dCall sp_law_draw (dCons (dVar 0) (dCons (dC (.int 2)) dNil)))) 7)
  (dSeq (dAsg (dOp dAdd (dOp dMul (dTup (dCons (dC .non) dNil)) (dVar 7)) (dCB dTuple (dCons (dLc (iRange1 (dOp dSub (dVar 4) (dVar 7))) (.nm 12) dYes (dCall sp_law_item (dCons (dVar 0) dNil)) [12]) dNil))) 8)
  (dSeq (dAsg (dOp dAdd (dIfE (dTest (dOp dIsN (dVar 5) (dC .non))) (dTup dNil) (dSl dSlice (dVar 5) dNoPart (dPart (dVar 7)))) (dSl dSlice (dVar 8) (dPart (dVar 7)) dNoPart)) 9)
  (dSeq (dAsg (dOp dAdd (dOp dAdd (dSl dSlice (dVar 1) dNoPart (dPart (dVar 3))) (dTup (dCons (dVar 8) dNil))) (dSl dSlice (dVar 1) (dPart (dVar 3)) dNoPart)) 10)
  (dSeq (dAsg (dOp dAdd (dOp dAdd (dSl dSlice (dVar 2) dNoPart (dPart (dVar 3))) (dTup (dCons (dVar 9) dNil))) (dSl dSlice (dVar 2) (dPart (dVar 3)) dNoPart)) 11)
  (dRet (dTup (dCons (dTup (dCons (dC (.str "insert")) (dCons (dVar 3) (dCons (dVar 8) dNil)))) (dCons (dC .non) (dCons (dVar 10) (dCons (dVar 11) dNil)))))))))))
                (dEnd Q X) [some (.ref a), some (tabD c), some (tabD fu), some (.int (i : Nat)), some (.int (w : Nat)), some (aboveD ab), some (.int (k : Nat)), none, none, none, none, none, none] h' := by
        rintro rfl
        have hdl : dLen [tabD c] = dLen [tabD c] := rfl
        rw [e_dSeq, e_dAsg, e_dOp, e_dLst]
        simp only [e_dCons, e_dNil, e_dCall, e_dC, v0, e_dOp, v6, op_Add]
        refine i_law_draw n u (by omega) (by omega) (by omega) fun d1 o1 d10 d11 uo1 => ?_
        refine ⟨le_line (m := 2) (Nat.le_refl _), ?_⟩
        refine i_law_draw _ (Urn.upd uo1) (by omega) (by decide) (by decide) fun d2 o2 d20 d22 uo2 => ?_
        simp only [dupd2]
        obtain ⟨few, ef, hfe⟩ : ∃ few : Nat, [D.int 0, D.int d1][d2.toNat]? = some (.int few) ∧ few ≤ k := by
          have : d2 = 0 ∨ d2 = 1 := by omega
          rcases this with rfl | rfl
          · exact ⟨0, rfl, Nat.zero_le _⟩
          · exact ⟨d1.toNat, by show some (D.int d1) = _; rw [show d1 = (d1.toNat : Int) by omega]; rfl, by omega⟩
        rw [show d2 = (d2.toNat : Int) by omega, ix_lst ef]
        simp only [w7]
        rw [e_dSeq, e_dAsg, e_dOp, e_dOp, e_dTup]
        simp only [e_dCons, e_dNil, e_dC, v7]
        refine ⟨le_line (m := 1) (Nat.le_refl _), ?_⟩
        rw [op_MulT]
        refine ⟨by simp, by omega, by omega, by simp, ?_⟩
        rw [rpt_non, rep_none, e_dCB, e_dCons, e_dLc, e_iRange1, e_dOp]
        simp only [v4, v7, op_Sub]
        refine ⟨by omega, by omega, by rw [List.length_map, List.length_range]; omega, ?_⟩
        refine lc_ind (fun acc h2 => ∃ o' r, h2 = dupd h' a o' ∧ UrnO o' (n + 2 + 20 * acc.length) ∧ acc = r.map cD ∧ full r) _ ⟨o2, [], rfl, uo2, rfl, fun _ z => nomatch z⟩ ?_ ?_
        · intro x hx
          refine ⟨_, rfl, ?_⟩
          rintro acc h2 hl2 ⟨o', r, rfl, uo', ea, hfu⟩ Q' q'
          have hN : acc.length < 6 := by simp only [List.length_map, List.length_range] at hl2; omega
          obtain ⟨j, hj, rfl⟩ := List.mem_map.mp hx
          simp only [e_dCall, e_dCons, e_dNil, dwipe]
          walk_at "ev"
          refine i_law_item _ (Urn.upd uo') (by omega) fun s o3 ok uo3 => ?_
          simp only [dupd2]
          refine q' _ _ ⟨o3, r ++ [some s], rfl, ?_, ?_, ?_⟩
          · rw [List.length_append, List.length_singleton]; exact uo3.mono (by omega)
          · rw [ea, List.map_append]; rfl
          · exact full_app hfu fun c hc => by rw [List.mem_singleton.mp hc]; exact ok
        · rintro ys h2 ⟨o', r, rfl, uo', rfl, hfu⟩ hl2
          have hrl : few + r.length = w := by
            simp only [List.length_map, List.length_range] at hl2
            omega
          have uo3 := uo'.mono (show n + 2 + 20 * (r.map cD).length ≤ n + 200 by rw [List.length_map]; omega)
          have own_eq : List.map cD (List.replicate few none) ++ r.map cD = (List.replicate few none ++ r).map cD := by rw [List.map_append]
          have hol : (List.replicate few none ++ r : Row).length = w := by rw [List.length_append, List.length_replicate]; exact hrl
          have sz : ∀ n, n ≤ 200 → n ≤ sizeLine := fun n h => le_line h
          rw [e_dNil, cb_tupleL, op_AddT, own_eq]
          refine ⟨sz _ (by simp only [List.length_map, List.length_replicate]; omega), ?_⟩
          generalize hown : (List.replicate few none ++ r : Row) = own at *
          simp only [w8]
          have hbl : blanks own = few := by rw [← hown]; exact blanks_rep few hfu
          have hdrop : own.drop few = r := by rw [← hown, List.drop_append, List.length_replicate, Nat.sub_self, List.drop_eq_nil_of_le (by simp)]; rfl
          have hm : meantAt c i own = abTake ab few ++ r := by
            unfold meantAt
            rw [← eab]
            unfold readRow
            rw [hbl, hdrop]
            cases ab with
            | some x => rfl
            | none =>
              have : few = 0 := by have : k = 0 := hf.symm; omega
              subst this
              rfl
          have hno : none ∉ meantAt c i own := by
            rw [hm]
            intro m
            rcases List.mem_append.mp m with y | y
            · cases ab with
              | none => cases y
              | some x => exact filled_take x few (by have : filled x = k := hf; omega) none y rfl
            · exact full_none hfu y
          have hml : (meantAt c i own).length ≤ 6 := by
            rw [hm, List.length_append]
            cases ab with
            | none => show 0 + r.length ≤ 6; omega
            | some x => have : (x.take few).length ≤ few := by rw [List.length_take]; omega
                        show (x.take few).length + r.length ≤ 6; omega
          have hpr : pr own := by rw [← hown]; exact pr_rep few hfu
          -- the row that is meant, then the two tables
          have tail : ∀ (m9 : D), m9 = rowD (meantAt c i own) →
              (dSeq (dAsg (dOp dAdd (dOp dAdd (dSl dSlice (dVar 1) dNoPart (dPart (dVar 3))) (dTup (dCons (dVar 8) dNil))) (dSl dSlice (dVar 1) (dPart (dVar 3)) dNoPart)) 10)
  (dSeq (dAsg (dOp dAdd (dOp dAdd (dSl dSlice (dVar 2) dNoPart (dPart (dVar 3))) (dTup (dCons (dVar 9) dNil))) (dSl dSlice (dVar 2) (dPart (dVar 3)) dNoPart)) 11)
  (dRet (dTup (dCons (dTup (dCons (dC (.str "insert")) (dCons (dVar 3) (dCons (dVar 8) dNil)))) (dCons (dC .non) (dCons (dVar 10) (dCons (dVar 11) dNil)))))))) (dEnd Q X)
                [some (.ref a), some (tabD c), some (tabD fu), some (.int (i : Nat)), some (.int (w : Nat)), some (aboveD ab), some (.int (k : Nat)), some (.int (few : Nat)), some (.tup (own.map cD)), some m9, none, none, none] (dupd h' a o') := by
            rintro _ rfl
            rw [show tabD c = .tup (c.map rowD) from rfl, show tabD fu = .tup (fu.map rowD) from rfl]
            rw [e_dSeq, e_dAsg, e_dOp, e_dOp, e_dSl]
            simp only [v1, v3, e_dNoPart, e_dPart, sl_to, e_dTup, e_dCons, e_dNil, v8, e_dSl, sl_from, op_AddT]
            have ea1 : List.take i (c.map rowD) ++ [D.tup (own.map cD)] ++ List.drop i (c.map rowD) = (insL c i own).map rowD := by rw [List.append_assoc, ← insL_map]; rfl
            have ea2 : List.take i (fu.map rowD) ++ [rowD (meantAt c i own)] ++ List.drop i (fu.map rowD) = (insL fu i (meantAt c i own)).map rowD := by rw [List.append_assoc, ← insL_map]; rfl
            rw [ea1]
            refine ⟨sz _ (Nat.le_trans (Nat.le_refl 1) (by decide)), sz _ ?_, sz _ ?_, ?_⟩
            · simp only [List.length_take, List.length_map, List.length_singleton]; omega
            · simp only [List.length_append, List.length_take, List.length_drop, List.length_map, List.length_singleton]; omega
            simp only [w10]
            rw [e_dSeq, e_dAsg, e_dOp, e_dOp, e_dSl]
            simp only [v2, v3, e_dNoPart, e_dPart, sl_to, e_dTup, e_dCons, e_dNil, v9, e_dSl, sl_from, op_AddT]
            rw [ea2]
            refine ⟨sz _ (Nat.le_trans (Nat.le_refl 1) (by decide)), sz _ ?_, sz _ ?_, ?_⟩
            · simp only [List.length_take, List.length_map, List.length_singleton]; omega
            · simp only [List.length_append, List.length_take, List.length_drop, List.length_map, List.length_singleton]; omega
            simp only [w11]
            rw [e_dRet, e_dTup]
            simp only [e_dCons, e_dNil, e_dTup, e_dC, v3, v8, v10, v11]
            exact ⟨le_line (m := 3) (Nat.le_refl _), le_line (m := 4) (Nat.le_refl _), dend0 (z own o' hol hpr hno uo3)⟩
          rw [e_dSeq, e_dAsg, e_dOp, e_dIfE, e_dTest, e_dOp]
          simp only [v5, e_dC, op_IsN]
          cases ab with
          | none =>
            rw [show isN (aboveD none) = true from rfl]
            refine ⟨fun _ => ?_, fun z => (by cases z)⟩
            rw [e_dTup]
            simp only [e_dNil, e_dSl, v8, v7, e_dPart, e_dNoPart, sl_from, op_AddT, w9]
            refine ⟨Nat.zero_le _, sz _ (by simp only [List.length_nil, List.length_drop, List.length_map]; omega), ?_⟩
            refine tail _ ?_
            rw [hm, ← List.map_drop, hdrop]
            rfl
          | some x =>
            rw [show isN (aboveD (some x)) = false from rfl]
            refine ⟨fun z => (by cases z), fun _ => ?_⟩
            rw [e_dSl]
            have hxl := (habw x rfl).1
            simp only [v5, v7, show aboveD (some x) = .tup (x.map cD) from rfl, e_dSl, v8, e_dPart, e_dNoPart, sl_to, sl_from, op_AddT, w9]
            refine ⟨sz _ (by simp only [List.length_take, List.length_drop, List.length_map]; omega), ?_⟩
            refine tail _ ?_
            rw [hm, ← List.map_drop, hdrop, ← List.map_take, ← List.map_append]
            rfl
      rw [e_dAnd, e_dTest, e_dOp]
      simp only [v5, e_dC, op_IsNN]
      cases ab with
      | none =>
        rw [show isN (aboveD none) = true from rfl]
        refine ⟨fun z => (by cases z), fun _ => ⟨fun z => (by cases z), fun _ => fin ?_⟩⟩
        have : F = 0 := hf.symm
        omega
      | some r =>
        have hrw := (habw r rfl).1
        rw [show isN (aboveD (some r)) = false from rfl]
        refine ⟨fun _ => ?_, fun z => (by cases z)⟩
        rw [e_dAnd, e_dTest, e_dOp]
        simp only [v6, v4, op_Lt]
        have hfr : F = filled r := hf.symm
        refine ⟨fun e => ?_, fun e => ?_⟩
        · have hkw : k < r.length := by simp only [decide_eq_true_eq] at e; omega
          rw [e_dTest, e_dOp, e_dOp]
          simp only [v5, v6, e_dC]
          rw [show aboveD (some r) = .tup (r.map cD) from rfl]
          by_cases hkf : k < filled r
          · obtain ⟨s, es⟩ := filled_at r k hkf
            rw [ix_tup (x := .str s) (by rw [List.getElem?_map, es]; rfl)]
            simp only [op_IsNN, isN_str]
            refine ⟨fun _ => ?_, fun z => (by cases z)⟩
            rw [e_dAsg, e_dOp]
            simp only [v6, e_dC, op_Add, w6]
            refine T.nx _ _ ⟨⟨rfl, k + 1, _, rfl, rfl, by omega⟩, ?_⟩
            show F - ((k : Int) + 1).toNat < F - (k : Int).toNat
            omega
          · have ek : k = filled r := by omega
            rw [ix_tup (x := .non) (by rw [List.getElem?_map, ek, filled_stop r (by omega)]; rfl)]
            simp only [op_IsNN, isN_non]
            exact ⟨fun z => (by cases z), fun _ => fin (by omega)⟩
        · refine ⟨fun z => (by cases z), fun _ => fin ?_⟩
          have := filled_le r
          simp only [decide_eq_false_iff_not] at e
          omega
    rw [e_dSeq, e_dIf, e_dTest, e_dOp]
    simp only [v3, e_dC, op_Gt, decide_eq_true_eq, decide_eq_false_iff_not]
    refine ⟨fun e => ?_, fun e => ?_⟩
    · rw [e_dAsg, e_dOp]
      simp only [e_dCall, e_dCons, e_dNil, v1]
      refine i_law_read t ?_
      rw [e_dOp]
      simp only [v3, e_dC, op_Sub]
      obtain ⟨j, rfl⟩ : ∃ j, i = j + 1 := ⟨i - 1, by omega⟩
      have hj : j < (readRows none c).length := by rw [readRows_len]; omega
      have ej : (readRows none c)[j]? = some (readRows none c)[j] := List.getElem?_eq_getElem hj
      rw [show (((j + 1 : Nat) : Int) - 1) = (j : Nat) by omega, ix_lst (x := rowD (readRows none c)[j]) (by rw [List.getElem?_map, ej]; rfl)]
      simp only [w5]
      refine main (some (readRows none c)[j]) ?_
      rw [readRows_take, List.getLast?_eq_getElem?, List.length_take, Nat.min_eq_left (by omega), List.getElem?_take, if_pos (by omega)]
      exact ej.symm
    · rw [e_dNext]
      have : i = 0 := by omega
      subst this
      exact main none rfl

end DL

namespace DL
open PySem L2
local macro_rules | `(tactic| walk_at "ev") => `(tactic| try simp (disch := (first | assumption | exact dupd_same | (refine (dupd_ne ?_).trans ?_; (first | assumption | (apply Ne.symm; assumption)); first | assumption | exact dupd_same | (refine (dupd_ne ?_).trans ?_; (first | assumption | (apply Ne.symm; assumption)); first | assumption | exact dupd_same)))) only [v0, v1, v2, v3, v4, v5, v6, v7, v8, v9, v10, v11, v12, v13, v14, v15, v16, w0, w1, w2, w3, w4, w5, w6, w7, w8, w9, w10, w11, w12, w13, w14, w15, w16, e_dC, e_dOp, e_dUn, e_dTest, e_dAnd, e_dOr, e_dNot, e_dAndV, e_dOrV, e_dNotV, e_dIfE, e_dChain, e_dNil, e_dCons, e_dTup, e_dLst, e_dLstM, e_dCB, e_dBM, e_dFrz, e_dNoPart, e_dPart, e_dSl, e_dIsi, e_iSeqD, e_iRange1, e_iRange2, e_iEnumD, e_iZipD, e_dNext, e_dSeq, e_dAsg, e_dAsgT, e_dPar, e_dIf, e_dRet, e_dRetN, e_dDrop, e_dBrk, e_dCnt, e_dAug, e_dSetI, e_dFor, e_dWhile, e_dYes, e_dLc, e_dLcM, e_dCall, e_dCallK, e_dNeg, e_dRaise, op_Lt, op_Le, op_Gt, op_Ge, op_IsN, op_IsNN, op_Sub, op_Add, op_AddS, op_AddT, op_AddL, op_Mul, op_MulT, op_MulL, op_Mod, op_Fdiv, op_InS, op_NotInS, cb_lenT, cb_lenL, cb_lenS, cb_lenX, cb_all, cb_any, cb_tupleL, cb_tupleT, cb_max, cb_min, cb_abs, cb_int, cb_intB, cb_strI, me_joinL, me_joinT, me_split, ip_add, ip_sub, ip_mul, ip_div, ix_ref0, ix_ref1, ix_ref2, me_append, me_popAt, me_pop0, me_insert, me_clear, me_reverse, cb_lenR, cb_tupleR, me_joinR, vw_ref, dT_ref, pow_18, pow_38, pow_40, pow_41, pow_6, eq_str, ne_str, eq_int, ne_int, ix_tup0, ix_lst0, sl_from, sl_to, sl_fromL, sl_toL, vw_str, vw_int, vw_bl, vw_non, vw_dct, vw_tup, vw_lst, vw_scr, ty_str, ty_int, ty_bl, ty_non, ty_tup, ty_lst, ty_dct, it_str, it_tup, it_lst, bT_nm, isN_non, isN_str, isN_int, isN_bl, isN_tup, isN_lst, isN_dct, dT_str, dT_lst, en_rt, en_nx, en_ex, t_imp, f_imp, not_true_eq_false, not_false_eq_true, tf_eq, ft_eq, dwipe, true_and, and_true, Bool.not_true, Bool.not_false, Bool.not_eq_true', Bool.not_eq_false', decide_eq_true_eq, decide_eq_false_iff_not, nq_NoneType, is_NoneType_int, is_NoneType_bool, is_NoneType_str, is_NoneType_tuple, is_NoneType_list, is_NoneType_dict, nq_bool, is_bool_int, is_bool_bool, is_bool_str, is_bool_tuple, is_bool_list, is_bool_dict, nq_int, is_int_int, is_int_bool, is_int_str, is_int_tuple, is_int_list, is_int_dict, nq_str, is_str_int, is_str_bool, is_str_str, is_str_tuple, is_str_list, is_str_dict, nq_tuple, is_tuple_int, is_tuple_bool, is_tuple_str, is_tuple_tuple, is_tuple_list, is_tuple_dict, nq_list, is_list_int, is_list_bool, is_list_str, is_list_tuple, is_list_list, is_list_dict, nq_dict, is_dict_int, is_dict_bool, is_dict_str, is_dict_tuple, is_dict_list, is_dict_dict])
/-! R19: laws of sheets, what they share -/
def okScr (ns : List Int) : Prop := ∀ n ∈ ns, Builtin.Int.intBits n ≤ 1048576
theorem i_law_urn {ns : List Int} {k : Int} {h : DH} {Q : DK} {X : DX} (k0 : 0 ≤ k) (k1 : k < 1000) (hb : okScr ns) (q : ∀ p o, h p = none → UrnO o 0 → Q (.ref p) (dupd h p o)) : sp_law_urn [.scr ns, .int k] h Q X := ⟨k0, k1, hb, q⟩
theorem Urn.keep {h h' : DH} {a : Addr} {n : Nat} (u : Urn h a n) (k : ∀ b o, h b = some o → h' b = some o) : Urn h' a n := by
  obtain ⟨o, e, u⟩ := u
  exact ⟨o, k _ _ e, u⟩
theorem Urn.off {h : DH} {a b : Addr} {o : DO} {n : Nat} (u : Urn h a n) (ne : b ≠ a) : Urn (dupd h b o) a n := by
  obtain ⟨o, e, u⟩ := u
  exact ⟨o, (dupd_ne (Ne.symm ne)).trans e, u⟩
/-- a new sheet -/
structure NewS (C : Addr) (h h2 : DH) (s p : Addr) (t : List Row) : Prop where
  at_ : SheetAt C h2 s p t (readRows none t) []
  keep : ∀ b o, h b = some o → h2 b = some o
  sn : h s = none
  pn : h p = none
theorem new_sheet {C : Addr} {h : DH} {s p : Addr} {t : List Row} {x : DO} (hs : h s = none) (hp : dupd h s x p = none) : NewS C h (dupd (dupd (dupd h s x) s (sheetO C p t (readRows none t))) p (.lst [])) s p t := by
  have n1 : p ≠ s := fun e => by rw [e, dupd_same] at hp; cases hp
  have hp2 : h p = none := by rw [dupd_ne n1] at hp; exact hp
  refine ⟨⟨(dupd_ne (Ne.symm n1)).trans dupd_same, dupd_same⟩, fun b o e => ?_, hs, hp2⟩
  rw [dupd_ne (fun z => by rw [z, hp2] at e; cases e), dupd_ne (fun z => by rw [z, hs] at e; cases e), dupd_ne (fun z => by rw [z, hs] at e; cases e)]
  exact e
theorem i_make {C : Addr} {E : Er} {t : List Row} {h : DH} {Q : Addr → DH → Prop} {X : DX} (p : PageP t) (z : ∀ s p h2, NewS C h h2 s p t → Q s h2) : ∀ a, h a = none → sp_Sheet_init C E (.ref a :: [tabD t]) (dupd h a (.ins C [])) (fun v h2 => v = .non ∧ Q a h2) X :=
  fun s hs => i_Sheet_init dupd_same p fun q hq => ⟨rfl, z s q _ (new_sheet hs hq)⟩
theorem reprV_row {r : Row} {h : DH} {Q : DK} (hl : r.length ≤ 6) (hs : shortR r) (ho : strOkR r) (q : Q (.str (shownD (rowD r))) h) : dReprV [rowD r] h Q := by
  show rn 12 (dv 3 h (rowD r)) = true ∧ wt (dv 3 h (rowD r)) ≤ 16000000 ∧ Q (.str (shownD (dv 3 h (rowD r)))) h
  rw [dv_id 3 h _ (nr_row (by omega) hs)]
  exact ⟨rn_row ho 11, Nat.le_trans (wt_row hl hs) (by decide), q⟩
/-- an urn and a sheet beside it -/
structure W1 (C : Addr) (h : DH) (a s p : Addr) (n : Nat) (cells full : List Row) (past : List D) (w : Nat) : Prop where
  urn : Urn h a n
  sh : SheetAt C h s p cells full past
  as_ : a ≠ s
  ap : a ≠ p
  tc : Tab cells w
  tf : Tab full w
  w1 : 1 ≤ w
  c1 : 1 ≤ cells.length
  lf : full.length = cells.length
theorem W1.draw {C : Addr} {h : DH} {a s p : Addr} {n m : Nat} {cells full : List Row} {past : List D} {w : Nat} {x : DO} (q : W1 C h a s p n cells full past w) (u : UrnO x m) : W1 C (dupd h a x) a s p m cells full past w :=
  { q with urn := Urn.upd u, sh := q.sh.upd q.as_ q.ap }
theorem W1.mono {C : Addr} {h : DH} {a s p : Addr} {n m : Nat} {cells full : List Row} {past : List D} {w : Nat} (q : W1 C h a s p n cells full past w) (l : n ≤ m) : W1 C h a s p m cells full past w := { q with urn := q.urn.mono l }
theorem W1.changed {C : Addr} {h : DH} {a s p : Addr} {n : Nat} {cells full : List Row} {past : List D} {w : Nat} (q : W1 C h a s p n cells full past w) {c2 f2 : List Row} (t : Tab c2 w) (t2 : Tab f2 w) (c1 : 1 ≤ c2.length) (l : f2.length = c2.length) :
    W1 C (changed C s p h cells full past c2 f2) a s p n c2 f2 (past ++ [stD cells full]) w :=
  { q with urn := (q.urn.off (Ne.symm q.ap)).off (Ne.symm q.as_), sh := ⟨dupd_same, (dupd_ne q.sh.ne).trans dupd_same⟩, tc := t, tf := t2, c1 := c1, lf := l }
theorem W1.new {C : Addr} {h h2 : DH} {a s p : Addr} {n : Nat} {t : List Row} {w : Nat} (u : Urn h a n) (k : NewS C h h2 s p t) (tb : Tab t w) (w1 : 1 ≤ w) (c1 : 1 ≤ t.length) : W1 C h2 a s p n t (readRows none t) [] w := by
  obtain ⟨o, e, uo⟩ := u
  exact { urn := ⟨o, k.keep _ _ e, uo⟩, sh := k.at_, as_ := fun z => by rw [← z] at k; have := k.sn; rw [e] at this; cases this
          ap := fun z => by rw [← z] at k; have := k.pn; rw [e] at this; cases this
          tc := tb, tf := tb.read, w1 := w1, c1 := c1, lf := readRows_len t none }

end DL

namespace DL
open PySem L2
local macro_rules | `(tactic| walk_at "ev") => `(tactic| try simp (disch := (first | assumption | exact dupd_same | (refine (dupd_ne ?_).trans ?_; (first | assumption | (apply Ne.symm; assumption)); first | assumption | exact dupd_same | (refine (dupd_ne ?_).trans ?_; (first | assumption | (apply Ne.symm; assumption)); first | assumption | exact dupd_same)))) only [v0, v1, v2, v3, v4, v5, v6, v7, v8, v9, v10, v11, v12, v13, v14, v15, v16, w0, w1, w2, w3, w4, w5, w6, w7, w8, w9, w10, w11, w12, w13, w14, w15, w16, e_dC, e_dOp, e_dUn, e_dTest, e_dAnd, e_dOr, e_dNot, e_dAndV, e_dOrV, e_dNotV, e_dIfE, e_dChain, e_dNil, e_dCons, e_dTup, e_dLst, e_dLstM, e_dCB, e_dBM, e_dFrz, e_dNoPart, e_dPart, e_dSl, e_dIsi, e_iSeqD, e_iRange1, e_iRange2, e_iEnumD, e_iZipD, e_dNext, e_dSeq, e_dAsg, e_dAsgT, e_dPar, e_dIf, e_dRet, e_dRetN, e_dDrop, e_dBrk, e_dCnt, e_dAug, e_dSetI, e_dFor, e_dWhile, e_dYes, e_dLc, e_dLcM, e_dCall, e_dCallK, e_dNeg, e_dRaise, op_Lt, op_Le, op_Gt, op_Ge, op_IsN, op_IsNN, op_Sub, op_Add, op_AddS, op_AddT, op_AddL, op_Mul, op_MulT, op_MulL, op_Mod, op_Fdiv, op_InS, op_NotInS, cb_lenT, cb_lenL, cb_lenS, cb_lenX, cb_all, cb_any, cb_tupleL, cb_tupleT, cb_max, cb_min, cb_abs, cb_int, cb_intB, cb_strI, me_joinL, me_joinT, me_split, ip_add, ip_sub, ip_mul, ip_div, ix_ref0, ix_ref1, ix_ref2, me_append, me_popAt, me_pop0, me_insert, me_clear, me_reverse, cb_lenR, cb_tupleR, me_joinR, vw_ref, dT_ref, pow_18, pow_38, pow_40, pow_41, pow_6, eq_str, ne_str, eq_int, ne_int, ix_tup0, ix_lst0, sl_from, sl_to, sl_fromL, sl_toL, vw_str, vw_int, vw_bl, vw_non, vw_dct, vw_tup, vw_lst, vw_scr, ty_str, ty_int, ty_bl, ty_non, ty_tup, ty_lst, ty_dct, it_str, it_tup, it_lst, bT_nm, isN_non, isN_str, isN_int, isN_bl, isN_tup, isN_lst, isN_dct, dT_str, dT_lst, en_rt, en_nx, en_ex, t_imp, f_imp, not_true_eq_false, not_false_eq_true, tf_eq, ft_eq, dwipe, true_and, and_true, Bool.not_true, Bool.not_false, Bool.not_eq_true', Bool.not_eq_false', decide_eq_true_eq, decide_eq_false_iff_not, nq_NoneType, is_NoneType_int, is_NoneType_bool, is_NoneType_str, is_NoneType_tuple, is_NoneType_list, is_NoneType_dict, nq_bool, is_bool_int, is_bool_bool, is_bool_str, is_bool_tuple, is_bool_list, is_bool_dict, nq_int, is_int_int, is_int_bool, is_int_str, is_int_tuple, is_int_list, is_int_dict, nq_str, is_str_int, is_str_bool, is_str_str, is_str_tuple, is_str_list, is_str_dict, nq_tuple, is_tuple_int, is_tuple_bool, is_tuple_str, is_tuple_tuple, is_tuple_list, is_tuple_dict, nq_list, is_list_int, is_list_bool, is_list_str, is_list_tuple, is_list_list, is_list_dict, nq_dict, is_dict_int, is_dict_bool, is_dict_str, is_dict_tuple, is_dict_list, is_dict_dict])
/-! R20: cells written, adopted, repaired -/
def setL {α : Type} (xs : List α) (i : Nat) (y : α) : List α := xs.take i ++ y :: xs.drop (i + 1)
theorem setL_len {α : Type} {xs : List α} {i : Nat} {y : α} (h : i < xs.length) : (setL xs i y).length = xs.length := by
  unfold setL
  simp only [List.length_append, List.length_take, List.length_drop, List.length_cons]
  omega
theorem setL_mem {α : Type} {xs : List α} {i : Nat} {y : α} : ∀ x ∈ setL xs i y, x = y ∨ x ∈ xs := fun x hx => by
  rcases List.mem_append.mp hx with z | z
  · exact .inr (List.mem_of_mem_take z)
  · rcases List.mem_cons.mp z with z | z
    · exact .inl z
    · exact .inr (List.mem_of_mem_drop z)
theorem setL_map {α β : Type} (g : α → β) (xs : List α) (i : Nat) (y : α) : (xs.map g).take i ++ g y :: (xs.map g).drop (i + 1) = (setL xs i y).map g := by
  unfold setL
  simp only [List.map_append, List.map_take, List.map_drop, List.map_cons]
theorem Tab.set {t : List Row} {w i : Nat} {y : Row} (q : Tab t w) (h : i < t.length) (hy : y.length = w ∧ ∀ c ∈ y, c = none ∨ okC c = true) : Tab (setL t i y) w :=
  ⟨by rw [setL_len h]; exact q.le, q.w6, fun r hr => by
    rcases setL_mem r hr with z | z
    · rw [z]; exact hy
    · exact q.all r z⟩
theorem blanks_le (r : Row) : blanks r ≤ r.length := by rw [← lead_row]; have := lead_le (r.map cD); rw [List.length_map] at this; exact this
theorem wb_len {f : Row} {k : Nat} (h : k ≤ f.length) : (withBlanks f k).length = f.length := by
  unfold withBlanks
  rw [List.length_append, List.length_replicate, List.length_drop]
  omega
theorem wb_mem {f : Row} {k : Nat} (h : ∀ c ∈ f, c = none ∨ okC c = true) : ∀ c ∈ withBlanks f k, c = none ∨ okC c = true := fun c hc => by
  rcases List.mem_append.mp hc with z | z
  · exact .inl (List.eq_of_mem_replicate z)
  · exact h c (List.mem_of_mem_drop z)
theorem wb_pr {f : Row} (k : Nat) (h : full f) : pr (withBlanks f k) := pr_rep k (full_drop h k)
theorem wb_blanks {f : Row} (k : Nat) (h : full f) : blanks (withBlanks f k) = k := blanks_rep k (full_drop h k)
/-- rows that are printed rows; full rows -/
def PrT (t : List Row) : Prop := ∀ r ∈ t, pr r
def FullT (t : List Row) : Prop := ∀ r ∈ t, full r
theorem PrT.set {t : List Row} {i : Nat} {y : Row} (q : PrT t) (hy : pr y) : PrT (setL t i y) := fun r hr => (setL_mem r hr).elim (fun z => by rw [z]; exact hy) (q r)
theorem PrT.rm {t : List Row} {i : Nat} (q : PrT t) : PrT (rmL t i) := fun r hr => q r (rmL_mem r hr)
theorem PrT.ins {t : List Row} {i : Nat} {y : Row} (q : PrT t) (hy : pr y) : PrT (insL t i y) := fun r hr => (insL_mem r hr).elim (fun z => by rw [z]; exact hy) (q r)
theorem PrT.moved {t : List Row} {f l p : Nat} (q : PrT t) : PrT (movedL t f l p) := fun r hr => q r (movedL_mem r hr)
theorem FullT.rm {t : List Row} {i : Nat} (q : FullT t) : FullT (rmL t i) := fun r hr => q r (rmL_mem r hr)
theorem FullT.ins {t : List Row} {i : Nat} {y : Row} (q : FullT t) (hy : full y) : FullT (insL t i y) := fun r hr => (insL_mem r hr).elim (fun z => by rw [z]; exact hy) (q r)
theorem FullT.moved {t : List Row} {f l p : Nat} (q : FullT t) : FullT (movedL t f l p) := fun r hr => q r (movedL_mem r hr)
theorem FullT.pr {t : List Row} (q : FullT t) : PrT t := fun r hr => pr_full (q r hr)
theorem full_read {ab : Option Row} {r : Row} (hr : pr r) (h0 : ab = none → blanks r = 0) (ha : ∀ a, ab = some a → full a) : full (readRow ab r) := by
  unfold readRow
  cases ab with
  | none => rw [h0 rfl]; intro c hc; have := hr; unfold pr at this; rw [h0 rfl] at this; exact this c hc
  | some a => exact full_app (full_take (ha a rfl) _) hr
theorem full_reads : ∀ {t : List Row} {ab : Option Row}, PrT t → (ab = none → ∀ r, t[0]? = some r → blanks r = 0) → (∀ a, ab = some a → full a) → FullT (readRows ab t)
  | r :: t, ab, ht, h0, ha, x, hx => by
    have f := full_read (ht r (by simp)) (fun e => h0 e r rfl) ha
    rcases List.mem_cons.mp hx with rfl | hx
    · exact f
    · exact full_reads (fun r hr => ht r (by simp [hr])) (fun e => by cases e) (fun a e => by cases e; exact f) x hx
theorem PageP.prT {t : List Row} (p : PageP t) : PrT t := fun r hr => by obtain ⟨w, _, _, hw⟩ := p.w; exact (hw r hr).2
theorem PageP.fullT {t : List Row} (p : PageP t) : FullT (readRows none t) := full_reads p.prT (fun _ r e => blanks_full (p.first r e)) (fun _ e => by cases e)
/-- where no row means nothing in a cell, all are full -/
theorem full_of_no {t : List Row} {w : Nat} (p : Tab t w) (h : ∀ r ∈ t, none ∉ r) : FullT t := fun r hr c hc => by
  rcases (p.all r hr).2 c hc with z | z
  · rw [z] at hc; exact absurd hc (h r hr)
  · exact z
def countN (r : Row) : Nat := (r.filter Option.isNone).length
theorem countN_full : ∀ {r : Row}, full r → countN r = 0
  | [], _ => rfl
  | none :: r, h => by cases h none (by simp)
  | some s :: r, h => by
    show (r.filter Option.isNone).length = 0
    exact countN_full (r := r) fun c hc => h c (by simp [hc])
theorem countN_pr : ∀ {r : Row}, pr r → countN r = blanks r
  | [], _ => rfl
  | none :: r, h => by
    show (r.filter Option.isNone).length + 1 = blanks r + 1
    rw [show (r.filter Option.isNone).length = blanks r from countN_pr (r := r) h]
  | some s :: r, h => countN_full (r := some s :: r) h
/-- [cell for cell in own if cell is None] -/
theorem nones_go {i : Nat} {τ : DSt} {h : DH} {Q : List D → DH → Prop} {tt : DT} {te : DE} (r : Row)
    (ht : ∀ (c : Option Str) (Q' : Bool → DH → Prop), Q' c.isNone h → tt (τ.set i (some (cD c))) h Q' noX) (he : ∀ (c : Option Str) (Q' : DK), Q' (cD c) h → te (τ.set i (some (cD c))) h Q' noX)
    (q : ∀ ys, ys.length = countN r → Q ys h) : lcGo (.nm i) tt te τ (r.map cD) h Q :=
  lc_fil cD cD Option.isNone r (fun c _ => ⟨_, rfl, fun Q' q' => ht c Q' q', fun _ Q' q' => he c Q' q'⟩) (q _ (by rw [List.length_map]; rfl))
def sp_Sheet_write (C : Addr) (Ec Er : DL.Er) : DSp := fun ds h Q X => match ds with
  | [.ref a, d, e] => ∃ p c fu past w, SheetAt C h a p c fu past ∧ Tab c w ∧ Tab fu w ∧ fu.length = c.length ∧ past.length ≤ 1000000 ∧ nr d = true ∧ nr e = true ∧
      (∀ (i k : Int) (r f : Row), d = .int i → e = .int k → 0 ≤ i → i < c.length → c[i.toNat]? = some r → fu[i.toNat]? = some f → 0 ≤ k → k ≤ blanks r → Q .non (changed C a p h c fu past (setL c i.toNat (withBlanks f k.toNat)) fu)) ∧
      (isIntD 0 (some ((c.length : Int) - 1)) d = false → Er.er .non X h) ∧
      (∀ (i : Int) (r : Row), d = .int i → 0 ≤ i → i < c.length → c[i.toNat]? = some r → isIntD 0 (some ((blanks r : Nat) : Int)) e = false → Ec.er .non X h)
  | _ => False
theorem i_Sheet_write {C a p : Addr} {Ec Er : DL.Er} {c fu : List Row} {past : List D} {w : Nat} {i k : Int} {r f : Row} {h : DH} {Q : DK} {X : DX} (s : SheetAt C h a p c fu past) (t : Tab c w) (t2 : Tab fu w) (hl : fu.length = c.length) (hp : past.length ≤ 1000000)
    (i0 : 0 ≤ i) (i1 : i < c.length) (er : c[i.toNat]? = some r) (ef : fu[i.toNat]? = some f) (k0 : 0 ≤ k) (k1 : k ≤ blanks r) (z : Q .non (changed C a p h c fu past (setL c i.toNat (withBlanks f k.toNat)) fu)) : sp_Sheet_write C Ec Er [.ref a, .int i, .int k] h Q X :=
  ⟨p, c, fu, past, w, s, t, t2, hl, hp, rfl, rfl, (fun i' k' r' f' e1 e2 _ _ e3 e4 _ _ => by cases e1; cases e2; rw [er] at e3; cases e3; rw [ef] at e4; cases e4; exact z), (fun e => by rw [isInt_t i0 (by omega)] at e; cases e),
    (fun i' r' e1 _ _ e3 e => by cases e1; rw [er] at e3; cases e3; rw [isInt_t k0 k1] at e; cases e)⟩
def t_Sheet_write (C_Sheet : Addr) (E_InvalidCount : Er) (E_InvalidRow : Er) : DS :=
(dSeq (dAsgT (dFld C_Sheet "state" (dVar 0)) (.tp [(.nm 3), (.nm 4)]))
  (dSeq (dDrop (dCall (sp_require_row E_InvalidRow) (dCons (dCB dLen (dCons (dVar 3) dNil)) (dCons (dVar 1) dNil))))
  (dSeq (dIf (dNot (dTest (dCall sp_is_integer (dCons (dVar 2) (dCons (dC (.int 0)) (dCons (dCall sp_blanks_in (dCons (dOp dIx (dVar 3) (dVar 1)) dNil)) dNil)))))) (E_InvalidCount.tr none) dNext)
  (dDrop (dMeth C_Sheet "change" (sp_Sheet_change C_Sheet) (dVar 0) (dCons (dTup (dStar (dSl dSlice (dVar 3) dNoPart (dPart (dVar 1))) (dCons (dCall sp_with_blanks (dCons (dOp dIx (dVar 4) (dVar 1)) (dCons (dVar 2) dNil))) (dStar (dSl dSlice (dVar 3) (dPart (dOp dAdd (dVar 1) (dC (.int 1)))) dNoPart) dNil)))) (dCons (dVar 4) dNil)))))))
def n_Sheet_write : List Str := ["self", "row", "count", "cells", "full_rows"]
/- 0=self 1=row 2=count 3=cells 4=full_rows -/
theorem rd_Sheet_write (C : Addr) (Ec Er : DL.Er) (ds : List D) (h : DH) (Q : DK) (X : DX) (z : sp_Sheet_write C Ec Er ds h Q X) : t_Sheet_write C Ec Er (dEnd Q X) (dstart n_Sheet_write ds) h := by
  match ds, z with
  | [.ref a, d, e], ⟨p, c, fu, past, w, s, t, t2, hl, hp, n1, n2, z, zr, zc⟩ =>
    show t_Sheet_write C Ec Er (dEnd Q X) [some (.ref a), some d, some e, none, none] h
    unfold t_Sheet_write
    have err : ∀ {E : DL.Er} {D2 : DEnds} {τ : DSt} {h' : DH}, D2.ex = (dEnd Q X).ex → DSub h h' → E.er .non X h → E.tr none D2 τ h' := fun {E D2 τ h'} eD s' ee => E.ok _ _ _ _ (E.mono _ _ _ _ _ (fun C fs xe => by rw [eD]; exact ⟨h, s', xe⟩) ee)
    rw [e_dSeq, e_dAsgT]
    refine dFld_of 0 rfl s.at_ lk_state ?_
    rw [show stD c fu = .tup [.tup (c.map rowD), .tup (fu.map rowD)] from rfl]
    simp only [bT_two, w3, w4]
    rw [e_dSeq, e_dDrop]
    simp only [e_dCall, e_dCons, e_dNil, e_dCB, v1, v3, cb_lenT, List.length_map]
    refine ⟨n1, fun e1 => ?_, fun e1 => Er.mono _ _ _ _ _ (fun C fs xe => ⟨h, DSub.refl h, xe⟩) (zr e1)⟩
    obtain ⟨i, rfl, i0, i1⟩ := isInt_of e1
    obtain ⟨i, rfl⟩ := Int.eq_ofNat_of_zero_le i0
    have hi : i < c.length := by omega
    have er : c[i]? = some c[i] := List.getElem?_eq_getElem hi
    have ef : fu[i]? = some fu[i] := List.getElem?_eq_getElem (by omega)
    have hf := t2.all _ (List.mem_of_getElem? ef)
    have hr := t.all _ (List.mem_of_getElem? er)
    generalize c[i] = r at *
    generalize fu[i] = f at *
    have w6 := t.w6
    have bl := blanks_le r
    rw [e_dSeq, e_dIf, e_dNot, e_dTest]
    simp only [e_dCall, e_dCons, e_dNil, e_dOp, e_dC, v1, v2, v3]
    rw [ix_tup (x := rowD r) (by rw [List.getElem?_map, er]; rfl)]
    refine i_blanks_in ?_
    refine i_is_integer (hi := some ((blanks r : Nat) : Int)) n2 ?_
    dsimp only
    refine ⟨fun e2 => err rfl (DSub.refl h) (zc i r rfl i0 (by omega) er (by simpa using e2)), fun e2 => ?_⟩
    obtain ⟨k, rfl, k0, k1⟩ := isInt_of (show isIntD 0 (some ((blanks r : Nat) : Int)) e = true by simpa using e2)
    rw [e_dNext]
    dsimp only
    rw [e_dDrop]
    unfold dMeth
    simp only [v0, v1, v2, v3, v4, e_dCons, e_dNil, e_dTup, e_dStar, e_dSl, e_dPart, e_dNoPart, sl_to, e_dOp, e_dC, op_Add, e_dCall]
    refine ⟨a, _, rfl, s.at_, lk_no, ?_⟩
    refine ⟨_, .inl rfl, ?_⟩
    rw [ix_tup (x := rowD f) (by rw [List.getElem?_map, ef]; rfl)]
    refine i_with_blanks k0 (by omega) (by omega) ?_
    rw [show (some ((i : Int) + 1)) = some ((i + 1 : Nat) : Int) from rfl]
    simp only [sl_from]
    refine ⟨_, .inl rfl, ?_⟩
    have sz : ∀ n, n ≤ 200 → n ≤ sizeLine := fun n h => le_line h
    have h60 := t.le
    refine ⟨sz _ ?_, ?_⟩
    · simp only [List.length_append, List.length_cons, List.length_take, List.length_drop, List.length_map, List.length_nil]; omega
    simp only [List.append_nil, setL_map]
    exact i_Sheet_change (c2 := setL c i (withBlanks f k.toNat)) (f2 := fu) s hp (dend0 (z i k r f rfl rfl i0 (by omega) er ef k0 k1))
def sp_Sheet_adopt (C : Addr) (El : DL.Er) : DSp := fun ds h Q X => match ds with
  | [.ref a] => ∃ p c fu past w, SheetAt C h a p c fu past ∧ Tab c w ∧ Tab fu w ∧ fu.length = c.length ∧ past.length ≤ 1000000 ∧
      ((∀ r ∈ readRows none c, none ∉ r) → ∀ q, changed C a p h c fu past c (readRows none c) q = none → Q (.ref q) (dupd (changed C a p h c fu past c (readRows none c)) q (.lst (intsD (wrongL (readRows none c) fu))))) ∧
      (¬ (∀ r ∈ readRows none c, none ∉ r) → El.er .non X h)
  | _ => False
theorem i_Sheet_adopt {C a p : Addr} {El : DL.Er} {c fu : List Row} {past : List D} {w : Nat} {h : DH} {Q : DK} {X : DX} (s : SheetAt C h a p c fu past) (t : Tab c w) (t2 : Tab fu w) (hl : fu.length = c.length) (hp : past.length ≤ 1000000) (hn : ∀ r ∈ readRows none c, none ∉ r)
    (z : ∀ q, changed C a p h c fu past c (readRows none c) q = none → Q (.ref q) (dupd (changed C a p h c fu past c (readRows none c)) q (.lst (intsD (wrongL (readRows none c) fu))))) : sp_Sheet_adopt C El [.ref a] h Q X :=
  ⟨p, c, fu, past, w, s, t, t2, hl, hp, fun _ => z, fun e => absurd hn e⟩
def t_Sheet_adopt (C_Sheet : Addr) (E_Loose : Er) : DS :=
(dSeq (dAsgT (dFld C_Sheet "state" (dVar 0)) (.tp [(.nm 1), (.nm 2)]))
  (dSeq (dAsg (dFrz (dCall sp_read_rows (dCons (dVar 1) dNil))) 3)
  (dSeq (dIf (dTest (dCB dAny (dCons (dLc (iSeqD (dVar 3)) (.nm 4) dYes (dOp dIn (dC .non) (dVar 4)) [4]) dNil))) (E_Loose.tr none) dNext)
  (dSeq (dDrop (dMeth C_Sheet "change" (sp_Sheet_change C_Sheet) (dVar 0) (dCons (dVar 1) (dCons (dVar 3) dNil))))
  (dRet (dLcM (iEnumD (dVar 3)) (.tp [(.nm 4), (.nm 5)]) (dTest (dOp dNe (dVar 5) (dOp dIx (dVar 2) (dVar 4)))) (dVar 4) [4, 5]))))))
def n_Sheet_adopt : List Str := ["self", "cells", "full_rows", "found", "row", "read"]
/- 0=self 1=cells 2=full_rows 3=found 4=row 5=read -/
theorem rd_Sheet_adopt (C : Addr) (El : DL.Er) (ds : List D) (h : DH) (Q : DK) (X : DX) (z : sp_Sheet_adopt C El ds h Q X) : t_Sheet_adopt C El (dEnd Q X) (dstart n_Sheet_adopt ds) h := by
  match ds, z with
  | [.ref a], ⟨p, c, fu, past, w, s, t, t2, hl, hp, z, zl⟩ =>
    show t_Sheet_adopt C El (dEnd Q X) [some (.ref a), none, none, none, none, none] h
    unfold t_Sheet_adopt
    have err : ∀ {E : DL.Er} {D2 : DEnds} {τ : DSt} {h' : DH}, D2.ex = (dEnd Q X).ex → DSub h h' → E.er .non X h → E.tr none D2 τ h' := fun {E D2 τ h'} eD s' ee => E.ok _ _ _ _ (E.mono _ _ _ _ _ (fun C fs xe => by rw [eD]; exact ⟨h, s', xe⟩) ee)
    have h60 := t.le
    have rl : (readRows none c).length = c.length := readRows_len c none
    rw [e_dSeq, e_dAsgT]
    refine dFld_of 0 rfl s.at_ lk_state ?_
    rw [show stD c fu = .tup [tabD c, .tup (fu.map rowD)] from rfl]
    simp only [bT_two, w1, w2]
    rw [e_dSeq, e_dAsg, e_dFrz]
    simp only [e_dCall, e_dCons, e_dNil, v1]
    refine i_read_rows t.wid fun q hq => ?_
    simp only [dupd_same, ddel_dupd hq, w3]
    rw [e_dSeq, e_dIf, e_dTest]
    simp only [e_dCB, e_dCons, e_dNil, e_dLc, e_iSeqD, v3, it_lst]
    refine ⟨by rw [List.length_map]; omega, ?_⟩
    refine lc_map rowD (fun r => .bl (decide (none ∈ r))) _ (fun r hr Q' q' => ?_) ?_
    · simp only [dwipe, w4, e_dOp, e_dC, v4]
      rw [show rowD r = .tup (r.map cD) from rfl, in_none (t.read.strOk r hr)]
      exact q'
    rw [cb_any, show ((readRows none c).map fun r => D.bl (decide (none ∈ r))) = ((readRows none c).map fun r => decide (none ∈ r)).map D.bl by rw [List.map_map]; rfl, bools_map]
    dsimp only
    have any_iff : (((readRows none c).map fun r => decide (none ∈ r)).any id = true) ↔ ¬ ∀ r ∈ readRows none c, none ∉ r := by
      simp only [List.any_map, List.any_eq_true, Function.comp, id, decide_eq_true_eq, Classical.not_forall, not_imp, Classical.not_not, exists_prop]
    refine ⟨fun e => err rfl (DSub.refl h) (zl (any_iff.mp e)), fun e => ?_⟩
    have hn : ∀ r ∈ readRows none c, none ∉ r := Classical.byContradiction fun z => by rw [any_iff.mpr z] at e; cases e
    rw [e_dNext]
    dsimp only
    rw [e_dSeq, e_dDrop]
    unfold dMeth
    simp only [v0, v1, v3, e_dCons, e_dNil]
    refine ⟨a, _, rfl, s.at_, lk_no, ?_⟩
    refine i_Sheet_changeG s hp .tup .lst ?_
    rw [e_dRet, e_dLcM, e_iEnumD]
    simp only [v3, it_lst]
    refine ⟨by unfold enumD; simp only [List.length_map, List.length_zip, List.length_range, Nat.min_self]; omega, ?_⟩
    refine wrong_go (readRows none c) fu (by omega) t.read.strOk t2.strOk (fun i r Q' hi hne q' => ?_) (fun i r Q' q' => ?_) ?_
    · have ef : fu[i]? = some fu[i] := List.getElem?_eq_getElem (by omega)
      simp only [dwipe, w4, w5, e_dTest, e_dOp, v2, v4, v5]
      refine Eq.mpr (ix_tup (x := rowD fu[i]) (by rw [List.getElem?_map, ef]; rfl)) ?_
      refine Eq.mpr (hne _ _ ef) ?_
      exact q' _ ef
    · simp only [dwipe, w4, w5, v4]
      exact q'
    · exact fun q2 hq2 => dend0 (z hn q2 hq2)
/-! how much two rows share -/
theorem shared_at : ∀ (r q : Row) (k : Nat), k < shared r q → r[k]? = q[k]? ∧ k < r.length ∧ k < q.length
  | [], _, k, h => absurd h (Nat.not_lt_zero _)
  | _ :: _, [], k, h => absurd h (Nat.not_lt_zero _)
  | x :: xs, y :: ys, k, h => by
    unfold shared at h
    split at h
    · rename_i e
      cases k with
      | zero => subst e; exact ⟨rfl, by simp, by simp⟩
      | succ k =>
        obtain ⟨a, b, c⟩ := shared_at xs ys k (by omega)
        exact ⟨by simpa using a, by simpa using b, by simpa using c⟩
    · omega
theorem shared_stop : ∀ (r q : Row), shared r q < r.length → shared r q < q.length → r[shared r q]? ≠ q[shared r q]?
  | [], _, h, _ => absurd h (Nat.not_lt_zero _)
  | _ :: _, [], _, h => absurd h (Nat.not_lt_zero _)
  | x :: xs, y :: ys, h1, h2 => by
    unfold shared at h1 h2 ⊢
    split at h1
    · rename_i e
      rw [if_pos e] at h2
      rw [if_pos e]
      simp only [List.getElem?_cons_succ]
      exact shared_stop xs ys (by simpa using h1) (by simpa using h2)
    · rename_i e
      rw [if_neg e]
      simpa using e
def sp_shared_by : DSp := fun ds h Q _ => match ds with
  | [d, e] => ∃ r q, d = rowD r ∧ e = rowD q ∧ strOkR r ∧ strOkR q ∧ Q (.int (shared r q : Nat)) h
  | _ => False
theorem i_shared_by {r q : Row} {h : DH} {Q : DK} {X : DX} (hr : strOkR r) (hq : strOkR q) (z : Q (.int (shared r q : Nat)) h) : sp_shared_by [rowD r, rowD q] h Q X := ⟨r, q, rfl, rfl, hr, hq, z⟩
def t_shared_by : DS :=
(dSeq (dAsg (dC (.int 0)) 2)
  (dSeq (dWhile (dAnd (dTest (dOp dLt (dVar 2) (dCB dLen (dCons (dVar 0) dNil)))) (dAnd (dTest (dOp dLt (dVar 2) (dCB dLen (dCons (dVar 1) dNil)))) (dTest (dOp dEq (dOp dIx (dVar 0) (dVar 2)) (dOp dIx (dVar 1) (dVar 2)))))) (dAsg (dOp dAdd (dVar 2) (dC (.int 1))) 2))
  (dRet (dVar 2))))
def n_shared_by : List Str := ["row", "other", "found"]
/- 0=row 1=other 2=found -/
theorem rd_shared_by (ds : List D) (h : DH) (Q : DK) (X : DX) (z : sp_shared_by ds h Q X) : t_shared_by (dEnd Q X) (dstart n_shared_by ds) h := by
  match ds, z with
  | [_, _], ⟨r, q, rfl, rfl, hr, hq, z⟩ =>
    show t_shared_by (dEnd Q X) [some (.tup (r.map cD)), some (.tup (q.map cD)), none] h
    unfold t_shared_by
    rw [e_dSeq, e_dAsg, e_dC]
    simp only [w2]
    rw [e_dSeq]
    refine while_ind (fun τ h' => h' = h ∧ ∃ k : Nat, τ = [some (.tup (r.map cD)), some (.tup (q.map cD)), some (.int k)] ∧ k ≤ shared r q) (fun τ _ => match τ with | [_, _, some (.int k)] => shared r q - k.toNat | _ => 0) ⟨rfl, 0, rfl, Nat.zero_le _⟩ ?_
    rintro τ h' ⟨rfl, k, rfl, hk⟩ D' T
    have l1 := shared_le r q
    have l2 := shared_le2 r q
    have stop : k = shared r q → ∃ h2, DSub h2 h' ∧ Q (.int (k : Nat)) h2 := fun e => by subst e; exact dend0 z
    rw [e_dAnd, e_dTest, e_dOp]
    simp only [v0, v1, v2, e_dCB, e_dCons, e_dNil, cb_lenT, List.length_map, op_Lt, e_dRet, decide_eq_true_eq, decide_eq_false_iff_not]
    refine ⟨fun e1 => ?_, fun e1 => ⟨fun z => (by cases z), fun _ => stop (by omega)⟩⟩
    rw [e_dAnd, e_dTest, e_dOp]
    simp only [v0, v1, v2, e_dCB, e_dCons, e_dNil, cb_lenT, List.length_map, op_Lt, e_dRet, decide_eq_true_eq, decide_eq_false_iff_not]
    refine ⟨fun e2 => ?_, fun e2 => ⟨fun z => (by cases z), fun _ => stop (by omega)⟩⟩
    have k1 : k < r.length := by omega
    have k2 : k < q.length := by omega
    have er : r[k]? = some r[k] := List.getElem?_eq_getElem k1
    have eq : q[k]? = some q[k] := List.getElem?_eq_getElem k2
    have or_ := hr _ (List.mem_of_getElem? er)
    have oq := hq _ (List.mem_of_getElem? eq)
    rw [e_dTest, e_dOp, e_dOp]
    simp only [v0, v2]
    rw [ix_tup (x := cD r[k]) (by rw [List.getElem?_map, er]; rfl)]
    rw [e_dOp]
    simp only [v1, v2]
    rw [ix_tup (x := cD q[k]) (by rw [List.getElem?_map, eq]; rfl), eq_cD or_ oq]
    simp only [decide_eq_true_eq, decide_eq_false_iff_not]
    refine ⟨fun e3 => ?_, fun e3 => stop ?_⟩
    · have hk2 : k < shared r q := by
        rcases Nat.lt_or_ge k (shared r q) with l | l
        · exact l
        · have ek : k = shared r q := by omega
          exact absurd (by rw [← ek, er, eq, e3]) (shared_stop r q (by omega) (by omega))
      rw [e_dAsg, e_dOp]
      simp only [v2, e_dC, op_Add, w2]
      refine T.nx _ _ ⟨⟨rfl, k + 1, rfl, hk2⟩, ?_⟩
      show shared r q - ((k : Int) + 1).toNat < shared r q - (k : Int).toNat
      omega
    · rcases Nat.lt_or_ge k (shared r q) with l | l
      · obtain ⟨a, _, _⟩ := shared_at r q k l
        rw [er, eq] at a
        exact absurd (Option.some.inj a) e3
      · omega
/-! repaired -/
def leftAt (c fu : List Row) (i : Nat) : Nat := min (blanks (c.getD i [])) (if i = 0 then 0 else shared (fu.getD i []) (fu.getD (i - 1) []))
def repL (c fu : List Row) : List Row := (List.range fu.length).map fun i => withBlanks (fu.getD i []) (leftAt c fu i)
def repN (c fu : List Row) : Nat := ((List.range fu.length).map fun i => blanks (c.getD i []) - leftAt c fu i).sum
theorem leftAt_le (c fu : List Row) (i : Nat) : leftAt c fu i ≤ blanks (c.getD i []) := Nat.min_le_left _ _
theorem leftAt_le2 (c fu : List Row) (i : Nat) : leftAt c fu i ≤ (fu.getD i []).length := by
  unfold leftAt
  split
  · omega
  · have := shared_le (fu.getD i []) (fu.getD (i - 1) []); omega
theorem repL_len (c fu : List Row) : (repL c fu).length = fu.length := by unfold repL; rw [List.length_map, List.length_range]
theorem getD_mem {t : List Row} {i : Nat} (h : i < t.length) : t.getD i [] ∈ t ∧ t[i]? = some (t.getD i []) := by
  have e : t[i]? = some t[i] := List.getElem?_eq_getElem h
  have : t.getD i [] = t[i] := by simp [List.getD, e]
  rw [this]
  exact ⟨List.getElem_mem h, e⟩
theorem Tab.rep {c fu : List Row} {w : Nat} (t : Tab fu w) : Tab (repL c fu) w := ⟨by rw [repL_len]; exact t.le, t.w6, fun r hr => by
  obtain ⟨i, hi, rfl⟩ := List.mem_map.mp hr
  obtain ⟨m, _⟩ := getD_mem (List.mem_range.mp hi)
  obtain ⟨a, b⟩ := t.all _ m
  exact ⟨by rw [wb_len (leftAt_le2 c fu i)]; exact a, wb_mem b⟩⟩
theorem PrT.rep {c fu : List Row} (t : FullT fu) : PrT (repL c fu) := fun r hr => by
  obtain ⟨i, hi, rfl⟩ := List.mem_map.mp hr
  obtain ⟨m, _⟩ := getD_mem (List.mem_range.mp hi)
  exact wb_pr _ (t _ m)
/-- found and counted up to a row -/
def repLk (c fu : List Row) (k : Nat) : List Row := (List.range k).map fun i => withBlanks (fu.getD i []) (leftAt c fu i)
def repNk (c fu : List Row) (k : Nat) : Nat := ((List.range k).map fun i => blanks (c.getD i []) - leftAt c fu i).sum
theorem repLk_succ (c fu : List Row) (k : Nat) : repLk c fu (k + 1) = repLk c fu k ++ [withBlanks (fu.getD k []) (leftAt c fu k)] := by
  unfold repLk
  rw [List.range_succ, List.map_append]
  rfl
theorem repNk_succ (c fu : List Row) (k : Nat) : repNk c fu (k + 1) = repNk c fu k + (blanks (c.getD k []) - leftAt c fu k) := by
  unfold repNk
  rw [List.range_succ, List.map_append, List.sum_append]
  simp
def sp_Sheet_repair (C : Addr) : DSp := fun ds h Q _ => match ds with
  | [.ref a] => ∃ p c fu past w, SheetAt C h a p c fu past ∧ Tab c w ∧ Tab fu w ∧ fu.length = c.length ∧ past.length ≤ 1000000 ∧ Q (.int (repN c fu : Nat)) (changed C a p h c fu past (repL c fu) fu)
  | _ => False
theorem i_Sheet_repair {C a p : Addr} {c fu : List Row} {past : List D} {w : Nat} {h : DH} {Q : DK} {X : DX} (s : SheetAt C h a p c fu past) (t : Tab c w) (t2 : Tab fu w) (hl : fu.length = c.length) (hp : past.length ≤ 1000000)
    (z : Q (.int (repN c fu : Nat)) (changed C a p h c fu past (repL c fu) fu)) : sp_Sheet_repair C [.ref a] h Q X := ⟨p, c, fu, past, w, s, t, t2, hl, hp, z⟩
def t_Sheet_repair (C_Sheet : Addr) : DS :=
(dSeq (dAsgT (dFld C_Sheet "state" (dVar 0)) (.tp [(.nm 1), (.nm 2)]))
  (dSeq (dPar 3 4 (dLstM dNil) (dC (.int 0)))
  (dSeq (dFor (iEnumD (dVar 2)) (.tp [(.nm 5), (.nm 6)]) (dSeq (dAsg (dCall sp_blanks_in (dCons (dOp dIx (dVar 1) (dVar 5)) dNil)) 7)
  (dSeq (dAsg (dCB dMin2 (dCons (dVar 7) (dCons (dIfE (dTest (dOp dGt (dVar 5) (dC (.int 0)))) (dCall sp_shared_by (dCons (dVar 6) (dCons (dOp dIx (dVar 2) (dOp dSub (dVar 5) (dC (.int 1)))) dNil))) (dC (.int 0))) dNil))) 8)
  (dSeq (dDrop (dBM "list" dAppend (dVar 3) (dCons (dCall sp_with_blanks (dCons (dVar 6) (dCons (dVar 8) dNil))) dNil)))
  (dAug 4 (dOp dSub (dVar 7) (dVar 8)) dIpAdd)))))
  (dSeq (dDrop (dMeth C_Sheet "change" (sp_Sheet_change C_Sheet) (dVar 0) (dCons (dVar 3) (dCons (dVar 2) dNil))))
  (dRet (dVar 4))))))
def n_Sheet_repair : List Str := ["self", "cells", "full_rows", "found", "number", "row", "full_row", "blanks", "left"]
/- 0=self 1=cells 2=full_rows 3=found 4=number 5=row 6=full_row 7=blanks 8=left -/
theorem rd_Sheet_repair (C : Addr) (ds : List D) (h : DH) (Q : DK) (X : DX) (z : sp_Sheet_repair C ds h Q X) : t_Sheet_repair C (dEnd Q X) (dstart n_Sheet_repair ds) h := by
  match ds, z with
  | [.ref a], ⟨p, c, fu, past, w, s, t, t2, hl, hp, z⟩ =>
    show t_Sheet_repair C (dEnd Q X) [some (.ref a), none, none, none, none, none, none, none, none] h
    unfold t_Sheet_repair
    have h60 := t.le
    have hw6 := t.w6
    rw [e_dSeq, e_dAsgT]
    refine dFld_of 0 rfl s.at_ lk_state ?_
    rw [show stD c fu = .tup [.tup (c.map rowD), .tup (fu.map rowD)] from rfl]
    simp only [bT_two, w1, w2]
    rw [e_dSeq, e_dPar, e_dLstM]
    simp only [e_dNil, e_dC, w3, w4]
    refine ⟨Nat.zero_le _, fun q hq => ?_⟩
    rw [e_dSeq, e_dFor, e_iEnumD]
    simp only [v2, it_tup]
    rw [enum_rows]
    refine for_indG (fun p : Nat × Row => D.tup [.int (p.1 : Nat), rowD p.2]) (fun pre τ h' => ∃ x5 x6 x7 x8, τ = [some (.ref a), some (.tup (c.map rowD)), some (.tup (fu.map rowD)), some (.ref q), some (.int (repNk c fu pre.length : Nat)), x5, x6, x7, x8] ∧
        h' = dupd h q (.lst ((repLk c fu pre.length).map rowD))) _ ⟨_, _, _, _, rfl, rfl⟩ ?_ ?_
    · rintro pre ⟨i, f⟩ post τ h' eq ⟨x5, x6, x7, x8, rfl, rfl⟩ D' T
      refine ⟨_, bT_two, ?_⟩
      obtain ⟨e1, hf2, hlen, hdrop⟩ := zip_at eq
      simp only at e1
      subst e1
      obtain ⟨mf, ef⟩ := getD_mem (t := fu) hlen
      obtain ⟨mc, ec⟩ := getD_mem (t := c) (i := pre.length) (by omega)
      have efd : f = fu.getD pre.length [] := by rw [ef] at hf2; exact (Option.some.inj hf2).symm
      have bc := blanks_le (c.getD pre.length [])
      have wc := (t.all _ mc).1
      have wf := (t2.all _ mf).1
      simp only [w5, w6]
      rw [e_dSeq, e_dAsg]
      simp only [e_dCall, e_dCons, e_dNil, e_dOp, v1, v5]
      rw [ix_tup (x := rowD (c.getD pre.length [])) (by rw [List.getElem?_map, ec]; rfl)]
      refine i_blanks_in ?_
      simp only [w7]
      have tail : ∀ (sh : Nat), sh = (if pre.length = 0 then 0 else shared (fu.getD pre.length []) (fu.getD (pre.length - 1) [])) →
          (dSeq (dDrop (dBM "list" dAppend (dVar 3) (dCons (dCall sp_with_blanks (dCons (dVar 6) (dCons (dVar 8) dNil))) dNil)))
  (dAug 4 (dOp dSub (dVar 7) (dVar 8)) dIpAdd)) D' [some (.ref a), some (.tup (c.map rowD)), some (.tup (fu.map rowD)), some (.ref q), some (.int (repNk c fu pre.length : Nat)), some (.int (pre.length : Nat)), some (rowD f), some (.int (blanks (c.getD pre.length []) : Nat)), some (.int (if ((sh : Nat) : Int) < (blanks (c.getD pre.length []) : Nat) then ((sh : Nat) : Int) else (blanks (c.getD pre.length []) : Nat)))] (dupd h q (.lst ((repLk c fu pre.length).map rowD))) := by
        intro sh esh
        have el : (if ((sh : Nat) : Int) < (blanks (c.getD pre.length []) : Nat) then ((sh : Nat) : Int) else (blanks (c.getD pre.length []) : Nat)) = (leftAt c fu pre.length : Nat) := by
          unfold leftAt
          rw [← esh]
          split <;> omega
        rw [el]
        have l1 := leftAt_le c fu pre.length
        have e0 : dupd h q (DO.lst ((repLk c fu pre.length).map rowD)) q = some (.lst ((repLk c fu pre.length).map rowD)) := dupd_same
        rw [e_dSeq, e_dDrop, e_dBM]
        simp only [v3, e_dCons, e_dNil, e_dCall, v6, v8]
        refine ⟨⟨rfl, _, e0⟩, ?_⟩
        refine i_with_blanks (by omega) (by omega) (by rw [efd]; omega) ?_
        rw [me_append e0]
        refine ⟨?_, ?_⟩
        · unfold repLk
          rw [List.length_map, List.length_map, List.length_range]
          exact Nat.lt_of_lt_of_le (show pre.length < 61 by omega) (by decide)
        rw [e_dAug]
        simp only [List.getElem?_cons_succ, List.getElem?_cons_zero, e_dOp, v7, v8, op_Sub, ip_add, w4]
        have en : ((repNk c fu pre.length : Nat) : Int) + (((blanks (c.getD pre.length []) : Nat) : Int) - (leftAt c fu pre.length : Nat)) = (repNk c fu (pre.length + 1) : Nat) := by rw [repNk_succ]; omega
        refine T.nx _ _ ⟨some (.int (pre.length : Nat)), some (rowD f), some (.int (blanks (c.getD pre.length []) : Nat)), some (.int (leftAt c fu pre.length : Nat)), ?_, ?_⟩
        · rw [List.length_append, List.length_singleton, ← en]
        · rw [dupd2, List.length_append, List.length_singleton, repLk_succ, List.map_append, efd]; rfl
      rw [e_dSeq, e_dAsg, e_dCB, e_dCons]
      simp only [v7, e_dCons, e_dNil, e_dIfE, e_dTest, e_dOp, v5, e_dC, op_Gt, decide_eq_true_eq, decide_eq_false_iff_not]
      refine ⟨fun e => ?_, fun e => ?_⟩
      · obtain ⟨mp, ep⟩ := getD_mem (t := fu) (i := pre.length - 1) (by omega)
        simp only [e_dCall, e_dCons, e_dNil, e_dOp, v2, v5, v6, e_dC, op_Sub]
        rw [show ((pre.length : Int) - 1) = ((pre.length - 1 : Nat) : Int) by omega, ix_tup (x := rowD (fu.getD (pre.length - 1) [])) (by rw [List.getElem?_map, ep]; rfl)]
        refine i_shared_by (by rw [efd]; exact t2.strOk _ mf) (t2.strOk _ mp) ?_
        rw [cb_min]
        simp only [w8]
        exact tail _ (by rw [if_neg (by omega), efd])
      · rw [cb_min]
        simp only [w8]
        exact tail 0 (by rw [if_pos (by omega)])
    · rintro τ h' ⟨x5, x6, x7, x8, rfl, rfl⟩
      rw [List.length_zip, List.length_range, Nat.min_self]
      dsimp only
      rw [e_dSeq, e_dDrop]
      unfold dMeth
      have s2 := s.new (o := .lst ((repLk c fu fu.length).map rowD)) hq
      simp only [v0, v2, v3, e_dCons, e_dNil]
      refine ⟨a, _, rfl, s2.at_, lk_no, ?_⟩
      refine i_Sheet_changeG (c2 := repL c fu) s2 hp (.inr (.inr ⟨q, rfl, fun e => ?_, dupd_same⟩)) .tup ?_
      · rw [e, s.pa] at hq; cases hq
      rw [e_dRet]
      simp only [v4]
      exact ⟨_, changed_sub hq s, z⟩

end DL

namespace DL
open PySem L2
local macro_rules | `(tactic| walk_at "ev") => `(tactic| try simp (disch := (first | assumption | exact dupd_same | (refine (dupd_ne ?_).trans ?_; (first | assumption | (apply Ne.symm; assumption)); first | assumption | exact dupd_same | (refine (dupd_ne ?_).trans ?_; (first | assumption | (apply Ne.symm; assumption)); first | assumption | exact dupd_same)))) only [v0, v1, v2, v3, v4, v5, v6, v7, v8, v9, v10, v11, v12, v13, v14, v15, v16, w0, w1, w2, w3, w4, w5, w6, w7, w8, w9, w10, w11, w12, w13, w14, w15, w16, e_dC, e_dOp, e_dUn, e_dTest, e_dAnd, e_dOr, e_dNot, e_dAndV, e_dOrV, e_dNotV, e_dIfE, e_dChain, e_dNil, e_dCons, e_dTup, e_dLst, e_dLstM, e_dCB, e_dBM, e_dFrz, e_dNoPart, e_dPart, e_dSl, e_dIsi, e_iSeqD, e_iRange1, e_iRange2, e_iEnumD, e_iZipD, e_dNext, e_dSeq, e_dAsg, e_dAsgT, e_dPar, e_dIf, e_dRet, e_dRetN, e_dDrop, e_dBrk, e_dCnt, e_dAug, e_dSetI, e_dFor, e_dWhile, e_dYes, e_dLc, e_dLcM, e_dCall, e_dCallK, e_dNeg, e_dRaise, op_Lt, op_Le, op_Gt, op_Ge, op_IsN, op_IsNN, op_Sub, op_Add, op_AddS, op_AddT, op_AddL, op_Mul, op_MulT, op_MulL, op_Mod, op_Fdiv, op_InS, op_NotInS, cb_lenT, cb_lenL, cb_lenS, cb_lenX, cb_all, cb_any, cb_tupleL, cb_tupleT, cb_max, cb_min, cb_abs, cb_int, cb_intB, cb_strI, me_joinL, me_joinT, me_split, ip_add, ip_sub, ip_mul, ip_div, ix_ref0, ix_ref1, ix_ref2, me_append, me_popAt, me_pop0, me_insert, me_clear, me_reverse, cb_lenR, cb_tupleR, me_joinR, vw_ref, dT_ref, pow_18, pow_38, pow_40, pow_41, pow_6, eq_str, ne_str, eq_int, ne_int, ix_tup0, ix_lst0, sl_from, sl_to, sl_fromL, sl_toL, vw_str, vw_int, vw_bl, vw_non, vw_dct, vw_tup, vw_lst, vw_scr, ty_str, ty_int, ty_bl, ty_non, ty_tup, ty_lst, ty_dct, it_str, it_tup, it_lst, bT_nm, isN_non, isN_str, isN_int, isN_bl, isN_tup, isN_lst, isN_dct, dT_str, dT_lst, en_rt, en_nx, en_ex, t_imp, f_imp, not_true_eq_false, not_false_eq_true, tf_eq, ft_eq, dwipe, true_and, and_true, Bool.not_true, Bool.not_false, Bool.not_eq_true', Bool.not_eq_false', decide_eq_true_eq, decide_eq_false_iff_not, nq_NoneType, is_NoneType_int, is_NoneType_bool, is_NoneType_str, is_NoneType_tuple, is_NoneType_list, is_NoneType_dict, nq_bool, is_bool_int, is_bool_bool, is_bool_str, is_bool_tuple, is_bool_list, is_bool_dict, nq_int, is_int_int, is_int_bool, is_int_str, is_int_tuple, is_int_list, is_int_dict, nq_str, is_str_int, is_str_bool, is_str_str, is_str_tuple, is_str_list, is_str_dict, nq_tuple, is_tuple_int, is_tuple_bool, is_tuple_str, is_tuple_tuple, is_tuple_list, is_tuple_dict, nq_list, is_list_int, is_list_bool, is_list_str, is_list_tuple, is_list_list, is_list_dict, nq_dict, is_dict_int, is_dict_bool, is_dict_str, is_dict_tuple, is_dict_list, is_dict_dict])
/-! R21: operations of a sheet, as the laws draw and do them -/
def sp_law_written : DSp := fun ds h Q _ => match ds with
  | [d, e] => ∃ c fu w, d = tabD c ∧ e = tabD fu ∧ Tab c w ∧ Tab fu w ∧ PrT c ∧ fu.length = c.length ∧ Q (.tup [tabD (repL c fu), .int (repN c fu : Nat)]) h
  | _ => False
theorem i_law_written {c fu : List Row} {w : Nat} {h : DH} {Q : DK} {X : DX} (t : Tab c w) (t2 : Tab fu w) (p : PrT c) (hl : fu.length = c.length) (z : Q (.tup [tabD (repL c fu), .int (repN c fu : Nat)]) h) : sp_law_written [tabD c, tabD fu] h Q X := ⟨c, fu, w, rfl, rfl, t, t2, p, hl, z⟩
def t_law_written : DS :=
(dSeq (dPar 2 3 (dLstM dNil) (dC (.int 0)))
  (dSeq (dFor (iEnumD (dVar 0)) (.tp [(.nm 4), (.nm 5)]) (dSeq (dAsg (dLc (iSeqD (dVar 5)) (.nm 8) (dTest (dOp dIsN (dVar 8) (dC .non))) (dVar 8) [8]) 6)
  (dSeq (dAsg (dCB dMin2 (dCons (dCB dLen (dCons (dVar 6) dNil)) (dCons (dIfE (dTest (dOp dGt (dVar 4) (dC (.int 0)))) (dCall sp_law_shared (dCons (dOp dIx (dVar 1) (dVar 4)) (dCons (dOp dIx (dVar 1) (dOp dSub (dVar 4) (dC (.int 1)))) dNil))) (dC (.int 0))) dNil))) 7)
  (dSeq (dDrop (dBM "list" dAppend (dVar 2) (dCons (dOp dAdd (dOp dMul (dTup (dCons (dC .non) dNil)) (dVar 7)) (dSl dSlice (dOp dIx (dVar 1) (dVar 4)) (dPart (dVar 7)) dNoPart)) dNil)))
  (dAsg (dOp dSub (dOp dAdd (dVar 3) (dCB dLen (dCons (dVar 6) dNil))) (dVar 7)) 3)))))
  (dRet (dTup (dCons (dCB dTuple (dCons (dVar 2) dNil)) (dCons (dVar 3) dNil))))))
def n_law_written : List Str := ["some", "full_rows", "found", "many", "spot", "own", "blanks", "few", "cell"]
/- 0=some 1=full_rows 2=found 3=many 4=spot 5=own 6=blanks 7=few 8=cell -/
theorem rd_law_written (ds : List D) (h : DH) (Q : DK) (X : DX) (z : sp_law_written ds h Q X) : t_law_written (dEnd Q X) (dstart n_law_written ds) h := by
  match ds, z with
  | [_, _], ⟨c, fu, w, rfl, rfl, t, t2, pc, hl, z⟩ =>
    show t_law_written (dEnd Q X) [some (.tup (c.map rowD)), some (.tup (fu.map rowD)), none, none, none, none, none, none, none] h
    unfold t_law_written
    have h60 := t.le
    have hw6 := t.w6
    rw [e_dSeq, e_dPar, e_dLstM]
    simp only [e_dNil, e_dC, w2, w3]
    refine ⟨Nat.zero_le _, fun q hq => ?_⟩
    rw [e_dSeq, e_dFor, e_iEnumD]
    simp only [v0, it_tup]
    rw [enum_rows]
    refine for_indG (fun p : Nat × Row => D.tup [.int (p.1 : Nat), rowD p.2]) (fun pre τ h' => ∃ x4 x5 x6 x7, τ = [some (.tup (c.map rowD)), some (.tup (fu.map rowD)), some (.ref q), some (.int (repNk c fu pre.length : Nat)), x4, x5, x6, x7, none] ∧
        h' = dupd h q (.lst ((repLk c fu pre.length).map rowD))) _ ⟨_, _, _, _, rfl, rfl⟩ ?_ ?_
    · rintro pre ⟨i, r⟩ post τ h' eq ⟨x4, x5, x6, x7, rfl, rfl⟩ D' T
      refine ⟨_, bT_two, ?_⟩
      obtain ⟨e1, hr2, hlen, hdrop⟩ := zip_at eq
      simp only at e1
      subst e1
      obtain ⟨mc, ec⟩ := getD_mem (t := c) hlen
      obtain ⟨mf, ef⟩ := getD_mem (t := fu) (i := pre.length) (by omega)
      have erd : r = c.getD pre.length [] := by rw [ec] at hr2; exact (Option.some.inj hr2).symm
      have bc := blanks_le (c.getD pre.length [])
      have wc := (t.all _ mc).1
      have wf := (t2.all _ mf).1
      simp only [w4, w5]
      rw [e_dSeq, e_dAsg, e_dLc, e_iSeqD]
      simp only [v5, show rowD r = .tup (r.map cD) from rfl, it_tup]
      refine ⟨by rw [List.length_map, erd]; omega, ?_⟩
      refine nones_go r (fun k Q' q' => ?_) (fun k Q' q' => ?_) fun ys hys => ?_
      · simp only [dwipe, w8, e_dTest, e_dOp, e_dC, v8, op_IsN, isN_cD]; exact q'
      · simp only [dwipe, w8, v8]; exact q'
      have hy : ys.length = blanks (c.getD pre.length []) := by rw [hys, erd, countN_pr (pc _ mc)]
      simp only [w6]
      have tail : ∀ (sh : Nat), sh = (if pre.length = 0 then 0 else shared (fu.getD pre.length []) (fu.getD (pre.length - 1) [])) →
          (dSeq (dDrop (dBM "list" dAppend (dVar 2) (dCons (dOp dAdd (dOp dMul (dTup (dCons (dC .non) dNil)) (dVar 7)) (dSl dSlice (dOp dIx (dVar 1) (dVar 4)) (dPart (dVar 7)) dNoPart)) dNil)))
  (dAsg (dOp dSub (dOp dAdd (dVar 3) (dCB dLen (dCons (dVar 6) dNil))) (dVar 7)) 3)) D' [some (.tup (c.map rowD)), some (.tup (fu.map rowD)), some (.ref q), some (.int (repNk c fu pre.length : Nat)), some (.int (pre.length : Nat)), some (.tup (r.map cD)), some (.lst ys), some (.int (if ((sh : Nat) : Int) < (ys.length : Nat) then ((sh : Nat) : Int) else (ys.length : Nat))), none] (dupd h q (.lst ((repLk c fu pre.length).map rowD))) := by
        intro sh esh
        have el : (if ((sh : Nat) : Int) < (ys.length : Nat) then ((sh : Nat) : Int) else (ys.length : Nat)) = (leftAt c fu pre.length : Nat) := by
          unfold leftAt
          rw [← esh, hy]
          split <;> omega
        rw [el]
        have l1 := leftAt_le c fu pre.length
        have e0 : dupd h q (DO.lst ((repLk c fu pre.length).map rowD)) q = some (.lst ((repLk c fu pre.length).map rowD)) := dupd_same
        rw [e_dSeq, e_dDrop, e_dBM]
        simp only [v2, e_dCons, e_dNil, e_dOp, e_dTup, e_dC, v7, e_dSl, v1, v4, e_dPart, e_dNoPart, op_MulT]
        refine ⟨⟨rfl, _, e0⟩, le_line (m := 1) (Nat.le_refl _), by simp, by omega, by omega, by simp, ?_⟩
        rw [ix_tup (x := rowD (fu.getD pre.length [])) (by rw [List.getElem?_map, ef]; rfl)]
        rw [show rowD (fu.getD pre.length []) = .tup ((fu.getD pre.length []).map cD) from rfl, sl_from, op_AddT, t_with_blanks_go, me_append e0]
        refine ⟨?_, ?_, ?_⟩
        · rw [rpt_non]
          refine le_line (m := 12) ?_
          rw [List.length_replicate, List.length_drop, List.length_map]
          omega
        · unfold repLk
          rw [List.length_map, List.length_map, List.length_range]
          exact Nat.lt_of_lt_of_le (show pre.length < 61 by omega) (by decide)
        rw [e_dAsg, e_dOp, e_dOp]
        simp only [e_dCB, e_dCons, e_dNil, v3, v6, v7, cb_lenL, op_Add, op_Sub, w3]
        have en : ((repNk c fu pre.length : Nat) : Int) + ((ys.length : Nat) : Int) - (leftAt c fu pre.length : Nat) = (repNk c fu (pre.length + 1) : Nat) := by rw [repNk_succ, hy]; omega
        refine T.nx _ _ ⟨some (.int (pre.length : Nat)), some (.tup (r.map cD)), some (.lst ys), some (.int (leftAt c fu pre.length : Nat)), ?_, ?_⟩
        · rw [List.length_append, List.length_singleton, ← en]
        · rw [dupd2, List.length_append, List.length_singleton, repLk_succ, List.map_append]; rfl
      rw [e_dSeq, e_dAsg, e_dCB, e_dCons]
      simp only [v6, e_dCons, e_dNil, e_dCB, cb_lenL, e_dIfE, e_dTest, e_dOp, v4, e_dC, op_Gt, decide_eq_true_eq, decide_eq_false_iff_not]
      refine ⟨fun e => ?_, fun e => ?_⟩
      · obtain ⟨mp, ep⟩ := getD_mem (t := fu) (i := pre.length - 1) (by omega)
        simp only [e_dCall, e_dCons, e_dNil, e_dOp, v1, v4, e_dC, op_Sub]
        rw [ix_tup (x := rowD (fu.getD pre.length [])) (by rw [List.getElem?_map, ef]; rfl)]
        rw [show ((pre.length : Int) - 1) = ((pre.length - 1 : Nat) : Int) by omega, ix_tup (x := rowD (fu.getD (pre.length - 1) [])) (by rw [List.getElem?_map, ep]; rfl)]
        refine i_law_shared (t2.strOk _ mf) (t2.strOk _ mp) ?_
        rw [cb_min]
        simp only [w7]
        exact tail _ (by rw [if_neg (by omega)])
      · rw [cb_min]
        simp only [w7]
        exact tail 0 (by rw [if_pos (by omega)])
    · rintro τ h' ⟨x4, x5, x6, x7, rfl, rfl⟩
      rw [List.length_zip, List.length_range, Nat.min_self, ← hl]
      dsimp only
      rw [e_dRet, e_dTup]
      simp only [e_dCons, e_dNil, e_dCB, v2, v3]
      rw [cb_tupleR dupd_same]
      exact ⟨le_line (m := 2) (Nat.le_refl _), ⟨h, DSub.new (DSub.refl h) hq, z⟩⟩
/-- what a sheet holds -/
structure Sh (c fu : List Row) (w : Nat) : Prop where
  tc : Tab c w
  tf : Tab fu w
  w1 : 1 ≤ w
  c1 : 1 ≤ c.length
  lf : fu.length = c.length
  pc : PrT c
  ff : FullT fu
theorem PageP.sh {t : List Row} (p : PageP t) : ∃ w, Sh t (readRows none t) w := by
  obtain ⟨w, w1, tb⟩ := p.tab
  exact ⟨w, tb, tb.read, w1, p.ne, readRows_len t none, p.prT, p.fullT⟩
inductive Deed where
  | move (f l p : Nat) | remove (i : Nat) | insert (i : Nat) (r : Row) | write (i k : Nat) | adopt | repair
def Deed.D : Deed → DL.D
  | .move f l p => .tup [.str "move", .int (f : Nat), .int (l : Nat), .int (p : Nat)]
  | .remove i => .tup [.str "remove", .int (i : Nat)]
  | .insert i r => .tup [.str "insert", .int (i : Nat), rowD r]
  | .write i k => .tup [.str "write", .int (i : Nat), .int (k : Nat)]
  | .adopt => .tup [.str "adopt"]
  | .repair => .tup [.str "repair"]
def Deed.ok (c : List Row) (w : Nat) : Deed → Prop
  | .move f l p => f ≤ l ∧ l < c.length ∧ p + (l + 1) ≤ c.length + f
  | .remove i => i < c.length ∧ 2 ≤ c.length
  | .insert i r => i ≤ c.length ∧ c.length < 60 ∧ r.length = w ∧ pr r ∧ none ∉ meantAt c i r
  | .write i k => i < c.length ∧ k ≤ blanks (c.getD i [])
  | .adopt => ∀ r ∈ readRows none c, none ∉ r
  | .repair => True
def Deed.cells (c fu : List Row) : Deed → List Row
  | .move f l p => movedL c f l p
  | .remove i => rmL c i
  | .insert i r => insL c i r
  | .write i k => setL c i (withBlanks (fu.getD i []) k)
  | .adopt => c
  | .repair => repL c fu
def Deed.full (c fu : List Row) : Deed → List Row
  | .move f l p => movedL fu f l p
  | .remove i => rmL fu i
  | .insert i r => insL fu i (meantAt c i r)
  | .adopt => readRows none c
  | _ => fu
def Deed.due (c fu : List Row) : Deed → DL.D
  | .remove i => rowD (fu.getD i [])
  | .adopt => .lst (intsD (wrongL (readRows none c) fu))
  | .repair => .int (repN c fu : Nat)
  | _ => .non
theorem meant_tab {c : List Row} {w i : Nat} {r : Row} (t : Tab c w) (hi : i ≤ c.length) (h60 : c.length < 60) (hr : r.length = w) (p : pr r) : (meantAt c i r).length = w ∧ ∀ x ∈ meantAt c i r, x = none ∨ okC x = true := by
  have tt : Tab (c.take i ++ [r]) w := ⟨by simp only [List.length_append, List.length_take, List.length_singleton]; omega, t.w6, fun x hx => by
    rcases List.mem_append.mp hx with y | y
    · exact t.all x (List.mem_of_mem_take y)
    · rw [List.mem_singleton.mp y]; exact ⟨hr, pr_mem p⟩⟩
  exact tt.read.all (meantAt c i r) (by rw [read_put]; simp)
theorem full_no {r : Row} (h : ∀ x ∈ r, x = none ∨ okC x = true) (n : none ∉ r) : full r := fun x hx => (h x hx).elim (fun z => by rw [z] at hx; exact absurd hx n) id
theorem Sh.deed {c fu : List Row} {w : Nat} (q : Sh c fu w) {d : Deed} (k : d.ok c w) : Sh (d.cells c fu) (d.full c fu) w := by
  have lf := q.lf
  have c1 := q.c1
  cases d with
  | move f l p =>
    obtain ⟨h1, h2, h3⟩ := k
    have a := movedL_len (xs := c) (p := p) h1 h2
    have b := movedL_len (xs := fu) (p := p) h1 (by omega)
    exact ⟨q.tc.moved h1 h2, q.tf.moved h1 (by omega), q.w1, by show 1 ≤ (movedL c f l p).length; omega, by show (movedL fu f l p).length = (movedL c f l p).length; omega, q.pc.moved, q.ff.moved⟩
  | remove i =>
    obtain ⟨h1, h2⟩ := k
    have a := rmL_len h1
    have b := rmL_len (xs := fu) (i := i) (by omega)
    exact ⟨q.tc.rm h1, q.tf.rm (by omega), q.w1, by show 1 ≤ (rmL c i).length; omega, by show (rmL fu i).length = (rmL c i).length; omega, q.pc.rm, q.ff.rm⟩
  | insert i r =>
    obtain ⟨h1, h2, h3, h4, h5⟩ := k
    have m := meant_tab q.tc h1 h2 h3 h4
    have a := insL_len (y := r) h1
    have b := insL_len (xs := fu) (i := i) (y := meantAt c i r) (by omega)
    exact ⟨q.tc.ins h1 h2 ⟨h3, pr_mem h4⟩, q.tf.ins (by omega) (by omega) m, q.w1, by show 1 ≤ (insL c i r).length; omega, by show (insL fu i (meantAt c i r)).length = (insL c i r).length; omega, q.pc.ins h4, q.ff.ins (full_no m.2 h5)⟩
  | write i k =>
    obtain ⟨h1, h2⟩ := k
    obtain ⟨mc, _⟩ := getD_mem h1
    obtain ⟨mf, _⟩ := getD_mem (t := fu) (i := i) (by omega)
    have a := (q.tc.all _ mc).1
    have b := (q.tf.all _ mf)
    have bl := blanks_le (c.getD i [])
    have e := setL_len (y := withBlanks (fu.getD i []) k) h1
    exact ⟨q.tc.set h1 ⟨by rw [wb_len (by omega)]; exact b.1, wb_mem b.2⟩, q.tf, q.w1, by show 1 ≤ (setL c i _).length; omega, by show fu.length = (setL c i _).length; omega, q.pc.set (wb_pr _ (q.ff _ mf)), q.ff⟩
  | adopt =>
    have e := readRows_len c none
    exact ⟨q.tc, q.tc.read, q.w1, q.c1, e, q.pc, full_of_no q.tc.read k⟩
  | repair =>
    have e := repL_len c fu
    exact ⟨q.tf.rep, q.tf, q.w1, by show 1 ≤ (repL c fu).length; omega, by show fu.length = (repL c fu).length; omega, .rep q.ff, q.ff⟩
theorem repN_le (c fu : List Row) (w : Nat) (q : Sh c fu w) : repN c fu ≤ 360 := by
  have : ∀ (l : List Nat), (∀ x ∈ l, x ≤ 6) → l.sum ≤ l.length * 6 := sum_le 6
  have h := this ((List.range fu.length).map fun i => blanks (c.getD i []) - leftAt c fu i) fun x hx => by
    obtain ⟨i, hi, rfl⟩ := List.mem_map.mp hx
    have hi := List.mem_range.mp hi
    have lf := q.lf
    obtain ⟨mc, _⟩ := getD_mem (t := c) (i := i) (by omega)
    have := q.tc.row _ mc
    have := blanks_le (c.getD i [])
    omega
  rw [List.length_map, List.length_range] at h
  have := q.tf.le
  unfold repN
  omega
theorem due_ok {c fu : List Row} {w : Nat} (q : Sh c fu w) {d : Deed} (k : d.ok c w) : nr (d.due c fu) = true ∧ rn 12 (d.due c fu) = true ∧ wt (d.due c fu) ≤ 16000000 := by
  have lf := q.lf
  cases d with
  | remove i =>
    obtain ⟨m, _⟩ := getD_mem (t := fu) (i := i) (by have := k.1; omega)
    have a := q.tf.row _ m
    exact ⟨nr_row (Nat.le_trans a (by decide)) (q.tf.short _ m), rn_row (q.tf.strOk _ m) 11, Nat.le_trans (wt_row a (q.tf.short _ m)) (by decide)⟩
  | adopt =>
    have hl := wrongL_len (readRows none c) fu
    have h60 := q.tc.le
    rw [readRows_len] at hl
    have hlt : ∀ i ∈ wrongL (readRows none c) fu, i < 2 ^ 64 := fun i hi => by
      have := wrongL_lt _ _ i hi
      rw [readRows_len] at this
      omega
    have := wt_ints hlt
    refine ⟨nr_ints _ (by omega), rn_ints hlt 11, ?_⟩
    show wt.wtL (intsD (wrongL (readRows none c) fu)) + 4 ≤ 16000000
    omega
  | repair =>
    have := repN_le c fu w q
    have h2 := log2_small (show repN c fu < 2 ^ 64 by omega)
    refine ⟨rfl, rn_int (by omega) 12, ?_⟩
    show ((repN c fu : Nat) : Int).natAbs.log2 + 3 ≤ 16000000
    omega
  | _ => exact ⟨rfl, rfl, show 4 ≤ 16000000 by decide⟩
/-! a step is drawn -/
def stepD (c fu : List Row) (d : Deed) : D := .tup [d.D, d.due c fu, tabD (d.cells c fu), tabD (d.full c fu)]
def sp_law_step : DSp := fun ds h Q _ => match ds with
  | [.ref a, d, e] => ∃ n c fu w, Urn h a n ∧ n + 300 ≤ LIM ∧ d = tabD c ∧ e = tabD fu ∧ Sh c fu w ∧ ∀ (deed : Deed) o, deed.ok c w → UrnO o (n + 300) → Q (stepD c fu deed) (dupd h a o)
  | _ => False
theorem i_law_step {a : Addr} {c fu : List Row} {w : Nat} {h : DH} {Q : DK} {X : DX} (n : Nat) (u : Urn h a n) (hn : n + 300 ≤ LIM) (q : Sh c fu w) (z : ∀ (deed : Deed) o, deed.ok c w → UrnO o (n + 300) → Q (stepD c fu deed) (dupd h a o)) : sp_law_step [.ref a, tabD c, tabD fu] h Q X :=
  ⟨n, c, fu, w, u, hn, rfl, rfl, q, z⟩
def t_law_step : DS :=
(dSeq (dPar 3 4 (dCB dLen (dCons (dVar 1) dNil)) (dCall sp_law_draw (dCons (dVar 0) (dCons (dC (.int 8)) dNil))))
  (dSeq (dAsg (dCall sp_law_draw (dCons (dVar 0) (dCons (dVar 3) dNil))) 5)
  (dSeq (dIf (dTest (dOp dLt (dVar 4) (dC (.int 2)))) (dSeq (dAsg (dOp dIx (dLst (dCons (dVar 5) (dCons (dOp dAdd (dVar 5) (dCall sp_law_draw (dCons (dVar 0) (dCons (dOp dSub (dVar 3) (dVar 5)) dNil)))) dNil))) (dVar 4)) 6)
  (dSeq (dAsg (dOp dAdd (dSl dSlice (dVar 1) dNoPart (dPart (dVar 5))) (dSl dSlice (dVar 1) (dPart (dOp dAdd (dVar 6) (dC (.int 1)))) dNoPart)) 7)
  (dSeq (dAsg (dCall sp_law_draw (dCons (dVar 0) (dCons (dOp dAdd (dCB dLen (dCons (dVar 7) dNil)) (dC (.int 1))) dNil))) 8)
  (dSeq (dAsg (dLstM dNil) 9)
  (dSeq (dFor (iSeqD (dTup (dCons (dVar 1) (dCons (dVar 2) dNil)))) (.nm 10) (dSeq (dAsg (dOp dAdd (dSl dSlice (dVar 10) dNoPart (dPart (dVar 5))) (dSl dSlice (dVar 10) (dPart (dOp dAdd (dVar 6) (dC (.int 1)))) dNoPart)) 11)
  (dSeq (dAsg (dSl dSlice (dVar 10) (dPart (dVar 5)) (dPart (dOp dAdd (dVar 6) (dC (.int 1))))) 12)
  (dDrop (dBM "list" dAppend (dVar 9) (dCons (dOp dAdd (dOp dAdd (dSl dSlice (dVar 11) dNoPart (dPart (dVar 8))) (dVar 12)) (dSl dSlice (dVar 11) (dPart (dVar 8)) dNoPart)) dNil))))))
  (dRet (dTup (dCons (dTup (dCons (dC (.str "move")) (dCons (dVar 5) (dCons (dVar 6) (dCons (dVar 8) dNil))))) (dCons (dC .non) (dCons (dOp dIx (dVar 9) (dC (.int 0))) (dCons (dOp dIx (dVar 9) (dC (.int 1))) dNil))))))))))) dNext)
  (dSeq (dIf (dAnd (dTest (dOp dEq (dVar 4) (dC (.int 2)))) (dTest (dOp dGt (dVar 3) (dC (.int 1))))) (dSeq (dAsg (dOp dAdd (dSl dSlice (dVar 1) dNoPart (dPart (dVar 5))) (dSl dSlice (dVar 1) (dPart (dOp dAdd (dVar 5) (dC (.int 1)))) dNoPart)) 13)
  (dRet (dTup (dCons (dTup (dCons (dC (.str "remove")) (dCons (dVar 5) dNil))) (dCons (dOp dIx (dVar 2) (dVar 5)) (dCons (dVar 13) (dCons (dOp dAdd (dSl dSlice (dVar 2) dNoPart (dPart (dVar 5))) (dSl dSlice (dVar 2) (dPart (dOp dAdd (dVar 5) (dC (.int 1)))) dNoPart)) dNil))))))) dNext)
  (dSeq (dIf (dAnd (dTest (dOp dIn (dVar 4) (dTup (dCons (dC (.int 3)) (dCons (dC (.int 4)) dNil))))) (dTest (dOp dLt (dVar 3) (dC (.int 60))))) (dRet (dCall sp_law_put_in (dCons (dVar 0) (dCons (dVar 1) (dCons (dVar 2) (dCons (dCall sp_law_draw (dCons (dVar 0) (dCons (dOp dAdd (dVar 3) (dC (.int 1))) dNil))) dNil)))))) dNext)
  (dSeq (dIf (dTest (dOp dEq (dVar 4) (dC (.int 5)))) (dSeq (dAsg (dCall sp_law_read (dCons (dVar 1) dNil)) 14)
  (dIf (dTest (dOp dEq (dLc (iSeqD (dVar 14)) (.nm 19) (dTest (dOp dIn (dC .non) (dVar 19))) (dVar 19) [19]) (dLst dNil))) (dSeq (dAsg (dLc (iEnumD (dVar 14)) (.tp [(.nm 20), (.nm 19)]) (dTest (dOp dNe (dVar 19) (dOp dIx (dVar 2) (dVar 20)))) (dVar 20) [20, 19]) 15)
  (dRet (dTup (dCons (dTup (dCons (dC (.str "adopt")) dNil)) (dCons (dVar 15) (dCons (dVar 1) (dCons (dCB dTuple (dCons (dVar 14) dNil)) dNil))))))) dNext)) dNext)
  (dSeq (dIf (dTest (dOp dEq (dVar 4) (dC (.int 6)))) (dSeq (dAsgT (dCall sp_law_written (dCons (dVar 1) (dCons (dVar 2) dNil))) (.tp [(.nm 16), (.nm 17)]))
  (dRet (dTup (dCons (dTup (dCons (dC (.str "repair")) dNil)) (dCons (dVar 17) (dCons (dVar 16) (dCons (dVar 2) dNil))))))) dNext)
  (dSeq (dAsg (dCall sp_law_draw (dCons (dVar 0) (dCons (dOp dAdd (dCB dLen (dCons (dLc (iSeqD (dOp dIx (dVar 1) (dVar 5))) (.nm 21) (dTest (dOp dIsN (dVar 21) (dC .non))) (dVar 21) [21]) dNil)) (dC (.int 1))) dNil))) 18)
  (dSeq (dAsg (dOp dAdd (dOp dMul (dTup (dCons (dC .non) dNil)) (dVar 18)) (dSl dSlice (dOp dIx (dVar 2) (dVar 5)) (dPart (dVar 18)) dNoPart)) 19)
  (dRet (dTup (dCons (dTup (dCons (dC (.str "write")) (dCons (dVar 5) (dCons (dVar 18) dNil)))) (dCons (dC .non) (dCons (dOp dAdd (dOp dAdd (dSl dSlice (dVar 1) dNoPart (dPart (dVar 5))) (dTup (dCons (dVar 19) dNil))) (dSl dSlice (dVar 1) (dPart (dOp dAdd (dVar 5) (dC (.int 1)))) dNoPart)) (dCons (dVar 2) dNil)))))))))))))))
def n_law_step : List Str := ["urn", "cells_here", "full_rows", "many", "way", "begin", "final", "others", "place_here", "parts", "some", "left", "block", "less", "found", "bent", "later", "number", "few", "own", "spot", "cell"]
/- 0=urn 1=cells_here 2=full_rows 3=many 4=way 5=begin 6=final 7=others 8=place_here 9=parts 10=some 11=left 12=block 13=less 14=found 15=bent 16=later 17=number 18=few 19=own 20=spot 21=cell -/
section
variable {d : D} {τ : DSt} {h : DH} {Q : DK} {X : DX} {a0 a1 a2 a3 a4 a5 a6 a7 a8 a9 b0 b1 b2 b3 b4 b5 b6 b7 b8 b9 c0 c1 c2 c3 c4 c5 : Option D} {x : Option D}
theorem v17 : dVar 17 (a0 :: a1 :: a2 :: a3 :: a4 :: a5 :: a6 :: a7 :: a8 :: a9 :: b0 :: b1 :: b2 :: b3 :: b4 :: b5 :: b6 :: some d :: τ) h Q X = Q d h := id rfl
theorem v18 : dVar 18 (a0 :: a1 :: a2 :: a3 :: a4 :: a5 :: a6 :: a7 :: a8 :: a9 :: b0 :: b1 :: b2 :: b3 :: b4 :: b5 :: b6 :: b7 :: some d :: τ) h Q X = Q d h := id rfl
theorem v19 : dVar 19 (a0 :: a1 :: a2 :: a3 :: a4 :: a5 :: a6 :: a7 :: a8 :: a9 :: b0 :: b1 :: b2 :: b3 :: b4 :: b5 :: b6 :: b7 :: b8 :: some d :: τ) h Q X = Q d h := id rfl
theorem v20 : dVar 20 (a0 :: a1 :: a2 :: a3 :: a4 :: a5 :: a6 :: a7 :: a8 :: a9 :: b0 :: b1 :: b2 :: b3 :: b4 :: b5 :: b6 :: b7 :: b8 :: b9 :: some d :: τ) h Q X = Q d h := id rfl
theorem v21 : dVar 21 (a0 :: a1 :: a2 :: a3 :: a4 :: a5 :: a6 :: a7 :: a8 :: a9 :: b0 :: b1 :: b2 :: b3 :: b4 :: b5 :: b6 :: b7 :: b8 :: b9 :: c0 :: some d :: τ) h Q X = Q d h := id rfl
theorem v22 : dVar 22 (a0 :: a1 :: a2 :: a3 :: a4 :: a5 :: a6 :: a7 :: a8 :: a9 :: b0 :: b1 :: b2 :: b3 :: b4 :: b5 :: b6 :: b7 :: b8 :: b9 :: c0 :: c1 :: some d :: τ) h Q X = Q d h := id rfl
theorem v23 : dVar 23 (a0 :: a1 :: a2 :: a3 :: a4 :: a5 :: a6 :: a7 :: a8 :: a9 :: b0 :: b1 :: b2 :: b3 :: b4 :: b5 :: b6 :: b7 :: b8 :: b9 :: c0 :: c1 :: c2 :: some d :: τ) h Q X = Q d h := id rfl
theorem w17 : List.set (a0 :: a1 :: a2 :: a3 :: a4 :: a5 :: a6 :: a7 :: a8 :: a9 :: b0 :: b1 :: b2 :: b3 :: b4 :: b5 :: b6 :: b7 :: τ) 17 x = a0 :: a1 :: a2 :: a3 :: a4 :: a5 :: a6 :: a7 :: a8 :: a9 :: b0 :: b1 :: b2 :: b3 :: b4 :: b5 :: b6 :: x :: τ := id rfl
theorem w18 : List.set (a0 :: a1 :: a2 :: a3 :: a4 :: a5 :: a6 :: a7 :: a8 :: a9 :: b0 :: b1 :: b2 :: b3 :: b4 :: b5 :: b6 :: b7 :: b8 :: τ) 18 x = a0 :: a1 :: a2 :: a3 :: a4 :: a5 :: a6 :: a7 :: a8 :: a9 :: b0 :: b1 :: b2 :: b3 :: b4 :: b5 :: b6 :: b7 :: x :: τ := id rfl
theorem w19 : List.set (a0 :: a1 :: a2 :: a3 :: a4 :: a5 :: a6 :: a7 :: a8 :: a9 :: b0 :: b1 :: b2 :: b3 :: b4 :: b5 :: b6 :: b7 :: b8 :: b9 :: τ) 19 x = a0 :: a1 :: a2 :: a3 :: a4 :: a5 :: a6 :: a7 :: a8 :: a9 :: b0 :: b1 :: b2 :: b3 :: b4 :: b5 :: b6 :: b7 :: b8 :: x :: τ := id rfl
theorem w20 : List.set (a0 :: a1 :: a2 :: a3 :: a4 :: a5 :: a6 :: a7 :: a8 :: a9 :: b0 :: b1 :: b2 :: b3 :: b4 :: b5 :: b6 :: b7 :: b8 :: b9 :: c0 :: τ) 20 x = a0 :: a1 :: a2 :: a3 :: a4 :: a5 :: a6 :: a7 :: a8 :: a9 :: b0 :: b1 :: b2 :: b3 :: b4 :: b5 :: b6 :: b7 :: b8 :: b9 :: x :: τ := id rfl
theorem w21 : List.set (a0 :: a1 :: a2 :: a3 :: a4 :: a5 :: a6 :: a7 :: a8 :: a9 :: b0 :: b1 :: b2 :: b3 :: b4 :: b5 :: b6 :: b7 :: b8 :: b9 :: c0 :: c1 :: τ) 21 x = a0 :: a1 :: a2 :: a3 :: a4 :: a5 :: a6 :: a7 :: a8 :: a9 :: b0 :: b1 :: b2 :: b3 :: b4 :: b5 :: b6 :: b7 :: b8 :: b9 :: c0 :: x :: τ := id rfl
theorem w22 : List.set (a0 :: a1 :: a2 :: a3 :: a4 :: a5 :: a6 :: a7 :: a8 :: a9 :: b0 :: b1 :: b2 :: b3 :: b4 :: b5 :: b6 :: b7 :: b8 :: b9 :: c0 :: c1 :: c2 :: τ) 22 x = a0 :: a1 :: a2 :: a3 :: a4 :: a5 :: a6 :: a7 :: a8 :: a9 :: b0 :: b1 :: b2 :: b3 :: b4 :: b5 :: b6 :: b7 :: b8 :: b9 :: c0 :: c1 :: x :: τ := id rfl
theorem w23 : List.set (a0 :: a1 :: a2 :: a3 :: a4 :: a5 :: a6 :: a7 :: a8 :: a9 :: b0 :: b1 :: b2 :: b3 :: b4 :: b5 :: b6 :: b7 :: b8 :: b9 :: c0 :: c1 :: c2 :: c3 :: τ) 23 x = a0 :: a1 :: a2 :: a3 :: a4 :: a5 :: a6 :: a7 :: a8 :: a9 :: b0 :: b1 :: b2 :: b3 :: b4 :: b5 :: b6 :: b7 :: b8 :: b9 :: c0 :: c1 :: c2 :: x :: τ := id rfl
end
theorem in_two {i j k : Int} {h : DH} {Q : DK} : dIn (.int i) (.tup [.int j, .int k]) h Q = Q (.bl (decide (i = j) || decide (i = k))) h := by
  have e3 : dIn (.int i) (.tup [.int j, .int k]) h Q = (dn 12 (.int i) = true ∧ ((true && (true && true)) = true ∧ Q (.bl (inD (.int i) [.int j, .int k])) h)) := rfl
  have e2 : inD (.int i) [.int j, .int k] = (decide (i = j) || decide (i = k)) := by
    unfold inD
    simp only [List.any_cons, List.any_nil, Bool.or_false, eqv_int]
    congr 1 <;> exact decide_eq_decide.mpr eq_comm
  rw [e3, e2]
  exact propext ⟨fun z => z.2.2, fun z => ⟨rfl, rfl, z⟩⟩
/-- [own for own in found if None in own] == [] -/
theorem noneIn_go {i : Nat} {τ : DSt} {h : DH} {Q : List D → DH → Prop} {tt : DT} {te : DE} (t : List Row) (hs : ∀ r ∈ t, strOkR r)
    (ht : ∀ (r : Row) (Q' : Bool → DH → Prop), (∀ Q2 : DK, dIn .non (rowD r) h Q2 = Q2 (.bl (decide (none ∈ r))) h) → Q' (decide (none ∈ r)) h → tt (τ.set i (some (rowD r))) h Q' noX) (he : ∀ (r : Row) (Q' : DK), Q' (rowD r) h → te (τ.set i (some (rowD r))) h Q' noX)
    (q : ∀ u : List Row, (∀ r ∈ u, strOkR r) → (u = [] ↔ ∀ r ∈ t, none ∉ r) → Q (u.map rowD) h) : lcGo (.nm i) tt te τ (t.map rowD) h Q :=
  lc_fil rowD rowD (fun r => decide (none ∈ r)) t (fun r hr => ⟨_, rfl, fun Q' q' => ht r Q' (fun Q2 => in_none (hs r hr)) q', fun _ Q' q' => he r Q' q'⟩)
    (q _ (fun r hr => hs r (List.mem_filter.mp hr).1) (by rw [List.filter_eq_nil_iff]; simp only [decide_eq_true_eq]))
theorem eq_nilL {u : List Row} {h : DH} {Q : DK} (hs : ∀ r ∈ u, strOkR r) : dEq (.lst (u.map rowD)) (.lst []) h Q = Q (.bl (decide (u = []))) h := by
  show (dn 12 (.lst (u.map rowD)) = true ∧ dn 12 (.lst []) = true ∧ Q (.bl (eqvD (.lst (u.map rowD)) (.lst []))) h) = _
  rw [dn_rows hs 10, eqv_nil]
  have : decide (u.map rowD = []) = decide (u = []) := decide_eq_decide.mpr List.map_eq_nil_iff
  rw [this]
  exact propext ⟨fun z => z.2.2, fun z => ⟨rfl, rfl, z⟩⟩
/-- the draw of cells that are written, to the end -/
def t_step_write : DS :=
  (dSeq (dAsg (dCall sp_law_draw (dCons (dVar 0) (dCons (dOp dAdd (dCB dLen (dCons (dLc (iSeqD (dOp dIx (dVar 1) (dVar 5))) (.nm 21) (dTest (dOp dIsN (dVar 21) (dC .non))) (dVar 21) [21]) dNil)) (dC (.int 1))) dNil))) 18)
  (dSeq (dAsg (dOp dAdd (dOp dMul (dTup (dCons (dC .non) dNil)) (dVar 18)) (dSl dSlice (dOp dIx (dVar 2) (dVar 5)) (dPart (dVar 18)) dNoPart)) 19)
  (dRet (dTup (dCons (dTup (dCons (dC (.str "write")) (dCons (dVar 5) (dCons (dVar 18) dNil)))) (dCons (dC .non) (dCons (dOp dAdd (dOp dAdd (dSl dSlice (dVar 1) dNoPart (dPart (dVar 5))) (dTup (dCons (dVar 19) dNil))) (dSl dSlice (dVar 1) (dPart (dOp dAdd (dVar 5) (dC (.int 1)))) dNoPart)) (dCons (dVar 2) dNil))))))))
def t_step_6 : DS := (dSeq (dIf (dTest (dOp dEq (dVar 4) (dC (.int 6)))) (dSeq (dAsgT (dCall sp_law_written (dCons (dVar 1) (dCons (dVar 2) dNil))) (.tp [(.nm 16), (.nm 17)]))
  (dRet (dTup (dCons (dTup (dCons (dC (.str "repair")) dNil)) (dCons (dVar 17) (dCons (dVar 16) (dCons (dVar 2) dNil))))))) dNext) t_step_write)
def t_step_5 : DS := (dSeq (dIf (dTest (dOp dEq (dVar 4) (dC (.int 5)))) (dSeq (dAsg (dCall sp_law_read (dCons (dVar 1) dNil)) 14)
  (dIf (dTest (dOp dEq (dLc (iSeqD (dVar 14)) (.nm 19) (dTest (dOp dIn (dC .non) (dVar 19))) (dVar 19) [19]) (dLst dNil))) (dSeq (dAsg (dLc (iEnumD (dVar 14)) (.tp [(.nm 20), (.nm 19)]) (dTest (dOp dNe (dVar 19) (dOp dIx (dVar 2) (dVar 20)))) (dVar 20) [20, 19]) 15)
  (dRet (dTup (dCons (dTup (dCons (dC (.str "adopt")) dNil)) (dCons (dVar 15) (dCons (dVar 1) (dCons (dCB dTuple (dCons (dVar 14) dNil)) dNil))))))) dNext)) dNext) t_step_6)
def t_step_34 : DS := (dSeq (dIf (dAnd (dTest (dOp dIn (dVar 4) (dTup (dCons (dC (.int 3)) (dCons (dC (.int 4)) dNil))))) (dTest (dOp dLt (dVar 3) (dC (.int 60))))) (dRet (dCall sp_law_put_in (dCons (dVar 0) (dCons (dVar 1) (dCons (dVar 2) (dCons (dCall sp_law_draw (dCons (dVar 0) (dCons (dOp dAdd (dVar 3) (dC (.int 1))) dNil))) dNil)))))) dNext) t_step_5)
def t_step_2 : DS := (dSeq (dIf (dAnd (dTest (dOp dEq (dVar 4) (dC (.int 2)))) (dTest (dOp dGt (dVar 3) (dC (.int 1))))) (dSeq (dAsg (dOp dAdd (dSl dSlice (dVar 1) dNoPart (dPart (dVar 5))) (dSl dSlice (dVar 1) (dPart (dOp dAdd (dVar 5) (dC (.int 1)))) dNoPart)) 13)
  (dRet (dTup (dCons (dTup (dCons (dC (.str "remove")) (dCons (dVar 5) dNil))) (dCons (dOp dIx (dVar 2) (dVar 5)) (dCons (dVar 13) (dCons (dOp dAdd (dSl dSlice (dVar 2) dNoPart (dPart (dVar 5))) (dSl dSlice (dVar 2) (dPart (dOp dAdd (dVar 5) (dC (.int 1)))) dNoPart)) dNil))))))) dNext) t_step_34)
theorem le200 {n : Nat} (h : n ≤ 200) : n ≤ sizeLine := le_line h
section
variable {a : Addr} {c fu : List Row} {w m b : Nat} {way : Int} {o : DO} {h : DH} {Q : DK} {X : DX} {x6 x7 x8 x9 x10 x11 x12 x13 x14 x15 x16 x17 x18 x19 x20 x21 : Option D}
theorem rd_step_write (u : UrnO o m) (hm2 : m < LIM) (q : Sh c fu w) (hb : b < c.length) (z : ∀ (deed : Deed) o, deed.ok c w → UrnO o (m + 1) → Q (stepD c fu deed) (dupd h a o)) :
    t_step_write (dEnd Q X) [some (.ref a), some (.tup (c.map rowD)), some (.tup (fu.map rowD)), some (.int (c.length : Nat)), some (.int way), some (.int (b : Nat)), x6, x7, x8, x9, x10, x11, x12, x13, x14, x15, x16, x17, x18, x19, x20, x21] (dupd h a o) := by
  have h60 := q.tc.le
  have hw6 := q.tc.w6
  have lf := q.lf
  obtain ⟨mc, ec⟩ := getD_mem hb
  obtain ⟨mf, ef⟩ := getD_mem (t := fu) (i := b) (by omega)
  have bc := blanks_le (c.getD b [])
  have wc := (q.tc.all _ mc).1
  have wf := (q.tf.all _ mf).1
  unfold t_step_write
  rw [e_dSeq, e_dAsg]
  simp only [e_dCall, e_dCons, e_dNil, v0, e_dOp, e_dCB, e_dLc, e_iSeqD, v1, v5]
  rw [ix_tup (x := rowD (c.getD b [])) (by rw [List.getElem?_map, ec]; rfl)]
  simp only [show rowD (c.getD b []) = .tup ((c.getD b []).map cD) from rfl, it_tup]
  refine ⟨by rw [List.length_map]; omega, ?_⟩
  refine nones_go _ (fun k Q' q' => ?_) (fun k Q' q' => ?_) fun ys hys => ?_
  · simp only [dwipe, w21, e_dTest, e_dOp, e_dC, v21, op_IsN, isN_cD]; exact q'
  · simp only [dwipe, w21, v21]; exact q'
  rw [countN_pr (q.pc _ mc)] at hys
  simp only [cb_lenL, e_dC, op_Add]
  refine i_law_draw m (Urn.upd u) (by omega) (by omega) (by omega) fun k o2 k0 k1 uo2 => ?_
  obtain ⟨k, rfl⟩ := Int.eq_ofNat_of_zero_le k0
  have hk : k ≤ blanks (c.getD b []) := by omega
  simp only [dupd2, w18]
  rw [e_dSeq, e_dAsg, e_dOp, e_dOp]
  simp only [e_dTup, e_dCons, e_dNil, e_dC, v18, e_dSl, e_dOp, v2, v5, e_dPart, e_dNoPart, op_MulT]
  refine ⟨le_line (m := 1) (Nat.le_refl _), by simp, by omega, by omega, by simp, ?_⟩
  rw [ix_tup (x := rowD (fu.getD b [])) (by rw [List.getElem?_map, ef]; rfl)]
  rw [show rowD (fu.getD b []) = .tup ((fu.getD b []).map cD) from rfl, sl_from, op_AddT, t_with_blanks_go]
  refine ⟨?_, ?_⟩
  · rw [rpt_non]
    refine le_line (m := 12) ?_
    rw [List.length_replicate, List.length_drop, List.length_map]
    omega
  simp only [w19]
  rw [e_dRet, e_dTup]
  simp only [e_dCons, e_dNil, e_dTup, e_dC, e_dOp, e_dSl, v1, v2, v5, v18, v19, e_dPart, e_dNoPart, sl_to, op_Add, op_AddT]
  rw [show (some ((b : Int) + 1)) = some ((b + 1 : Nat) : Int) from rfl]
  simp only [sl_from, op_AddT]
  have ea : List.take b (c.map rowD) ++ [rowD (withBlanks (fu.getD b []) k)] ++ List.drop (b + 1) (c.map rowD) = (setL c b (withBlanks (fu.getD b []) k)).map rowD := by rw [List.append_assoc, ← setL_map]; rfl
  rw [ea]
  refine ⟨le_line (m := 3) (Nat.le_refl _), le_line (m := 1) (Nat.le_refl _), le200 ?_, le200 ?_, le_line (m := 4) (Nat.le_refl _), dend0 (z (.write b k) o2 ⟨hb, hk⟩ uo2)⟩
  · simp only [List.length_take, List.length_map, List.length_singleton]; omega
  · simp only [List.length_append, List.length_take, List.length_drop, List.length_map, List.length_singleton]; omega
theorem rd_step_6 (u : UrnO o m) (hm2 : m < LIM) (q : Sh c fu w) (hb : b < c.length) (z : ∀ (deed : Deed) o, deed.ok c w → UrnO o (m + 1) → Q (stepD c fu deed) (dupd h a o)) :
    t_step_6 (dEnd Q X) [some (.ref a), some (.tup (c.map rowD)), some (.tup (fu.map rowD)), some (.int (c.length : Nat)), some (.int way), some (.int (b : Nat)), x6, x7, x8, x9, x10, x11, x12, x13, x14, x15, x16, x17, x18, x19, x20, x21] (dupd h a o) := by
  unfold t_step_6
  rw [e_dSeq, e_dIf, e_dTest, e_dOp]
  simp only [v4, e_dC, eq_int, decide_eq_true_eq, decide_eq_false_iff_not]
  refine ⟨fun e => ?_, fun e => rd_step_write u hm2 q hb z⟩
  rw [e_dSeq, e_dAsgT]
  simp only [e_dCall, e_dCons, e_dNil, v1, v2]
  refine i_law_written q.tc q.tf q.pc q.lf ?_
  simp only [bT_two, w16, w17]
  rw [e_dRet, e_dTup]
  simp only [e_dCons, e_dNil, e_dTup, e_dC, v17, v16, v2]
  exact ⟨le_line (m := 1) (Nat.le_refl _), le_line (m := 4) (Nat.le_refl _), dend0 (z .repair o trivial (u.mono (Nat.le_succ _)))⟩
theorem rd_step_5 (u : UrnO o m) (hm2 : m < LIM) (q : Sh c fu w) (hb : b < c.length) (z : ∀ (deed : Deed) o, deed.ok c w → UrnO o (m + 1) → Q (stepD c fu deed) (dupd h a o)) :
    t_step_5 (dEnd Q X) [some (.ref a), some (.tup (c.map rowD)), some (.tup (fu.map rowD)), some (.int (c.length : Nat)), some (.int way), some (.int (b : Nat)), x6, x7, x8, x9, x10, x11, x12, x13, x14, x15, x16, x17, x18, x19, x20, x21] (dupd h a o) := by
  have rl : (readRows none c).length = c.length := readRows_len c none
  have h60 := q.tc.le
  have lf := q.lf
  unfold t_step_5
  rw [e_dSeq, e_dIf, e_dTest, e_dOp]
  simp only [v4, e_dC, eq_int, decide_eq_true_eq, decide_eq_false_iff_not]
  refine ⟨fun e => ?_, fun e => rd_step_6 u hm2 q hb z⟩
  rw [e_dSeq, e_dAsg]
  simp only [e_dCall, e_dCons, e_dNil, v1]
  refine i_law_read q.tc ?_
  simp only [w14]
  rw [e_dIf, e_dTest, e_dOp, e_dLc, e_iSeqD]
  simp only [v14, it_lst]
  refine ⟨by rw [List.length_map]; omega, ?_⟩
  refine noneIn_go _ q.tc.read.strOk (fun r Q' hi q' => ?_) (fun r Q' q' => ?_) fun v hv ev => ?_
  · simp only [dwipe, w19, e_dTest, e_dOp, e_dC, v19]
    refine Eq.mpr (hi _) ?_
    exact q'
  · simp only [dwipe, w19, v19]; exact q'
  rw [e_dLst, e_dNil]
  refine ⟨Nat.zero_le _, ?_⟩
  rw [eq_nilL hv]
  simp only [decide_eq_true_eq, decide_eq_false_iff_not]
  refine ⟨fun e2 => ?_, fun e2 => rd_step_6 u hm2 q hb z⟩
  have hno := ev.mp e2
  rw [e_dSeq, e_dAsg, e_dLc, e_iEnumD]
  simp only [v14, it_lst]
  refine ⟨by unfold enumD; simp only [List.length_map, List.length_zip, List.length_range, Nat.min_self]; omega, ?_⟩
  refine wrong_go (readRows none c) fu (by omega) q.tc.read.strOk q.tf.strOk (fun i r Q' hi hne q' => ?_) (fun i r Q' q' => ?_) ?_
  · have ef : fu[i]? = some fu[i] := List.getElem?_eq_getElem (by omega)
    simp only [dwipe, w19, w20, e_dTest, e_dOp, v2, v19, v20]
    refine Eq.mpr (ix_tup (x := rowD fu[i]) (by rw [List.getElem?_map, ef]; rfl)) ?_
    refine Eq.mpr (hne _ _ ef) ?_
    exact q' _ ef
  · simp only [dwipe, w19, w20, v20]
    exact q'
  simp only [w15]
  rw [e_dRet, e_dTup]
  simp only [e_dCons, e_dNil, e_dTup, e_dC, e_dCB, v15, v1, v14, cb_tupleL]
  exact ⟨le_line (m := 1) (Nat.le_refl _), le_line (m := 4) (Nat.le_refl _), dend0 (z .adopt o hno (u.mono (Nat.le_succ _)))⟩
theorem rd_step_34 (u : UrnO o m) (hm2 : m + 210 ≤ LIM) (q : Sh c fu w) (hb : b < c.length) (z : ∀ (deed : Deed) o, deed.ok c w → UrnO o (m + 201) → Q (stepD c fu deed) (dupd h a o)) :
    t_step_34 (dEnd Q X) [some (.ref a), some (.tup (c.map rowD)), some (.tup (fu.map rowD)), some (.int (c.length : Nat)), some (.int way), some (.int (b : Nat)), x6, x7, x8, x9, x10, x11, x12, x13, x14, x15, x16, x17, x18, x19, x20, x21] (dupd h a o) := by
  have h60 := q.tc.le
  have nxt : ∀ y6 y7 y8 y9 y10 y11 y12 y13 y14 y15 y16 y17 y18 y19 y20 y21, t_step_5 (dEnd Q X) [some (.ref a), some (.tup (c.map rowD)), some (.tup (fu.map rowD)), some (.int (c.length : Nat)), some (.int way), some (.int (b : Nat)), y6, y7, y8, y9, y10, y11, y12, y13, y14, y15, y16, y17, y18, y19, y20, y21] (dupd h a o) :=
    fun _ _ _ _ _ _ _ _ _ _ _ _ _ _ _ _ => rd_step_5 u (by omega) q hb fun d o k u => z d o k (u.mono (by omega))
  unfold t_step_34
  rw [e_dSeq, e_dIf, e_dAnd, e_dTest, e_dOp]
  simp only [v4, e_dTup, e_dCons, e_dNil, e_dC, in_two]
  refine ⟨le_line (m := 2) (Nat.le_refl _), fun e => ?_, fun e => ⟨fun z => (by cases z), fun _ => nxt _ _ _ _ _ _ _ _ _ _ _ _ _ _ _ _⟩⟩
  rw [e_dTest, e_dOp]
  simp only [v3, e_dC, op_Lt, decide_eq_true_eq, decide_eq_false_iff_not]
  refine ⟨fun e2 => ?_, fun e2 => nxt _ _ _ _ _ _ _ _ _ _ _ _ _ _ _ _⟩
  rw [e_dRet]
  simp only [e_dCall, e_dCons, e_dNil, e_dOp, e_dC, v0, v1, v2, v3, op_Add]
  refine i_law_draw m (Urn.upd u) (by omega) (by omega) (by omega) fun pl o2 p0 p1 uo2 => ?_
  simp only [dupd2]
  refine i_law_put_in (m + 1) (Urn.upd uo2) (by omega) q.tc q.tf q.w1 q.c1 q.lf p0 (by omega) fun own o3 hol hpr hno uo3 => ?_
  obtain ⟨pl, rfl⟩ := Int.eq_ofNat_of_zero_le p0
  rw [dupd2]
  exact dend0 (z (.insert pl own) o3 ⟨by omega, by omega, hol, hpr, hno⟩ (uo3.mono (by omega)))
theorem rd_step_2 (u : UrnO o m) (hm2 : m + 210 ≤ LIM) (q : Sh c fu w) (hb : b < c.length) (z : ∀ (deed : Deed) o, deed.ok c w → UrnO o (m + 201) → Q (stepD c fu deed) (dupd h a o)) :
    t_step_2 (dEnd Q X) [some (.ref a), some (.tup (c.map rowD)), some (.tup (fu.map rowD)), some (.int (c.length : Nat)), some (.int way), some (.int (b : Nat)), x6, x7, x8, x9, x10, x11, x12, x13, x14, x15, x16, x17, x18, x19, x20, x21] (dupd h a o) := by
  have h60 := q.tc.le
  have lf := q.lf
  have nxt : ∀ y6 y7 y8 y9 y10 y11 y12 y13 y14 y15 y16 y17 y18 y19 y20 y21, t_step_34 (dEnd Q X) [some (.ref a), some (.tup (c.map rowD)), some (.tup (fu.map rowD)), some (.int (c.length : Nat)), some (.int way), some (.int (b : Nat)), y6, y7, y8, y9, y10, y11, y12, y13, y14, y15, y16, y17, y18, y19, y20, y21] (dupd h a o) :=
    fun _ _ _ _ _ _ _ _ _ _ _ _ _ _ _ _ => rd_step_34 u hm2 q hb z
  unfold t_step_2
  rw [e_dSeq, e_dIf, e_dAnd, e_dTest, e_dOp]
  simp only [v4, e_dC, eq_int]
  refine ⟨fun e => ?_, fun e => ⟨fun z => (by cases z), fun _ => nxt _ _ _ _ _ _ _ _ _ _ _ _ _ _ _ _⟩⟩
  rw [e_dTest, e_dOp]
  simp only [v3, e_dC, op_Gt, decide_eq_true_eq, decide_eq_false_iff_not]
  refine ⟨fun e2 => ?_, fun e2 => nxt _ _ _ _ _ _ _ _ _ _ _ _ _ _ _ _⟩
  obtain ⟨mf, ef⟩ := getD_mem (t := fu) (i := b) (by omega)
  rw [e_dSeq, e_dAsg, e_dOp, e_dSl]
  simp only [v1, v5, e_dPart, e_dNoPart, sl_to, e_dSl, e_dOp, e_dC, op_Add]
  rw [show (some ((b : Int) + 1)) = some ((b + 1 : Nat) : Int) from rfl]
  simp only [sl_from, op_AddT, rmL_map, w13]
  refine ⟨le200 (by simp only [List.length_take, List.length_drop, List.length_map]; omega), ?_⟩
  rw [e_dRet, e_dTup]
  simp only [e_dCons, e_dNil, e_dTup, e_dC, e_dOp, e_dSl, v2, v5, v13, e_dPart, e_dNoPart, sl_to, op_Add]
  rw [show (some ((b : Int) + 1)) = some ((b + 1 : Nat) : Int) from rfl]
  simp only [sl_from, op_AddT, rmL_map]
  refine ⟨le_line (m := 2) (Nat.le_refl _), ?_⟩
  rw [ix_tup (x := rowD (fu.getD b [])) (by rw [List.getElem?_map, ef]; rfl)]
  exact ⟨le200 (by simp only [List.length_take, List.length_drop, List.length_map]; omega), le_line (m := 4) (Nat.le_refl _), dend0 (z (.remove b) o ⟨hb, by omega⟩ (u.mono (by omega)))⟩
end
theorem mv_map (t : List Row) (b f p : Nat) : List.take p (List.take b (t.map rowD) ++ List.drop (f + 1) (t.map rowD)) ++ List.take (f + 1 - b) (List.drop b (t.map rowD)) ++ List.drop p (List.take b (t.map rowD) ++ List.drop (f + 1) (t.map rowD)) = (movedL t b f p).map rowD := by
  rw [← movedL_map]; rfl
theorem rd_law_step (ds : List D) (h : DH) (Q : DK) (X : DX) (z : sp_law_step ds h Q X) : t_law_step (dEnd Q X) (dstart n_law_step ds) h := by
  match ds, z with
  | [.ref a, _, _], ⟨n, c, fu, w, u, hn, rfl, rfl, q, z⟩ =>
    show t_law_step (dEnd Q X) [some (.ref a), some (.tup (c.map rowD)), some (.tup (fu.map rowD)), none, none, none, none, none, none, none, none, none, none, none, none, none, none, none, none, none, none, none] h
    unfold t_law_step
    have h60 := q.tc.le
    have lf := q.lf
    have c1 := q.c1
    rw [e_dSeq, e_dPar]
    simp only [e_dCB, e_dCons, e_dNil, v1, cb_lenT, List.length_map, e_dCall, v0, e_dC]
    refine i_law_draw n u (by omega) (by decide) (by decide) fun way o1 wy0 wy8 uo1 => ?_
    simp only [w3, w4]
    rw [e_dSeq, e_dAsg]
    simp only [e_dCall, e_dCons, e_dNil, v0, v3]
    refine i_law_draw (n + 1) (Urn.upd uo1) (by omega) (by omega) (by omega) fun b o2 b0 b1 uo2 => ?_
    simp only [dupd2, w5]
    obtain ⟨b, rfl⟩ := Int.eq_ofNat_of_zero_le b0
    have hb : b < c.length := by omega
    rw [e_dSeq, e_dIf, e_dTest, e_dOp]
    simp only [v4, e_dC, op_Lt, decide_eq_true_eq, decide_eq_false_iff_not]
    refine ⟨fun e => ?_, fun e => rd_step_2 uo2 (by omega) q hb fun d o k u => z d o k (u.mono (by omega))⟩
    rw [e_dSeq, e_dAsg, e_dOp, e_dLst]
    simp only [e_dCons, e_dNil, v5, e_dOp, e_dCall, v0, v3, op_Sub]
    refine i_law_draw (n + 2) (Urn.upd uo2) (by omega) (by omega) (by omega) fun k o3 k0 k1 uo3 => ?_
    simp only [dupd2, op_Add, v4]
    refine ⟨le_line (m := 2) (Nat.le_refl _), ?_⟩
    obtain ⟨f, ef, bf, fc⟩ : ∃ f : Nat, [D.int (b : Nat), D.int ((b : Int) + k)][way.toNat]? = some (.int (f : Nat)) ∧ b ≤ f ∧ f < c.length := by
      have e2 : way = 0 ∨ way = 1 := by omega
      rcases e2 with rfl | rfl
      · exact ⟨b, rfl, Nat.le_refl _, hb⟩
      · exact ⟨b + k.toNat, by show some (D.int ((b : Int) + k)) = _; congr 2; omega, by omega, by omega⟩
    rw [show way = (way.toNat : Int) by omega, ix_lst ef]
    simp only [w6]
    rw [e_dSeq, e_dAsg, e_dOp, e_dSl]
    simp only [v1, v5, v6, e_dPart, e_dNoPart, sl_to, e_dSl, e_dOp, e_dC, op_Add]
    rw [show (some ((f : Int) + 1)) = some ((f + 1 : Nat) : Int) from rfl]
    simp only [sl_from, op_AddT, w7]
    refine ⟨le200 (by simp only [List.length_take, List.length_drop, List.length_map]; omega), ?_⟩
    rw [e_dSeq, e_dAsg]
    simp only [e_dCall, e_dCons, e_dNil, v0, e_dOp, e_dCB, v7, cb_lenT, e_dC, op_Add]
    have hol : ((List.take b (c.map rowD) ++ List.drop (f + 1) (c.map rowD)).length : Int) = (c.length - (f + 1 - b) : Nat) := by
      simp only [List.length_append, List.length_take, List.length_drop, List.length_map]
      omega
    rw [hol]
    refine i_law_draw (n + 3) (Urn.upd uo3) (by omega) (by omega) (by omega) fun p o4 p0 p1 uo4 => ?_
    simp only [dupd2, w8]
    obtain ⟨p, rfl⟩ := Int.eq_ofNat_of_zero_le p0
    rw [e_dSeq, e_dAsg, e_dLstM]
    simp only [e_dNil, w9]
    refine ⟨Nat.zero_le _, fun r hr => ?_⟩
    have one : ∀ (t : List Row) (xs : List D) (D' : DEnds) (y10 y11 y12 y13 y14 y15 y16 y17 y18 y19 y20 y21 : Option D), t.length = c.length → xs.length ≤ 10 →
        (∀ y11 y12, D'.nx [some (.ref a), some (.tup (c.map rowD)), some (.tup (fu.map rowD)), some (.int (c.length : Nat)), some (.int (way.toNat : Nat)), some (.int (b : Nat)), some (.int (f : Nat)), some (.tup (List.take b (c.map rowD) ++ List.drop (f + 1) (c.map rowD))), some (.int (p : Nat)), some (.ref r), some (tabD t), y11, y12, y13, y14, y15, y16, y17, y18, y19, y20, y21] (dupd (dupd h a o4) r (.lst (xs ++ [tabD (movedL t b f p)])))) →
        (dSeq (dAsg (dOp dAdd (dSl dSlice (dVar 10) dNoPart (dPart (dVar 5))) (dSl dSlice (dVar 10) (dPart (dOp dAdd (dVar 6) (dC (.int 1)))) dNoPart)) 11)
  (dSeq (dAsg (dSl dSlice (dVar 10) (dPart (dVar 5)) (dPart (dOp dAdd (dVar 6) (dC (.int 1))))) 12)
  (dDrop (dBM "list" dAppend (dVar 9) (dCons (dOp dAdd (dOp dAdd (dSl dSlice (dVar 11) dNoPart (dPart (dVar 8))) (dVar 12)) (dSl dSlice (dVar 11) (dPart (dVar 8)) dNoPart)) dNil))))) D'
          [some (.ref a), some (.tup (c.map rowD)), some (.tup (fu.map rowD)), some (.int (c.length : Nat)), some (.int (way.toNat : Nat)), some (.int (b : Nat)), some (.int (f : Nat)), some (.tup (List.take b (c.map rowD) ++ List.drop (f + 1) (c.map rowD))), some (.int (p : Nat)), some (.ref r), some (tabD t), y11, y12, y13, y14, y15, y16, y17, y18, y19, y20, y21] (dupd (dupd h a o4) r (.lst xs)) := by
      intro t xs D' y10 y11 y12 y13 y14 y15 y16 y17 y18 y19 y20 y21 ht hx nx
      rw [show tabD t = .tup (t.map rowD) from rfl] at nx ⊢
      rw [e_dSeq, e_dAsg, e_dOp, e_dSl]
      simp only [v10, v5, v6, e_dPart, e_dNoPart, sl_to, e_dSl, e_dOp, e_dC, op_Add]
      rw [show (some ((f : Int) + 1)) = some ((f + 1 : Nat) : Int) from rfl]
      simp only [sl_from, op_AddT, w11]
      refine ⟨le200 (by simp only [List.length_take, List.length_drop, List.length_map]; omega), ?_⟩
      rw [e_dSeq, e_dAsg, e_dSl]
      simp only [v10, v5, v6, e_dPart, e_dOp, e_dC, op_Add]
      rw [show (some ((f : Int) + 1)) = some ((f + 1 : Nat) : Int) from rfl, sl_both]
      simp only [w12]
      rw [e_dDrop, e_dBM]
      simp only [v9, e_dCons, e_dNil, e_dOp, e_dSl, v11, v8, v12, e_dPart, e_dNoPart, sl_to, sl_from, op_AddT]
      have e0 : dupd (dupd h a o4) r (DO.lst xs) r = some (.lst xs) := dupd_same
      refine ⟨⟨rfl, _, e0⟩, le200 ?_, le200 ?_, ?_⟩
      · simp only [List.length_append, List.length_take, List.length_drop, List.length_map]; omega
      · simp only [List.length_append, List.length_take, List.length_drop, List.length_map]; omega
      rw [me_append e0, mv_map, dupd2]
      exact ⟨Nat.lt_of_le_of_lt hx (by decide), nx _ _⟩
    rw [e_dSeq, e_dFor, e_iSeqD, e_dTup]
    simp only [e_dCons, e_dNil, v1, v2, it_tup]
    refine ⟨le_line (m := 2) (Nat.le_refl _), ?_⟩
    have e_r : ∀ o, (dupd (dupd h a o4) r o) = dupd (dupd h a o4) r o := fun _ => rfl
    unfold forGo
    simp only [bT_nm, w10]
    refine one c [] _ none _ _ _ _ _ _ _ _ _ _ _ rfl (by simp) fun y11 y12 => ?_
    dsimp only
    unfold forGo
    simp only [bT_nm, w10]
    refine one fu _ _ none _ _ _ _ _ _ _ _ _ _ _ lf (by simp) fun y11 y12 => ?_
    dsimp only
    unfold forGo
    dsimp only
    rw [e_dRet, e_dTup]
    have e0 : dupd (dupd h a o4) r (DO.lst ([] ++ [tabD (movedL c b f p)] ++ [tabD (movedL fu b f p)])) r = some (.lst [tabD (movedL c b f p), tabD (movedL fu b f p)]) := dupd_same
    simp only [e_dCons, e_dNil, e_dTup, e_dC, e_dOp, v5, v6, v8, v9]
    rw [ix_ref0 e0]
    simp only [ix_ref1 e0]
    refine ⟨le_line (m := 4) (Nat.le_refl _), le_line (m := 4) (Nat.le_refl _), ⟨_, DSub.new (DSub.refl _) hr, ?_⟩⟩
    exact z (.move b f p) o4 ⟨bf, fc, by omega⟩ (uo4.mono (by omega))
/-! a step is done -/
/-- what an operation has returned, and where -/
def Did (hc : DH) (due v : D) (h' : DH) : Prop := (v = due ∧ h' = hc) ∨ ∃ q l, v = .ref q ∧ hc q = none ∧ due = .lst (intsD l) ∧ h' = dupd hc q (.lst (intsD l))
def sp_law_done (C : Addr) (_ _ _ _ _ _ _ : DL.Er) : DSp := fun ds h Q _ => match ds with
  | [.ref s, d, .bl _] => ∃ p c fu past w, ∃ deed : Deed, SheetAt C h s p c fu past ∧ Sh c fu w ∧ past.length ≤ 1000000 ∧ d = deed.D ∧ deed.ok c w ∧ ∀ v h', Did (changed C s p h c fu past (deed.cells c fu) (deed.full c fu)) (deed.due c fu) v h' → Q v h'
  | _ => False
theorem i_law_done {C s p : Addr} {Ec En Ep Er El Ef Em : DL.Er} {c fu : List Row} {past : List D} {w : Nat} {deed : Deed} {b : Bool} {h : DH} {Q : DK} {X : DX} (at_ : SheetAt C h s p c fu past) (q : Sh c fu w) (hp : past.length ≤ 1000000) (ok : deed.ok c w)
    (z : ∀ v h', Did (changed C s p h c fu past (deed.cells c fu) (deed.full c fu)) (deed.due c fu) v h' → Q v h') : sp_law_done C Ec En Ep Er El Ef Em [.ref s, deed.D, .bl b] h Q X :=
  ⟨p, c, fu, past, w, deed, at_, q, hp, rfl, ok, z⟩
def t_law_done (C_Sheet : Addr) (E_InvalidCells : Er) (E_InvalidCount : Er) (E_InvalidPlace : Er) (E_InvalidRow : Er) (E_Loose : Er) (E_TooFew : Er) (E_TooMany : Er) : DS :=
(dSeq (dIf (dTest (dOp dEq (dOp dIx (dVar 1) (dC (.int 0))) (dC (.str "move")))) (dSeq (dIf (dTest (dVar 2)) (dRet (dMethK C_Sheet "move" (sp_Sheet_move C_Sheet E_InvalidPlace E_InvalidRow) 3 [0, 3, 2, 1] (dVar 0) (dCons (dOp dIx (dVar 1) (dC (.int 3))) (dCons (dOp dIx (dVar 1) (dC (.int 2))) (dCons (dOp dIx (dVar 1) (dC (.int 1))) dNil))))) dNext)
  (dRet (dMeth C_Sheet "move" (sp_Sheet_move C_Sheet E_InvalidPlace E_InvalidRow) (dVar 0) (dCons (dOp dIx (dVar 1) (dC (.int 1))) (dCons (dOp dIx (dVar 1) (dC (.int 2))) (dCons (dOp dIx (dVar 1) (dC (.int 3))) dNil)))))) dNext)
  (dSeq (dIf (dTest (dOp dEq (dOp dIx (dVar 1) (dC (.int 0))) (dC (.str "remove")))) (dRet (dMeth C_Sheet "remove" (sp_Sheet_remove C_Sheet E_InvalidRow E_TooFew) (dVar 0) (dCons (dOp dIx (dVar 1) (dC (.int 1))) dNil))) dNext)
  (dSeq (dIf (dTest (dOp dEq (dOp dIx (dVar 1) (dC (.int 0))) (dC (.str "insert")))) (dRet (dMeth C_Sheet "insert" (sp_Sheet_insert C_Sheet E_InvalidCells E_InvalidPlace E_Loose E_TooMany) (dVar 0) (dCons (dOp dIx (dVar 1) (dC (.int 1))) (dCons (dOp dIx (dVar 1) (dC (.int 2))) dNil)))) dNext)
  (dSeq (dIf (dTest (dOp dEq (dOp dIx (dVar 1) (dC (.int 0))) (dC (.str "write")))) (dRet (dIfE (dTest (dVar 2)) (dMethK C_Sheet "write" (sp_Sheet_write C_Sheet E_InvalidCount E_InvalidRow) 2 [0, 2, 1] (dVar 0) (dCons (dOp dIx (dVar 1) (dC (.int 2))) (dCons (dOp dIx (dVar 1) (dC (.int 1))) dNil))) (dMeth C_Sheet "write" (sp_Sheet_write C_Sheet E_InvalidCount E_InvalidRow) (dVar 0) (dCons (dOp dIx (dVar 1) (dC (.int 1))) (dCons (dOp dIx (dVar 1) (dC (.int 2))) dNil))))) dNext)
  (dRet (dIfE (dTest (dOp dEq (dOp dIx (dVar 1) (dC (.int 0))) (dC (.str "adopt")))) (dMeth C_Sheet "adopt" (sp_Sheet_adopt C_Sheet E_Loose) (dVar 0) dNil) (dMeth C_Sheet "repair" (sp_Sheet_repair C_Sheet) (dVar 0) dNil)))))))
def n_law_done : List Str := ["sheet", "deed", "is_named"]
/- 0=sheet 1=deed 2=is_named -/
theorem rd_law_done (C : Addr) (Ec En Ep Er El Ef Em : DL.Er) (ds : List D) (h : DH) (Q : DK) (X : DX) (z : sp_law_done C Ec En Ep Er El Ef Em ds h Q X) : t_law_done C Ec En Ep Er El Ef Em (dEnd Q X) (dstart n_law_done ds) h := by
  match ds, z with
  | [.ref s, _, .bl nm], ⟨p, c, fu, past, w, deed, at_, q, hp, rfl, ok, z⟩ =>
    show t_law_done C Ec En Ep Er El Ef Em (dEnd Q X) [some (.ref s), some deed.D, some (.bl nm)] h
    unfold t_law_done
    have lf := q.lf
    have c1 := q.c1
    have i1 : ∀ {x y : D} {xs : List D} {h : DH} {Q : DK}, dIx (.tup (y :: x :: xs)) (.int 1) h Q = Q x h := ix_tup1
    have i2 : ∀ {x y y2 : D} {xs : List D} {h : DH} {Q : DK}, dIx (.tup (y :: y2 :: x :: xs)) (.int 2) h Q = Q x h := fun {_ _ _ _ _ _} => ix_tup (k := 2) rfl
    have i3 : ∀ {x y y2 y3 : D} {xs : List D} {h : DH} {Q : DK}, dIx (.tup (y :: y2 :: y3 :: x :: xs)) (.int 3) h Q = Q x h := fun {_ _ _ _ _ _ _} => ix_tup (k := 3) rfl
    have n1 : ∀ x ∈ ([Str.ofString "remove", Str.ofString "insert", Str.ofString "write", Str.ofString "adopt", Str.ofString "repair"] : List Str), decide (x = Str.ofString "move") = false := by decide +kernel
    have n2 : ∀ x ∈ ([Str.ofString "insert", Str.ofString "write", Str.ofString "adopt", Str.ofString "repair"] : List Str), decide (x = Str.ofString "remove") = false := by decide +kernel
    have n3 : ∀ x ∈ ([Str.ofString "write", Str.ofString "adopt", Str.ofString "repair"] : List Str), decide (x = Str.ofString "insert") = false := by decide +kernel
    have n4 : ∀ x ∈ ([Str.ofString "adopt", Str.ofString "repair"] : List Str), decide (x = Str.ofString "write") = false := by decide +kernel
    have n5 : ∀ x ∈ ([Str.ofString "repair"] : List Str), decide (x = Str.ofString "adopt") = false := by decide +kernel
    have ixs : ∀ (x : Str) (xs : List D) (Q : DK), dIx (.tup (D.str x :: xs)) (.int 0) h Q = Q (.str x) h := fun _ _ _ => ix_tup0
    have fin : Q (deed.due c fu) (changed C s p h c fu past (deed.cells c fu) (deed.full c fu)) := z _ _ (.inl ⟨rfl, rfl⟩)
    cases deed with
    | move f l pl =>
      obtain ⟨h1, h2, h3⟩ := ok
      rw [show (Deed.move f l pl).D = .tup [.str "move", .int (f : Nat), .int (l : Nat), .int (pl : Nat)] from rfl]
      rw [e_dSeq, e_dIf, e_dTest, e_dOp, e_dOp]
      simp only [v1, e_dC, ixs, eq_str, decide_true]
      refine ⟨fun _ => ?_, fun z => (by cases z)⟩
      rw [e_dSeq, e_dIf, e_dTest]
      simp only [v2]
      refine ⟨fun _ => ?_, fun _ => ?_⟩
      · rw [e_dRet]
        unfold dMethK
        simp only [v0, v1, e_dCons, e_dNil, e_dOp, e_dC, i1, i2, i3]
        refine ⟨s, _, rfl, at_.at_, lk_no, rfl, ?_⟩
        exact i_Sheet_move (l := (l : Nat)) at_ q.tc lf hp (by omega) (by omega) (by omega) (by omega) (by omega) (dend0 fin)
      · rw [e_dNext]
        dsimp only
        rw [e_dRet]
        unfold dMeth
        simp only [v0, v1, e_dCons, e_dNil, e_dOp, e_dC, i1, i2, i3]
        refine ⟨s, _, rfl, at_.at_, lk_no, ?_⟩
        exact i_Sheet_move (l := (l : Nat)) at_ q.tc lf hp (by omega) (by omega) (by omega) (by omega) (by omega) (dend0 fin)
    | remove i =>
      obtain ⟨h1, h2⟩ := ok
      obtain ⟨mf, ef⟩ := getD_mem (t := fu) (i := i) (by omega)
      rw [show (Deed.remove i).D = .tup [.str "remove", .int (i : Nat)] from rfl]
      rw [e_dSeq, e_dIf, e_dTest, e_dOp, e_dOp]
      simp only [v1, e_dC, ixs, eq_str]
      rw [n1 _ (by simp)]
      refine ⟨fun z => (by cases z), fun _ => ?_⟩
      rw [e_dNext]
      dsimp only
      rw [e_dSeq, e_dIf, e_dTest, e_dOp, e_dOp]
      simp only [v1, e_dC, ixs, eq_str, decide_true]
      refine ⟨fun _ => ?_, fun z => (by cases z)⟩
      rw [e_dRet]
      unfold dMeth
      simp only [v0, v1, e_dCons, e_dNil, e_dOp, e_dC, i1]
      refine ⟨s, _, rfl, at_.at_, lk_no, ?_⟩
      exact i_Sheet_remove at_ q.tc.le lf hp (by omega) (by omega) h2 ef (dend0 fin)
    | insert i r =>
      obtain ⟨h1, h2, h3, h4, h5⟩ := ok
      rw [show (Deed.insert i r).D = .tup [.str "insert", .int (i : Nat), rowD r] from rfl]
      rw [e_dSeq, e_dIf, e_dTest, e_dOp, e_dOp]
      simp only [v1, e_dC, ixs, eq_str]
      rw [n1 _ (by simp)]
      refine ⟨fun z => (by cases z), fun _ => ?_⟩
      rw [e_dNext]
      dsimp only
      rw [e_dSeq, e_dIf, e_dTest, e_dOp, e_dOp]
      simp only [v1, e_dC, ixs, eq_str]
      rw [n2 _ (by simp)]
      refine ⟨fun z => (by cases z), fun _ => ?_⟩
      rw [e_dNext]
      dsimp only
      rw [e_dSeq, e_dIf, e_dTest, e_dOp, e_dOp]
      simp only [v1, e_dC, ixs, eq_str, decide_true]
      refine ⟨fun _ => ?_, fun z => (by cases z)⟩
      rw [e_dRet]
      unfold dMeth
      simp only [v0, v1, e_dCons, e_dNil, e_dOp, e_dC, i1, i2]
      refine ⟨s, _, rfl, at_.at_, lk_no, ?_⟩
      have hw1 := q.w1
      have hw6 := q.tc.w6
      exact i_Sheet_insert at_ q.tc q.tf c1 lf hp (by omega) (by omega) (isRow_of (by omega) (by omega) h4) h3 h2 h5 (dend0 fin)
    | write i k =>
      obtain ⟨h1, h2⟩ := ok
      obtain ⟨mc, ec⟩ := getD_mem h1
      obtain ⟨mf, ef⟩ := getD_mem (t := fu) (i := i) (by omega)
      rw [show (Deed.write i k).D = .tup [.str "write", .int (i : Nat), .int (k : Nat)] from rfl]
      rw [e_dSeq, e_dIf, e_dTest, e_dOp, e_dOp]
      simp only [v1, e_dC, ixs, eq_str]
      rw [n1 _ (by simp)]
      refine ⟨fun z => (by cases z), fun _ => ?_⟩
      rw [e_dNext]
      dsimp only
      rw [e_dSeq, e_dIf, e_dTest, e_dOp, e_dOp]
      simp only [v1, e_dC, ixs, eq_str]
      rw [n2 _ (by simp)]
      refine ⟨fun z => (by cases z), fun _ => ?_⟩
      rw [e_dNext]
      dsimp only
      rw [e_dSeq, e_dIf, e_dTest, e_dOp, e_dOp]
      simp only [v1, e_dC, ixs, eq_str]
      rw [n3 _ (by simp)]
      refine ⟨fun z => (by cases z), fun _ => ?_⟩
      rw [e_dNext]
      dsimp only
      rw [e_dSeq, e_dIf, e_dTest, e_dOp, e_dOp]
      simp only [v1, e_dC, ixs, eq_str, decide_true]
      refine ⟨fun _ => ?_, fun z => (by cases z)⟩
      rw [e_dRet, e_dIfE, e_dTest]
      simp only [v2]
      refine ⟨fun _ => ?_, fun _ => ?_⟩
      · unfold dMethK
        simp only [v0, v1, e_dCons, e_dNil, e_dOp, e_dC, i1, i2]
        refine ⟨s, _, rfl, at_.at_, lk_no, rfl, ?_⟩
        exact i_Sheet_write (k := (k : Nat)) at_ q.tc q.tf lf hp (by omega) (by omega) ec ef (by omega) (by omega) (dend0 fin)
      · unfold dMeth
        simp only [v0, v1, e_dCons, e_dNil, e_dOp, e_dC, i1, i2]
        refine ⟨s, _, rfl, at_.at_, lk_no, ?_⟩
        exact i_Sheet_write (k := (k : Nat)) at_ q.tc q.tf lf hp (by omega) (by omega) ec ef (by omega) (by omega) (dend0 fin)
    | adopt =>
      rw [show Deed.adopt.D = .tup [.str "adopt"] from rfl]
      rw [e_dSeq, e_dIf, e_dTest, e_dOp, e_dOp]
      simp only [v1, e_dC, ixs, eq_str]
      rw [n1 _ (by simp)]
      refine ⟨fun z => (by cases z), fun _ => ?_⟩
      rw [e_dNext]
      dsimp only
      rw [e_dSeq, e_dIf, e_dTest, e_dOp, e_dOp]
      simp only [v1, e_dC, ixs, eq_str]
      rw [n2 _ (by simp)]
      refine ⟨fun z => (by cases z), fun _ => ?_⟩
      rw [e_dNext]
      dsimp only
      rw [e_dSeq, e_dIf, e_dTest, e_dOp, e_dOp]
      simp only [v1, e_dC, ixs, eq_str]
      rw [n3 _ (by simp)]
      refine ⟨fun z => (by cases z), fun _ => ?_⟩
      rw [e_dNext]
      dsimp only
      rw [e_dSeq, e_dIf, e_dTest, e_dOp, e_dOp]
      simp only [v1, e_dC, ixs, eq_str]
      rw [n4 _ (by simp)]
      refine ⟨fun z => (by cases z), fun _ => ?_⟩
      rw [e_dNext]
      dsimp only
      rw [e_dRet, e_dIfE, e_dTest, e_dOp, e_dOp]
      simp only [v1, e_dC, ixs, eq_str, decide_true]
      refine ⟨fun _ => ?_, fun z => (by cases z)⟩
      unfold dMeth
      simp only [v0, e_dNil]
      refine ⟨s, _, rfl, at_.at_, lk_no, ?_⟩
      exact i_Sheet_adopt at_ q.tc q.tf lf hp ok fun r hr => dend0 (z _ _ (.inr ⟨r, _, rfl, hr, rfl, rfl⟩))
    | repair =>
      rw [show Deed.repair.D = .tup [.str "repair"] from rfl]
      rw [e_dSeq, e_dIf, e_dTest, e_dOp, e_dOp]
      simp only [v1, e_dC, ixs, eq_str]
      rw [n1 _ (by simp)]
      refine ⟨fun z => (by cases z), fun _ => ?_⟩
      rw [e_dNext]
      dsimp only
      rw [e_dSeq, e_dIf, e_dTest, e_dOp, e_dOp]
      simp only [v1, e_dC, ixs, eq_str]
      rw [n2 _ (by simp)]
      refine ⟨fun z => (by cases z), fun _ => ?_⟩
      rw [e_dNext]
      dsimp only
      rw [e_dSeq, e_dIf, e_dTest, e_dOp, e_dOp]
      simp only [v1, e_dC, ixs, eq_str]
      rw [n3 _ (by simp)]
      refine ⟨fun z => (by cases z), fun _ => ?_⟩
      rw [e_dNext]
      dsimp only
      rw [e_dSeq, e_dIf, e_dTest, e_dOp, e_dOp]
      simp only [v1, e_dC, ixs, eq_str]
      rw [n4 _ (by simp)]
      refine ⟨fun z => (by cases z), fun _ => ?_⟩
      rw [e_dNext]
      dsimp only
      rw [e_dRet, e_dIfE, e_dTest, e_dOp, e_dOp]
      simp only [v1, e_dC, ixs, eq_str]
      rw [n5 _ (by simp)]
      refine ⟨fun z => (by cases z), fun _ => ?_⟩
      unfold dMeth
      simp only [v0, e_dNil]
      refine ⟨s, _, rfl, at_.at_, lk_no, ?_⟩
      exact i_Sheet_repair at_ q.tc q.tf lf hp (dend0 fin)
/-- what was returned, written out -/
theorem did_repr {hc : DH} {due v : D} {h' : DH} {Q : DK} (d : Did hc due v h') (ok : nr due = true ∧ rn 12 due = true ∧ wt due ≤ 16000000) (q : Q (.str (shownD due)) h') : dReprV [v] h' Q := by
  have e : dv 3 h' v = due := by
    rcases d with ⟨rfl, rfl⟩ | ⟨a, l, rfl, hq, rfl, rfl⟩
    · exact dv_id 3 _ _ ok.1
    · simp only [dv, dupd_same]
      congr 1
      refine (List.map_congr_left fun x m => ?_).trans (List.map_id _)
      obtain ⟨i, _, rfl⟩ := List.mem_map.mp m
      rfl
  show rn 12 (dv 3 h' v) = true ∧ wt (dv 3 h' v) ≤ 16000000 ∧ Q (.str (shownD (dv 3 h' v))) h'
  rw [e]
  exact ⟨ok.2.1, ok.2.2, q⟩
theorem due_repr {due : D} {h' : DH} {Q : DK} (ok : nr due = true ∧ rn 12 due = true ∧ wt due ≤ 16000000) (q : Q (.str (shownD due)) h') : dReprV [due] h' Q := did_repr (.inl ⟨rfl, rfl⟩ : Did h' due due h') ok q
theorem Did.keep {hc : DH} {due v : D} {h' : DH} (d : Did hc due v h') : ∀ b o, hc b = some o → h' b = some o := fun b o e => by
  rcases d with ⟨rfl, rfl⟩ | ⟨a, l, rfl, hq, rfl, rfl⟩
  · exact e
  · rw [dupd_ne (fun z => by rw [z, hq] at e; cases e)]; exact e
/-- an urn and a sheet whose rows are right -/
structure W2 (C : Addr) (h : DH) (a s p : Addr) (n : Nat) (c fu : List Row) (past : List D) (w : Nat) : Prop where
  urn : Urn h a n
  sh : SheetAt C h s p c fu past
  as_ : a ≠ s
  ap : a ≠ p
  ok : Sh c fu w
theorem W2.draw {C : Addr} {h : DH} {a s p : Addr} {n m : Nat} {c fu : List Row} {past : List D} {w : Nat} {x : DO} (q : W2 C h a s p n c fu past w) (u : UrnO x m) : W2 C (dupd h a x) a s p m c fu past w :=
  { q with urn := Urn.upd u, sh := q.sh.upd q.as_ q.ap }
theorem W2.mono {C : Addr} {h : DH} {a s p : Addr} {n m : Nat} {c fu : List Row} {past : List D} {w : Nat} (q : W2 C h a s p n c fu past w) (l : n ≤ m) : W2 C h a s p m c fu past w := { q with urn := q.urn.mono l }
theorem W2.changed {C : Addr} {h : DH} {a s p : Addr} {n : Nat} {c fu : List Row} {past : List D} {w : Nat} (q : W2 C h a s p n c fu past w) {c2 f2 : List Row} (k : Sh c2 f2 w) : W2 C (changed C s p h c fu past c2 f2) a s p n c2 f2 (past ++ [stD c fu]) w :=
  { urn := (q.urn.off (Ne.symm q.ap)).off (Ne.symm q.as_), sh := ⟨dupd_same, (dupd_ne q.sh.ne).trans dupd_same⟩, as_ := q.as_, ap := q.ap, ok := k }
theorem W2.keep {C : Addr} {h h' : DH} {a s p : Addr} {n : Nat} {c fu : List Row} {past : List D} {w : Nat} (q : W2 C h a s p n c fu past w) (k : ∀ b o, h b = some o → h' b = some o) : W2 C h' a s p n c fu past w :=
  { q with urn := q.urn.keep k, sh := q.sh.keep k }
theorem W2.deed {C : Addr} {h h' : DH} {a s p : Addr} {n : Nat} {c fu : List Row} {past : List D} {w : Nat} {v : D} {d : Deed} (q : W2 C h a s p n c fu past w) (k : d.ok c w) (e : Did (DL.changed C s p h c fu past (d.cells c fu) (d.full c fu)) (d.due c fu) v h') :
    W2 C h' a s p n (d.cells c fu) (d.full c fu) (past ++ [stD c fu]) w := (q.changed (q.ok.deed k)).keep e.keep
theorem W2.new {C : Addr} {h h2 : DH} {a s p : Addr} {n : Nat} {t : List Row} {w : Nat} (u : Urn h a n) (k : NewS C h h2 s p t) (q : Sh t (readRows none t) w) : W2 C h2 a s p n t (readRows none t) [] w := by
  obtain ⟨o, e, uo⟩ := u
  exact { urn := ⟨o, k.keep _ _ e, uo⟩, sh := k.at_, as_ := fun z => by rw [← z] at k; have := k.sn; rw [e] at this; cases this
          ap := fun z => by rw [← z] at k; have := k.pn; rw [e] at this; cases this
          ok := q }

end DL

namespace DL
open PySem L2
local macro_rules | `(tactic| walk_at "ev") => `(tactic| try simp (disch := (first | assumption | exact dupd_same | (refine (dupd_ne ?_).trans ?_; (first | assumption | (apply Ne.symm; assumption)); first | assumption | exact dupd_same | (refine (dupd_ne ?_).trans ?_; (first | assumption | (apply Ne.symm; assumption)); first | assumption | exact dupd_same)))) only [v0, v1, v2, v3, v4, v5, v6, v7, v8, v9, v10, v11, v12, v13, v14, v15, v16, w0, w1, w2, w3, w4, w5, w6, w7, w8, w9, w10, w11, w12, w13, w14, w15, w16, e_dC, e_dOp, e_dUn, e_dTest, e_dAnd, e_dOr, e_dNot, e_dAndV, e_dOrV, e_dNotV, e_dIfE, e_dChain, e_dNil, e_dCons, e_dTup, e_dLst, e_dLstM, e_dCB, e_dBM, e_dFrz, e_dNoPart, e_dPart, e_dSl, e_dIsi, e_iSeqD, e_iRange1, e_iRange2, e_iEnumD, e_iZipD, e_dNext, e_dSeq, e_dAsg, e_dAsgT, e_dPar, e_dIf, e_dRet, e_dRetN, e_dDrop, e_dBrk, e_dCnt, e_dAug, e_dSetI, e_dFor, e_dWhile, e_dYes, e_dLc, e_dLcM, e_dCall, e_dCallK, e_dNeg, e_dRaise, op_Lt, op_Le, op_Gt, op_Ge, op_IsN, op_IsNN, op_Sub, op_Add, op_AddS, op_AddT, op_AddL, op_Mul, op_MulT, op_MulL, op_Mod, op_Fdiv, op_InS, op_NotInS, cb_lenT, cb_lenL, cb_lenS, cb_lenX, cb_all, cb_any, cb_tupleL, cb_tupleT, cb_max, cb_min, cb_abs, cb_int, cb_intB, cb_strI, me_joinL, me_joinT, me_split, ip_add, ip_sub, ip_mul, ip_div, ix_ref0, ix_ref1, ix_ref2, me_append, me_popAt, me_pop0, me_insert, me_clear, me_reverse, cb_lenR, cb_tupleR, me_joinR, vw_ref, dT_ref, pow_18, pow_38, pow_40, pow_41, pow_6, eq_str, ne_str, eq_int, ne_int, ix_tup0, ix_lst0, sl_from, sl_to, sl_fromL, sl_toL, vw_str, vw_int, vw_bl, vw_non, vw_dct, vw_tup, vw_lst, vw_scr, ty_str, ty_int, ty_bl, ty_non, ty_tup, ty_lst, ty_dct, it_str, it_tup, it_lst, bT_nm, isN_non, isN_str, isN_int, isN_bl, isN_tup, isN_lst, isN_dct, dT_str, dT_lst, en_rt, en_nx, en_ex, t_imp, f_imp, not_true_eq_false, not_false_eq_true, tf_eq, ft_eq, dwipe, true_and, and_true, Bool.not_true, Bool.not_false, Bool.not_eq_true', Bool.not_eq_false', decide_eq_true_eq, decide_eq_false_iff_not, nq_NoneType, is_NoneType_int, is_NoneType_bool, is_NoneType_str, is_NoneType_tuple, is_NoneType_list, is_NoneType_dict, nq_bool, is_bool_int, is_bool_bool, is_bool_str, is_bool_tuple, is_bool_list, is_bool_dict, nq_int, is_int_int, is_int_bool, is_int_str, is_int_tuple, is_int_list, is_int_dict, nq_str, is_str_int, is_str_bool, is_str_str, is_str_tuple, is_str_list, is_str_dict, nq_tuple, is_tuple_int, is_tuple_bool, is_tuple_str, is_tuple_tuple, is_tuple_list, is_tuple_dict, nq_list, is_list_int, is_list_bool, is_list_str, is_list_tuple, is_list_list, is_list_dict, nq_dict, is_dict_int, is_dict_bool, is_dict_str, is_dict_tuple, is_dict_list, is_dict_dict])
/-! R22: what the laws of sheets share -/
theorem len_tabD {t : List Row} {h : DH} {Q : DK} : dLen [tabD t] h Q = Q (.int (t.length : Nat)) h := by show dLen [.tup (t.map rowD)] h Q = _; rw [cb_lenT, List.length_map]
theorem T1 {A B : Prop} (a : A) : (true = true → A) ∧ (true = false → B) := ⟨fun _ => a, fun z => by cases z⟩
theorem F1 {A B : Prop} (b : B) : (false = true → A) ∧ (false = false → B) := ⟨fun z => (by cases z), fun _ => b⟩
theorem eqV_t {x y z : D} {h : DH} {Q : DK} (e : dv 3 h x = z) (e2 : dv 3 h y = z) (hz : dn 12 z = true) (hzz : eqvD z z = true) (q : Q (.bl true) h) : dEqV x y h Q := by
  unfold dEqV
  rw [e, e2, hzz]
  exact ⟨hz, hz, q⟩
theorem neV_f {x y z : D} {h : DH} {Q : DK} (e : dv 3 h x = z) (e2 : dv 3 h y = z) (hz : dn 12 z = true) (hzz : eqvD z z = true) (q : Q (.bl false) h) : dNeV x y h Q := by
  unfold dNeV
  rw [e, e2, hzz]
  exact ⟨hz, hz, q⟩
theorem ix_tabD' {t : List Row} {i : Nat} (hi : i < t.length) {h : DH} {Q : DK} : dIx (tabD t) (.int (i : Nat)) h Q = Q (rowD (t.getD i [])) h := by
  obtain ⟨_, e⟩ := getD_mem hi
  exact ix_tup (by rw [List.getElem?_map, e]; rfl)
/-- (None,) * few + row[few:] -/
theorem own_blank {f : Row} {k : Nat} (hk : k ≤ 6) (hf : f.length ≤ 6) {h : DH} {Q : DK} (q : Q (rowD (withBlanks f k)) h) : [D.non].length ≤ sizeLine ∧ ([D.non] ≠ [] ∧ 0 ≤ (k : Int) ∧ (k : Int) ≤ 1000 ∧ [D.non].length ≤ 1000 ∧ dSlice (rowD f) (some (k : Nat)) none h fun y h2 => dAdd (.tup (rpt (k : Nat) [D.non])) y h2 Q) := by
  refine ⟨le_line (m := 1) (Nat.le_refl _), by simp, by omega, by omega, by simp, ?_⟩
  rw [show rowD f = .tup (f.map cD) from rfl, sl_from, op_AddT, t_with_blanks_go]
  refine ⟨?_, q⟩
  rw [rpt_non]
  refine le_line (m := 12) ?_
  rw [List.length_replicate, List.length_drop, List.length_map]
  omega
theorem W2.w1 {C : Addr} {h : DH} {a s p : Addr} {n : Nat} {c fu : List Row} {past : List D} {w : Nat} (q : W2 C h a s p n c fu past w) : W1 C h a s p n c fu past w :=
  { urn := q.urn, sh := q.sh, as_ := q.as_, ap := q.ap, tc := q.ok.tc, tf := q.ok.tf, w1 := q.ok.w1, c1 := q.ok.c1, lf := q.ok.lf }
theorem dn_ints {l : List Nat} (n : Nat) : dn (n + 1) (.lst (intsD l)) = true := by
  show (intsD l).all (dn n) = true
  rw [List.all_eq_true]
  intro x hx
  obtain ⟨i, _, rfl⟩ := List.mem_map.mp hx
  cases n <;> rfl

end DL

namespace DL
open PySem L2
local macro_rules | `(tactic| walk_at "ev") => `(tactic| try simp (disch := (first | assumption | exact dupd_same | (refine (dupd_ne ?_).trans ?_; (first | assumption | (apply Ne.symm; assumption)); first | assumption | exact dupd_same | (refine (dupd_ne ?_).trans ?_; (first | assumption | (apply Ne.symm; assumption)); first | assumption | exact dupd_same)))) only [v0, v1, v2, v3, v4, v5, v6, v7, v8, v9, v10, v11, v12, v13, v14, v15, v16, w0, w1, w2, w3, w4, w5, w6, w7, w8, w9, w10, w11, w12, w13, w14, w15, w16, e_dC, e_dOp, e_dUn, e_dTest, e_dAnd, e_dOr, e_dNot, e_dAndV, e_dOrV, e_dNotV, e_dIfE, e_dChain, e_dNil, e_dCons, e_dTup, e_dLst, e_dLstM, e_dCB, e_dBM, e_dFrz, e_dNoPart, e_dPart, e_dSl, e_dIsi, e_iSeqD, e_iRange1, e_iRange2, e_iEnumD, e_iZipD, e_dNext, e_dSeq, e_dAsg, e_dAsgT, e_dPar, e_dIf, e_dRet, e_dRetN, e_dDrop, e_dBrk, e_dCnt, e_dAug, e_dSetI, e_dFor, e_dWhile, e_dYes, e_dLc, e_dLcM, e_dCall, e_dCallK, e_dNeg, e_dRaise, op_Lt, op_Le, op_Gt, op_Ge, op_IsN, op_IsNN, op_Sub, op_Add, op_AddS, op_AddT, op_AddL, op_Mul, op_MulT, op_MulL, op_Mod, op_Fdiv, op_InS, op_NotInS, cb_lenT, cb_lenL, cb_lenS, cb_lenX, cb_all, cb_any, cb_tupleL, cb_tupleT, cb_max, cb_min, cb_abs, cb_int, cb_intB, cb_strI, me_joinL, me_joinT, me_split, ip_add, ip_sub, ip_mul, ip_div, ix_ref0, ix_ref1, ix_ref2, me_append, me_popAt, me_pop0, me_insert, me_clear, me_reverse, cb_lenR, cb_tupleR, me_joinR, vw_ref, dT_ref, pow_18, pow_38, pow_40, pow_41, pow_6, eq_str, ne_str, eq_int, ne_int, ix_tup0, ix_lst0, sl_from, sl_to, sl_fromL, sl_toL, vw_str, vw_int, vw_bl, vw_non, vw_dct, vw_tup, vw_lst, vw_scr, ty_str, ty_int, ty_bl, ty_non, ty_tup, ty_lst, ty_dct, it_str, it_tup, it_lst, bT_nm, isN_non, isN_str, isN_int, isN_bl, isN_tup, isN_lst, isN_dct, dT_str, dT_lst, en_rt, en_nx, en_ex, t_imp, f_imp, not_true_eq_false, not_false_eq_true, tf_eq, ft_eq, dwipe, true_and, and_true, Bool.not_true, Bool.not_false, Bool.not_eq_true', Bool.not_eq_false', decide_eq_true_eq, decide_eq_false_iff_not, nq_NoneType, is_NoneType_int, is_NoneType_bool, is_NoneType_str, is_NoneType_tuple, is_NoneType_list, is_NoneType_dict, nq_bool, is_bool_int, is_bool_bool, is_bool_str, is_bool_tuple, is_bool_list, is_bool_dict, nq_int, is_int_int, is_int_bool, is_int_str, is_int_tuple, is_int_list, is_int_dict, nq_str, is_str_int, is_str_bool, is_str_str, is_str_tuple, is_str_list, is_str_dict, nq_tuple, is_tuple_int, is_tuple_bool, is_tuple_str, is_tuple_tuple, is_tuple_list, is_tuple_dict, nq_list, is_list_int, is_list_bool, is_list_str, is_list_tuple, is_list_list, is_list_dict, nq_dict, is_dict_int, is_dict_bool, is_dict_str, is_dict_tuple, is_dict_list, is_dict_dict])
/-! R23: repaired rows are read as the true ones, and no fewer cells would do -/
theorem shared_take : ∀ (r q : Row) (m : Nat), m ≤ shared r q → q.take m = r.take m
  | _, _, 0, _ => by simp
  | [], _, m + 1, h => absurd h (Nat.not_succ_le_zero m)
  | _ :: _, [], m + 1, h => absurd h (Nat.not_succ_le_zero m)
  | x :: xs, y :: ys, m + 1, h => by
    unfold shared at h
    split at h
    · rename_i e
      rw [List.take_succ_cons, List.take_succ_cons, shared_take xs ys m (by omega), e]
    · omega
theorem wb_drop {f : Row} {m : Nat} : (withBlanks f m).drop m = f.drop m := by
  unfold withBlanks
  rw [List.drop_append, List.length_replicate, Nat.sub_self, List.drop_eq_nil_of_le (by simp)]
  rfl
theorem readRow_wb {ab : Option Row} {f : Row} {m : Nat} (hf : full f) : readRow ab (withBlanks f m) = (ab.getD (withBlanks f m)).take m ++ f.drop m := by
  unfold readRow
  rw [wb_blanks m hf, wb_drop]
theorem take_last {t : List Row} {k : Nat} (h : k < t.length) : (t.take (k + 1)).getLast? = some (t.getD k []) := by
  rw [List.getLast?_eq_getElem?, List.length_take, Nat.min_eq_left (by omega), List.getElem?_take, if_pos (by omega)]
  exact (getD_mem (by omega)).2
theorem take_succ_getD {t : List Row} {k : Nat} (h : k < t.length) : t.take (k + 1) = t.take k ++ [t.getD k []] := by
  rw [List.take_succ, (getD_mem h).2]; rfl
theorem readRow_left {c fu : List Row} {k : Nat} (ff : FullT fu) (h : k < fu.length) : readRow (fu.take k).getLast? (withBlanks (fu.getD k []) (leftAt c fu k)) = fu.getD k [] := by
  obtain ⟨m, _⟩ := getD_mem h
  rw [readRow_wb (ff _ m)]
  cases k with
  | zero =>
    have : leftAt c fu 0 = 0 := by unfold leftAt; rw [if_pos rfl]; omega
    rw [this]
    simp
  | succ k =>
    rw [take_last (by omega)]
    have hl : leftAt c fu (k + 1) ≤ shared (fu.getD (k + 1) []) (fu.getD k []) := by
      unfold leftAt
      rw [if_neg (by omega)]
      exact Nat.min_le_right _ _
    show (fu.getD k []).take _ ++ _ = _
    rw [shared_take _ _ _ hl, List.take_append_drop]
theorem readRow_last (t : List Row) (r : Row) : readRows none (t ++ [r]) = readRows none t ++ [readRow (readRows none t).getLast? r] := by
  rw [readRows_snoc]
  cases (readRows none t).getLast? <;> rfl
theorem read_repk {c fu : List Row} (ff : FullT fu) : ∀ k, k ≤ fu.length → readRows none (repLk c fu k) = fu.take k
  | 0, _ => rfl
  | k + 1, h => by
    rw [repLk_succ, readRow_last, read_repk ff k (by omega), readRow_left ff (by omega), ← take_succ_getD (by omega)]
theorem repL_eq (c fu : List Row) : repL c fu = repLk c fu fu.length := rfl
theorem read_rep {c fu : List Row} (ff : FullT fu) : readRows none (repL c fu) = fu := by
  rw [repL_eq, read_repk ff _ (Nat.le_refl _), List.take_length]
theorem wrongL_self (fu : List Row) : wrongL fu fu = [] := by
  unfold wrongL
  rw [List.filter_eq_nil_iff]
  intro i _
  simp
theorem repL_get {c fu : List Row} {i : Nat} (h : i < fu.length) : (repL c fu).getD i [] = withBlanks (fu.getD i []) (leftAt c fu i) := by
  unfold repL
  simp [List.getD, List.getElem?_map, List.getElem?_range h]
theorem leftAt_rep {c fu : List Row} {i : Nat} (ff : FullT fu) (h : i < fu.length) : leftAt (repL c fu) fu i = leftAt c fu i := by
  obtain ⟨m, _⟩ := getD_mem h
  conv => lhs; unfold leftAt
  rw [repL_get h, wb_blanks _ (ff _ m)]
  unfold leftAt
  omega
theorem repL_rep {c fu : List Row} (ff : FullT fu) : repL (repL c fu) fu = repL c fu := by
  unfold repL
  refine List.map_congr_left fun i hi => ?_
  have := leftAt_rep (c := c) ff (List.mem_range.mp hi)
  unfold repL at this
  rw [this]
theorem repN_rep {c fu : List Row} (ff : FullT fu) : repN (repL c fu) fu = 0 := by
  have z : ∀ l : List Nat, (∀ x ∈ l, x = 0) → l.sum = 0 := fun l => by
    induction l with
    | nil => intro _; rfl
    | cons a l ih => intro h; rw [List.sum_cons, h a (by simp), ih fun x hx => h x (by simp [hx])]
  unfold repN
  refine z _ fun x hx => ?_
  obtain ⟨i, hi, rfl⟩ := List.mem_map.mp hx
  have hi := List.mem_range.mp hi
  obtain ⟨m, _⟩ := getD_mem hi
  rw [leftAt_rep ff hi, repL_get hi, wb_blanks _ (ff _ m)]
  omega
/-- one blank more is wrong -/
theorem rep_least {c fu : List Row} {w i : Nat} (q : Sh c fu w) (h : i < fu.length) (hl : leftAt c fu i < blanks (c.getD i [])) : readRows none (setL (repL c fu) i (withBlanks (fu.getD i []) (leftAt c fu i + 1))) ≠ fu := by
  intro e
  have lf := q.lf
  obtain ⟨mf, _⟩ := getD_mem h
  obtain ⟨mc, _⟩ := getD_mem (t := c) (i := i) (by omega)
  have hff := q.ff _ mf
  have wf := (q.tf.all _ mf).1
  have wc := (q.tc.all _ mc).1
  have bc := blanks_le (c.getD i [])
  have e1 : (setL (repL c fu) i (withBlanks (fu.getD i []) (leftAt c fu i + 1))).take (i + 1) = repLk c fu i ++ [withBlanks (fu.getD i []) (leftAt c fu i + 1)] := by
    have hlen : (repL c fu).length = fu.length := repL_len c fu
    have e2 : (repL c fu).take i = repLk c fu i := by
      unfold repL repLk
      rw [← List.map_take, List.take_range, Nat.min_eq_left (by omega)]
    unfold setL
    rw [e2]
    have l2 : (repLk c fu i).length = i := by unfold repLk; rw [List.length_map, List.length_range]
    rw [List.take_append, l2, List.take_of_length_le (by omega), Nat.add_sub_cancel_left]
    simp
  have e3 : readRows none ((setL (repL c fu) i (withBlanks (fu.getD i []) (leftAt c fu i + 1))).take (i + 1)) = fu.take (i + 1) := by rw [readRows_take, e]
  rw [e1, readRow_last, read_repk q.ff i (by omega), take_succ_getD h] at e3
  have e4 : readRow (fu.take i).getLast? (withBlanks (fu.getD i []) (leftAt c fu i + 1)) = fu.getD i [] := by simpa using e3
  rw [readRow_wb hff] at e4
  cases i with
  | zero =>
    have e5 : (withBlanks (fu.getD 0 []) (leftAt c fu 0 + 1)).take (leftAt c fu 0 + 1) ++ (fu.getD 0 []).drop (leftAt c fu 0 + 1) = fu.getD 0 [] := e4
    have : none ∈ fu.getD 0 [] := by
      rw [← e5]
      refine List.mem_append_left _ ?_
      unfold withBlanks
      rw [List.replicate_succ]
      simp
    exact full_none hff this
  | succ i =>
    rw [take_last (by omega)] at e4
    have e5 : (fu.getD i []).take (leftAt c fu (i + 1) + 1) ++ (fu.getD (i + 1) []).drop (leftAt c fu (i + 1) + 1) = fu.getD (i + 1) [] := e4
    obtain ⟨mp, _⟩ := getD_mem (t := fu) (i := i) (by omega)
    have wp := (q.tf.all _ mp).1
    have es : leftAt c fu (i + 1) = shared (fu.getD (i + 1) []) (fu.getD i []) := by
      have : leftAt c fu (i + 1) = min (blanks (c.getD (i + 1) [])) (shared (fu.getD (i + 1) []) (fu.getD i [])) := by unfold leftAt; rw [if_neg (by omega)]; rfl
      omega
    have ne := shared_stop (fu.getD (i + 1) []) (fu.getD i []) (by omega) (by omega)
    rw [← es] at ne
    apply ne
    conv => lhs; rw [← e5]
    rw [List.getElem?_append_left (by rw [List.length_take]; omega), List.getElem?_take, if_pos (by omega)]
theorem eqv_lstR (a b : List Row) : eqvD (.lst (a.map rowD)) (.lst (b.map rowD)) = decide (a = b) := by
  have : eqvD (.lst (a.map rowD)) (.lst (b.map rowD)) = PyData.eqvAll (pyL (a.map rowD)) (pyL (b.map rowD)) := by simp only [eqvD, py, PyData.eqv]
  rw [this]
  exact eqvAll_map rowD (fun a b => eqv_row a b) a b
theorem eq_lstR {a b : List Row} {h : DH} {Q : DK} (ha : ∀ r ∈ a, strOkR r) (hb : ∀ r ∈ b, strOkR r) : dEq (.lst (a.map rowD)) (.lst (b.map rowD)) h Q = Q (.bl (decide (a = b))) h := by
  show (dn 12 (.lst (a.map rowD)) = true ∧ dn 12 (.lst (b.map rowD)) = true ∧ Q (.bl (eqvD (.lst (a.map rowD)) (.lst (b.map rowD)))) h) = _
  rw [dn_rows ha 10, dn_rows hb 10, eqv_lstR]
  exact propext ⟨fun z => z.2.2, fun z => ⟨rfl, rfl, z⟩⟩
theorem ne_tabD {a b : List Row} {h : DH} {Q : DK} (ha : ∀ r ∈ a, strOkR r) (hb : ∀ r ∈ b, strOkR r) : dNe (tabD a) (tabD b) h Q = Q (.bl (!decide (a = b))) h := by
  have := ne_tup (h := h) (Q := Q) (dn_tab ha 10) (dn_tab hb 10)
  rw [show dNe (tabD a) (tabD b) h Q = _ from this]
  rw [show D.tup (a.map rowD) = tabD a from rfl, show D.tup (b.map rowD) = tabD b from rfl, eqv_tab]
theorem eqvD_selfR (a : List Row) : eqvD (.lst (a.map rowD)) (.lst (a.map rowD)) = true := by rw [eqv_lstR]; simp
theorem dv_lstR {t : List Row} {w : Nat} (p : Tab t w) (h : DH) : dv 3 h (.lst (t.map rowD)) = .lst (t.map rowD) := dv_id 3 h _ p.nrLst
theorem dv_refR {t : List Row} {w : Nat} (p : Tab t w) {h : DH} {q : Addr} (e : h q = some (.lst (t.map rowD))) : dv 3 h (.ref q) = .lst (t.map rowD) := by
  simp only [dv, e]
  congr 1
  refine (List.map_congr_left fun x m => ?_).trans (List.map_id _)
  exact dv_id 2 h x (p.nrR x m)

end DL

namespace DL
open PySem L2
local macro_rules | `(tactic| walk_at "ev") => `(tactic| try simp (disch := (first | assumption | exact dupd_same | (refine (dupd_ne ?_).trans ?_; (first | assumption | (apply Ne.symm; assumption)); first | assumption | exact dupd_same | (refine (dupd_ne ?_).trans ?_; (first | assumption | (apply Ne.symm; assumption)); first | assumption | exact dupd_same)))) only [v0, v1, v2, v3, v4, v5, v6, v7, v8, v9, v10, v11, v12, v13, v14, v15, v16, w0, w1, w2, w3, w4, w5, w6, w7, w8, w9, w10, w11, w12, w13, w14, w15, w16, e_dC, e_dOp, e_dUn, e_dTest, e_dAnd, e_dOr, e_dNot, e_dAndV, e_dOrV, e_dNotV, e_dIfE, e_dChain, e_dNil, e_dCons, e_dTup, e_dLst, e_dLstM, e_dCB, e_dBM, e_dFrz, e_dNoPart, e_dPart, e_dSl, e_dIsi, e_iSeqD, e_iRange1, e_iRange2, e_iEnumD, e_iZipD, e_dNext, e_dSeq, e_dAsg, e_dAsgT, e_dPar, e_dIf, e_dRet, e_dRetN, e_dDrop, e_dBrk, e_dCnt, e_dAug, e_dSetI, e_dFor, e_dWhile, e_dYes, e_dLc, e_dLcM, e_dCall, e_dCallK, e_dNeg, e_dRaise, op_Lt, op_Le, op_Gt, op_Ge, op_IsN, op_IsNN, op_Sub, op_Add, op_AddS, op_AddT, op_AddL, op_Mul, op_MulT, op_MulL, op_Mod, op_Fdiv, op_InS, op_NotInS, cb_lenT, cb_lenL, cb_lenS, cb_lenX, cb_all, cb_any, cb_tupleL, cb_tupleT, cb_max, cb_min, cb_abs, cb_int, cb_intB, cb_strI, me_joinL, me_joinT, me_split, ip_add, ip_sub, ip_mul, ip_div, ix_ref0, ix_ref1, ix_ref2, me_append, me_popAt, me_pop0, me_insert, me_clear, me_reverse, cb_lenR, cb_tupleR, me_joinR, vw_ref, dT_ref, pow_18, pow_38, pow_40, pow_41, pow_6, eq_str, ne_str, eq_int, ne_int, ix_tup0, ix_lst0, sl_from, sl_to, sl_fromL, sl_toL, vw_str, vw_int, vw_bl, vw_non, vw_dct, vw_tup, vw_lst, vw_scr, ty_str, ty_int, ty_bl, ty_non, ty_tup, ty_lst, ty_dct, it_str, it_tup, it_lst, bT_nm, isN_non, isN_str, isN_int, isN_bl, isN_tup, isN_lst, isN_dct, dT_str, dT_lst, en_rt, en_nx, en_ex, t_imp, f_imp, not_true_eq_false, not_false_eq_true, tf_eq, ft_eq, dwipe, true_and, and_true, Bool.not_true, Bool.not_false, Bool.not_eq_true', Bool.not_eq_false', decide_eq_true_eq, decide_eq_false_iff_not, nq_NoneType, is_NoneType_int, is_NoneType_bool, is_NoneType_str, is_NoneType_tuple, is_NoneType_list, is_NoneType_dict, nq_bool, is_bool_int, is_bool_bool, is_bool_str, is_bool_tuple, is_bool_list, is_bool_dict, nq_int, is_int_int, is_int_bool, is_int_str, is_int_tuple, is_int_list, is_int_dict, nq_str, is_str_int, is_str_bool, is_str_str, is_str_tuple, is_str_list, is_str_dict, nq_tuple, is_tuple_int, is_tuple_bool, is_tuple_str, is_tuple_tuple, is_tuple_list, is_tuple_dict, nq_list, is_list_int, is_list_bool, is_list_str, is_list_tuple, is_list_list, is_list_dict, nq_dict, is_dict_int, is_dict_bool, is_dict_str, is_dict_tuple, is_dict_list, is_dict_dict])
/-! L52: the law of k52 -/
def t_law (C_Sheet : Addr) (E_InvalidCount : Er) (E_InvalidPage : Er) (E_InvalidPlace : Er) (E_InvalidRow : Er) (E_Loose : Er) : DS :=
(dSeq (dFor (iRange1 (dCB dMax2 (dCons (dC (.int 1)) (dCons (dCB dMin2 (dCons (dC (.int 5)) (dCons (dCB dLen (dCons (dVar 0) dNil)) dNil))) dNil)))) (.nm 1) (dSeq (dAsg (dCall sp_law_urn (dCons (dVar 0) (dCons (dVar 1) dNil))) 2)
  (dFor (iSeqD (dLst (dCons (dC (.int 60)) (dCons (dC (.int 6)) dNil)))) (.nm 3) (dSeq (dAsg (dCall sp_law_page (dCons (dVar 2) (dCons (dVar 3) dNil))) 4)
  (dSeq (dAsgT (dTup (dCons (dMake C_Sheet (sp_Sheet_init C_Sheet E_InvalidPage) (dCons (dVar 4) dNil)) (dCons (dCB dTuple (dCons (dCall sp_law_read (dCons (dVar 4) dNil)) dNil)) dNil))) (.tp [(.nm 5), (.nm 6)]))
  (dSeq (dPar 7 8 (dCall sp_law_draw (dCons (dVar 2) (dCons (dCB dLen (dCons (dVar 4) dNil)) dNil))) (dCall sp_law_draw (dCons (dVar 2) (dCons (dCB dLen (dCons (dVar 4) dNil)) dNil))))
  (dSeq (dDrop (dMeth C_Sheet "move" (sp_Sheet_move C_Sheet E_InvalidPlace E_InvalidRow) (dVar 5) (dCons (dVar 7) (dCons (dVar 7) (dCons (dVar 8) dNil)))))
  (dSeq (dAsg (dLstM dNil) 9)
  (dSeq (dFor (iSeqD (dTup (dCons (dVar 4) (dCons (dVar 6) dNil)))) (.nm 10) (dSeq (dAsg (dOp dAdd (dSl dSlice (dVar 10) dNoPart (dPart (dVar 7))) (dSl dSlice (dVar 10) (dPart (dOp dAdd (dVar 7) (dC (.int 1)))) dNoPart)) 13)
  (dDrop (dBM "list" dAppend (dVar 9) (dCons (dOp dAdd (dOp dAdd (dSl dSlice (dVar 13) dNoPart (dPart (dVar 8))) (dTup (dCons (dOp dIx (dVar 10) (dVar 7)) dNil))) (dSl dSlice (dVar 13) (dPart (dVar 8)) dNoPart)) dNil)))))
  (dSeq (dAsgT (dTup (dCons (dOp dIx (dVar 9) (dC (.int 0))) (dCons (dOp dIx (dVar 9) (dC (.int 1))) dNil))) (.tp [(.nm 11), (.nm 6)]))
  (dFor (iRange1 (dCall sp_law_draw (dCons (dVar 2) (dCons (dC (.int 16)) dNil)))) (.nm 12) (dSeq (dAsg (dCall sp_law_draw (dCons (dVar 2) (dCons (dCB dLen (dCons (dVar 4) dNil)) dNil))) 7)
  (dSeq (dAsg (dCall sp_law_draw (dCons (dVar 2) (dCons (dOp dAdd (dCB dLen (dCons (dLc (iSeqD (dOp dIx (dVar 11) (dVar 7))) (.nm 21) (dTest (dOp dIsN (dVar 21) (dC .non))) (dVar 21) [21]) dNil)) (dC (.int 1))) dNil))) 14)
  (dSeq (dAsg (dIfE (dTest (dOp dEq (dOp dMod (dVar 12) (dC (.int 2))) (dC (.int 0)))) (dMeth C_Sheet "write" (sp_Sheet_write C_Sheet E_InvalidCount E_InvalidRow) (dVar 5) (dCons (dVar 7) (dCons (dVar 14) dNil))) (dMethK C_Sheet "write" (sp_Sheet_write C_Sheet E_InvalidCount E_InvalidRow) 2 [0, 2, 1] (dVar 5) (dCons (dVar 14) (dCons (dVar 7) dNil)))) 15)
  (dSeq (dAsg (dOp dAdd (dOp dMul (dTup (dCons (dC .non) dNil)) (dVar 14)) (dSl dSlice (dOp dIx (dVar 6) (dVar 7)) (dPart (dVar 14)) dNoPart)) 16)
  (dSeq (dAsg (dOp dAdd (dOp dAdd (dSl dSlice (dVar 11) dNoPart (dPart (dVar 7))) (dTup (dCons (dVar 16) dNil))) (dSl dSlice (dVar 11) (dPart (dOp dAdd (dVar 7) (dC (.int 1)))) dNoPart)) 11)
  (dSeq (dIf (dOr (dTest (dOp dIsNN (dVar 15) (dC .non))) (dNot (dTest (dCall (sp_law_shows C_Sheet) (dCons (dVar 5) (dCons (dVar 11) (dCons (dVar 6) dNil))))))) (dRet (dC (.bl false))) dNext)
  (dSeq (dAsg (dCall sp_law_read (dCons (dVar 11) dNil)) 17)
  (dIf (dAnd (dTest (dOp dEq (dOp dMod (dVar 12) (dC (.int 5))) (dC (.int 2)))) (dTest (dOp dEq (dLc (iSeqD (dVar 17)) (.nm 20) (dTest (dOp dIn (dC .non) (dVar 20))) (dVar 20) [20]) (dLst dNil)))) (dSeq (dAsg (dLc (iEnumD (dVar 17)) (.tp [(.nm 19), (.nm 20)]) (dTest (dOp dNe (dVar 20) (dOp dIx (dVar 6) (dVar 19)))) (dVar 19) [19, 20]) 18)
  (dSeq (dAsg (dCB dTuple (dCons (dVar 17) dNil)) 6)
  (dSeq (dAsg (dMeth C_Sheet "adopt" (sp_Sheet_adopt C_Sheet E_Loose) (dVar 5) dNil) 15)
  (dSeq (dIf (dTest (dOp dNe (dCB dReprV (dCons (dVar 15) dNil)) (dCB dReprV (dCons (dVar 18) dNil)))) (dRet (dC (.bl false))) dNext)
  (dSeq (dDrop (dBM "list" dAppend (dVar 15) (dCons (dC .non) dNil)))
  (dIf (dNot (dTest (dCall (sp_law_shows C_Sheet) (dCons (dVar 5) (dCons (dVar 11) (dCons (dVar 6) dNil)))))) (dRet (dC (.bl false))) dNext)))))) dNext)))))))))))))))))))
  (dSeq (dAsg (dMake C_Sheet (sp_Sheet_init C_Sheet E_InvalidPage) (dCons (dTup (dCons (dTup (dCons (dC (.str "a")) (dCons (dC (.str "x")) dNil))) (dCons (dTup (dCons (dC .non) (dCons (dC (.str "y")) dNil))) (dCons (dTup (dCons (dC (.str "b")) (dCons (dC (.str "x")) dNil))) dNil)))) dNil)) 5)
  (dSeq (dAsg (dLstM (dCons (dMeth C_Sheet "move" (sp_Sheet_move C_Sheet E_InvalidPlace E_InvalidRow) (dVar 5) (dCons (dC (.int 2)) (dCons (dC (.int 2)) (dCons (dC (.int 1)) dNil)))) (dCons (dMeth C_Sheet "adopt" (sp_Sheet_adopt C_Sheet E_Loose) (dVar 5) dNil) (dCons (dProp C_Sheet (sp_Sheet_true_now C_Sheet) (dVar 5)) (dCons (dMeth C_Sheet "write" (sp_Sheet_write C_Sheet E_InvalidCount E_InvalidRow) (dVar 5) (dCons (dC (.int 2)) (dCons (dC (.int 0)) dNil))) (dCons (dProp C_Sheet (sp_Sheet_cells_now C_Sheet) (dVar 5)) dNil)))))) 15)
  (dRet (dOp dEqV (dVar 15) (dLst (dCons (dC .non) (dCons (dLst (dCons (dC (.int 2)) dNil)) (dCons (dLst (dCons (dTup (dCons (dC (.str "a")) (dCons (dC (.str "x")) dNil))) (dCons (dTup (dCons (dC (.str "b")) (dCons (dC (.str "x")) dNil))) (dCons (dTup (dCons (dC (.str "b")) (dCons (dC (.str "y")) dNil))) dNil)))) (dCons (dC .non) (dCons (dTup (dCons (dTup (dCons (dC (.str "a")) (dCons (dC (.str "x")) dNil))) (dCons (dTup (dCons (dC (.str "b")) (dCons (dC (.str "x")) dNil))) (dCons (dTup (dCons (dC (.str "b")) (dCons (dC (.str "y")) dNil))) dNil)))) dNil)))))))))))
def n_law : List Str := ["script", "k", "urn", "most", "some", "sheet", "full_rows", "at", "spot", "both", "rows_here", "cells_here", "turn", "left", "few", "told", "own", "found", "bent", "number", "one", "cell"]
/- 0=script 1=k 2=urn 3=most 4=some 5=sheet 6=full_rows 7=at 8=spot 9=both 10=rows_here 11=cells_here 12=turn 13=left 14=few 15=told 16=own 17=found 18=bent 19=number 20=one 21=cell -/
def sp_law (_ : Addr) (_ _ _ _ _ : Er) : DSp := fun ds h Q X => match ds with
  | [.scr ns] => okScr ns ∧ ∀ h', Q (.bl true) h'
  | _ => False
def t_turn52 (C : Addr) (Ec Er El : DL.Er) : DS :=
(dSeq (dAsg (dCall sp_law_draw (dCons (dVar 2) (dCons (dCB dLen (dCons (dVar 4) dNil)) dNil))) 7)
  (dSeq (dAsg (dCall sp_law_draw (dCons (dVar 2) (dCons (dOp dAdd (dCB dLen (dCons (dLc (iSeqD (dOp dIx (dVar 11) (dVar 7))) (.nm 21) (dTest (dOp dIsN (dVar 21) (dC .non))) (dVar 21) [21]) dNil)) (dC (.int 1))) dNil))) 14)
  (dSeq (dAsg (dIfE (dTest (dOp dEq (dOp dMod (dVar 12) (dC (.int 2))) (dC (.int 0)))) (dMeth C "write" (sp_Sheet_write C Ec Er) (dVar 5) (dCons (dVar 7) (dCons (dVar 14) dNil))) (dMethK C "write" (sp_Sheet_write C Ec Er) 2 [0, 2, 1] (dVar 5) (dCons (dVar 14) (dCons (dVar 7) dNil)))) 15)
  (dSeq (dAsg (dOp dAdd (dOp dMul (dTup (dCons (dC .non) dNil)) (dVar 14)) (dSl dSlice (dOp dIx (dVar 6) (dVar 7)) (dPart (dVar 14)) dNoPart)) 16)
  (dSeq (dAsg (dOp dAdd (dOp dAdd (dSl dSlice (dVar 11) dNoPart (dPart (dVar 7))) (dTup (dCons (dVar 16) dNil))) (dSl dSlice (dVar 11) (dPart (dOp dAdd (dVar 7) (dC (.int 1)))) dNoPart)) 11)
  (dSeq (dIf (dOr (dTest (dOp dIsNN (dVar 15) (dC .non))) (dNot (dTest (dCall (sp_law_shows C) (dCons (dVar 5) (dCons (dVar 11) (dCons (dVar 6) dNil))))))) (dRet (dC (.bl false))) dNext)
  (dSeq (dAsg (dCall sp_law_read (dCons (dVar 11) dNil)) 17)
  (dIf (dAnd (dTest (dOp dEq (dOp dMod (dVar 12) (dC (.int 5))) (dC (.int 2)))) (dTest (dOp dEq (dLc (iSeqD (dVar 17)) (.nm 20) (dTest (dOp dIn (dC .non) (dVar 20))) (dVar 20) [20]) (dLst dNil)))) (dSeq (dAsg (dLc (iEnumD (dVar 17)) (.tp [(.nm 19), (.nm 20)]) (dTest (dOp dNe (dVar 20) (dOp dIx (dVar 6) (dVar 19)))) (dVar 19) [19, 20]) 18)
  (dSeq (dAsg (dCB dTuple (dCons (dVar 17) dNil)) 6)
  (dSeq (dAsg (dMeth C "adopt" (sp_Sheet_adopt C El) (dVar 5) dNil) 15)
  (dSeq (dIf (dTest (dOp dNe (dCB dReprV (dCons (dVar 15) dNil)) (dCB dReprV (dCons (dVar 18) dNil)))) (dRet (dC (.bl false))) dNext)
  (dSeq (dDrop (dBM "list" dAppend (dVar 15) (dCons (dC .non) dNil)))
  (dIf (dNot (dTest (dCall (sp_law_shows C) (dCons (dVar 5) (dCons (dVar 11) (dCons (dVar 6) dNil)))))) (dRet (dC (.bl false))) dNext)))))) dNext))))))))
theorem turn52 (C : Addr) (Ec Er El : DL.Er) {h : DH} {a s p : Addr} {n j : Nat} {t c fu : List Row} {past : List D} {w : Nat} {x0 x1 x3 x7 x8 x9 x10 x13 x14 x15 x16 x17 x18 x19 x20 x21 : Option D} (q : W2 C h a s p n c fu past w) (hn : n + 10 ≤ LIM) (hp : past.length + 2 ≤ 1000000) (ht : t.length = c.length) (DD : DEnds)
    (nx : ∀ h' c' fu' past' y7 y14 y15 y16 y17 y18, W2 C h' a s p (n + 2) c' fu' past' w → c'.length = c.length → past'.length ≤ past.length + 2 → DD.nx [x0, x1, some (.ref a), x3, some (tabD t), some (.ref s), some (tabD fu'), y7, x8, x9, x10, some (tabD c'), some (.int (j : Nat)), x13, y14, y15, y16, y17, y18, x19, x20, x21] h') :
    t_turn52 C Ec Er El DD [x0, x1, some (.ref a), x3, some (tabD t), some (.ref s), some (tabD fu), x7, x8, x9, x10, some (tabD c), some (.int (j : Nat)), x13, x14, x15, x16, x17, x18, x19, x20, x21] h := by
  have h60 := q.ok.tc.le
  have hw6 := q.ok.tc.w6
  have c1 := q.ok.c1
  have lf := q.ok.lf
  unfold t_turn52
  rw [e_dSeq, e_dAsg]
  simp only [e_dCall, e_dCons, e_dNil, e_dCB, v2, v4, len_tabD]
  refine i_law_draw n q.urn (by omega) (by omega) (by omega) fun b o1 b0 b1 uo1 => ?_
  have q1 := q.draw uo1
  obtain ⟨b, rfl⟩ := Int.eq_ofNat_of_zero_le b0
  have hb : b < c.length := by omega
  obtain ⟨mc, ec⟩ := getD_mem hb
  obtain ⟨mf, ef⟩ := getD_mem (t := fu) (i := b) (by omega)
  have bc := blanks_le (c.getD b [])
  have wc := (q.ok.tc.all _ mc).1
  have wf := (q.ok.tf.all _ mf).1
  simp only [w7]
  rw [e_dSeq, e_dAsg]
  simp only [e_dCall, e_dCons, e_dNil, v2, e_dOp, e_dCB, e_dLc, e_iSeqD, v11, v7]
  rw [ix_tabD' hb]
  simp only [show rowD (c.getD b []) = .tup ((c.getD b []).map cD) from rfl, it_tup]
  refine ⟨by rw [List.length_map]; omega, ?_⟩
  refine nones_go _ (fun k Q' q' => ?_) (fun k Q' q' => ?_) fun ys hys => ?_
  · simp only [dwipe, w21, e_dTest, e_dOp, e_dC, v21, op_IsN, isN_cD]; exact q'
  · simp only [dwipe, w21, v21]; exact q'
  rw [countN_pr (q.ok.pc _ mc)] at hys
  simp only [cb_lenL, e_dC, op_Add]
  refine i_law_draw (n + 1) q1.urn (by omega) (by omega) (by omega) fun k o2 k0 k1 uo2 => ?_
  have q2 := q1.draw uo2
  obtain ⟨k, rfl⟩ := Int.eq_ofNat_of_zero_le k0
  have hk : k ≤ blanks (c.getD b []) := by omega
  have okw : (Deed.write b k).ok c w := ⟨hb, hk⟩
  simp only [w14]
  rw [e_dSeq, e_dAsg, e_dIfE, e_dTest, e_dOp, e_dOp]
  simp only [v12, e_dC, op_Mod, eq_int, decide_eq_true_eq, decide_eq_false_iff_not]
  have q3 := q2.changed (q2.ok.deed okw)
  generalize hc2 : (Deed.write b k).cells c fu = c2 at q3
  have ec2 : setL c b (withBlanks (fu.getD b []) k) = c2 := hc2
  generalize hh3 : DL.changed C s p (dupd (dupd h a o1) a o2) c fu past c2 ((Deed.write b k).full c fu) = h3 at q3
  have q3 : W2 C h3 a s p (n + 1 + 1) c2 fu (past ++ [stD c fu]) w := q3
  have lc2 : c2.length = c.length := by rw [← ec2, setL_len hb]
  have cont : (dSeq (dAsg (dOp dAdd (dOp dMul (dTup (dCons (dC .non) dNil)) (dVar 14)) (dSl dSlice (dOp dIx (dVar 6) (dVar 7)) (dPart (dVar 14)) dNoPart)) 16)
  (dSeq (dAsg (dOp dAdd (dOp dAdd (dSl dSlice (dVar 11) dNoPart (dPart (dVar 7))) (dTup (dCons (dVar 16) dNil))) (dSl dSlice (dVar 11) (dPart (dOp dAdd (dVar 7) (dC (.int 1)))) dNoPart)) 11)
  (dSeq (dIf (dOr (dTest (dOp dIsNN (dVar 15) (dC .non))) (dNot (dTest (dCall (sp_law_shows C) (dCons (dVar 5) (dCons (dVar 11) (dCons (dVar 6) dNil))))))) (dRet (dC (.bl false))) dNext)
  (dSeq (dAsg (dCall sp_law_read (dCons (dVar 11) dNil)) 17)
  (dIf (dAnd (dTest (dOp dEq (dOp dMod (dVar 12) (dC (.int 5))) (dC (.int 2)))) (dTest (dOp dEq (dLc (iSeqD (dVar 17)) (.nm 20) (dTest (dOp dIn (dC .non) (dVar 20))) (dVar 20) [20]) (dLst dNil)))) (dSeq (dAsg (dLc (iEnumD (dVar 17)) (.tp [(.nm 19), (.nm 20)]) (dTest (dOp dNe (dVar 20) (dOp dIx (dVar 6) (dVar 19)))) (dVar 19) [19, 20]) 18)
  (dSeq (dAsg (dCB dTuple (dCons (dVar 17) dNil)) 6)
  (dSeq (dAsg (dMeth C "adopt" (sp_Sheet_adopt C El) (dVar 5) dNil) 15)
  (dSeq (dIf (dTest (dOp dNe (dCB dReprV (dCons (dVar 15) dNil)) (dCB dReprV (dCons (dVar 18) dNil)))) (dRet (dC (.bl false))) dNext)
  (dSeq (dDrop (dBM "list" dAppend (dVar 15) (dCons (dC .non) dNil)))
  (dIf (dNot (dTest (dCall (sp_law_shows C) (dCons (dVar 5) (dCons (dVar 11) (dCons (dVar 6) dNil)))))) (dRet (dC (.bl false))) dNext)))))) dNext))))) DD [x0, x1, some (.ref a), x3, some (tabD t), some (.ref s), some (tabD fu), some (.int (b : Nat)), x8, x9, x10, some (tabD c), some (.int (j : Nat)), x13, some (.int (k : Nat)), some .non, x16, x17, x18, x19, x20, x21] h3 := by
    rw [e_dSeq, e_dAsg, e_dOp, e_dOp]
    simp only [e_dTup, e_dCons, e_dNil, e_dC, v14, e_dSl, e_dOp, v6, v7, e_dPart, e_dNoPart, op_MulT]
    rw [ix_tabD' (by omega)]
    refine own_blank (by omega) (by omega) ?_
    simp only [w16]
    rw [e_dSeq, e_dAsg, e_dOp, e_dOp]
    rw [show tabD c = .tup (c.map rowD) from rfl]
    simp only [e_dTup, e_dCons, e_dNil, e_dSl, v11, v7, e_dPart, e_dNoPart, sl_to, v16, e_dOp, e_dC, op_Add, op_AddT]
    rw [show (some ((b : Int) + 1)) = some ((b + 1 : Nat) : Int) from rfl]
    simp only [sl_from, op_AddT]
    have ea : List.take b (c.map rowD) ++ [rowD (withBlanks (fu.getD b []) k)] ++ List.drop (b + 1) (c.map rowD) = c2.map rowD := by rw [← ec2, List.append_assoc, ← setL_map]; rfl
    rw [ea, show D.tup (c2.map rowD) = tabD c2 from rfl]
    refine ⟨le_line (m := 1) (Nat.le_refl _), le200 ?_, le200 ?_, ?_⟩
    · simp only [List.length_take, List.length_map, List.length_singleton]; omega
    · simp only [List.length_append, List.length_take, List.length_drop, List.length_map, List.length_singleton]; omega
    simp only [w11]
    rw [e_dSeq, e_dIf, e_dOr, e_dTest, e_dOp]
    simp only [v15, e_dC, op_IsNN, isN_non, Bool.not_true]
    refine ⟨fun z => (by cases z), fun _ => ?_⟩
    rw [e_dNot, e_dTest]
    simp only [e_dCall, e_dCons, e_dNil, v5, v11, v6]
    refine i_law_shows q3.sh q3.ok.tc q3.ok.tf q3.ok.lf ?_
    refine ⟨fun z => (by cases z), fun _ => ?_⟩
    rw [e_dNext]
    dsimp only
    rw [e_dSeq, e_dAsg]
    simp only [e_dCall, e_dCons, e_dNil, v11]
    refine i_law_read q3.ok.tc ?_
    simp only [w17]
    have rl : (readRows none c2).length = c2.length := readRows_len c2 none
    have stay : DD.nx [x0, x1, some (.ref a), x3, some (tabD t), some (.ref s), some (tabD fu), some (.int (b : Nat)), x8, x9, x10, some (tabD c2), some (.int (j : Nat)), x13, some (.int (k : Nat)), some .non, some (rowD (withBlanks (fu.getD b []) k)), some (.lst ((readRows none c2).map rowD)), x18, x19, x20, x21] h3 := nx _ _ _ _ _ _ _ _ _ _ q3 lc2 (by rw [List.length_append]; simp)
    rw [e_dIf, e_dAnd, e_dTest, e_dOp, e_dOp]
    simp only [v12, e_dC, op_Mod, eq_int]
    refine ⟨by decide, fun e1 => ?_, fun e1 => ⟨fun z => (by cases z), fun _ => stay⟩⟩
    rw [e_dTest, e_dOp, e_dLc, e_iSeqD]
    simp only [v17, it_lst]
    refine ⟨by rw [List.length_map]; omega, ?_⟩
    refine noneIn_go _ q3.ok.tc.read.strOk (fun r Q' hi q' => ?_) (fun r Q' q' => ?_) fun v hv ev => ?_
    · simp only [dwipe, w20, e_dTest, e_dOp, e_dC, v20]
      refine Eq.mpr (hi _) ?_
      exact q'
    · simp only [dwipe, w20, v20]; exact q'
    rw [e_dLst, e_dNil]
    refine ⟨Nat.zero_le _, ?_⟩
    rw [eq_nilL hv]
    simp only [decide_eq_true_eq, decide_eq_false_iff_not]
    refine ⟨fun e2 => ?_, fun e2 => stay⟩
    have hno : (Deed.adopt).ok c2 w := ev.mp e2
    have lf3 := q3.ok.lf
    rw [e_dSeq, e_dAsg, e_dLc, e_iEnumD]
    simp only [v17, it_lst]
    refine ⟨by unfold enumD; simp only [List.length_map, List.length_zip, List.length_range, Nat.min_self]; omega, ?_⟩
    refine wrong_go (readRows none c2) fu (by omega) q3.ok.tc.read.strOk q3.ok.tf.strOk (fun i r Q' hi hne q' => ?_) (fun i r Q' q' => ?_) ?_
    · have ef : fu[i]? = some fu[i] := List.getElem?_eq_getElem (by omega)
      simp only [dwipe, w19, w20, e_dTest, e_dOp, v6, v19, v20]
      refine Eq.mpr (ix_tup (x := rowD fu[i]) (by rw [List.getElem?_map, ef]; rfl)) ?_
      refine Eq.mpr (hne _ _ ef) ?_
      exact q' _ ef
    · simp only [dwipe, w19, w20, v19]
      exact q'
    simp only [w18]
    rw [e_dSeq, e_dAsg]
    simp only [e_dCB, e_dCons, e_dNil, v17, cb_tupleL, w6]
    rw [e_dSeq, e_dAsg]
    unfold dMeth
    simp only [v5, e_dNil]
    refine ⟨s, _, rfl, q3.sh.at_, lk_no, ?_⟩
    refine i_Sheet_adopt q3.sh q3.ok.tc q3.ok.tf q3.ok.lf (by rw [List.length_append]; simp; omega) hno fun r hr => ?_
    have did : Did (DL.changed C s p h3 c2 fu (past ++ [stD c fu]) c2 (readRows none c2)) (.lst (intsD (wrongL (readRows none c2) fu))) (.ref r) (dupd (DL.changed C s p h3 c2 fu (past ++ [stD c fu]) c2 (readRows none c2)) r (.lst (intsD (wrongL (readRows none c2) fu)))) := .inr ⟨r, _, rfl, hr, rfl, rfl⟩
    have q4 := q3.deed (d := .adopt) hno did
    have dk := due_ok q3.ok (d := .adopt) hno
    simp only [w15]
    rw [e_dSeq, e_dIf, e_dTest, e_dOp, e_dCB, e_dCons]
    simp only [e_dNil, v15, e_dCB, e_dCons, v18]
    refine did_repr did dk ?_
    refine due_repr dk ?_
    simp only [ne_str, decide_true, Bool.not_true]
    refine ⟨fun z => (by cases z), fun _ => ?_⟩
    rw [e_dNext]
    dsimp only
    rw [e_dSeq, e_dDrop, e_dBM]
    simp only [v15, e_dCons, e_dNil, e_dC]
    refine ⟨⟨rfl, _, dupd_same⟩, ?_⟩
    rw [me_append dupd_same]
    have q5 : W2 C (dupd (dupd (DL.changed C s p h3 c2 fu (past ++ [stD c fu]) c2 (readRows none c2)) r (.lst (intsD (wrongL (readRows none c2) fu)))) r (.lst (intsD (wrongL (readRows none c2) fu) ++ [D.non]))) a s p (n + 1 + 1) c2 (readRows none c2) (past ++ [stD c fu] ++ [stD c2 fu]) w :=
      (q3.changed (q3.ok.deed (d := .adopt) hno)).keep fun b o e => by
        rw [dupd2, dupd_ne (fun z => by rw [z] at e; rw [show DL.changed C s p h3 c2 fu (past ++ [stD c fu]) (Deed.adopt.cells c2 fu) (Deed.adopt.full c2 fu) r = none from hr] at e; cases e)]
        exact e
    refine ⟨?_, ?_⟩
    · have := wrongL_len (readRows none c2) fu
      rw [intsD, List.length_map]
      exact Nat.lt_of_lt_of_le (show (wrongL (readRows none c2) fu).length < 61 by omega) (by decide)
    rw [show D.tup ((readRows none c2).map rowD) = tabD (readRows none c2) from rfl]
    rw [e_dIf, e_dNot, e_dTest]
    simp only [e_dCall, e_dCons, e_dNil, v5, v11, v6]
    refine i_law_shows q5.sh q5.ok.tc q5.ok.tf q5.ok.lf ?_
    refine ⟨fun z => (by cases z), fun _ => ?_⟩
    exact nx _ _ _ _ _ _ _ _ _ _ q5 lc2 (by simp only [List.length_append, List.length_singleton]; omega)
  have tk : (k : Int).toNat = k := rfl
  have tb : (b : Int).toNat = b := rfl
  refine ⟨by decide, fun e => ?_, fun e => ?_⟩
  · unfold dMeth
    simp only [v5, v7, v14, e_dCons, e_dNil]
    refine ⟨s, _, rfl, q2.sh.at_, lk_no, ?_⟩
    refine i_Sheet_write (k := (k : Nat)) q2.sh q2.ok.tc q2.ok.tf lf (by omega) (by omega) (by omega) ec ef (by omega) (by omega) ?_
    simp only [w15, tk, tb, ec2]
    rw [show DL.changed C s p (dupd (dupd h a o1) a o2) c fu past c2 fu = h3 from hh3]
    exact cont
  · unfold dMethK
    simp only [v5, v7, v14, e_dCons, e_dNil]
    refine ⟨s, _, rfl, q2.sh.at_, lk_no, rfl, ?_⟩
    refine i_Sheet_write (k := (k : Nat)) q2.sh q2.ok.tc q2.ok.tf lf (by omega) (by omega) (by omega) ec ef (by omega) (by omega) ?_
    simp only [w15, tk, tb, ec2]
    rw [show DL.changed C s p (dupd (dupd h a o1) a o2) c fu past c2 fu = h3 from hh3]
    exact cont
/-- one row out and in again, as the law does it -/
theorem mv_one (t : List Row) (b p : Nat) (hb : b < t.length) : List.take p (List.take b (t.map rowD) ++ List.drop (b + 1) (t.map rowD)) ++ [rowD (t.getD b [])] ++ List.drop p (List.take b (t.map rowD) ++ List.drop (b + 1) (t.map rowD)) = (movedL t b b p).map rowD := by
  have e : List.take (b + 1 - b) (List.drop b (t.map rowD)) = [rowD (t.getD b [])] := by
    rw [show b + 1 - b = 1 by omega, List.drop_eq_getElem_cons (by rw [List.length_map]; exact hb)]
    simp [List.getD, List.getElem?_eq_getElem hb]
  rw [← movedL_map]
  unfold movedL
  rw [e]
theorem rd_law (C : Addr) (Ec E0 Ep Er El : DL.Er) (ds : List D) (h : DH) (Q : DK) (X : DX) (z : sp_law C Ec E0 Ep Er El ds h Q X) : t_law C Ec E0 Ep Er El (dEnd Q X) (dstart n_law ds) h := by
  match ds, z with
  | [.scr ns], ⟨hb, z⟩ =>
    show t_law C Ec E0 Ep Er El (dEnd Q X) [some (.scr ns), none, none, none, none, none, none, none, none, none, none, none, none, none, none, none, none, none, none, none, none, none] h
    unfold t_law
    rw [e_dSeq, e_dFor]
    simp only [e_iRange1, e_dCB, e_dCons, e_dNil, e_dC, v0, cb_lenX, cb_min, cb_max]
    refine ⟨by split <;> split <;> omega, by split <;> split <;> omega, ?_⟩
    refine for_indG (fun i : Nat => D.int i) (fun _ τ _ => ∃ x1 x2 x3 x4 x5 x6 x7 x8 x9 x10 x11 x12 x13 x14 x15 x16 x17 x18, τ = [some (.scr ns), x1, x2, x3, x4, x5, x6, x7, x8, x9, x10, x11, x12, x13, x14, x15, x16, x17, x18, none, none, none]) _ ⟨_, _, _, _, _, _, _, _, _, _, _, _, _, _, _, _, _, _, rfl⟩ ?_ ?_
    · rintro pre i post τ h' eq ⟨x1, x2, x3, x4, x5, x6, x7, x8, x9, x10, x11, x12, x13, x14, x15, x16, x17, x18, rfl⟩ D' T
      refine ⟨_, rfl, ?_⟩
      have hlen : i < 1000 := by
        have hm : i ∈ List.range (if (if (ns.length : Int) < 5 then (ns.length : Int) else 5) > 1 then (if (ns.length : Int) < 5 then (ns.length : Int) else 5) else 1).toNat := by rw [eq]; simp
        rw [List.mem_range] at hm
        split at hm <;> split at hm <;> omega
      rw [e_dSeq, e_dAsg]
      simp only [e_dCall, e_dCons, e_dNil, v0, v1, w1]
      refine i_law_urn (by omega) (by omega) hb fun a o ha uo => ?_
      rw [e_dFor]
      simp only [w2, e_iSeqD, e_dLst, e_dCons, e_dNil, e_dC, it_lst]
      refine ⟨le_line (m := 2) (Nat.le_refl _), ?_⟩
      refine for_ind (fun pre τ h' => ∃ x3 x4 x5 x6 x7 x8 x9 x10 x11 x12 x13 x14 x15 x16 x17 x18, τ = [some (.scr ns), some (.int i), some (.ref a), x3, x4, x5, x6, x7, x8, x9, x10, x11, x12, x13, x14, x15, x16, x17, x18, none, none, none] ∧ Urn h' a (60000 * pre.length)) _ ⟨_, _, _, _, _, _, _, _, _, _, _, _, _, _, _, _, rfl, Urn.upd uo⟩ ?_ ?_
      · rintro pre d post τ h' eq ⟨x3, x4, x5, x6, x7, x8, x9, x10, x11, x12, x13, x14, x15, x16, x17, x18, rfl, u⟩ D2 T2
        refine ⟨_, rfl, ?_⟩
        have hl := congrArg List.length eq
        simp only [List.length_append, List.length_cons, List.length_nil] at hl
        obtain ⟨m, rfl, m1, m60⟩ : ∃ m : Int, d = .int m ∧ 1 ≤ m ∧ m ≤ 60 := by
          have hm : d ∈ [D.int 60, D.int 6] := by rw [eq]; simp
          simp only [List.mem_cons, List.not_mem_nil, or_false] at hm
          rcases hm with rfl | rfl
          · exact ⟨60, rfl, by decide, by decide⟩
          · exact ⟨6, rfl, by decide, by decide⟩
        rw [e_dSeq, e_dAsg]
        simp only [e_dCall, e_dCons, e_dNil, w3, v2, v3]
        have hLIM : LIM = 1000000000000 := rfl
        refine i_law_page _ u (by omega) m1 m60 fun t o1 pt htl uo1 => ?_
        obtain ⟨w, sh⟩ := pt.sh
        have tb := sh.tc
        simp only [w4]
        rw [e_dSeq, e_dAsgT, e_dTup]
        unfold dMake
        simp only [e_dCons, e_dNil, v4]
        refine i_make pt fun s p h2 n2 => ?_
        simp only [e_dCB, e_dCall, e_dCons, e_dNil, v4]
        refine i_law_read tb ?_
        simp only [cb_tupleL, bT_two, w5, w6]
        refine ⟨le_line (m := 2) (Nat.le_refl _), ?_⟩
        rw [show D.tup ((readRows none t).map rowD) = tabD (readRows none t) from rfl]
        have q0 := W2.new (C := C) (Urn.upd uo1) n2 sh
        have c1 := sh.c1
        have lf := sh.lf
        have h60 := tb.le
        rw [e_dSeq, e_dPar]
        simp only [e_dCall, e_dCons, e_dNil, e_dCB, v2, v4, len_tabD]
        refine i_law_draw _ q0.urn (by omega) (by omega) (by omega) fun b o2 b0 b1 uo2 => ?_
        have q1 := q0.draw uo2
        refine i_law_draw _ q1.urn (by omega) (by omega) (by omega) fun sp o3 s0 s1 uo3 => ?_
        have q2 := q1.draw uo3
        obtain ⟨b, rfl⟩ := Int.eq_ofNat_of_zero_le b0
        obtain ⟨sp, rfl⟩ := Int.eq_ofNat_of_zero_le s0
        have hbt : b < t.length := by omega
        have okm : (Deed.move b b sp).ok t w := ⟨Nat.le_refl _, hbt, by omega⟩
        simp only [w7, w8]
        rw [e_dSeq, e_dDrop]
        unfold dMeth
        simp only [v5, v7, v8, e_dCons, e_dNil]
        refine ⟨s, _, rfl, q2.sh.at_, lk_no, ?_⟩
        refine i_Sheet_move (pl := (sp : Nat)) q2.sh tb lf (by show 0 ≤ 1000000; decide) (by omega) (by omega) (by omega) (by omega) (by omega) ?_
        have q3 : W2 C (DL.changed C s p (dupd (dupd h2 a o2) a o3) t (readRows none t) [] (movedL t b b sp) (movedL (readRows none t) b b sp)) a s p (60000 * pre.length + 20000 + 1 + 1) (movedL t b b sp) (movedL (readRows none t) b b sp) ([] ++ [stD t (readRows none t)]) w := q2.changed (q2.ok.deed okm)
        have tb' : (b : Int).toNat = b := rfl
        have ts' : (sp : Int).toNat = sp := rfl
        show (dSeq _ _) _ _ (DL.changed C s p (dupd (dupd h2 a o2) a o3) t (readRows none t) [] (movedL t b b sp) (movedL (readRows none t) b b sp))
        generalize DL.changed C s p (dupd (dupd h2 a o2) a o3) t (readRows none t) [] (movedL t b b sp) (movedL (readRows none t) b b sp) = h3 at q3
        have lm : (movedL t b b sp).length = t.length := movedL_len (Nat.le_refl _) hbt
        rw [e_dSeq, e_dAsg, e_dLstM, e_dNil]
        refine ⟨Nat.zero_le _, fun r hr => ?_⟩
        simp only [w9]
        have one : ∀ (u : List Row) (xs : List D) (D' : DEnds) (z3 z4 z6 z10 z11 z12 z13 z14 z15 z16 z17 z18 : Option D), u.length = t.length → xs.length ≤ 10 →
            (∀ y13, D'.nx [some (.scr ns), some (.int i), some (.ref a), z3, z4, some (.ref s), z6, some (.int (b : Nat)), some (.int (sp : Nat)), some (.ref r), some (tabD u), z11, z12, y13, z14, z15, z16, z17, z18, none, none, none] (dupd h3 r (.lst (xs ++ [tabD (movedL u b b sp)])))) →
            (dSeq (dAsg (dOp dAdd (dSl dSlice (dVar 10) dNoPart (dPart (dVar 7))) (dSl dSlice (dVar 10) (dPart (dOp dAdd (dVar 7) (dC (.int 1)))) dNoPart)) 13)
  (dDrop (dBM "list" dAppend (dVar 9) (dCons (dOp dAdd (dOp dAdd (dSl dSlice (dVar 13) dNoPart (dPart (dVar 8))) (dTup (dCons (dOp dIx (dVar 10) (dVar 7)) dNil))) (dSl dSlice (dVar 13) (dPart (dVar 8)) dNoPart)) dNil)))) D'
              [some (.scr ns), some (.int i), some (.ref a), z3, z4, some (.ref s), z6, some (.int (b : Nat)), some (.int (sp : Nat)), some (.ref r), some (tabD u), z11, z12, z13, z14, z15, z16, z17, z18, none, none, none] (dupd h3 r (.lst xs)) := by
          intro u xs D' z3 z4 z6 z10 z11 z12 z13 z14 z15 z16 z17 z18 hu hx nx
          have hbu : b < u.length := by omega
          have ixu : ∀ (h : DH) (Q : DK), dIx (.tup (u.map rowD)) (.int (b : Nat)) h Q = Q (rowD (u.getD b [])) h := fun h Q => ix_tabD' hbu
          rw [show tabD u = .tup (u.map rowD) from rfl] at nx ⊢
          rw [e_dSeq, e_dAsg, e_dOp, e_dSl]
          simp only [v10, v7, e_dPart, e_dNoPart, sl_to, e_dSl, e_dOp, e_dC, op_Add]
          rw [show (some ((b : Int) + 1)) = some ((b + 1 : Nat) : Int) from rfl]
          simp only [sl_from, op_AddT, w13]
          refine ⟨le200 (by simp only [List.length_take, List.length_drop, List.length_map]; omega), ?_⟩
          rw [e_dDrop, e_dBM]
          have e0 : dupd h3 r (DO.lst xs) r = some (.lst xs) := dupd_same
          simp only [v9, e_dCons, e_dNil, e_dOp, e_dSl, v13, v8, v10, v7, e_dTup, ixu, e_dPart, e_dNoPart, sl_to, sl_from, op_AddT, me_append e0]
          refine ⟨⟨rfl, _, e0⟩, le_line (m := 1) (Nat.le_refl _), le200 ?_, le200 ?_, Nat.lt_of_le_of_lt hx (by decide), ?_⟩
          · simp only [List.length_append, List.length_take, List.length_drop, List.length_map, List.length_singleton]; omega
          · simp only [List.length_append, List.length_take, List.length_drop, List.length_map, List.length_singleton]; omega
          rw [mv_one u b sp hbu, dupd2]
          exact nx _
        rw [e_dSeq, e_dFor, e_iSeqD, e_dTup]
        simp only [e_dCons, e_dNil, v4, v6, it_tup]
        refine ⟨le_line (m := 2) (Nat.le_refl _), ?_⟩
        unfold forGo
        simp only [bT_nm, w10]
        refine one t [] _ _ _ _ none _ _ _ _ _ _ _ _ rfl (by simp) fun y13 => ?_
        dsimp only
        unfold forGo
        simp only [bT_nm, w10]
        refine one (readRows none t) _ _ _ _ _ none _ _ _ _ _ _ _ _ lf (by simp) fun y13 => ?_
        dsimp only
        unfold forGo
        dsimp only
        have e0 : dupd h3 r (DO.lst ([] ++ [tabD (movedL t b b sp)] ++ [tabD (movedL (readRows none t) b b sp)])) r = some (.lst [tabD (movedL t b b sp), tabD (movedL (readRows none t) b b sp)]) := dupd_same
        rw [e_dSeq, e_dAsgT, e_dTup]
        simp only [e_dCons, e_dNil, e_dOp, e_dC, v9]
        rw [ix_ref0 e0]
        simp only [ix_ref1 e0, bT_two, w11, w6]
        refine ⟨le_line (m := 2) (Nat.le_refl _), ?_⟩
        have q4 := q3.keep (h' := dupd h3 r (DO.lst ([] ++ [tabD (movedL t b b sp)] ++ [tabD (movedL (readRows none t) b b sp)]))) fun b o e => by rw [dupd_ne (fun z => by rw [z, hr] at e; cases e)]; exact e
        generalize dupd h3 r (DO.lst ([] ++ [tabD (movedL t b b sp)] ++ [tabD (movedL (readRows none t) b b sp)])) = h4 at q4
        rw [e_dFor]
        simp only [e_iRange1, e_dCall, e_dCons, e_dNil, e_dC, v2]
        refine i_law_draw _ q4.urn (by omega) (by decide) (by decide) fun d o5 d0 d21 uo5 => ?_
        refine ⟨by omega, by omega, ?_⟩
        refine for_indG (fun i : Nat => D.int i) (fun pre2 τ h' => ∃ c fu past x7 x12 x14 x15 x16 x17 x18, τ = [some (.scr ns), some (.int i), some (.ref a), some (.int m), some (tabD t), some (.ref s), some (tabD fu), x7, some (.int (sp : Nat)), some (.ref r), some (tabD (readRows none t)), some (tabD c), x12, y13, x14, x15, x16, x17, x18, none, none, none] ∧
          W2 C h' a s p (60000 * pre.length + 20003 + 2 * pre2.length) c fu past w ∧ c.length = t.length ∧ past.length ≤ 1 + 2 * pre2.length) _ ⟨_, _, _, _, _, _, _, _, _, _, rfl, q4.draw uo5, lm, by simp⟩ ?_ ?_
        · rintro pre2 j post2 τ h' eq2 ⟨c, fu, past, x7, x12, x14, x15, x16, x17, x18, rfl, q, hcl, hpl⟩ D3 T3
          refine ⟨_, rfl, ?_⟩
          have hl2 := congrArg List.length eq2
          simp only [List.length_append, List.length_cons, List.length_range] at hl2
          exact turn52 C Ec Er El q (by omega) (by omega) hcl.symm D3 fun h5 c5 f5 p5 y7 y14 y15 y16 y17 y18 q5 hc5 hp5 => T3.nx _ _ ⟨c5, f5, p5, _, _, _, _, _, _, _, rfl, q5.mono (by rw [List.length_append, List.length_singleton]; omega), by omega, by rw [List.length_append, List.length_singleton]; omega⟩
        · rintro τ h5 ⟨c, fu, past, x7, x12, x14, x15, x16, x17, x18, rfl, q, hcl, hpl⟩
          refine T2.nx _ _ ⟨_, _, _, _, _, _, _, _, _, _, _, _, _, _, _, _, rfl, q.urn.mono ?_⟩
          rw [List.length_range, List.length_append, List.length_singleton]
          omega
      · rintro τ h2 ⟨x3, x4, x5, x6, x7, x8, x9, x10, x11, x12, x13, x14, x15, x16, x17, x18, rfl, u⟩
        exact T.nx _ _ ⟨_, _, _, _, _, _, _, _, _, _, _, _, _, _, _, _, _, _, rfl⟩
    · rintro τ h' ⟨x1, x2, x3, x4, x5, x6, x7, x8, x9, x10, x11, x12, x13, x14, x15, x16, x17, x18, rfl⟩
      obtain ⟨c, hc⟩ : ∃ c : List Row, c = [[some ("a" : Str), some ("x" : Str)], [none, some ("y" : Str)], [some ("b" : Str), some ("x" : Str)]] := ⟨_, rfl⟩
      have ec : D.tup [D.tup [.str "a", .str "x"], D.tup [.non, .str "y"], D.tup [.str "b", .str "x"]] = tabD c := by rw [hc]; rfl
      have p1 : PageP c := by
        obtain ⟨t, e, p⟩ := page_of (d := tabD c) (by rw [hc]; decide +kernel)
        rw [tabD_inj e]; exact p
      have cl : c.length = 3 := by rw [hc]; rfl
      obtain ⟨w, sh⟩ := p1.sh
      have okm : (Deed.move 2 2 1).ok c w := ⟨by decide, by omega, by omega⟩
      have sh1 := sh.deed okm
      have oka : (Deed.adopt).ok ((Deed.move 2 2 1).cells c (readRows none c)) w := by rw [hc]; show ∀ r ∈ _, _; decide +kernel
      have sh2 := sh1.deed oka
      have e1 : (Deed.move 2 2 1).cells c (readRows none c) = [[some ("a" : Str), some ("x" : Str)], [some ("b" : Str), some ("x" : Str)], [none, some ("y" : Str)]] := by rw [hc]; decide +kernel
      have e2 : (Deed.move 2 2 1).full c (readRows none c) = [[some ("a" : Str), some ("x" : Str)], [some ("b" : Str), some ("x" : Str)], [some ("a" : Str), some ("y" : Str)]] := by rw [hc]; decide +kernel
      dsimp only
      rw [e_dSeq, e_dAsg]
      unfold dMake
      simp only [e_dCons, e_dNil, e_dTup, e_dC]
      refine ⟨le_line (m := 2) (Nat.le_refl _), le_line (m := 2) (Nat.le_refl _), le_line (m := 2) (Nat.le_refl _), le_line (m := 3) (Nat.le_refl _), ?_⟩
      rw [ec]
      refine i_make p1 fun s p h2 n2 => ?_
      have s0 := n2.at_
      simp only [w5]
      rw [e_dSeq, e_dAsg, e_dLstM]
      unfold dMeth dProp
      simp only [e_dCons, e_dNil, e_dC, v5]
      refine ⟨s, _, rfl, s0.at_, lk_no, ?_⟩
      refine i_Sheet_move s0 sh.tc sh.lf (by decide) (by decide) (by decide) (by omega) (by decide) (by omega) ?_
      have s1 : SheetAt C (DL.changed C s p h2 c (readRows none c) [] ((Deed.move 2 2 1).cells c (readRows none c)) ((Deed.move 2 2 1).full c (readRows none c))) s p ((Deed.move 2 2 1).cells c (readRows none c)) ((Deed.move 2 2 1).full c (readRows none c)) ([] ++ [stD c (readRows none c)]) := ⟨dupd_same, (dupd_ne s0.ne).trans dupd_same⟩
      refine ⟨s, _, rfl, s1.at_, lk_no, ?_⟩
      refine i_Sheet_adopt (h := DL.changed C s p h2 c (readRows none c) [] ((Deed.move 2 2 1).cells c (readRows none c)) ((Deed.move 2 2 1).full c (readRows none c))) s1 sh1.tc sh1.tf sh1.lf (by show 1 ≤ 1000000; decide) oka fun q1 hq1 => ?_
      generalize hC1 : (Deed.move 2 2 1).cells c (readRows none c) = c1 at *
      generalize hF1 : (Deed.move 2 2 1).full c (readRows none c) = f1 at *
      have s2 : SheetAt C (DL.changed C s p (DL.changed C s p h2 c (readRows none c) [] c1 f1) c1 f1 ([] ++ [stD c (readRows none c)]) c1 (readRows none c1)) s p c1 (readRows none c1) (([] ++ [stD c (readRows none c)]) ++ [stD c1 f1]) := ⟨dupd_same, (dupd_ne s0.ne).trans dupd_same⟩
      have s3 := s2.new (o := .lst (intsD (wrongL (readRows none c1) f1))) hq1
      generalize DL.changed C s p (DL.changed C s p h2 c (readRows none c) [] c1 f1) c1 f1 ([] ++ [stD c (readRows none c)]) c1 (readRows none c1) = h3 at *
      refine ⟨s, _, rfl, s3.at_, ?_⟩
      refine i_Sheet_true_now s3 fun q2 hq2 => ?_
      have s4 := s3.new (o := .lst ((readRows none c1).map rowD)) hq2
      have n21 : q2 ≠ q1 := fun e => by rw [e, dupd_same] at hq2; cases hq2
      have n1s : q1 ≠ s := fun e => by rw [e] at hq1; exact absurd (s2.at_.symm.trans hq1) (by simp)
      have n1p : q1 ≠ p := fun e => by rw [e] at hq1; exact absurd (s2.pa.symm.trans hq1) (by simp)
      have n2s : q2 ≠ s := fun e => by rw [e] at hq2; exact absurd (s3.at_.symm.trans hq2) (by simp)
      have n2p : q2 ≠ p := fun e => by rw [e] at hq2; exact absurd (s3.pa.symm.trans hq2) (by simp)
      refine ⟨s, _, rfl, s4.at_, lk_no, ?_⟩
      have c1l : c1.length = 3 := by rw [e1]; rfl
      have r2 : c1[(2 : Int).toNat]? = some [none, some ("y" : Str)] := by rw [e1]; rfl
      have r3 : (readRows none c1)[(2 : Int).toNat]? = some [some ("b" : Str), some ("y" : Str)] := by rw [e1]; rfl
      refine i_Sheet_write s4 sh2.tc sh2.tf sh2.lf (by show 2 ≤ 1000000; decide) (by decide) (by omega) r2 r3 (by decide) (by decide) ?_
      have s5 : SheetAt C (DL.changed C s p (dupd (dupd h3 q1 (.lst (intsD (wrongL (readRows none c1) f1)))) q2 (.lst ((readRows none c1).map rowD))) c1 (readRows none c1) (([] ++ [stD c (readRows none c)]) ++ [stD c1 f1]) (setL c1 2 (withBlanks [some ("b" : Str), some ("y" : Str)] 0)) (readRows none c1)) s p (setL c1 2 (withBlanks [some ("b" : Str), some ("y" : Str)] 0)) (readRows none c1) _ := ⟨dupd_same, (dupd_ne s0.ne).trans dupd_same⟩
      refine ⟨s, _, rfl, s5.at_, ?_⟩
      refine i_Sheet_cells_now s5 ?_
      refine ⟨le_line (m := 5) (Nat.le_refl _), fun q5 hq5 => ?_⟩
      have g1 : DL.changed C s p (dupd (dupd h3 q1 (.lst (intsD (wrongL (readRows none c1) f1)))) q2 (.lst ((readRows none c1).map rowD))) c1 (readRows none c1) (([] ++ [stD c (readRows none c)]) ++ [stD c1 f1]) (setL c1 (2 : Int).toNat (withBlanks [some ("b" : Str), some ("y" : Str)] (0 : Int).toNat)) (readRows none c1) q1 = some (.lst (intsD (wrongL (readRows none c1) f1))) := by
        unfold DL.changed
        rw [dupd_ne n1s, dupd_ne n1p, dupd_ne (Ne.symm n21), dupd_same]
      have g2 : DL.changed C s p (dupd (dupd h3 q1 (.lst (intsD (wrongL (readRows none c1) f1)))) q2 (.lst ((readRows none c1).map rowD))) c1 (readRows none c1) (([] ++ [stD c (readRows none c)]) ++ [stD c1 f1]) (setL c1 (2 : Int).toNat (withBlanks [some ("b" : Str), some ("y" : Str)] (0 : Int).toNat)) (readRows none c1) q2 = some (.lst ((readRows none c1).map rowD)) := by
        unfold DL.changed
        rw [dupd_ne n2s, dupd_ne n2p, dupd_same]
      generalize DL.changed C s p (dupd (dupd h3 q1 (.lst (intsD (wrongL (readRows none c1) f1)))) q2 (.lst ((readRows none c1).map rowD))) c1 (readRows none c1) (([] ++ [stD c (readRows none c)]) ++ [stD c1 f1]) (setL c1 (2 : Int).toNat (withBlanks [some ("b" : Str), some ("y" : Str)] (0 : Int).toNat)) (readRows none c1) = h5 at g1 g2 hq5 ⊢
      have m1 : q1 ≠ q5 := fun e => by rw [← e, g1] at hq5; cases hq5
      have m2 : q2 ≠ q5 := fun e => by rw [← e, g2] at hq5; cases hq5
      simp only [w15]
      rw [e_dRet, e_dOp]
      simp only [v15, e_dCons, e_dNil, e_dC, e_dTup, e_dLst]
      have one : ∀ n, n ≤ 6 → n ≤ sizeLine := fun n h => le_line h
      refine ⟨one _ (by decide), one _ (by decide), one _ (by decide), one _ (by decide), one _ (by decide), one _ (by decide), one _ (by decide), one _ (by decide), one _ (by decide), one _ (by decide), ?_⟩
      refine eqV_t (z := .lst [.non, .lst [.int 2], .lst [.tup [.str "a", .str "x"], .tup [.str "b", .str "x"], .tup [.str "b", .str "y"]], .non, .tup [.tup [.str "a", .str "x"], .tup [.str "b", .str "x"], .tup [.str "b", .str "y"]]]) ?_ rfl (by decide +kernel) (by decide +kernel) (dend0 (z _))
      have a1 : intsD (wrongL (readRows none c1) f1) = [.int 2] := by
        have : wrongL (readRows none c1) f1 = [2] := by rw [e1, e2]; decide +kernel
        rw [this]; rfl
      have a2 : (readRows none c1).map rowD = [.tup [.str "a", .str "x"], .tup [.str "b", .str "x"], .tup [.str "b", .str "y"]] := by rw [e1]; rfl
      have a3 : tabD (setL c1 2 (withBlanks [some ("b" : Str), some ("y" : Str)] 0)) = .tup [.tup [.str "a", .str "x"], .tup [.str "b", .str "x"], .tup [.str "b", .str "y"]] := by rw [e1]; rfl
      have tk2 : (2 : Int).toNat = 2 := rfl
      have tk0 : (0 : Int).toNat = 0 := rfl
      simp only [dv, dupd_same, List.map_cons, List.map_nil, dupd_ne m1, dupd_ne m2, g1, g2, a1, a2, a3]

end DL

namespace DL
open PySem L2
/-! ## the law k52: the text by places -/
def top (i : Nat) : Stmt := PySem.Challenge.pw_dittorows_k52_cells_written_and_adopted.main.body.getD i (.Pass ⟨0, 0, 0, 0⟩)
abbrev N_is_integer : List Str := ["value", "low", "high"]
abbrev s_is_integer : Stmt := top 13
abbrev N_is_cell : List Str := ["value", "sign"]
abbrev s_is_cell : Stmt := top 14
abbrev N_blanks_in : List Str := ["cells", "found"]
abbrev s_blanks_in : Stmt := top 15
abbrev N_is_printed_row : List Str := ["value", "cell"]
abbrev s_is_printed_row : Stmt := top 16
abbrev N_are_printed_rows : List Str := ["value", "row"]
abbrev s_are_printed_rows : Stmt := top 17
abbrev N_has_page_form : List Str := ["value"]
abbrev s_has_page_form : Stmt := top 18
abbrev N_require_page : List Str := ["value"]
abbrev s_require_page : Stmt := top 19
abbrev N_require_row : List Str := ["many", "value"]
abbrev s_require_row : Stmt := top 20
abbrev N_with_blanks : List Str := ["row", "count"]
abbrev s_with_blanks : Stmt := top 21
abbrev N_read_rows : List Str := ["rows", "found", "above", "row", "count"]
abbrev s_read_rows : Stmt := top 22
abbrev N_require_place : List Str := ["value", "most"]
abbrev s_require_place : Stmt := top 24
abbrev N_moved : List Str := ["items", "first", "last", "place", "others"]
abbrev s_moved : Stmt := top 25
abbrev N_Sheet_init : List Str := ["self", "page"]
abbrev s_Sheet_init : Stmt := inClass (top 26) 0
abbrev N_Sheet_change : List Str := ["self", "cells", "full_rows"]
abbrev s_Sheet_change : Stmt := inClass (top 26) 1
abbrev N_Sheet_move : List Str := ["self", "first", "last", "place", "cells", "full_rows"]
abbrev s_Sheet_move : Stmt := inClass (top 26) 2
abbrev N_Sheet_write : List Str := ["self", "row", "count", "cells", "full_rows"]
abbrev s_Sheet_write : Stmt := inClass (top 26) 5
abbrev N_Sheet_adopt : List Str := ["self", "cells", "full_rows", "found", "row", "read"]
abbrev s_Sheet_adopt : Stmt := inClass (top 26) 6
abbrev N_Sheet_wrong : List Str := ["self", "cells", "full_rows", "row", "read"]
abbrev s_Sheet_wrong : Stmt := inClass (top 26) 9
abbrev N_Sheet_cells_now : List Str := ["self"]
abbrev s_Sheet_cells_now : Stmt := inClass (top 26) 10
abbrev N_Sheet_read_now : List Str := ["self"]
abbrev s_Sheet_read_now : Stmt := inClass (top 26) 11
abbrev N_Sheet_true_now : List Str := ["self"]
abbrev s_Sheet_true_now : Stmt := inClass (top 26) 12
abbrev N_Sheet_len : List Str := ["self"]
abbrev s_Sheet_len : Stmt := inClass (top 26) 14
abbrev N_law_urn : List Str := ["cells_here", "k", "cell"]
abbrev s_law_urn : Stmt := top 28
abbrev N_law_draw : List Str := ["urn", "many", "digit", "mixed"]
abbrev s_law_draw : Stmt := top 29
abbrev N_law_item : List Str := ["urn", "signs", "turn"]
abbrev s_law_item : Stmt := top 30
abbrev N_law_row : List Str := ["urn", "wide", "above", "fresh", "kept", "turn"]
abbrev s_law_row : Stmt := top 31
abbrev N_law_shared : List Str := ["one", "two", "many", "here", "there"]
abbrev s_law_shared : Stmt := top 32
abbrev N_law_page : List Str := ["urn", "most", "wide", "many", "found", "above", "turn", "own", "few"]
abbrev s_law_page : Stmt := top 33
abbrev N_law_read : List Str := ["some", "found", "spot", "own", "cells_here", "is_blank", "place_here", "cell", "above"]
abbrev s_law_read : Stmt := top 34
abbrev N_law_shows : List Str := ["sheet", "cells_here", "full_rows", "found", "bent", "due", "told", "spot", "own"]
abbrev s_law_shows : Stmt := top 35
abbrev N_law : List Str := ["script", "k", "urn", "most", "some", "sheet", "full_rows", "at", "spot", "both", "rows_here", "cells_here", "turn", "left", "few", "told", "own", "found", "bent", "number", "one", "cell"]
abbrev s_law : Stmt := top 36
abbrev E_InvalidCount : Er := Er.never
abbrev E_InvalidPage : Er := Er.never
abbrev E_InvalidPlace : Er := Er.never
abbrev E_InvalidRow : Er := Er.never
abbrev E_Loose : Er := Er.never
structure Ad where
  f_is_integer : Addr
  d_is_integer : FuncData
  f_is_cell : Addr
  d_is_cell : FuncData
  f_blanks_in : Addr
  d_blanks_in : FuncData
  f_is_printed_row : Addr
  d_is_printed_row : FuncData
  f_are_printed_rows : Addr
  d_are_printed_rows : FuncData
  f_has_page_form : Addr
  d_has_page_form : FuncData
  f_require_page : Addr
  d_require_page : FuncData
  f_require_row : Addr
  d_require_row : FuncData
  f_with_blanks : Addr
  d_with_blanks : FuncData
  f_read_rows : Addr
  d_read_rows : FuncData
  f_require_place : Addr
  d_require_place : FuncData
  f_moved : Addr
  d_moved : FuncData
  f_Sheet_init : Addr
  d_Sheet_init : FuncData
  f_Sheet_change : Addr
  d_Sheet_change : FuncData
  f_Sheet_move : Addr
  d_Sheet_move : FuncData
  f_Sheet_write : Addr
  d_Sheet_write : FuncData
  f_Sheet_adopt : Addr
  d_Sheet_adopt : FuncData
  f_Sheet_wrong : Addr
  d_Sheet_wrong : FuncData
  f_Sheet_cells_now : Addr
  d_Sheet_cells_now : FuncData
  f_Sheet_read_now : Addr
  d_Sheet_read_now : FuncData
  f_Sheet_true_now : Addr
  d_Sheet_true_now : FuncData
  f_Sheet_len : Addr
  d_Sheet_len : FuncData
  f_law_urn : Addr
  d_law_urn : FuncData
  f_law_draw : Addr
  d_law_draw : FuncData
  f_law_item : Addr
  d_law_item : FuncData
  f_law_row : Addr
  d_law_row : FuncData
  f_law_shared : Addr
  d_law_shared : FuncData
  f_law_page : Addr
  d_law_page : FuncData
  f_law_read : Addr
  d_law_read : FuncData
  f_law_shows : Addr
  d_law_shows : FuncData
  f_law : Addr
  d_law : FuncData
  t_MOST_ROWS : Tok
  t_MOST_SIGNS : Tok
  t_MOST_WIDTH : Tok
  t_SIGNS : Tok
  C_Sheet : Addr
  pa_Sheet_cells_now : Addr
  pa_Sheet_read_now : Addr
  pa_Sheet_true_now : Addr
structure Txt (K : PySem.W.Frag) (mg : Str → Option Value) (A : Ad) : Prop where
  F_is_integer : Fun K "is_integer" "is_integer" s_is_integer A.f_is_integer A.d_is_integer
  m_is_integer : mg "is_integer" = some (.ref A.f_is_integer)
  k_is_integer : PySem.W.keepIn K (.ref A.f_is_integer) = true
  b_is_integer : Binds K A.d_is_integer ["value", "low", "high"] []
  F_is_cell : Fun K "is_cell" "is_cell" s_is_cell A.f_is_cell A.d_is_cell
  m_is_cell : mg "is_cell" = some (.ref A.f_is_cell)
  k_is_cell : PySem.W.keepIn K (.ref A.f_is_cell) = true
  b_is_cell : Binds K A.d_is_cell ["value"] []
  F_blanks_in : Fun K "blanks_in" "blanks_in" s_blanks_in A.f_blanks_in A.d_blanks_in
  m_blanks_in : mg "blanks_in" = some (.ref A.f_blanks_in)
  k_blanks_in : PySem.W.keepIn K (.ref A.f_blanks_in) = true
  b_blanks_in : Binds K A.d_blanks_in ["cells"] []
  F_is_printed_row : Fun K "is_printed_row" "is_printed_row" s_is_printed_row A.f_is_printed_row A.d_is_printed_row
  m_is_printed_row : mg "is_printed_row" = some (.ref A.f_is_printed_row)
  k_is_printed_row : PySem.W.keepIn K (.ref A.f_is_printed_row) = true
  b_is_printed_row : Binds K A.d_is_printed_row ["value"] []
  F_are_printed_rows : Fun K "are_printed_rows" "are_printed_rows" s_are_printed_rows A.f_are_printed_rows A.d_are_printed_rows
  m_are_printed_rows : mg "are_printed_rows" = some (.ref A.f_are_printed_rows)
  k_are_printed_rows : PySem.W.keepIn K (.ref A.f_are_printed_rows) = true
  b_are_printed_rows : Binds K A.d_are_printed_rows ["value"] []
  F_has_page_form : Fun K "has_page_form" "has_page_form" s_has_page_form A.f_has_page_form A.d_has_page_form
  m_has_page_form : mg "has_page_form" = some (.ref A.f_has_page_form)
  k_has_page_form : PySem.W.keepIn K (.ref A.f_has_page_form) = true
  b_has_page_form : Binds K A.d_has_page_form ["value"] []
  F_require_page : Fun K "require_page" "require_page" s_require_page A.f_require_page A.d_require_page
  m_require_page : mg "require_page" = some (.ref A.f_require_page)
  k_require_page : PySem.W.keepIn K (.ref A.f_require_page) = true
  b_require_page : Binds K A.d_require_page ["value"] []
  F_require_row : Fun K "require_row" "require_row" s_require_row A.f_require_row A.d_require_row
  m_require_row : mg "require_row" = some (.ref A.f_require_row)
  k_require_row : PySem.W.keepIn K (.ref A.f_require_row) = true
  b_require_row : Binds K A.d_require_row ["many", "value"] []
  F_with_blanks : Fun K "with_blanks" "with_blanks" s_with_blanks A.f_with_blanks A.d_with_blanks
  m_with_blanks : mg "with_blanks" = some (.ref A.f_with_blanks)
  k_with_blanks : PySem.W.keepIn K (.ref A.f_with_blanks) = true
  b_with_blanks : Binds K A.d_with_blanks ["row", "count"] []
  F_read_rows : Fun K "read_rows" "read_rows" s_read_rows A.f_read_rows A.d_read_rows
  m_read_rows : mg "read_rows" = some (.ref A.f_read_rows)
  k_read_rows : PySem.W.keepIn K (.ref A.f_read_rows) = true
  b_read_rows : Binds K A.d_read_rows ["rows"] []
  F_require_place : Fun K "require_place" "require_place" s_require_place A.f_require_place A.d_require_place
  m_require_place : mg "require_place" = some (.ref A.f_require_place)
  k_require_place : PySem.W.keepIn K (.ref A.f_require_place) = true
  b_require_place : Binds K A.d_require_place ["value", "most"] []
  F_moved : Fun K "moved" "moved" s_moved A.f_moved A.d_moved
  m_moved : mg "moved" = some (.ref A.f_moved)
  k_moved : PySem.W.keepIn K (.ref A.f_moved) = true
  b_moved : Binds K A.d_moved ["items", "first", "last", "place"] []
  F_Sheet_init : Fun K "__init__" "Sheet.__init__" s_Sheet_init A.f_Sheet_init A.d_Sheet_init
  k_Sheet_init : PySem.W.keepIn K (.ref A.f_Sheet_init) = true
  b_Sheet_init : Binds K A.d_Sheet_init ["self", "page"] []
  F_Sheet_change : Fun K "change" "Sheet.change" s_Sheet_change A.f_Sheet_change A.d_Sheet_change
  k_Sheet_change : PySem.W.keepIn K (.ref A.f_Sheet_change) = true
  b_Sheet_change : Binds K A.d_Sheet_change ["self", "cells", "full_rows"] []
  F_Sheet_move : Fun K "move" "Sheet.move" s_Sheet_move A.f_Sheet_move A.d_Sheet_move
  k_Sheet_move : PySem.W.keepIn K (.ref A.f_Sheet_move) = true
  b_Sheet_move : Binds K A.d_Sheet_move ["self", "first", "last", "place"] []
  F_Sheet_write : Fun K "write" "Sheet.write" s_Sheet_write A.f_Sheet_write A.d_Sheet_write
  k_Sheet_write : PySem.W.keepIn K (.ref A.f_Sheet_write) = true
  b_Sheet_write : Binds K A.d_Sheet_write ["self", "row", "count"] []
  F_Sheet_adopt : Fun K "adopt" "Sheet.adopt" s_Sheet_adopt A.f_Sheet_adopt A.d_Sheet_adopt
  k_Sheet_adopt : PySem.W.keepIn K (.ref A.f_Sheet_adopt) = true
  b_Sheet_adopt : Binds K A.d_Sheet_adopt ["self"] []
  F_Sheet_wrong : Fun K "wrong" "Sheet.wrong" s_Sheet_wrong A.f_Sheet_wrong A.d_Sheet_wrong
  k_Sheet_wrong : PySem.W.keepIn K (.ref A.f_Sheet_wrong) = true
  b_Sheet_wrong : Binds K A.d_Sheet_wrong ["self"] []
  F_Sheet_cells_now : Fun K "cells_now" "Sheet.cells_now" s_Sheet_cells_now A.f_Sheet_cells_now A.d_Sheet_cells_now
  k_Sheet_cells_now : PySem.W.keepIn K (.ref A.f_Sheet_cells_now) = true
  b_Sheet_cells_now : Binds K A.d_Sheet_cells_now ["self"] []
  F_Sheet_read_now : Fun K "read_now" "Sheet.read_now" s_Sheet_read_now A.f_Sheet_read_now A.d_Sheet_read_now
  k_Sheet_read_now : PySem.W.keepIn K (.ref A.f_Sheet_read_now) = true
  b_Sheet_read_now : Binds K A.d_Sheet_read_now ["self"] []
  F_Sheet_true_now : Fun K "true_now" "Sheet.true_now" s_Sheet_true_now A.f_Sheet_true_now A.d_Sheet_true_now
  k_Sheet_true_now : PySem.W.keepIn K (.ref A.f_Sheet_true_now) = true
  b_Sheet_true_now : Binds K A.d_Sheet_true_now ["self"] []
  F_Sheet_len : Fun K "__len__" "Sheet.__len__" s_Sheet_len A.f_Sheet_len A.d_Sheet_len
  k_Sheet_len : PySem.W.keepIn K (.ref A.f_Sheet_len) = true
  b_Sheet_len : Binds K A.d_Sheet_len ["self"] []
  F_law_urn : Fun K "_law_urn" "_law_urn" s_law_urn A.f_law_urn A.d_law_urn
  m_law_urn : mg "_law_urn" = some (.ref A.f_law_urn)
  k_law_urn : PySem.W.keepIn K (.ref A.f_law_urn) = true
  b_law_urn : Binds K A.d_law_urn ["cells_here", "k"] []
  F_law_draw : Fun K "_law_draw" "_law_draw" s_law_draw A.f_law_draw A.d_law_draw
  m_law_draw : mg "_law_draw" = some (.ref A.f_law_draw)
  k_law_draw : PySem.W.keepIn K (.ref A.f_law_draw) = true
  b_law_draw : Binds K A.d_law_draw ["urn", "many"] []
  F_law_item : Fun K "_law_item" "_law_item" s_law_item A.f_law_item A.d_law_item
  m_law_item : mg "_law_item" = some (.ref A.f_law_item)
  k_law_item : PySem.W.keepIn K (.ref A.f_law_item) = true
  b_law_item : Binds K A.d_law_item ["urn"] []
  F_law_row : Fun K "_law_row" "_law_row" s_law_row A.f_law_row A.d_law_row
  m_law_row : mg "_law_row" = some (.ref A.f_law_row)
  k_law_row : PySem.W.keepIn K (.ref A.f_law_row) = true
  b_law_row : Binds K A.d_law_row ["urn", "wide", "above"] []
  F_law_shared : Fun K "_law_shared" "_law_shared" s_law_shared A.f_law_shared A.d_law_shared
  m_law_shared : mg "_law_shared" = some (.ref A.f_law_shared)
  k_law_shared : PySem.W.keepIn K (.ref A.f_law_shared) = true
  b_law_shared : Binds K A.d_law_shared ["one", "two"] []
  F_law_page : Fun K "_law_page" "_law_page" s_law_page A.f_law_page A.d_law_page
  m_law_page : mg "_law_page" = some (.ref A.f_law_page)
  k_law_page : PySem.W.keepIn K (.ref A.f_law_page) = true
  b_law_page : Binds K A.d_law_page ["urn", "most"] []
  F_law_read : Fun K "_law_read" "_law_read" s_law_read A.f_law_read A.d_law_read
  m_law_read : mg "_law_read" = some (.ref A.f_law_read)
  k_law_read : PySem.W.keepIn K (.ref A.f_law_read) = true
  b_law_read : Binds K A.d_law_read ["some"] []
  F_law_shows : Fun K "_law_shows" "_law_shows" s_law_shows A.f_law_shows A.d_law_shows
  m_law_shows : mg "_law_shows" = some (.ref A.f_law_shows)
  k_law_shows : PySem.W.keepIn K (.ref A.f_law_shows) = true
  b_law_shows : Binds K A.d_law_shows ["sheet", "cells_here", "full_rows"] []
  F_law : Fun K "law" "law" s_law A.f_law A.d_law
  m_law : mg "law" = some (.ref A.f_law)
  k_law : PySem.W.keepIn K (.ref A.f_law) = true
  b_law : Binds K A.d_law ["script"] []
  b_Sheet_write_1_count_row : Bd K A.d_Sheet_write ["self", "row", "count"] 1 ["count", "row"] [0, 2, 1]
  n_abs : mg "abs" = none
  n_all : mg "all" = none
  n_any : mg "any" = none
  n_bool : mg "bool" = none
  n_enumerate : mg "enumerate" = none
  n_int : mg "int" = none
  n_isinstance : mg "isinstance" = none
  n_len : mg "len" = none
  n_list : mg "list" = none
  n_max : mg "max" = none
  n_min : mg "min" = none
  n_range : mg "range" = none
  n_repr : mg "repr" = none
  n_str : mg "str" = none
  n_tuple : mg "tuple" = none
  n_zip : mg "zip" = none
  g_MOST_ROWS : mg "MOST_ROWS" = some (.int 60 A.t_MOST_ROWS)
  g_MOST_SIGNS : mg "MOST_SIGNS" = some (.int 8 A.t_MOST_SIGNS)
  g_MOST_WIDTH : mg "MOST_WIDTH" = some (.int 6 A.t_MOST_WIDTH)
  g_SIGNS : mg "SIGNS" = some (.str "abcdefghijklmnopqrstuvwxyz0123456789" A.t_SIGNS)
  c_Sheet : Cls K A.C_Sheet
  m_Sheet : mg "Sheet" = some (.ref A.C_Sheet)
  mk_Sheet : Mk K A.C_Sheet A.f_Sheet_init
  na_Sheet_past : NoAttr K A.C_Sheet "past"
  na_Sheet_state : NoAttr K A.C_Sheet "state"
  me_Sheet_adopt : Meth K A.C_Sheet "adopt" A.f_Sheet_adopt
  me_Sheet_change : Meth K A.C_Sheet "change" A.f_Sheet_change
  me_Sheet_len : Meth K A.C_Sheet "__len__" A.f_Sheet_len
  me_Sheet_move : Meth K A.C_Sheet "move" A.f_Sheet_move
  me_Sheet_write : Meth K A.C_Sheet "write" A.f_Sheet_write
  me_Sheet_wrong : Meth K A.C_Sheet "wrong" A.f_Sheet_wrong
  p_Sheet_cells_now : PropOf K A.C_Sheet "cells_now" A.pa_Sheet_cells_now A.f_Sheet_cells_now
  p_Sheet_read_now : PropOf K A.C_Sheet "read_now" A.pa_Sheet_read_now A.f_Sheet_read_now
  p_Sheet_true_now : PropOf K A.C_Sheet "true_now" A.pa_Sheet_true_now A.f_Sheet_true_now
section
variable {P : Program} {w : World} {K : PySem.W.Frag} {mg : Str → Option Value} {base : Heap} {A : Ad}
theorem sc_is_integer : FnScope N_is_integer ["value", "low", "high"] (defScope s_is_integer) := ⟨rfl, rfl, rfl, by decide +kernel, rfl, by decide +kernel, by decide +kernel⟩
theorem ok_is_integer (T : Txt K mg A) : FnG P w K mg base 1 A.f_is_integer A.d_is_integer ["value", "low", "high"] (liftSp K sp_is_integer) := by
  refine dokG T.F_is_integer sc_is_integer (fun ds h Q X z => ?_) (fun cdv A0 outer s H E hr hgd => ?_) (rd_is_integer)
  · unfold sp_is_integer at z; split at z <;> first | rfl | exact z.elim
  have tk : Takes (cxD P w K mg base N_is_integer "is_integer" (defScope s_is_integer) A.f_is_integer cdv A0 outer s H E) (wE E) := takes_of rfl rfl rfl rfl
  have ps : PassesOwn (model P w) (cxD P w K mg base N_is_integer "is_integer" (defScope s_is_integer) A.f_is_integer cdv A0 outer s H E).A (cxD P w K mg base N_is_integer "is_integer" (defScope s_is_integer) A.f_is_integer cdv A0 outer s H E).env (cxD P w K mg base N_is_integer "is_integer" (defScope s_is_integer) A.f_is_integer cdv A0 outer s H E).xe := passes_of rfl
  exact (ds_cons (ds_if (PW.pt (d_or (d_not (d_val (d_isi (T := "int") (x := Str.empty) (by decide) rfl T.n_isinstance rfl T.n_int bt_int (d_var 0)))) (d_or1 (d_val (d_isi (T := "bool") (x := Str.empty) (by decide) rfl T.n_isinstance rfl T.n_bool bt_bool (d_var 0)))))) (ds_one (ds_ret d_bl)) ds_nil)
  (ds_one (ds_ret (d_andV (d_cmp od_le (d_var 1) (d_var 0)) (pe_one (d_orV (d_cmp od_isN (d_var 2) d_non) (pe_one (d_cmp od_le (d_var 0) (d_var 2)))))))))
theorem sc_is_cell : FnScope N_is_cell ["value"] (defScope s_is_cell) := ⟨rfl, rfl, rfl, by decide +kernel, rfl, by decide +kernel, by decide +kernel⟩
theorem ok_is_cell (T : Txt K mg A) : FnG P w K mg base 1 A.f_is_cell A.d_is_cell ["value"] (liftSp K sp_is_cell) := by
  refine dokG T.F_is_cell sc_is_cell (fun ds h Q X z => ?_) (fun cdv A0 outer s H E hr hgd => ?_) (rd_is_cell)
  · unfold sp_is_cell at z; split at z <;> first | rfl | exact z.elim
  have tk : Takes (cxD P w K mg base N_is_cell "is_cell" (defScope s_is_cell) A.f_is_cell cdv A0 outer s H E) (wE E) := takes_of rfl rfl rfl rfl
  have ps : PassesOwn (model P w) (cxD P w K mg base N_is_cell "is_cell" (defScope s_is_cell) A.f_is_cell cdv A0 outer s H E).A (cxD P w K mg base N_is_cell "is_cell" (defScope s_is_cell) A.f_is_cell cdv A0 outer s H E).env (cxD P w K mg base N_is_cell "is_cell" (defScope s_is_cell) A.f_is_cell cdv A0 outer s H E).xe := passes_of rfl
  exact (ds_one (ds_ret (d_andV (d_isi (T := "str") (x := Str.empty) (by decide) rfl T.n_isinstance rfl T.n_str bt_str (d_var 0)) (d_andV (d_chain od_le od_le d_int (d_callB cd_len rfl T.n_len bt_len (d_cons (d_var 0) d_nil)) (d_globI rfl T.g_MOST_SIGNS ⟨_, rfl⟩)) (pe_one (d_callB (cd_all rfl) rfl T.n_all bt_all (d_cons (d_lc (own := [("sign", 1)]) (W0 := W00) rfl sc_is_cell.nd (di_seq (d_var 0)) (blkOk_by (own := [("sign", 1)]) (N := N_is_cell) (sc := defScope s_is_cell) (by decide +kernel)) (by decide) (fun _ _ _ _ _ => (pgi 1 sc_is_cell.nd)) (fun _ _ _ _ _ => dts_nil) (fun _ _ _ _ _ => (d_cmp od_inS (d_var 1) (d_globS rfl T.g_SIGNS ⟨_, rfl⟩)))) d_nil)))))))
theorem sc_blanks_in : FnScope N_blanks_in ["cells"] (defScope s_blanks_in) := ⟨rfl, rfl, rfl, by decide +kernel, rfl, by decide +kernel, by decide +kernel⟩
theorem ok_blanks_in (T : Txt K mg A) : FnG P w K mg base 1 A.f_blanks_in A.d_blanks_in ["cells"] (liftSp K sp_blanks_in) := by
  refine dokG T.F_blanks_in sc_blanks_in (fun ds h Q X z => ?_) (fun cdv A0 outer s H E hr hgd => ?_) (rd_blanks_in)
  · unfold sp_blanks_in at z; split at z <;> first | rfl | exact z.elim
  have tk : Takes (cxD P w K mg base N_blanks_in "blanks_in" (defScope s_blanks_in) A.f_blanks_in cdv A0 outer s H E) (wE E) := takes_of rfl rfl rfl rfl
  have ps : PassesOwn (model P w) (cxD P w K mg base N_blanks_in "blanks_in" (defScope s_blanks_in) A.f_blanks_in cdv A0 outer s H E).A (cxD P w K mg base N_blanks_in "blanks_in" (defScope s_blanks_in) A.f_blanks_in cdv A0 outer s H E).env (cxD P w K mg base N_blanks_in "blanks_in" (defScope s_blanks_in) A.f_blanks_in cdv A0 outer s H E).xe := passes_of rfl
  exact (ds_cons (ds_set (i := 1) sc_blanks_in.nd d_int)
  (ds_cons (ds_while ps (PW.pt (d_and (d_cmpT od_lt (d_var 1) (d_callB cd_len rfl T.n_len bt_len (d_cons (d_var 0) d_nil))) (d_and1 (d_cmpT od_isN (d_ix xd_ix (d_var 0) (d_var 1)) d_non)))) (ds_one (ds_set (i := 1) sc_blanks_in.nd (d_op od_add (d_var 1) d_int))))
  (ds_one (ds_ret (d_var 1)))))
theorem sc_with_blanks : FnScope N_with_blanks ["row", "count"] (defScope s_with_blanks) := ⟨rfl, rfl, rfl, by decide +kernel, rfl, by decide +kernel, by decide +kernel⟩
theorem ok_with_blanks (T : Txt K mg A) : FnG P w K mg base 1 A.f_with_blanks A.d_with_blanks ["row", "count"] (liftSp K sp_with_blanks) := by
  refine dokG T.F_with_blanks sc_with_blanks (fun ds h Q X z => ?_) (fun cdv A0 outer s H E hr hgd => ?_) (rd_with_blanks)
  · unfold sp_with_blanks at z; split at z <;> first | rfl | exact z.elim
  have tk : Takes (cxD P w K mg base N_with_blanks "with_blanks" (defScope s_with_blanks) A.f_with_blanks cdv A0 outer s H E) (wE E) := takes_of rfl rfl rfl rfl
  have ps : PassesOwn (model P w) (cxD P w K mg base N_with_blanks "with_blanks" (defScope s_with_blanks) A.f_with_blanks cdv A0 outer s H E).A (cxD P w K mg base N_with_blanks "with_blanks" (defScope s_with_blanks) A.f_with_blanks cdv A0 outer s H E).env (cxD P w K mg base N_with_blanks "with_blanks" (defScope s_with_blanks) A.f_with_blanks cdv A0 outer s H E).xe := passes_of rfl
  exact (ds_one (ds_ret (d_op od_add (d_op od_mul (d_tup (d_cons d_non d_nil)) (d_var 1)) (d_slice sd_slice (d_var 0) (d_part (d_var 1)) d_noPart))))
theorem sc_moved : FnScope N_moved ["items", "first", "last", "place"] (defScope s_moved) := ⟨rfl, rfl, rfl, by decide +kernel, rfl, by decide +kernel, by decide +kernel⟩
theorem ok_moved (T : Txt K mg A) : FnG P w K mg base 1 A.f_moved A.d_moved ["items", "first", "last", "place"] (liftSp K sp_moved) := by
  refine dokG T.F_moved sc_moved (fun ds h Q X z => ?_) (fun cdv A0 outer s H E hr hgd => ?_) (rd_moved)
  · unfold sp_moved at z; split at z <;> first | rfl | exact z.elim
  have tk : Takes (cxD P w K mg base N_moved "moved" (defScope s_moved) A.f_moved cdv A0 outer s H E) (wE E) := takes_of rfl rfl rfl rfl
  have ps : PassesOwn (model P w) (cxD P w K mg base N_moved "moved" (defScope s_moved) A.f_moved cdv A0 outer s H E).A (cxD P w K mg base N_moved "moved" (defScope s_moved) A.f_moved cdv A0 outer s H E).env (cxD P w K mg base N_moved "moved" (defScope s_moved) A.f_moved cdv A0 outer s H E).xe := passes_of rfl
  exact (ds_cons (ds_set (i := 4) sc_moved.nd (d_op od_add (d_slice sd_slice (d_var 0) d_noPart (d_part (d_var 1))) (d_slice sd_slice (d_var 0) (d_part (d_op od_add (d_var 2) d_int)) d_noPart)))
  (ds_one (ds_ret (d_op od_add (d_op od_add (d_slice sd_slice (d_var 4) d_noPart (d_part (d_var 3))) (d_slice sd_slice (d_var 0) (d_part (d_var 1)) (d_part (d_op od_add (d_var 2) d_int)))) (d_slice sd_slice (d_var 4) (d_part (d_var 3)) d_noPart)))))
theorem sc_Sheet_change : FnScope N_Sheet_change ["self", "cells", "full_rows"] (defScope s_Sheet_change) := ⟨rfl, rfl, rfl, by decide +kernel, rfl, by decide +kernel, by decide +kernel⟩
theorem ok_Sheet_change (T : Txt K mg A) : FnG P w K mg base 1 A.f_Sheet_change A.d_Sheet_change ["self", "cells", "full_rows"] (liftSp K (sp_Sheet_change A.C_Sheet)) := by
  refine dokG T.F_Sheet_change sc_Sheet_change (fun ds h Q X z => ?_) (fun cdv A0 outer s H E hr hgd => ?_) (rd_Sheet_change A.C_Sheet)
  · unfold sp_Sheet_change at z; split at z <;> first | rfl | exact z.elim
  have tk : Takes (cxD P w K mg base N_Sheet_change "Sheet.change" (defScope s_Sheet_change) A.f_Sheet_change cdv A0 outer s H E) (wE E) := takes_of rfl rfl rfl rfl
  have ps : PassesOwn (model P w) (cxD P w K mg base N_Sheet_change "Sheet.change" (defScope s_Sheet_change) A.f_Sheet_change cdv A0 outer s H E).A (cxD P w K mg base N_Sheet_change "Sheet.change" (defScope s_Sheet_change) A.f_Sheet_change cdv A0 outer s H E).env (cxD P w K mg base N_Sheet_change "Sheet.change" (defScope s_Sheet_change) A.f_Sheet_change cdv A0 outer s H E).xe := passes_of rfl
  exact (ds_cons (ds_expr (d_bm PySem.F.plainAttrs_list PySem.F.slot_list_append PySem.F.type_list_append md_append (d_fld T.c_Sheet T.na_Sheet_past (d_var 0)) (d_cons (d_fld T.c_Sheet T.na_Sheet_state (d_var 0)) d_nil)))
  (ds_one (ds_fld T.c_Sheet T.na_Sheet_state (d_tup (d_cons (d_callTy cd_tuple rfl T.n_tuple bt_tuple (d_cons (d_var 1) d_nil)) (d_cons (d_callTy cd_tuple rfl T.n_tuple bt_tuple (d_cons (d_var 2) d_nil)) d_nil))) (d_var 0))))
theorem sc_Sheet_cells_now : FnScope N_Sheet_cells_now ["self"] (defScope s_Sheet_cells_now) := ⟨rfl, rfl, rfl, by decide +kernel, rfl, by decide +kernel, by decide +kernel⟩
theorem ok_Sheet_cells_now (T : Txt K mg A) : FnG P w K mg base 1 A.f_Sheet_cells_now A.d_Sheet_cells_now ["self"] (liftSp K (sp_Sheet_cells_now A.C_Sheet)) := by
  refine dokG T.F_Sheet_cells_now sc_Sheet_cells_now (fun ds h Q X z => ?_) (fun cdv A0 outer s H E hr hgd => ?_) (rd_Sheet_cells_now A.C_Sheet)
  · unfold sp_Sheet_cells_now at z; split at z <;> first | rfl | exact z.elim
  have tk : Takes (cxD P w K mg base N_Sheet_cells_now "Sheet.cells_now" (defScope s_Sheet_cells_now) A.f_Sheet_cells_now cdv A0 outer s H E) (wE E) := takes_of rfl rfl rfl rfl
  have ps : PassesOwn (model P w) (cxD P w K mg base N_Sheet_cells_now "Sheet.cells_now" (defScope s_Sheet_cells_now) A.f_Sheet_cells_now cdv A0 outer s H E).A (cxD P w K mg base N_Sheet_cells_now "Sheet.cells_now" (defScope s_Sheet_cells_now) A.f_Sheet_cells_now cdv A0 outer s H E).env (cxD P w K mg base N_Sheet_cells_now "Sheet.cells_now" (defScope s_Sheet_cells_now) A.f_Sheet_cells_now cdv A0 outer s H E).xe := passes_of rfl
  exact (ds_one (ds_ret (d_ix xd_ix (d_fld T.c_Sheet T.na_Sheet_state (d_var 0)) d_int)))
theorem sc_Sheet_true_now : FnScope N_Sheet_true_now ["self"] (defScope s_Sheet_true_now) := ⟨rfl, rfl, rfl, by decide +kernel, rfl, by decide +kernel, by decide +kernel⟩
theorem ok_Sheet_true_now (T : Txt K mg A) : FnG P w K mg base 1 A.f_Sheet_true_now A.d_Sheet_true_now ["self"] (liftSp K (sp_Sheet_true_now A.C_Sheet)) := by
  refine dokG T.F_Sheet_true_now sc_Sheet_true_now (fun ds h Q X z => ?_) (fun cdv A0 outer s H E hr hgd => ?_) (rd_Sheet_true_now A.C_Sheet)
  · unfold sp_Sheet_true_now at z; split at z <;> first | rfl | exact z.elim
  have tk : Takes (cxD P w K mg base N_Sheet_true_now "Sheet.true_now" (defScope s_Sheet_true_now) A.f_Sheet_true_now cdv A0 outer s H E) (wE E) := takes_of rfl rfl rfl rfl
  have ps : PassesOwn (model P w) (cxD P w K mg base N_Sheet_true_now "Sheet.true_now" (defScope s_Sheet_true_now) A.f_Sheet_true_now cdv A0 outer s H E).A (cxD P w K mg base N_Sheet_true_now "Sheet.true_now" (defScope s_Sheet_true_now) A.f_Sheet_true_now cdv A0 outer s H E).env (cxD P w K mg base N_Sheet_true_now "Sheet.true_now" (defScope s_Sheet_true_now) A.f_Sheet_true_now cdv A0 outer s H E).xe := passes_of rfl
  exact (ds_one (ds_ret (d_callTy cd_listM rfl T.n_list bt_list (d_cons (d_ix xd_ix (d_fld T.c_Sheet T.na_Sheet_state (d_var 0)) d_int) d_nil))))
theorem sc_Sheet_len : FnScope N_Sheet_len ["self"] (defScope s_Sheet_len) := ⟨rfl, rfl, rfl, by decide +kernel, rfl, by decide +kernel, by decide +kernel⟩
theorem ok_Sheet_len (T : Txt K mg A) : FnG P w K mg base 1 A.f_Sheet_len A.d_Sheet_len ["self"] (liftSp K (sp_Sheet_len A.C_Sheet)) := by
  refine dokG T.F_Sheet_len sc_Sheet_len (fun ds h Q X z => ?_) (fun cdv A0 outer s H E hr hgd => ?_) (rd_Sheet_len A.C_Sheet)
  · unfold sp_Sheet_len at z; split at z <;> first | rfl | exact z.elim
  have tk : Takes (cxD P w K mg base N_Sheet_len "Sheet.__len__" (defScope s_Sheet_len) A.f_Sheet_len cdv A0 outer s H E) (wE E) := takes_of rfl rfl rfl rfl
  have ps : PassesOwn (model P w) (cxD P w K mg base N_Sheet_len "Sheet.__len__" (defScope s_Sheet_len) A.f_Sheet_len cdv A0 outer s H E).A (cxD P w K mg base N_Sheet_len "Sheet.__len__" (defScope s_Sheet_len) A.f_Sheet_len cdv A0 outer s H E).env (cxD P w K mg base N_Sheet_len "Sheet.__len__" (defScope s_Sheet_len) A.f_Sheet_len cdv A0 outer s H E).xe := passes_of rfl
  exact (ds_one (ds_ret (d_callB cd_len rfl T.n_len bt_len (d_cons (d_ix xd_ix (d_fld T.c_Sheet T.na_Sheet_state (d_var 0)) d_int) d_nil))))
theorem sc_law_urn : FnScope N_law_urn ["cells_here", "k"] (defScope s_law_urn) := ⟨rfl, rfl, rfl, by decide +kernel, rfl, by decide +kernel, by decide +kernel⟩
theorem ok_law_urn (T : Txt K mg A) : FnG P w K mg base 1 A.f_law_urn A.d_law_urn ["cells_here", "k"] (liftSp K sp_law_urn) := by
  refine dokG T.F_law_urn sc_law_urn (fun ds h Q X z => ?_) (fun cdv A0 outer s H E hr hgd => ?_) (rd_law_urn)
  · unfold sp_law_urn at z; split at z <;> first | rfl | exact z.elim
  have tk : Takes (cxD P w K mg base N_law_urn "_law_urn" (defScope s_law_urn) A.f_law_urn cdv A0 outer s H E) (wE E) := takes_of rfl rfl rfl rfl
  have ps : PassesOwn (model P w) (cxD P w K mg base N_law_urn "_law_urn" (defScope s_law_urn) A.f_law_urn cdv A0 outer s H E).A (cxD P w K mg base N_law_urn "_law_urn" (defScope s_law_urn) A.f_law_urn cdv A0 outer s H E).env (cxD P w K mg base N_law_urn "_law_urn" (defScope s_law_urn) A.f_law_urn cdv A0 outer s H E).xe := passes_of rfl
  exact (ds_cons (ds_set (i := 2) sc_law_urn.nd (d_ifE (d_cmpT od_lt (d_var 1) (d_callB cd_len rfl T.n_len bt_len (d_cons (d_var 0) d_nil))) (d_ix xd_ix (d_var 0) (d_var 1)) d_int))
  (ds_one (ds_ret (d_lstM (d_cons (d_callB (cd_max2 rfl) rfl T.n_max bt_max (d_cons d_int (d_cons (d_op od_sub (d_callB cd_abs rfl T.n_abs bt_abs (d_cons (d_var 2) d_nil)) (d_op od_pow d_int d_int)) d_nil))) (d_cons (d_op od_mod (d_op od_add (d_op od_add (d_op od_mul (d_var 2) d_int) (d_op od_mul d_int (d_var 1))) d_int) (d_op od_add (d_op od_pow d_int d_int) d_int)) (d_cons d_int d_nil)))))))
theorem sc_law_draw : FnScope N_law_draw ["urn", "many"] (defScope s_law_draw) := ⟨rfl, rfl, rfl, by decide +kernel, rfl, by decide +kernel, by decide +kernel⟩
theorem ok_law_draw (T : Txt K mg A) : FnG P w K mg base 1 A.f_law_draw A.d_law_draw ["urn", "many"] (liftSp K sp_law_draw) := by
  refine dokG T.F_law_draw sc_law_draw (fun ds h Q X z => ?_) (fun cdv A0 outer s H E hr hgd => ?_) (rd_law_draw)
  · unfold sp_law_draw at z; split at z <;> first | rfl | exact z.elim
  have tk : Takes (cxD P w K mg base N_law_draw "_law_draw" (defScope s_law_draw) A.f_law_draw cdv A0 outer s H E) (wE E) := takes_of rfl rfl rfl rfl
  have ps : PassesOwn (model P w) (cxD P w K mg base N_law_draw "_law_draw" (defScope s_law_draw) A.f_law_draw cdv A0 outer s H E).A (cxD P w K mg base N_law_draw "_law_draw" (defScope s_law_draw) A.f_law_draw cdv A0 outer s H E).env (cxD P w K mg base N_law_draw "_law_draw" (defScope s_law_draw) A.f_law_draw cdv A0 outer s H E).xe := passes_of rfl
  exact (ds_cons (ds_if (d_cmpT od_gt (d_ix xd_ix (d_var 0) d_int) d_int) (ds_cons (ds_set (i := 2) sc_law_draw.nd (d_op od_mod (d_ix xd_ix (d_var 0) d_int) (d_var 1)))
  (ds_cons (ds_setI (d_op od_fdiv (d_ix xd_ix (d_var 0) d_int) (d_var 1)) (d_var 0) d_int)
  (ds_one (ds_ret (d_var 2))))) ds_nil)
  (ds_cons (ds_setI (d_op od_add (d_ix xd_ix (d_var 0) d_int) d_int) (d_var 0) d_int)
  (ds_cons (ds_set (i := 3) sc_law_draw.nd (d_op od_mod (d_op od_pow (d_op od_add (d_ix xd_ix (d_var 0) d_int) (d_op od_mul d_int (d_ix xd_ix (d_var 0) d_int))) d_int) (d_op od_add (d_op od_pow d_int d_int) d_int)))
  (ds_cons (ds_set (i := 3) sc_law_draw.nd (d_op od_mod (d_op od_pow (d_op od_add (d_var 3) (d_op od_mul d_int (d_ix xd_ix (d_var 0) d_int))) d_int) (d_op od_add (d_op od_pow d_int d_int) d_int)))
  (ds_one (ds_ret (d_op od_mod (d_op od_fdiv (d_var 3) (d_op od_pow d_int d_int)) (d_var 1))))))))
theorem sc_law_shared : FnScope N_law_shared ["one", "two"] (defScope s_law_shared) := ⟨rfl, rfl, rfl, by decide +kernel, rfl, by decide +kernel, by decide +kernel⟩
theorem ok_law_shared (T : Txt K mg A) : FnG P w K mg base 1 A.f_law_shared A.d_law_shared ["one", "two"] (liftSp K sp_law_shared) := by
  refine dokG T.F_law_shared sc_law_shared (fun ds h Q X z => ?_) (fun cdv A0 outer s H E hr hgd => ?_) (rd_law_shared)
  · unfold sp_law_shared at z; split at z <;> first | rfl | exact z.elim
  have tk : Takes (cxD P w K mg base N_law_shared "_law_shared" (defScope s_law_shared) A.f_law_shared cdv A0 outer s H E) (wE E) := takes_of rfl rfl rfl rfl
  have ps : PassesOwn (model P w) (cxD P w K mg base N_law_shared "_law_shared" (defScope s_law_shared) A.f_law_shared cdv A0 outer s H E).A (cxD P w K mg base N_law_shared "_law_shared" (defScope s_law_shared) A.f_law_shared cdv A0 outer s H E).env (cxD P w K mg base N_law_shared "_law_shared" (defScope s_law_shared) A.f_law_shared cdv A0 outer s H E).xe := passes_of rfl
  exact (ds_cons (ds_set (i := 2) sc_law_shared.nd d_int)
  (ds_cons (ds_for ps rfl (di_zip rfl T.n_zip (d_var 0) (d_var 1)) (pgt rfl (pgs1 (pgi 3 sc_law_shared.nd) (pgs1 (pgi 4 sc_law_shared.nd) pgs0))) (ds_cons (ds_if (d_cmpT (od_ne hr.units) (d_var 3) (d_var 4)) (ds_one (ds_ret (d_var 2))) ds_nil)
  (ds_one (ds_set (i := 2) sc_law_shared.nd (d_op od_add (d_var 2) d_int)))))
  (ds_one (ds_ret (d_var 2)))))
theorem sc_law_read : FnScope N_law_read ["some"] (defScope s_law_read) := ⟨rfl, rfl, rfl, by decide +kernel, rfl, by decide +kernel, by decide +kernel⟩
theorem ok_law_read (T : Txt K mg A) : FnG P w K mg base 1 A.f_law_read A.d_law_read ["some"] (liftSp K sp_law_read) := by
  refine dokG T.F_law_read sc_law_read (fun ds h Q X z => ?_) (fun cdv A0 outer s H E hr hgd => ?_) (rd_law_read)
  · unfold sp_law_read at z; split at z <;> first | rfl | exact z.elim
  have tk : Takes (cxD P w K mg base N_law_read "_law_read" (defScope s_law_read) A.f_law_read cdv A0 outer s H E) (wE E) := takes_of rfl rfl rfl rfl
  have ps : PassesOwn (model P w) (cxD P w K mg base N_law_read "_law_read" (defScope s_law_read) A.f_law_read cdv A0 outer s H E).A (cxD P w K mg base N_law_read "_law_read" (defScope s_law_read) A.f_law_read cdv A0 outer s H E).env (cxD P w K mg base N_law_read "_law_read" (defScope s_law_read) A.f_law_read cdv A0 outer s H E).xe := passes_of rfl
  exact (ds_cons (ds_set (i := 1) sc_law_read.nd (d_lstM d_nil))
  (ds_cons (ds_for ps rfl (di_enum rfl T.n_enumerate (d_var 0)) (pgt rfl (pgs1 (pgi 2 sc_law_read.nd) (pgs1 (pgi 3 sc_law_read.nd) pgs0))) (ds_cons (ds_par (i := 4) (j := 5) rfl sc_law_read.nd (d_lstM d_nil) d_bl)
  (ds_cons (ds_for ps rfl (di_enum rfl T.n_enumerate (d_var 3)) (pgt rfl (pgs1 (pgi 6 sc_law_read.nd) (pgs1 (pgi 7 sc_law_read.nd) pgs0))) (ds_cons (ds_set (i := 5) sc_law_read.nd (d_andV (d_var 5) (pe_one (d_cmp od_isN (d_var 7) d_non))))
  (ds_cons (ds_set (i := 8) sc_law_read.nd (d_ifE (d_cmpT (od_ne hr.units) (d_var 1) (d_lst d_nil)) (d_ix xd_ix (d_ix xd_ix (d_var 1) (d_neg d_int)) (d_var 6)) d_non))
  (ds_one (ds_expr (d_bm PySem.F.plainAttrs_list PySem.F.slot_list_append PySem.F.type_list_append md_append (d_var 4) (d_cons (d_ifE (d_val (d_var 5)) (d_var 8) (d_var 7)) d_nil)))))))
  (ds_one (ds_expr (d_bm PySem.F.plainAttrs_list PySem.F.slot_list_append PySem.F.type_list_append md_append (d_var 1) (d_cons (d_callTy cd_tuple rfl T.n_tuple bt_tuple (d_cons (d_var 4) d_nil)) d_nil)))))))
  (ds_one (ds_ret (d_frz (d_var 1))))))
theorem sc_is_printed_row : FnScope N_is_printed_row ["value"] (defScope s_is_printed_row) := ⟨rfl, rfl, rfl, by decide +kernel, rfl, by decide +kernel, by decide +kernel⟩
theorem ok_is_printed_row (T : Txt K mg A) : FnG P w K mg base 2 A.f_is_printed_row A.d_is_printed_row ["value"] (liftSp K sp_is_printed_row) := by
  refine dokG T.F_is_printed_row sc_is_printed_row (fun ds h Q X z => ?_) (fun cdv A0 outer s H E hr hgd => ?_) (rd_is_printed_row)
  · unfold sp_is_printed_row at z; split at z <;> first | rfl | exact z.elim
  have tk : Takes (cxD P w K mg base N_is_printed_row "is_printed_row" (defScope s_is_printed_row) A.f_is_printed_row cdv A0 outer s H E) (wE E) := takes_of rfl rfl rfl rfl
  have ps : PassesOwn (model P w) (cxD P w K mg base N_is_printed_row "is_printed_row" (defScope s_is_printed_row) A.f_is_printed_row cdv A0 outer s H E).A (cxD P w K mg base N_is_printed_row "is_printed_row" (defScope s_is_printed_row) A.f_is_printed_row cdv A0 outer s H E).env (cxD P w K mg base N_is_printed_row "is_printed_row" (defScope s_is_printed_row) A.f_is_printed_row cdv A0 outer s H E).xe := passes_of rfl
  exact (ds_cons (ds_if (PW.pt (d_or (d_not (d_val (d_isi (T := "tuple") (x := Str.empty) (by decide) rfl T.n_isinstance rfl T.n_tuple bt_tuple (d_var 0)))) (d_or1 (d_not (d_chainT od_le od_le d_int (d_callB cd_len rfl T.n_len bt_len (d_cons (d_var 0) d_nil)) (d_globI rfl T.g_MOST_WIDTH ⟨_, rfl⟩)))))) (ds_one (ds_ret d_bl)) ds_nil)
  (ds_one (ds_ret (d_callB (cd_all rfl) rfl T.n_all bt_all (d_cons (d_lc (own := [("cell", 1)]) (W0 := W00) rfl sc_is_printed_row.nd (di_seq (d_slice sd_slice (d_var 0) (d_part (d_call (ok_blanks_in T) (hr.mono (by decide)) hgd T.m_blanks_in T.k_blanks_in T.b_blanks_in tk (d_cons (d_var 0) d_nil))) d_noPart)) (blkOk_by (own := [("cell", 1)]) (N := N_is_printed_row) (sc := defScope s_is_printed_row) (by decide +kernel)) (by decide) (fun _ _ _ _ _ => (pgi 1 sc_is_printed_row.nd)) (fun _ _ _ _ _ => dts_nil) (fun _ _ _ _ _ => (d_call (ok_is_cell T) (hr.mono (by decide)) hgd T.m_is_cell T.k_is_cell T.b_is_cell takes0 (d_cons (d_var 1) d_nil)))) d_nil)))))
theorem sc_require_row : FnScope N_require_row ["many", "value"] (defScope s_require_row) := ⟨rfl, rfl, rfl, by decide +kernel, rfl, by decide +kernel, by decide +kernel⟩
theorem ok_require_row (T : Txt K mg A) : FnG P w K mg base 2 A.f_require_row A.d_require_row ["many", "value"] (liftSp K (sp_require_row E_InvalidRow)) := by
  refine dokG T.F_require_row sc_require_row (fun ds h Q X z => ?_) (fun cdv A0 outer s H E hr hgd => ?_) (rd_require_row E_InvalidRow)
  · unfold sp_require_row at z; split at z <;> first | rfl | exact z.elim
  have tk : Takes (cxD P w K mg base N_require_row "require_row" (defScope s_require_row) A.f_require_row cdv A0 outer s H E) (wE E) := takes_of rfl rfl rfl rfl
  have ps : PassesOwn (model P w) (cxD P w K mg base N_require_row "require_row" (defScope s_require_row) A.f_require_row cdv A0 outer s H E).A (cxD P w K mg base N_require_row "require_row" (defScope s_require_row) A.f_require_row cdv A0 outer s H E).env (cxD P w K mg base N_require_row "require_row" (defScope s_require_row) A.f_require_row cdv A0 outer s H E).xe := passes_of rfl
  exact (ds_one (ds_if (d_not (d_val (d_call (ok_is_integer T) (hr.mono (by decide)) hgd T.m_is_integer T.k_is_integer T.b_is_integer tk (d_cons (d_var 1) (d_cons d_int (d_cons (d_op od_sub (d_var 0) d_int) d_nil)))))) (ds_one ds_never) ds_nil))
theorem sc_read_rows : FnScope N_read_rows ["rows"] (defScope s_read_rows) := ⟨rfl, rfl, rfl, by decide +kernel, rfl, by decide +kernel, by decide +kernel⟩
theorem ok_read_rows (T : Txt K mg A) : FnG P w K mg base 2 A.f_read_rows A.d_read_rows ["rows"] (liftSp K sp_read_rows) := by
  refine dokG T.F_read_rows sc_read_rows (fun ds h Q X z => ?_) (fun cdv A0 outer s H E hr hgd => ?_) (rd_read_rows)
  · unfold sp_read_rows at z; split at z <;> first | rfl | exact z.elim
  have tk : Takes (cxD P w K mg base N_read_rows "read_rows" (defScope s_read_rows) A.f_read_rows cdv A0 outer s H E) (wE E) := takes_of rfl rfl rfl rfl
  have ps : PassesOwn (model P w) (cxD P w K mg base N_read_rows "read_rows" (defScope s_read_rows) A.f_read_rows cdv A0 outer s H E).A (cxD P w K mg base N_read_rows "read_rows" (defScope s_read_rows) A.f_read_rows cdv A0 outer s H E).env (cxD P w K mg base N_read_rows "read_rows" (defScope s_read_rows) A.f_read_rows cdv A0 outer s H E).xe := passes_of rfl
  exact (ds_cons (ds_set (i := 1) sc_read_rows.nd (d_lstM d_nil))
  (ds_cons (ds_set (i := 2) sc_read_rows.nd d_non)
  (ds_cons (ds_for ps rfl (di_seq (d_var 0)) (pgi 3 sc_read_rows.nd) (ds_cons (ds_set (i := 4) sc_read_rows.nd (d_call (ok_blanks_in T) (hr.mono (by decide)) hgd T.m_blanks_in T.k_blanks_in T.b_blanks_in tk (d_cons (d_var 3) d_nil)))
  (ds_cons (ds_set (i := 2) sc_read_rows.nd (d_op od_add (d_slice sd_slice (d_ifE (d_cmpT od_isN (d_var 2) d_non) (d_var 3) (d_var 2)) d_noPart (d_part (d_var 4))) (d_slice sd_slice (d_var 3) (d_part (d_var 4)) d_noPart)))
  (ds_one (ds_expr (d_bm PySem.F.plainAttrs_list PySem.F.slot_list_append PySem.F.type_list_append md_append (d_var 1) (d_cons (d_var 2) d_nil)))))))
  (ds_one (ds_ret (d_var 1))))))
theorem sc_require_place : FnScope N_require_place ["value", "most"] (defScope s_require_place) := ⟨rfl, rfl, rfl, by decide +kernel, rfl, by decide +kernel, by decide +kernel⟩
theorem ok_require_place (T : Txt K mg A) : FnG P w K mg base 2 A.f_require_place A.d_require_place ["value", "most"] (liftSp K (sp_require_place E_InvalidPlace)) := by
  refine dokG T.F_require_place sc_require_place (fun ds h Q X z => ?_) (fun cdv A0 outer s H E hr hgd => ?_) (rd_require_place E_InvalidPlace)
  · unfold sp_require_place at z; split at z <;> first | rfl | exact z.elim
  have tk : Takes (cxD P w K mg base N_require_place "require_place" (defScope s_require_place) A.f_require_place cdv A0 outer s H E) (wE E) := takes_of rfl rfl rfl rfl
  have ps : PassesOwn (model P w) (cxD P w K mg base N_require_place "require_place" (defScope s_require_place) A.f_require_place cdv A0 outer s H E).A (cxD P w K mg base N_require_place "require_place" (defScope s_require_place) A.f_require_place cdv A0 outer s H E).env (cxD P w K mg base N_require_place "require_place" (defScope s_require_place) A.f_require_place cdv A0 outer s H E).xe := passes_of rfl
  exact (ds_one (ds_if (d_not (d_val (d_call (ok_is_integer T) (hr.mono (by decide)) hgd T.m_is_integer T.k_is_integer T.b_is_integer tk (d_cons (d_var 0) (d_cons d_int (d_cons (d_var 1) d_nil)))))) (ds_one ds_never) ds_nil))
theorem sc_law_item : FnScope N_law_item ["urn"] (defScope s_law_item) := ⟨rfl, rfl, rfl, by decide +kernel, rfl, by decide +kernel, by decide +kernel⟩
theorem ok_law_item (T : Txt K mg A) : FnG P w K mg base 2 A.f_law_item A.d_law_item ["urn"] (liftSp K sp_law_item) := by
  refine dokG T.F_law_item sc_law_item (fun ds h Q X z => ?_) (fun cdv A0 outer s H E hr hgd => ?_) (rd_law_item)
  · unfold sp_law_item at z; split at z <;> first | rfl | exact z.elim
  have tk : Takes (cxD P w K mg base N_law_item "_law_item" (defScope s_law_item) A.f_law_item cdv A0 outer s H E) (wE E) := takes_of rfl rfl rfl rfl
  have ps : PassesOwn (model P w) (cxD P w K mg base N_law_item "_law_item" (defScope s_law_item) A.f_law_item cdv A0 outer s H E).A (cxD P w K mg base N_law_item "_law_item" (defScope s_law_item) A.f_law_item cdv A0 outer s H E).env (cxD P w K mg base N_law_item "_law_item" (defScope s_law_item) A.f_law_item cdv A0 outer s H E).xe := passes_of rfl
  exact (ds_cons (ds_if (d_cmpT (od_eq hr.units) (d_call (ok_law_draw T) (hr.mono (by decide)) hgd T.m_law_draw T.k_law_draw T.b_law_draw tk (d_cons (d_var 0) (d_cons d_int d_nil))) d_int) (ds_cons (ds_set (i := 1) sc_law_item.nd d_str)
  (ds_one (ds_ret (d_bm PySem.F.plainAttrs_str PySem.F.slot_str_join PySem.F.type_str_join md_join d_str (d_cons (d_lc (own := [("turn", 2)]) (W0 := W00) rfl sc_law_item.nd (di_range1 rfl T.n_range (d_op od_add d_int (d_call (ok_law_draw T) (hr.mono (by decide)) hgd T.m_law_draw T.k_law_draw T.b_law_draw tk (d_cons (d_var 0) (d_cons d_int d_nil))))) (blkOk_by (own := [("turn", 2)]) (N := N_law_item) (sc := defScope s_law_item) (by decide +kernel)) (by decide) (fun _ _ _ _ _ => (pgi 2 sc_law_item.nd)) (fun _ _ _ _ _ => dts_nil) (fun _ _ _ _ _ => (d_ix xd_ix (d_var 1) (d_call (ok_law_draw T) (hr.mono (by decide)) hgd T.m_law_draw T.k_law_draw T.b_law_draw takes0 (d_cons (d_var 0) (d_cons d_int d_nil)))))) d_nil))))) ds_nil)
  (ds_one (ds_ret (d_ix xd_ix (d_lst (d_cons d_str (d_cons d_str (d_cons d_str (d_cons d_str (d_cons d_str (d_cons d_str d_nil))))))) (d_call (ok_law_draw T) (hr.mono (by decide)) hgd T.m_law_draw T.k_law_draw T.b_law_draw tk (d_cons (d_var 0) (d_cons (d_ix xd_ix (d_lst (d_cons d_int (d_cons d_int (d_cons d_int d_nil)))) (d_call (ok_law_draw T) (hr.mono (by decide)) hgd T.m_law_draw T.k_law_draw T.b_law_draw tk (d_cons (d_var 0) (d_cons d_int d_nil)))) d_nil)))))))
theorem sc_are_printed_rows : FnScope N_are_printed_rows ["value"] (defScope s_are_printed_rows) := ⟨rfl, rfl, rfl, by decide +kernel, rfl, by decide +kernel, by decide +kernel⟩
theorem ok_are_printed_rows (T : Txt K mg A) : FnG P w K mg base 3 A.f_are_printed_rows A.d_are_printed_rows ["value"] (liftSp K sp_are_printed_rows) := by
  refine dokG T.F_are_printed_rows sc_are_printed_rows (fun ds h Q X z => ?_) (fun cdv A0 outer s H E hr hgd => ?_) (rd_are_printed_rows)
  · unfold sp_are_printed_rows at z; split at z <;> first | rfl | exact z.elim
  have tk : Takes (cxD P w K mg base N_are_printed_rows "are_printed_rows" (defScope s_are_printed_rows) A.f_are_printed_rows cdv A0 outer s H E) (wE E) := takes_of rfl rfl rfl rfl
  have ps : PassesOwn (model P w) (cxD P w K mg base N_are_printed_rows "are_printed_rows" (defScope s_are_printed_rows) A.f_are_printed_rows cdv A0 outer s H E).A (cxD P w K mg base N_are_printed_rows "are_printed_rows" (defScope s_are_printed_rows) A.f_are_printed_rows cdv A0 outer s H E).env (cxD P w K mg base N_are_printed_rows "are_printed_rows" (defScope s_are_printed_rows) A.f_are_printed_rows cdv A0 outer s H E).xe := passes_of rfl
  exact (ds_cons (ds_if (PW.pt (d_or (d_not (d_val (d_isi (T := "tuple") (x := Str.empty) (by decide) rfl T.n_isinstance rfl T.n_tuple bt_tuple (d_var 0)))) (d_or1 (d_not (d_chainT od_le od_le d_int (d_callB cd_len rfl T.n_len bt_len (d_cons (d_var 0) d_nil)) (d_globI rfl T.g_MOST_ROWS ⟨_, rfl⟩)))))) (ds_one (ds_ret d_bl)) ds_nil)
  (ds_one (ds_ret (d_andV (d_callB (cd_all rfl) rfl T.n_all bt_all (d_cons (d_lc (own := [("row", 1)]) (W0 := W00) rfl sc_are_printed_rows.nd (di_seq (d_var 0)) (blkOk_by (own := [("row", 1)]) (N := N_are_printed_rows) (sc := defScope s_are_printed_rows) (by decide +kernel)) (by decide) (fun _ _ _ _ _ => (pgi 1 sc_are_printed_rows.nd)) (fun _ _ _ _ _ => dts_nil) (fun _ _ _ _ _ => (d_call (ok_is_printed_row T) (hr.mono (by decide)) hgd T.m_is_printed_row T.k_is_printed_row T.b_is_printed_row takes0 (d_cons (d_var 1) d_nil)))) d_nil)) (pe_one (d_callB (cd_all rfl) rfl T.n_all bt_all (d_cons (d_lc (own := [("row", 1)]) (W0 := W00) rfl sc_are_printed_rows.nd (di_seq (d_var 0)) (blkOk_by (own := [("row", 1)]) (N := N_are_printed_rows) (sc := defScope s_are_printed_rows) (by decide +kernel)) (by decide) (fun _ _ _ _ _ => (pgi 1 sc_are_printed_rows.nd)) (fun _ _ _ _ _ => dts_nil) (fun _ _ _ _ _ => (d_cmp (od_eq hr.units) (d_callB cd_len rfl T.n_len bt_len (d_cons (d_var 1) d_nil)) (d_callB cd_len rfl T.n_len bt_len (d_cons (d_ix xd_ix (d_var 0) d_int) d_nil))))) d_nil)))))))
theorem sc_Sheet_move : FnScope N_Sheet_move ["self", "first", "last", "place"] (defScope s_Sheet_move) := ⟨rfl, rfl, rfl, by decide +kernel, rfl, by decide +kernel, by decide +kernel⟩
theorem ok_Sheet_move (T : Txt K mg A) : FnG P w K mg base 3 A.f_Sheet_move A.d_Sheet_move ["self", "first", "last", "place"] (liftSp K (sp_Sheet_move A.C_Sheet E_InvalidPlace E_InvalidRow)) := by
  refine dokG T.F_Sheet_move sc_Sheet_move (fun ds h Q X z => ?_) (fun cdv A0 outer s H E hr hgd => ?_) (rd_Sheet_move A.C_Sheet E_InvalidPlace E_InvalidRow)
  · unfold sp_Sheet_move at z; split at z <;> first | rfl | exact z.elim
  have tk : Takes (cxD P w K mg base N_Sheet_move "Sheet.move" (defScope s_Sheet_move) A.f_Sheet_move cdv A0 outer s H E) (wE E) := takes_of rfl rfl rfl rfl
  have ps : PassesOwn (model P w) (cxD P w K mg base N_Sheet_move "Sheet.move" (defScope s_Sheet_move) A.f_Sheet_move cdv A0 outer s H E).A (cxD P w K mg base N_Sheet_move "Sheet.move" (defScope s_Sheet_move) A.f_Sheet_move cdv A0 outer s H E).env (cxD P w K mg base N_Sheet_move "Sheet.move" (defScope s_Sheet_move) A.f_Sheet_move cdv A0 outer s H E).xe := passes_of rfl
  exact (ds_cons (ds_asgT (d_fld T.c_Sheet T.na_Sheet_state (d_var 0)) (pgt rfl (pgs1 (pgi 4 sc_Sheet_move.nd) (pgs1 (pgi 5 sc_Sheet_move.nd) pgs0))))
  (ds_cons (ds_expr (d_call (ok_require_row T) (hr.mono (by decide)) hgd T.m_require_row T.k_require_row T.b_require_row tk (d_cons (d_callB cd_len rfl T.n_len bt_len (d_cons (d_var 4) d_nil)) (d_cons (d_var 1) d_nil))))
  (ds_cons (ds_if (d_not (d_val (d_call (ok_is_integer T) (hr.mono (by decide)) hgd T.m_is_integer T.k_is_integer T.b_is_integer tk (d_cons (d_var 2) (d_cons (d_var 1) (d_cons (d_op od_sub (d_callB cd_len rfl T.n_len bt_len (d_cons (d_var 4) d_nil)) d_int) d_nil)))))) (ds_one ds_never) ds_nil)
  (ds_cons (ds_expr (d_call (ok_require_place T) (hr.mono (by decide)) hgd T.m_require_place T.k_require_place T.b_require_place tk (d_cons (d_var 3) (d_cons (d_op od_sub (d_callB cd_len rfl T.n_len bt_len (d_cons (d_var 4) d_nil)) (d_op od_add (d_op od_sub (d_var 2) (d_var 1)) d_int)) d_nil))))
  (ds_one (ds_expr (d_meth T.c_Sheet T.me_Sheet_change (ok_Sheet_change T) (hr.mono (by decide)) hgd T.b_Sheet_change tk (d_var 0) (d_cons (d_call (ok_moved T) (hr.mono (by decide)) hgd T.m_moved T.k_moved T.b_moved tk (d_cons (d_var 4) (d_cons (d_var 1) (d_cons (d_var 2) (d_cons (d_var 3) d_nil))))) (d_cons (d_call (ok_moved T) (hr.mono (by decide)) hgd T.m_moved T.k_moved T.b_moved tk (d_cons (d_var 5) (d_cons (d_var 1) (d_cons (d_var 2) (d_cons (d_var 3) d_nil))))) d_nil)))))))))
theorem sc_Sheet_write : FnScope N_Sheet_write ["self", "row", "count"] (defScope s_Sheet_write) := ⟨rfl, rfl, rfl, by decide +kernel, rfl, by decide +kernel, by decide +kernel⟩
theorem ok_Sheet_write (T : Txt K mg A) : FnG P w K mg base 3 A.f_Sheet_write A.d_Sheet_write ["self", "row", "count"] (liftSp K (sp_Sheet_write A.C_Sheet E_InvalidCount E_InvalidRow)) := by
  refine dokG T.F_Sheet_write sc_Sheet_write (fun ds h Q X z => ?_) (fun cdv A0 outer s H E hr hgd => ?_) (rd_Sheet_write A.C_Sheet E_InvalidCount E_InvalidRow)
  · unfold sp_Sheet_write at z; split at z <;> first | rfl | exact z.elim
  have tk : Takes (cxD P w K mg base N_Sheet_write "Sheet.write" (defScope s_Sheet_write) A.f_Sheet_write cdv A0 outer s H E) (wE E) := takes_of rfl rfl rfl rfl
  have ps : PassesOwn (model P w) (cxD P w K mg base N_Sheet_write "Sheet.write" (defScope s_Sheet_write) A.f_Sheet_write cdv A0 outer s H E).A (cxD P w K mg base N_Sheet_write "Sheet.write" (defScope s_Sheet_write) A.f_Sheet_write cdv A0 outer s H E).env (cxD P w K mg base N_Sheet_write "Sheet.write" (defScope s_Sheet_write) A.f_Sheet_write cdv A0 outer s H E).xe := passes_of rfl
  exact (ds_cons (ds_asgT (d_fld T.c_Sheet T.na_Sheet_state (d_var 0)) (pgt rfl (pgs1 (pgi 3 sc_Sheet_write.nd) (pgs1 (pgi 4 sc_Sheet_write.nd) pgs0))))
  (ds_cons (ds_expr (d_call (ok_require_row T) (hr.mono (by decide)) hgd T.m_require_row T.k_require_row T.b_require_row tk (d_cons (d_callB cd_len rfl T.n_len bt_len (d_cons (d_var 3) d_nil)) (d_cons (d_var 1) d_nil))))
  (ds_cons (ds_if (d_not (d_val (d_call (ok_is_integer T) (hr.mono (by decide)) hgd T.m_is_integer T.k_is_integer T.b_is_integer tk (d_cons (d_var 2) (d_cons d_int (d_cons (d_call (ok_blanks_in T) (hr.mono (by decide)) hgd T.m_blanks_in T.k_blanks_in T.b_blanks_in tk (d_cons (d_ix xd_ix (d_var 3) (d_var 1)) d_nil)) d_nil)))))) (ds_one ds_never) ds_nil)
  (ds_one (ds_expr (d_meth T.c_Sheet T.me_Sheet_change (ok_Sheet_change T) (hr.mono (by decide)) hgd T.b_Sheet_change tk (d_var 0) (d_cons (d_tup (d_star (d_slice sd_slice (d_var 3) d_noPart (d_part (d_var 1))) (d_cons (d_call (ok_with_blanks T) (hr.mono (by decide)) hgd T.m_with_blanks T.k_with_blanks T.b_with_blanks tk (d_cons (d_ix xd_ix (d_var 4) (d_var 1)) (d_cons (d_var 2) d_nil))) (d_star (d_slice sd_slice (d_var 3) (d_part (d_op od_add (d_var 1) d_int)) d_noPart) d_nil)))) (d_cons (d_var 4) d_nil))))))))
theorem sc_Sheet_adopt : FnScope N_Sheet_adopt ["self"] (defScope s_Sheet_adopt) := ⟨rfl, rfl, rfl, by decide +kernel, rfl, by decide +kernel, by decide +kernel⟩
theorem ok_Sheet_adopt (T : Txt K mg A) : FnG P w K mg base 3 A.f_Sheet_adopt A.d_Sheet_adopt ["self"] (liftSp K (sp_Sheet_adopt A.C_Sheet E_Loose)) := by
  refine dokG T.F_Sheet_adopt sc_Sheet_adopt (fun ds h Q X z => ?_) (fun cdv A0 outer s H E hr hgd => ?_) (rd_Sheet_adopt A.C_Sheet E_Loose)
  · unfold sp_Sheet_adopt at z; split at z <;> first | rfl | exact z.elim
  have tk : Takes (cxD P w K mg base N_Sheet_adopt "Sheet.adopt" (defScope s_Sheet_adopt) A.f_Sheet_adopt cdv A0 outer s H E) (wE E) := takes_of rfl rfl rfl rfl
  have ps : PassesOwn (model P w) (cxD P w K mg base N_Sheet_adopt "Sheet.adopt" (defScope s_Sheet_adopt) A.f_Sheet_adopt cdv A0 outer s H E).A (cxD P w K mg base N_Sheet_adopt "Sheet.adopt" (defScope s_Sheet_adopt) A.f_Sheet_adopt cdv A0 outer s H E).env (cxD P w K mg base N_Sheet_adopt "Sheet.adopt" (defScope s_Sheet_adopt) A.f_Sheet_adopt cdv A0 outer s H E).xe := passes_of rfl
  exact (ds_cons (ds_asgT (d_fld T.c_Sheet T.na_Sheet_state (d_var 0)) (pgt rfl (pgs1 (pgi 1 sc_Sheet_adopt.nd) (pgs1 (pgi 2 sc_Sheet_adopt.nd) pgs0))))
  (ds_cons (ds_set (i := 3) sc_Sheet_adopt.nd (d_frz (d_call (ok_read_rows T) (hr.mono (by decide)) hgd T.m_read_rows T.k_read_rows T.b_read_rows tk (d_cons (d_var 1) d_nil))))
  (ds_cons (ds_if (d_val (d_callB (cd_any rfl) rfl T.n_any bt_any (d_cons (d_lc (own := [("row", 4)]) (W0 := W00) rfl sc_Sheet_adopt.nd (di_seq (d_var 3)) (blkOk_by (own := [("row", 4)]) (N := N_Sheet_adopt) (sc := defScope s_Sheet_adopt) (by decide +kernel)) (by decide) (fun _ _ _ _ _ => (pgi 4 sc_Sheet_adopt.nd)) (fun _ _ _ _ _ => dts_nil) (fun _ _ _ _ _ => (d_cmp (od_in (hu65 hr)) d_non (d_var 4)))) d_nil))) (ds_one ds_never) ds_nil)
  (ds_cons (ds_expr (d_meth T.c_Sheet T.me_Sheet_change (ok_Sheet_change T) (hr.mono (by decide)) hgd T.b_Sheet_change tk (d_var 0) (d_cons (d_var 1) (d_cons (d_var 3) d_nil))))
  (ds_one (ds_ret (d_lcM (own := [("row", 4), ("read", 5)]) (W0 := W00) rfl sc_Sheet_adopt.nd (di_enum rfl T.n_enumerate (d_var 3)) (blkOk_by (own := [("row", 4), ("read", 5)]) (N := N_Sheet_adopt) (sc := defScope s_Sheet_adopt) (by decide +kernel)) (by decide) (fun _ _ _ _ _ => (pgt rfl (pgs1 (pgi 4 sc_Sheet_adopt.nd) (pgs1 (pgi 5 sc_Sheet_adopt.nd) pgs0)))) (fun _ _ _ _ _ => (dts_one (d_cmpT (od_ne hr.units) (d_var 5) (d_ix xd_ix (d_var 2) (d_var 4))))) (fun _ _ _ _ _ => (d_var 4)))))))))
theorem sc_Sheet_wrong : FnScope N_Sheet_wrong ["self"] (defScope s_Sheet_wrong) := ⟨rfl, rfl, rfl, by decide +kernel, rfl, by decide +kernel, by decide +kernel⟩
theorem ok_Sheet_wrong (T : Txt K mg A) : FnG P w K mg base 3 A.f_Sheet_wrong A.d_Sheet_wrong ["self"] (liftSp K (sp_Sheet_wrong A.C_Sheet)) := by
  refine dokG T.F_Sheet_wrong sc_Sheet_wrong (fun ds h Q X z => ?_) (fun cdv A0 outer s H E hr hgd => ?_) (rd_Sheet_wrong A.C_Sheet)
  · unfold sp_Sheet_wrong at z; split at z <;> first | rfl | exact z.elim
  have tk : Takes (cxD P w K mg base N_Sheet_wrong "Sheet.wrong" (defScope s_Sheet_wrong) A.f_Sheet_wrong cdv A0 outer s H E) (wE E) := takes_of rfl rfl rfl rfl
  have ps : PassesOwn (model P w) (cxD P w K mg base N_Sheet_wrong "Sheet.wrong" (defScope s_Sheet_wrong) A.f_Sheet_wrong cdv A0 outer s H E).A (cxD P w K mg base N_Sheet_wrong "Sheet.wrong" (defScope s_Sheet_wrong) A.f_Sheet_wrong cdv A0 outer s H E).env (cxD P w K mg base N_Sheet_wrong "Sheet.wrong" (defScope s_Sheet_wrong) A.f_Sheet_wrong cdv A0 outer s H E).xe := passes_of rfl
  exact (ds_cons (ds_asgT (d_fld T.c_Sheet T.na_Sheet_state (d_var 0)) (pgt rfl (pgs1 (pgi 1 sc_Sheet_wrong.nd) (pgs1 (pgi 2 sc_Sheet_wrong.nd) pgs0))))
  (ds_one (ds_ret (d_lcM (own := [("row", 3), ("read", 4)]) (W0 := W00) rfl sc_Sheet_wrong.nd (di_enum rfl T.n_enumerate (d_frz (d_call (ok_read_rows T) (hr.mono (by decide)) hgd T.m_read_rows T.k_read_rows T.b_read_rows tk (d_cons (d_var 1) d_nil)))) (blkOk_by (own := [("row", 3), ("read", 4)]) (N := N_Sheet_wrong) (sc := defScope s_Sheet_wrong) (by decide +kernel)) (by decide) (fun _ _ _ _ _ => (pgt rfl (pgs1 (pgi 3 sc_Sheet_wrong.nd) (pgs1 (pgi 4 sc_Sheet_wrong.nd) pgs0)))) (fun _ _ _ _ _ => (dts_one (d_cmpT (od_ne hr.units) (d_var 4) (d_ix xd_ix (d_var 2) (d_var 3))))) (fun _ _ _ _ _ => (d_var 3))))))
theorem sc_Sheet_read_now : FnScope N_Sheet_read_now ["self"] (defScope s_Sheet_read_now) := ⟨rfl, rfl, rfl, by decide +kernel, rfl, by decide +kernel, by decide +kernel⟩
theorem ok_Sheet_read_now (T : Txt K mg A) : FnG P w K mg base 3 A.f_Sheet_read_now A.d_Sheet_read_now ["self"] (liftSp K (sp_Sheet_read_now A.C_Sheet)) := by
  refine dokG T.F_Sheet_read_now sc_Sheet_read_now (fun ds h Q X z => ?_) (fun cdv A0 outer s H E hr hgd => ?_) (rd_Sheet_read_now A.C_Sheet)
  · unfold sp_Sheet_read_now at z; split at z <;> first | rfl | exact z.elim
  have tk : Takes (cxD P w K mg base N_Sheet_read_now "Sheet.read_now" (defScope s_Sheet_read_now) A.f_Sheet_read_now cdv A0 outer s H E) (wE E) := takes_of rfl rfl rfl rfl
  have ps : PassesOwn (model P w) (cxD P w K mg base N_Sheet_read_now "Sheet.read_now" (defScope s_Sheet_read_now) A.f_Sheet_read_now cdv A0 outer s H E).A (cxD P w K mg base N_Sheet_read_now "Sheet.read_now" (defScope s_Sheet_read_now) A.f_Sheet_read_now cdv A0 outer s H E).env (cxD P w K mg base N_Sheet_read_now "Sheet.read_now" (defScope s_Sheet_read_now) A.f_Sheet_read_now cdv A0 outer s H E).xe := passes_of rfl
  exact (ds_one (ds_ret (d_call (ok_read_rows T) (hr.mono (by decide)) hgd T.m_read_rows T.k_read_rows T.b_read_rows tk (d_cons (d_ix xd_ix (d_fld T.c_Sheet T.na_Sheet_state (d_var 0)) d_int) d_nil))))
theorem sc_law_row : FnScope N_law_row ["urn", "wide", "above"] (defScope s_law_row) := ⟨rfl, rfl, rfl, by decide +kernel, rfl, by decide +kernel, by decide +kernel⟩
theorem ok_law_row (T : Txt K mg A) : FnG P w K mg base 3 A.f_law_row A.d_law_row ["urn", "wide", "above"] (liftSp K sp_law_row) := by
  refine dokG T.F_law_row sc_law_row (fun ds h Q X z => ?_) (fun cdv A0 outer s H E hr hgd => ?_) (rd_law_row)
  · unfold sp_law_row at z; split at z <;> first | rfl | exact z.elim
  have tk : Takes (cxD P w K mg base N_law_row "_law_row" (defScope s_law_row) A.f_law_row cdv A0 outer s H E) (wE E) := takes_of rfl rfl rfl rfl
  have ps : PassesOwn (model P w) (cxD P w K mg base N_law_row "_law_row" (defScope s_law_row) A.f_law_row cdv A0 outer s H E).A (cxD P w K mg base N_law_row "_law_row" (defScope s_law_row) A.f_law_row cdv A0 outer s H E).env (cxD P w K mg base N_law_row "_law_row" (defScope s_law_row) A.f_law_row cdv A0 outer s H E).xe := passes_of rfl
  exact (ds_cons (ds_set (i := 3) sc_law_row.nd (d_callTy cd_tuple rfl T.n_tuple bt_tuple (d_cons (d_lc (own := [("turn", 5)]) (W0 := W00) rfl sc_law_row.nd (di_range1 rfl T.n_range (d_var 1)) (blkOk_by (own := [("turn", 5)]) (N := N_law_row) (sc := defScope s_law_row) (by decide +kernel)) (by decide) (fun _ _ _ _ _ => (pgi 5 sc_law_row.nd)) (fun _ _ _ _ _ => dts_nil) (fun _ _ _ _ _ => (d_call (ok_law_item T) (hr.mono (by decide)) hgd T.m_law_item T.k_law_item T.b_law_item takes0 (d_cons (d_var 0) d_nil)))) d_nil)))
  (ds_cons (ds_if (d_cmpT od_isN (d_var 2) d_non) (ds_one (ds_ret (d_var 3))) ds_nil)
  (ds_cons (ds_set (i := 4) sc_law_row.nd (d_call (ok_law_draw T) (hr.mono (by decide)) hgd T.m_law_draw T.k_law_draw T.b_law_draw tk (d_cons (d_var 0) (d_cons (d_op od_add (d_var 1) d_int) d_nil))))
  (ds_one (ds_ret (d_op od_add (d_slice sd_slice (d_var 2) d_noPart (d_part (d_var 4))) (d_slice sd_slice (d_var 3) (d_part (d_var 4)) d_noPart)))))))
theorem sc_has_page_form : FnScope N_has_page_form ["value"] (defScope s_has_page_form) := ⟨rfl, rfl, rfl, by decide +kernel, rfl, by decide +kernel, by decide +kernel⟩
theorem ok_has_page_form (T : Txt K mg A) : FnG P w K mg base 4 A.f_has_page_form A.d_has_page_form ["value"] (liftSp K sp_has_page_form) := by
  refine dokG T.F_has_page_form sc_has_page_form (fun ds h Q X z => ?_) (fun cdv A0 outer s H E hr hgd => ?_) (rd_has_page_form)
  · unfold sp_has_page_form at z; split at z <;> first | rfl | exact z.elim
  have tk : Takes (cxD P w K mg base N_has_page_form "has_page_form" (defScope s_has_page_form) A.f_has_page_form cdv A0 outer s H E) (wE E) := takes_of rfl rfl rfl rfl
  have ps : PassesOwn (model P w) (cxD P w K mg base N_has_page_form "has_page_form" (defScope s_has_page_form) A.f_has_page_form cdv A0 outer s H E).A (cxD P w K mg base N_has_page_form "has_page_form" (defScope s_has_page_form) A.f_has_page_form cdv A0 outer s H E).env (cxD P w K mg base N_has_page_form "has_page_form" (defScope s_has_page_form) A.f_has_page_form cdv A0 outer s H E).xe := passes_of rfl
  exact (ds_one (ds_ret (d_andV (d_call (ok_are_printed_rows T) (hr.mono (by decide)) hgd T.m_are_printed_rows T.k_are_printed_rows T.b_are_printed_rows tk (d_cons (d_var 0) d_nil)) (pe_one (d_cmp (od_eq hr.units) (d_call (ok_blanks_in T) (hr.mono (by decide)) hgd T.m_blanks_in T.k_blanks_in T.b_blanks_in tk (d_cons (d_ix xd_ix (d_var 0) d_int) d_nil)) d_int)))))
theorem sc_law_page : FnScope N_law_page ["urn", "most"] (defScope s_law_page) := ⟨rfl, rfl, rfl, by decide +kernel, rfl, by decide +kernel, by decide +kernel⟩
theorem ok_law_page (T : Txt K mg A) : FnG P w K mg base 4 A.f_law_page A.d_law_page ["urn", "most"] (liftSp K sp_law_page) := by
  refine dokG T.F_law_page sc_law_page (fun ds h Q X z => ?_) (fun cdv A0 outer s H E hr hgd => ?_) (rd_law_page)
  · unfold sp_law_page at z; split at z <;> first | rfl | exact z.elim
  have tk : Takes (cxD P w K mg base N_law_page "_law_page" (defScope s_law_page) A.f_law_page cdv A0 outer s H E) (wE E) := takes_of rfl rfl rfl rfl
  have ps : PassesOwn (model P w) (cxD P w K mg base N_law_page "_law_page" (defScope s_law_page) A.f_law_page cdv A0 outer s H E).A (cxD P w K mg base N_law_page "_law_page" (defScope s_law_page) A.f_law_page cdv A0 outer s H E).env (cxD P w K mg base N_law_page "_law_page" (defScope s_law_page) A.f_law_page cdv A0 outer s H E).xe := passes_of rfl
  exact (ds_cons (ds_par (i := 2) (j := 3) rfl sc_law_page.nd (d_op od_add d_int (d_call (ok_law_draw T) (hr.mono (by decide)) hgd T.m_law_draw T.k_law_draw T.b_law_draw tk (d_cons (d_var 0) (d_cons (d_ix xd_ix (d_lst (d_cons d_int (d_cons d_int d_nil))) (d_call (ok_law_draw T) (hr.mono (by decide)) hgd T.m_law_draw T.k_law_draw T.b_law_draw tk (d_cons (d_var 0) (d_cons d_int d_nil)))) d_nil)))) (d_ix xd_ix (d_lst (d_cons (d_op od_add d_int (d_call (ok_law_draw T) (hr.mono (by decide)) hgd T.m_law_draw T.k_law_draw T.b_law_draw tk (d_cons (d_var 0) (d_cons (d_var 1) d_nil)))) (d_cons (d_var 1) d_nil))) (d_call (ok_law_draw T) (hr.mono (by decide)) hgd T.m_law_draw T.k_law_draw T.b_law_draw tk (d_cons (d_var 0) (d_cons d_int d_nil)))))
  (ds_cons (ds_par (i := 4) (j := 5) rfl sc_law_page.nd (d_lstM d_nil) d_non)
  (ds_cons (ds_for ps rfl (di_range1 rfl T.n_range (d_var 3)) (pgi 6 sc_law_page.nd) (ds_cons (ds_set (i := 7) sc_law_page.nd (d_call (ok_law_row T) (hr.mono (by decide)) hgd T.m_law_row T.k_law_row T.b_law_row tk (d_cons (d_var 0) (d_cons (d_var 2) (d_cons (d_var 5) d_nil)))))
  (ds_cons (ds_set (i := 8) sc_law_page.nd (d_ifE (d_cmpT od_isN (d_var 5) d_non) d_int (d_call (ok_law_shared T) (hr.mono (by decide)) hgd T.m_law_shared T.k_law_shared T.b_law_shared tk (d_cons (d_var 7) (d_cons (d_var 5) d_nil)))))
  (ds_cons (ds_set (i := 8) sc_law_page.nd (d_ix xd_ix (d_lst (d_cons (d_var 8) (d_cons (d_call (ok_law_draw T) (hr.mono (by decide)) hgd T.m_law_draw T.k_law_draw T.b_law_draw tk (d_cons (d_var 0) (d_cons (d_op od_add (d_var 8) d_int) d_nil))) d_nil))) (d_call (ok_law_draw T) (hr.mono (by decide)) hgd T.m_law_draw T.k_law_draw T.b_law_draw tk (d_cons (d_var 0) (d_cons d_int d_nil)))))
  (ds_cons (ds_expr (d_bm PySem.F.plainAttrs_list PySem.F.slot_list_append PySem.F.type_list_append md_append (d_var 4) (d_cons (d_op od_add (d_op od_mul (d_tup (d_cons d_non d_nil)) (d_var 8)) (d_slice sd_slice (d_var 7) (d_part (d_var 8)) d_noPart)) d_nil)))
  (ds_one (ds_set (i := 5) sc_law_page.nd (d_var 7))))))))
  (ds_one (ds_ret (d_callTy cd_tuple rfl T.n_tuple bt_tuple (d_cons (d_var 4) d_nil)))))))
theorem sc_require_page : FnScope N_require_page ["value"] (defScope s_require_page) := ⟨rfl, rfl, rfl, by decide +kernel, rfl, by decide +kernel, by decide +kernel⟩
theorem ok_require_page (T : Txt K mg A) : FnG P w K mg base 5 A.f_require_page A.d_require_page ["value"] (liftSp K (sp_require_page E_InvalidPage)) := by
  refine dokG T.F_require_page sc_require_page (fun ds h Q X z => ?_) (fun cdv A0 outer s H E hr hgd => ?_) (rd_require_page E_InvalidPage)
  · unfold sp_require_page at z; split at z <;> first | rfl | exact z.elim
  have tk : Takes (cxD P w K mg base N_require_page "require_page" (defScope s_require_page) A.f_require_page cdv A0 outer s H E) (wE E) := takes_of rfl rfl rfl rfl
  have ps : PassesOwn (model P w) (cxD P w K mg base N_require_page "require_page" (defScope s_require_page) A.f_require_page cdv A0 outer s H E).A (cxD P w K mg base N_require_page "require_page" (defScope s_require_page) A.f_require_page cdv A0 outer s H E).env (cxD P w K mg base N_require_page "require_page" (defScope s_require_page) A.f_require_page cdv A0 outer s H E).xe := passes_of rfl
  exact (ds_one (ds_if (d_not (d_val (d_call (ok_has_page_form T) (hr.mono (by decide)) hgd T.m_has_page_form T.k_has_page_form T.b_has_page_form tk (d_cons (d_var 0) d_nil)))) (ds_one ds_never) ds_nil))
theorem sc_law_shows : FnScope N_law_shows ["sheet", "cells_here", "full_rows"] (defScope s_law_shows) := ⟨rfl, rfl, rfl, by decide +kernel, rfl, by decide +kernel, by decide +kernel⟩
theorem ok_law_shows (T : Txt K mg A) : FnG P w K mg base 5 A.f_law_shows A.d_law_shows ["sheet", "cells_here", "full_rows"] (liftSp K (sp_law_shows A.C_Sheet)) := by
  refine dokG T.F_law_shows sc_law_shows (fun ds h Q X z => ?_) (fun cdv A0 outer s H E hr hgd => ?_) (rd_law_shows A.C_Sheet)
  · unfold sp_law_shows at z; split at z <;> first | rfl | exact z.elim
  have tk : Takes (cxD P w K mg base N_law_shows "_law_shows" (defScope s_law_shows) A.f_law_shows cdv A0 outer s H E) (wE E) := takes_of rfl rfl rfl rfl
  have ps : PassesOwn (model P w) (cxD P w K mg base N_law_shows "_law_shows" (defScope s_law_shows) A.f_law_shows cdv A0 outer s H E).A (cxD P w K mg base N_law_shows "_law_shows" (defScope s_law_shows) A.f_law_shows cdv A0 outer s H E).env (cxD P w K mg base N_law_shows "_law_shows" (defScope s_law_shows) A.f_law_shows cdv A0 outer s H E).xe := passes_of rfl
  exact (ds_cons (ds_set (i := 3) sc_law_shows.nd (d_call (ok_law_read T) (hr.mono (by decide)) hgd T.m_law_read T.k_law_read T.b_law_read tk (d_cons (d_var 1) d_nil)))
  (ds_cons (ds_setLc (own := [("spot", 7), ("own", 8)]) (W0 := W00) rfl sc_law_shows.nd (di_enum rfl T.n_enumerate (d_var 3)) (blkOk_by (own := [("spot", 7), ("own", 8)]) (N := N_law_shows) (sc := defScope s_law_shows) (by decide +kernel)) (by decide) (fun _ _ _ _ _ => (pgt rfl (pgs1 (pgi 7 sc_law_shows.nd) (pgs1 (pgi 8 sc_law_shows.nd) pgs0)))) (fun _ _ _ _ _ => (dts_one (d_cmpT (od_ne hr.units) (d_var 8) (d_ix xd_ix (d_var 2) (d_var 7))))) (fun _ _ _ _ _ => (d_var 7)) (sw_true rfl rfl rfl (by decide +kernel)) (i := 4))
  (ds_cons (ds_set (i := 5) sc_law_shows.nd (d_callB (cd_reprV hgd hr.units) rfl T.n_repr bt_repr (d_cons (d_lst (d_cons (d_callTy cd_tuple rfl T.n_tuple bt_tuple (d_cons (d_var 1) d_nil)) (d_cons (d_var 3) (d_cons (d_callTy cd_list rfl T.n_list bt_list (d_cons (d_var 2) d_nil)) (d_cons (d_var 4) (d_cons (d_callB cd_len rfl T.n_len bt_len (d_cons (d_var 1) d_nil)) d_nil)))))) d_nil)))
  (ds_cons (ds_set (i := 6) sc_law_shows.nd (d_lst (d_cons (d_prop T.c_Sheet T.p_Sheet_cells_now (ok_Sheet_cells_now T) (hr.mono (by decide)) hgd T.b_Sheet_cells_now (d_var 0)) (d_cons (d_prop T.c_Sheet T.p_Sheet_read_now (ok_Sheet_read_now T) (hr.mono (by decide)) hgd T.b_Sheet_read_now (d_var 0)) (d_cons (d_prop T.c_Sheet T.p_Sheet_true_now (ok_Sheet_true_now T) (hr.mono (by decide)) hgd T.b_Sheet_true_now (d_var 0)) (d_cons (d_meth0 T.c_Sheet T.me_Sheet_wrong (ok_Sheet_wrong T) (hr.mono (by decide)) hgd T.b_Sheet_wrong tk (d_var 0)) (d_cons (d_callB (cd_lenO T.me_Sheet_len.at_ T.me_Sheet_len.fn (ok_Sheet_len T) (hr.mono (by decide)) hgd T.b_Sheet_len) rfl T.n_len bt_len (d_cons (d_var 0) d_nil)) d_nil)))))))
  (ds_cons (ds_if (d_cmpT (od_ne hr.units) (d_callB (cd_reprV hgd hr.units) rfl T.n_repr bt_repr (d_cons (d_var 6) d_nil)) (d_var 5)) (ds_one (ds_ret d_bl)) ds_nil)
  (ds_cons (ds_expr (d_bm0 PySem.F.plainAttrs_list PySem.F.slot_list_clear PySem.F.type_list_clear md_clear (d_ix xd_ix (d_var 6) d_int)))
  (ds_cons (ds_expr (d_bm0 PySem.F.plainAttrs_list PySem.F.slot_list_reverse PySem.F.type_list_reverse md_reverse (d_ix xd_ix (d_var 6) d_int)))
  (ds_cons (ds_expr (d_bm PySem.F.plainAttrs_list PySem.F.slot_list_append PySem.F.type_list_append md_append (d_ix xd_ix (d_var 6) d_int) (d_cons d_non d_nil)))
  (ds_cons (ds_expr (d_bm PySem.F.plainAttrs_list PySem.F.slot_list_append PySem.F.type_list_append md_append (d_ix xd_ix (d_var 6) d_int) (d_cons d_int d_nil)))
  (ds_one (ds_ret (d_cmp (od_eq hr.units) (d_callB (cd_reprV hgd hr.units) rfl T.n_repr bt_repr (d_cons (d_lst (d_cons (d_prop T.c_Sheet T.p_Sheet_cells_now (ok_Sheet_cells_now T) (hr.mono (by decide)) hgd T.b_Sheet_cells_now (d_var 0)) (d_cons (d_prop T.c_Sheet T.p_Sheet_read_now (ok_Sheet_read_now T) (hr.mono (by decide)) hgd T.b_Sheet_read_now (d_var 0)) (d_cons (d_prop T.c_Sheet T.p_Sheet_true_now (ok_Sheet_true_now T) (hr.mono (by decide)) hgd T.b_Sheet_true_now (d_var 0)) (d_cons (d_meth0 T.c_Sheet T.me_Sheet_wrong (ok_Sheet_wrong T) (hr.mono (by decide)) hgd T.b_Sheet_wrong tk (d_var 0)) (d_cons (d_callB (cd_lenO T.me_Sheet_len.at_ T.me_Sheet_len.fn (ok_Sheet_len T) (hr.mono (by decide)) hgd T.b_Sheet_len) rfl T.n_len bt_len (d_cons (d_var 0) d_nil)) d_nil)))))) d_nil)) (d_var 5)))))))))))))
theorem sc_Sheet_init : FnScope N_Sheet_init ["self", "page"] (defScope s_Sheet_init) := ⟨rfl, rfl, rfl, by decide +kernel, rfl, by decide +kernel, by decide +kernel⟩
theorem ok_Sheet_init (T : Txt K mg A) : FnG P w K mg base 6 A.f_Sheet_init A.d_Sheet_init ["self", "page"] (liftSp K (sp_Sheet_init A.C_Sheet E_InvalidPage)) := by
  refine dokG T.F_Sheet_init sc_Sheet_init (fun ds h Q X z => ?_) (fun cdv A0 outer s H E hr hgd => ?_) (rd_Sheet_init A.C_Sheet E_InvalidPage)
  · unfold sp_Sheet_init at z; split at z <;> first | rfl | exact z.elim
  have tk : Takes (cxD P w K mg base N_Sheet_init "Sheet.__init__" (defScope s_Sheet_init) A.f_Sheet_init cdv A0 outer s H E) (wE E) := takes_of rfl rfl rfl rfl
  have ps : PassesOwn (model P w) (cxD P w K mg base N_Sheet_init "Sheet.__init__" (defScope s_Sheet_init) A.f_Sheet_init cdv A0 outer s H E).A (cxD P w K mg base N_Sheet_init "Sheet.__init__" (defScope s_Sheet_init) A.f_Sheet_init cdv A0 outer s H E).env (cxD P w K mg base N_Sheet_init "Sheet.__init__" (defScope s_Sheet_init) A.f_Sheet_init cdv A0 outer s H E).xe := passes_of rfl
  exact (ds_cons (ds_expr (d_call (ok_require_page T) (hr.mono (by decide)) hgd T.m_require_page T.k_require_page T.b_require_page tk (d_cons (d_var 1) d_nil)))
  (ds_cons (ds_fld T.c_Sheet T.na_Sheet_state (d_tup (d_cons (d_var 1) (d_cons (d_callTy cd_tuple rfl T.n_tuple bt_tuple (d_cons (d_call (ok_read_rows T) (hr.mono (by decide)) hgd T.m_read_rows T.k_read_rows T.b_read_rows tk (d_cons (d_var 1) d_nil)) d_nil)) d_nil))) (d_var 0))
  (ds_one (ds_fld T.c_Sheet T.na_Sheet_past (d_lstM d_nil) (d_var 0)))))
theorem sc_law : FnScope N_law ["script"] (defScope s_law) := ⟨rfl, rfl, rfl, by decide +kernel, rfl, by decide +kernel, by decide +kernel⟩
theorem ok_law (T : Txt K mg A) : FnG P w K mg base 8 A.f_law A.d_law ["script"] (liftSp K (sp_law A.C_Sheet E_InvalidCount E_InvalidPage E_InvalidPlace E_InvalidRow E_Loose)) := by
  refine dokG T.F_law sc_law (fun ds h Q X z => ?_) (fun cdv A0 outer s H E hr hgd => ?_) (rd_law A.C_Sheet E_InvalidCount E_InvalidPage E_InvalidPlace E_InvalidRow E_Loose)
  · unfold sp_law at z; split at z <;> first | rfl | exact z.elim
  have tk : Takes (cxD P w K mg base N_law "law" (defScope s_law) A.f_law cdv A0 outer s H E) (wE E) := takes_of rfl rfl rfl rfl
  have ps : PassesOwn (model P w) (cxD P w K mg base N_law "law" (defScope s_law) A.f_law cdv A0 outer s H E).A (cxD P w K mg base N_law "law" (defScope s_law) A.f_law cdv A0 outer s H E).env (cxD P w K mg base N_law "law" (defScope s_law) A.f_law cdv A0 outer s H E).xe := passes_of rfl
  exact (ds_cons (ds_for ps rfl (di_range1 rfl T.n_range (d_callB (cd_max2 rfl) rfl T.n_max bt_max (d_cons d_int (d_cons (d_callB (cd_min2 rfl) rfl T.n_min bt_min (d_cons d_int (d_cons (d_callB cd_len rfl T.n_len bt_len (d_cons (d_var 0) d_nil)) d_nil))) d_nil)))) (pgi 1 sc_law.nd) (ds_cons (ds_set (i := 2) sc_law.nd (d_call (ok_law_urn T) (hr.mono (by decide)) hgd T.m_law_urn T.k_law_urn T.b_law_urn tk (d_cons (d_var 0) (d_cons (d_var 1) d_nil))))
  (ds_one (ds_for ps rfl (di_seq (d_lst (d_cons d_int (d_cons d_int d_nil)))) (pgi 3 sc_law.nd) (ds_cons (ds_set (i := 4) sc_law.nd (d_call (ok_law_page T) (hr.mono (by decide)) hgd T.m_law_page T.k_law_page T.b_law_page tk (d_cons (d_var 2) (d_cons (d_var 3) d_nil))))
  (ds_cons (ds_asgT (d_tup (d_cons (d_make T.mk_Sheet (ok_Sheet_init T) (hr.mono (by decide)) hgd T.m_Sheet T.b_Sheet_init tk (d_cons (d_var 4) d_nil)) (d_cons (d_callTy cd_tuple rfl T.n_tuple bt_tuple (d_cons (d_call (ok_law_read T) (hr.mono (by decide)) hgd T.m_law_read T.k_law_read T.b_law_read tk (d_cons (d_var 4) d_nil)) d_nil)) d_nil))) (pgt rfl (pgs1 (pgi 5 sc_law.nd) (pgs1 (pgi 6 sc_law.nd) pgs0))))
  (ds_cons (ds_par (i := 7) (j := 8) rfl sc_law.nd (d_call (ok_law_draw T) (hr.mono (by decide)) hgd T.m_law_draw T.k_law_draw T.b_law_draw tk (d_cons (d_var 2) (d_cons (d_callB cd_len rfl T.n_len bt_len (d_cons (d_var 4) d_nil)) d_nil))) (d_call (ok_law_draw T) (hr.mono (by decide)) hgd T.m_law_draw T.k_law_draw T.b_law_draw tk (d_cons (d_var 2) (d_cons (d_callB cd_len rfl T.n_len bt_len (d_cons (d_var 4) d_nil)) d_nil))))
  (ds_cons (ds_expr (d_meth T.c_Sheet T.me_Sheet_move (ok_Sheet_move T) (hr.mono (by decide)) hgd T.b_Sheet_move tk (d_var 5) (d_cons (d_var 7) (d_cons (d_var 7) (d_cons (d_var 8) d_nil)))))
  (ds_cons (ds_set (i := 9) sc_law.nd (d_lstM d_nil))
  (ds_cons (ds_for ps rfl (di_seq (d_tup (d_cons (d_var 4) (d_cons (d_var 6) d_nil)))) (pgi 10 sc_law.nd) (ds_cons (ds_set (i := 13) sc_law.nd (d_op od_add (d_slice sd_slice (d_var 10) d_noPart (d_part (d_var 7))) (d_slice sd_slice (d_var 10) (d_part (d_op od_add (d_var 7) d_int)) d_noPart)))
  (ds_one (ds_expr (d_bm PySem.F.plainAttrs_list PySem.F.slot_list_append PySem.F.type_list_append md_append (d_var 9) (d_cons (d_op od_add (d_op od_add (d_slice sd_slice (d_var 13) d_noPart (d_part (d_var 8))) (d_tup (d_cons (d_ix xd_ix (d_var 10) (d_var 7)) d_nil))) (d_slice sd_slice (d_var 13) (d_part (d_var 8)) d_noPart)) d_nil))))))
  (ds_cons (ds_asgT (d_tup (d_cons (d_ix xd_ix (d_var 9) d_int) (d_cons (d_ix xd_ix (d_var 9) d_int) d_nil))) (pgt rfl (pgs1 (pgi 11 sc_law.nd) (pgs1 (pgi 6 sc_law.nd) pgs0))))
  (ds_one (ds_for ps rfl (di_range1 rfl T.n_range (d_call (ok_law_draw T) (hr.mono (by decide)) hgd T.m_law_draw T.k_law_draw T.b_law_draw tk (d_cons (d_var 2) (d_cons d_int d_nil)))) (pgi 12 sc_law.nd) (ds_cons (ds_set (i := 7) sc_law.nd (d_call (ok_law_draw T) (hr.mono (by decide)) hgd T.m_law_draw T.k_law_draw T.b_law_draw tk (d_cons (d_var 2) (d_cons (d_callB cd_len rfl T.n_len bt_len (d_cons (d_var 4) d_nil)) d_nil))))
  (ds_cons (ds_set (i := 14) sc_law.nd (d_call (ok_law_draw T) (hr.mono (by decide)) hgd T.m_law_draw T.k_law_draw T.b_law_draw tk (d_cons (d_var 2) (d_cons (d_op od_add (d_callB cd_len rfl T.n_len bt_len (d_cons (d_lc (own := [("cell", 21)]) (W0 := W00) rfl sc_law.nd (di_seq (d_ix xd_ix (d_var 11) (d_var 7))) (blkOk_by (own := [("cell", 21)]) (N := N_law) (sc := defScope s_law) (by decide +kernel)) (by decide) (fun _ _ _ _ _ => (pgi 21 sc_law.nd)) (fun _ _ _ _ _ => (dts_one (d_cmpT od_isN (d_var 21) d_non))) (fun _ _ _ _ _ => (d_var 21))) d_nil)) d_int) d_nil))))
  (ds_cons (ds_set (i := 15) sc_law.nd (d_ifE (d_cmpT (od_eq hr.units) (d_op od_mod (d_var 12) d_int) d_int) (d_meth T.c_Sheet T.me_Sheet_write (ok_Sheet_write T) (hr.mono (by decide)) hgd T.b_Sheet_write tk (d_var 5) (d_cons (d_var 7) (d_cons (d_var 14) d_nil))) (d_methK T.c_Sheet T.me_Sheet_write (ok_Sheet_write T) (hr.mono (by decide)) hgd T.b_Sheet_write_1_count_row tk (d_var 5) (dk_cons (d_var 14) (dk_cons (d_var 7) dk_nil)))))
  (ds_cons (ds_set (i := 16) sc_law.nd (d_op od_add (d_op od_mul (d_tup (d_cons d_non d_nil)) (d_var 14)) (d_slice sd_slice (d_ix xd_ix (d_var 6) (d_var 7)) (d_part (d_var 14)) d_noPart)))
  (ds_cons (ds_set (i := 11) sc_law.nd (d_op od_add (d_op od_add (d_slice sd_slice (d_var 11) d_noPart (d_part (d_var 7))) (d_tup (d_cons (d_var 16) d_nil))) (d_slice sd_slice (d_var 11) (d_part (d_op od_add (d_var 7) d_int)) d_noPart)))
  (ds_cons (ds_if (PW.pt (d_or (d_cmpT od_isNN (d_var 15) d_non) (d_or1 (d_not (d_val (d_call (ok_law_shows T) (hr.mono (by decide)) hgd T.m_law_shows T.k_law_shows T.b_law_shows tk (d_cons (d_var 5) (d_cons (d_var 11) (d_cons (d_var 6) d_nil))))))))) (ds_one (ds_ret d_bl)) ds_nil)
  (ds_cons (ds_set (i := 17) sc_law.nd (d_call (ok_law_read T) (hr.mono (by decide)) hgd T.m_law_read T.k_law_read T.b_law_read tk (d_cons (d_var 11) d_nil)))
  (ds_one (ds_if (PW.pt (d_and (d_cmpT (od_eq hr.units) (d_op od_mod (d_var 12) d_int) d_int) (d_and1 (d_cmpT (od_eq hr.units) (d_lc (own := [("one", 20)]) (W0 := W00) rfl sc_law.nd (di_seq (d_var 17)) (blkOk_by (own := [("one", 20)]) (N := N_law) (sc := defScope s_law) (by decide +kernel)) (by decide) (fun _ _ _ _ _ => (pgi 20 sc_law.nd)) (fun _ _ _ _ _ => (dts_one (d_cmpT (od_in (hu65 hr)) d_non (d_var 20)))) (fun _ _ _ _ _ => (d_var 20))) (d_lst d_nil))))) (ds_cons (ds_setLc (own := [("number", 19), ("one", 20)]) (W0 := W00) rfl sc_law.nd (di_enum rfl T.n_enumerate (d_var 17)) (blkOk_by (own := [("number", 19), ("one", 20)]) (N := N_law) (sc := defScope s_law) (by decide +kernel)) (by decide) (fun _ _ _ _ _ => (pgt rfl (pgs1 (pgi 19 sc_law.nd) (pgs1 (pgi 20 sc_law.nd) pgs0)))) (fun _ _ _ _ _ => (dts_one (d_cmpT (od_ne hr.units) (d_var 20) (d_ix xd_ix (d_var 6) (d_var 19))))) (fun _ _ _ _ _ => (d_var 19)) (sw_true rfl rfl rfl (by decide +kernel)) (i := 18))
  (ds_cons (ds_set (i := 6) sc_law.nd (d_callTy cd_tuple rfl T.n_tuple bt_tuple (d_cons (d_var 17) d_nil)))
  (ds_cons (ds_set (i := 15) sc_law.nd (d_meth0 T.c_Sheet T.me_Sheet_adopt (ok_Sheet_adopt T) (hr.mono (by decide)) hgd T.b_Sheet_adopt tk (d_var 5)))
  (ds_cons (ds_if (d_cmpT (od_ne hr.units) (d_callB (cd_reprV hgd hr.units) rfl T.n_repr bt_repr (d_cons (d_var 15) d_nil)) (d_callB (cd_reprV hgd hr.units) rfl T.n_repr bt_repr (d_cons (d_var 18) d_nil))) (ds_one (ds_ret d_bl)) ds_nil)
  (ds_cons (ds_expr (d_bm PySem.F.plainAttrs_list PySem.F.slot_list_append PySem.F.type_list_append md_append (d_var 15) (d_cons d_non d_nil)))
  (ds_one (ds_if (d_not (d_val (d_call (ok_law_shows T) (hr.mono (by decide)) hgd T.m_law_shows T.k_law_shows T.b_law_shows tk (d_cons (d_var 5) (d_cons (d_var 11) (d_cons (d_var 6) d_nil)))))) (ds_one (ds_ret d_bl)) ds_nil))))))) ds_nil))))))))))))))))))))))
  (ds_cons (ds_set (i := 5) sc_law.nd (d_make T.mk_Sheet (ok_Sheet_init T) (hr.mono (by decide)) hgd T.m_Sheet T.b_Sheet_init tk (d_cons (d_tup (d_cons (d_tup (d_cons d_str (d_cons d_str d_nil))) (d_cons (d_tup (d_cons d_non (d_cons d_str d_nil))) (d_cons (d_tup (d_cons d_str (d_cons d_str d_nil))) d_nil)))) d_nil)))
  (ds_cons (ds_set (i := 15) sc_law.nd (d_lstM (d_cons (d_meth T.c_Sheet T.me_Sheet_move (ok_Sheet_move T) (hr.mono (by decide)) hgd T.b_Sheet_move tk (d_var 5) (d_cons d_int (d_cons d_int (d_cons d_int d_nil)))) (d_cons (d_meth0 T.c_Sheet T.me_Sheet_adopt (ok_Sheet_adopt T) (hr.mono (by decide)) hgd T.b_Sheet_adopt tk (d_var 5)) (d_cons (d_prop T.c_Sheet T.p_Sheet_true_now (ok_Sheet_true_now T) (hr.mono (by decide)) hgd T.b_Sheet_true_now (d_var 5)) (d_cons (d_meth T.c_Sheet T.me_Sheet_write (ok_Sheet_write T) (hr.mono (by decide)) hgd T.b_Sheet_write tk (d_var 5) (d_cons d_int (d_cons d_int d_nil))) (d_cons (d_prop T.c_Sheet T.p_Sheet_cells_now (ok_Sheet_cells_now T) (hr.mono (by decide)) hgd T.b_Sheet_cells_now (d_var 5)) d_nil)))))))
  (ds_one (ds_ret (d_cmp (od_eqV hr.units) (d_var 15) (d_lst (d_cons d_non (d_cons (d_lst (d_cons d_int d_nil)) (d_cons (d_lst (d_cons (d_tup (d_cons d_str (d_cons d_str d_nil))) (d_cons (d_tup (d_cons d_str (d_cons d_str d_nil))) (d_cons (d_tup (d_cons d_str (d_cons d_str d_nil))) d_nil)))) (d_cons d_non (d_cons (d_tup (d_cons (d_tup (d_cons d_str (d_cons d_str d_nil))) (d_cons (d_tup (d_cons d_str (d_cons d_str d_nil))) (d_cons (d_tup (d_cons d_str (d_cons d_str d_nil))) d_nil)))) d_nil))))))))))))
end
theorem all_mk {l : PySem.W.OpenLaw} {w : World} {K : PySem.W.Frag} {h : Heap} {mg : Str → Option Value} {fa : Addr} (X : K.In h) (G : h.Ns mainGlobals mg) (hfa : mg "law" = some (.ref fa))
    {C_Sheet : Addr} (aC_Sheet : PySem.W.nsIn K mainGlobals "Sheet" = some (some (.ref C_Sheet))) (pg_Sheet : PySem.W.plainGet K C_Sheet Str.empty = true) (hd_Sheet : PySem.W.hasDictIn K C_Sheet = true) (po_Sheet : PySem.W.plainOver K C_Sheet = true) (sa_Sheet : PySem.W.findIn K (.ref C_Sheet) "__setattr__" = some (some (.builtin "object.__setattr__"))) (mk_Sheet : PySem.W.makesIn K C_Sheet = true) (kc_Sheet : PySem.W.keepIn K (.ref C_Sheet) = true)
    (na_Sheet_past : PySem.W.findIn K (.ref C_Sheet) "past" = some none)
    (na_Sheet_state : PySem.W.findIn K (.ref C_Sheet) "state" = some none)
    {f0 : Addr} {oc0 kV0 dc0 pm0 cd0 ct0 : Value} {od0 an0 : Option Addr} {sl0 : Array (Option Value)}
    (a0 : PySem.W.nsIn K mainGlobals "is_integer" = some (some (.ref f0))) (l0 : K.lookup f0 = some ⟨oc0, od0, .func (PySem.W.fnOf "is_integer" "is_integer" (defArgs s_is_integer) (defBody s_is_integer) (defScope s_is_integer) .none kV0 dc0 pm0 an0 cd0 ct0), sl0⟩) (c0 : PySem.W.codeIn K cd0 "is_integer" = true) (k0 : PySem.W.keepIn K (.ref f0) = true)
    {f1 : Addr} {oc1 kV1 dc1 pm1 cd1 ct1 : Value} {od1 an1 : Option Addr} {sl1 : Array (Option Value)}
    (a1 : PySem.W.nsIn K mainGlobals "is_cell" = some (some (.ref f1))) (l1 : K.lookup f1 = some ⟨oc1, od1, .func (PySem.W.fnOf "is_cell" "is_cell" (defArgs s_is_cell) (defBody s_is_cell) (defScope s_is_cell) .none kV1 dc1 pm1 an1 cd1 ct1), sl1⟩) (c1 : PySem.W.codeIn K cd1 "is_cell" = true) (k1 : PySem.W.keepIn K (.ref f1) = true)
    {f2 : Addr} {oc2 kV2 dc2 pm2 cd2 ct2 : Value} {od2 an2 : Option Addr} {sl2 : Array (Option Value)}
    (a2 : PySem.W.nsIn K mainGlobals "blanks_in" = some (some (.ref f2))) (l2 : K.lookup f2 = some ⟨oc2, od2, .func (PySem.W.fnOf "blanks_in" "blanks_in" (defArgs s_blanks_in) (defBody s_blanks_in) (defScope s_blanks_in) .none kV2 dc2 pm2 an2 cd2 ct2), sl2⟩) (c2 : PySem.W.codeIn K cd2 "blanks_in" = true) (k2 : PySem.W.keepIn K (.ref f2) = true)
    {f3 : Addr} {oc3 kV3 dc3 pm3 cd3 ct3 : Value} {od3 an3 : Option Addr} {sl3 : Array (Option Value)}
    (a3 : PySem.W.nsIn K mainGlobals "is_printed_row" = some (some (.ref f3))) (l3 : K.lookup f3 = some ⟨oc3, od3, .func (PySem.W.fnOf "is_printed_row" "is_printed_row" (defArgs s_is_printed_row) (defBody s_is_printed_row) (defScope s_is_printed_row) .none kV3 dc3 pm3 an3 cd3 ct3), sl3⟩) (c3 : PySem.W.codeIn K cd3 "is_printed_row" = true) (k3 : PySem.W.keepIn K (.ref f3) = true)
    {f4 : Addr} {oc4 kV4 dc4 pm4 cd4 ct4 : Value} {od4 an4 : Option Addr} {sl4 : Array (Option Value)}
    (a4 : PySem.W.nsIn K mainGlobals "are_printed_rows" = some (some (.ref f4))) (l4 : K.lookup f4 = some ⟨oc4, od4, .func (PySem.W.fnOf "are_printed_rows" "are_printed_rows" (defArgs s_are_printed_rows) (defBody s_are_printed_rows) (defScope s_are_printed_rows) .none kV4 dc4 pm4 an4 cd4 ct4), sl4⟩) (c4 : PySem.W.codeIn K cd4 "are_printed_rows" = true) (k4 : PySem.W.keepIn K (.ref f4) = true)
    {f5 : Addr} {oc5 kV5 dc5 pm5 cd5 ct5 : Value} {od5 an5 : Option Addr} {sl5 : Array (Option Value)}
    (a5 : PySem.W.nsIn K mainGlobals "has_page_form" = some (some (.ref f5))) (l5 : K.lookup f5 = some ⟨oc5, od5, .func (PySem.W.fnOf "has_page_form" "has_page_form" (defArgs s_has_page_form) (defBody s_has_page_form) (defScope s_has_page_form) .none kV5 dc5 pm5 an5 cd5 ct5), sl5⟩) (c5 : PySem.W.codeIn K cd5 "has_page_form" = true) (k5 : PySem.W.keepIn K (.ref f5) = true)
    {f6 : Addr} {oc6 kV6 dc6 pm6 cd6 ct6 : Value} {od6 an6 : Option Addr} {sl6 : Array (Option Value)}
    (a6 : PySem.W.nsIn K mainGlobals "require_page" = some (some (.ref f6))) (l6 : K.lookup f6 = some ⟨oc6, od6, .func (PySem.W.fnOf "require_page" "require_page" (defArgs s_require_page) (defBody s_require_page) (defScope s_require_page) .none kV6 dc6 pm6 an6 cd6 ct6), sl6⟩) (c6 : PySem.W.codeIn K cd6 "require_page" = true) (k6 : PySem.W.keepIn K (.ref f6) = true)
    {f7 : Addr} {oc7 kV7 dc7 pm7 cd7 ct7 : Value} {od7 an7 : Option Addr} {sl7 : Array (Option Value)}
    (a7 : PySem.W.nsIn K mainGlobals "require_row" = some (some (.ref f7))) (l7 : K.lookup f7 = some ⟨oc7, od7, .func (PySem.W.fnOf "require_row" "require_row" (defArgs s_require_row) (defBody s_require_row) (defScope s_require_row) .none kV7 dc7 pm7 an7 cd7 ct7), sl7⟩) (c7 : PySem.W.codeIn K cd7 "require_row" = true) (k7 : PySem.W.keepIn K (.ref f7) = true)
    {f8 : Addr} {oc8 kV8 dc8 pm8 cd8 ct8 : Value} {od8 an8 : Option Addr} {sl8 : Array (Option Value)}
    (a8 : PySem.W.nsIn K mainGlobals "with_blanks" = some (some (.ref f8))) (l8 : K.lookup f8 = some ⟨oc8, od8, .func (PySem.W.fnOf "with_blanks" "with_blanks" (defArgs s_with_blanks) (defBody s_with_blanks) (defScope s_with_blanks) .none kV8 dc8 pm8 an8 cd8 ct8), sl8⟩) (c8 : PySem.W.codeIn K cd8 "with_blanks" = true) (k8 : PySem.W.keepIn K (.ref f8) = true)
    {f9 : Addr} {oc9 kV9 dc9 pm9 cd9 ct9 : Value} {od9 an9 : Option Addr} {sl9 : Array (Option Value)}
    (a9 : PySem.W.nsIn K mainGlobals "read_rows" = some (some (.ref f9))) (l9 : K.lookup f9 = some ⟨oc9, od9, .func (PySem.W.fnOf "read_rows" "read_rows" (defArgs s_read_rows) (defBody s_read_rows) (defScope s_read_rows) .none kV9 dc9 pm9 an9 cd9 ct9), sl9⟩) (c9 : PySem.W.codeIn K cd9 "read_rows" = true) (k9 : PySem.W.keepIn K (.ref f9) = true)
    {f10 : Addr} {oc10 kV10 dc10 pm10 cd10 ct10 : Value} {od10 an10 : Option Addr} {sl10 : Array (Option Value)}
    (a10 : PySem.W.nsIn K mainGlobals "require_place" = some (some (.ref f10))) (l10 : K.lookup f10 = some ⟨oc10, od10, .func (PySem.W.fnOf "require_place" "require_place" (defArgs s_require_place) (defBody s_require_place) (defScope s_require_place) .none kV10 dc10 pm10 an10 cd10 ct10), sl10⟩) (c10 : PySem.W.codeIn K cd10 "require_place" = true) (k10 : PySem.W.keepIn K (.ref f10) = true)
    {f11 : Addr} {oc11 kV11 dc11 pm11 cd11 ct11 : Value} {od11 an11 : Option Addr} {sl11 : Array (Option Value)}
    (a11 : PySem.W.nsIn K mainGlobals "moved" = some (some (.ref f11))) (l11 : K.lookup f11 = some ⟨oc11, od11, .func (PySem.W.fnOf "moved" "moved" (defArgs s_moved) (defBody s_moved) (defScope s_moved) .none kV11 dc11 pm11 an11 cd11 ct11), sl11⟩) (c11 : PySem.W.codeIn K cd11 "moved" = true) (k11 : PySem.W.keepIn K (.ref f11) = true)
    {f12 : Addr} {oc12 kV12 dc12 pm12 cd12 ct12 : Value} {od12 an12 : Option Addr} {sl12 : Array (Option Value)}
    (l12 : K.lookup f12 = some ⟨oc12, od12, .func (PySem.W.fnOf "__init__" "Sheet.__init__" (defArgs s_Sheet_init) (defBody s_Sheet_init) (defScope s_Sheet_init) .none kV12 dc12 pm12 an12 cd12 ct12), sl12⟩) (c12 : PySem.W.codeIn K cd12 "Sheet.__init__" = true) (k12 : PySem.W.keepIn K (.ref f12) = true)
    (a12 : PySem.W.findIn K (.ref C_Sheet) "__init__" = some (some (.ref f12))) (i12 : PySem.W.isFn K (.ref f12) = true)
    {f13 : Addr} {oc13 kV13 dc13 pm13 cd13 ct13 : Value} {od13 an13 : Option Addr} {sl13 : Array (Option Value)}
    (l13 : K.lookup f13 = some ⟨oc13, od13, .func (PySem.W.fnOf "change" "Sheet.change" (defArgs s_Sheet_change) (defBody s_Sheet_change) (defScope s_Sheet_change) .none kV13 dc13 pm13 an13 cd13 ct13), sl13⟩) (c13 : PySem.W.codeIn K cd13 "Sheet.change" = true) (k13 : PySem.W.keepIn K (.ref f13) = true)
    (a13 : PySem.W.findIn K (.ref C_Sheet) "change" = some (some (.ref f13))) (i13 : PySem.W.isFn K (.ref f13) = true)
    {f14 : Addr} {oc14 kV14 dc14 pm14 cd14 ct14 : Value} {od14 an14 : Option Addr} {sl14 : Array (Option Value)}
    (l14 : K.lookup f14 = some ⟨oc14, od14, .func (PySem.W.fnOf "move" "Sheet.move" (defArgs s_Sheet_move) (defBody s_Sheet_move) (defScope s_Sheet_move) .none kV14 dc14 pm14 an14 cd14 ct14), sl14⟩) (c14 : PySem.W.codeIn K cd14 "Sheet.move" = true) (k14 : PySem.W.keepIn K (.ref f14) = true)
    (a14 : PySem.W.findIn K (.ref C_Sheet) "move" = some (some (.ref f14))) (i14 : PySem.W.isFn K (.ref f14) = true)
    {f15 : Addr} {oc15 kV15 dc15 pm15 cd15 ct15 : Value} {od15 an15 : Option Addr} {sl15 : Array (Option Value)}
    (l15 : K.lookup f15 = some ⟨oc15, od15, .func (PySem.W.fnOf "write" "Sheet.write" (defArgs s_Sheet_write) (defBody s_Sheet_write) (defScope s_Sheet_write) .none kV15 dc15 pm15 an15 cd15 ct15), sl15⟩) (c15 : PySem.W.codeIn K cd15 "Sheet.write" = true) (k15 : PySem.W.keepIn K (.ref f15) = true)
    (a15 : PySem.W.findIn K (.ref C_Sheet) "write" = some (some (.ref f15))) (i15 : PySem.W.isFn K (.ref f15) = true)
    {f16 : Addr} {oc16 kV16 dc16 pm16 cd16 ct16 : Value} {od16 an16 : Option Addr} {sl16 : Array (Option Value)}
    (l16 : K.lookup f16 = some ⟨oc16, od16, .func (PySem.W.fnOf "adopt" "Sheet.adopt" (defArgs s_Sheet_adopt) (defBody s_Sheet_adopt) (defScope s_Sheet_adopt) .none kV16 dc16 pm16 an16 cd16 ct16), sl16⟩) (c16 : PySem.W.codeIn K cd16 "Sheet.adopt" = true) (k16 : PySem.W.keepIn K (.ref f16) = true)
    (a16 : PySem.W.findIn K (.ref C_Sheet) "adopt" = some (some (.ref f16))) (i16 : PySem.W.isFn K (.ref f16) = true)
    {f17 : Addr} {oc17 kV17 dc17 pm17 cd17 ct17 : Value} {od17 an17 : Option Addr} {sl17 : Array (Option Value)}
    (l17 : K.lookup f17 = some ⟨oc17, od17, .func (PySem.W.fnOf "wrong" "Sheet.wrong" (defArgs s_Sheet_wrong) (defBody s_Sheet_wrong) (defScope s_Sheet_wrong) .none kV17 dc17 pm17 an17 cd17 ct17), sl17⟩) (c17 : PySem.W.codeIn K cd17 "Sheet.wrong" = true) (k17 : PySem.W.keepIn K (.ref f17) = true)
    (a17 : PySem.W.findIn K (.ref C_Sheet) "wrong" = some (some (.ref f17))) (i17 : PySem.W.isFn K (.ref f17) = true)
    {f18 : Addr} {oc18 kV18 dc18 pm18 cd18 ct18 : Value} {od18 an18 : Option Addr} {sl18 : Array (Option Value)}
    (l18 : K.lookup f18 = some ⟨oc18, od18, .func (PySem.W.fnOf "cells_now" "Sheet.cells_now" (defArgs s_Sheet_cells_now) (defBody s_Sheet_cells_now) (defScope s_Sheet_cells_now) .none kV18 dc18 pm18 an18 cd18 ct18), sl18⟩) (c18 : PySem.W.codeIn K cd18 "Sheet.cells_now" = true) (k18 : PySem.W.keepIn K (.ref f18) = true)
    {pp18 : Addr} {pr18 : List Value} (pa18 : PySem.W.findIn K (.ref C_Sheet) "cells_now" = some (some (.ref pp18))) (pg18 : PySem.W.specialIn K (.ref pp18) "__get__" = some (some (.builtin "property.__get__"))) (pt18 : PySem.W.takesIn K (.ref pp18) = some true) (pc18 : PySem.W.recIn K pp18 "property" = some (.ref f18 :: pr18))
    {f19 : Addr} {oc19 kV19 dc19 pm19 cd19 ct19 : Value} {od19 an19 : Option Addr} {sl19 : Array (Option Value)}
    (l19 : K.lookup f19 = some ⟨oc19, od19, .func (PySem.W.fnOf "read_now" "Sheet.read_now" (defArgs s_Sheet_read_now) (defBody s_Sheet_read_now) (defScope s_Sheet_read_now) .none kV19 dc19 pm19 an19 cd19 ct19), sl19⟩) (c19 : PySem.W.codeIn K cd19 "Sheet.read_now" = true) (k19 : PySem.W.keepIn K (.ref f19) = true)
    {pp19 : Addr} {pr19 : List Value} (pa19 : PySem.W.findIn K (.ref C_Sheet) "read_now" = some (some (.ref pp19))) (pg19 : PySem.W.specialIn K (.ref pp19) "__get__" = some (some (.builtin "property.__get__"))) (pt19 : PySem.W.takesIn K (.ref pp19) = some true) (pc19 : PySem.W.recIn K pp19 "property" = some (.ref f19 :: pr19))
    {f20 : Addr} {oc20 kV20 dc20 pm20 cd20 ct20 : Value} {od20 an20 : Option Addr} {sl20 : Array (Option Value)}
    (l20 : K.lookup f20 = some ⟨oc20, od20, .func (PySem.W.fnOf "true_now" "Sheet.true_now" (defArgs s_Sheet_true_now) (defBody s_Sheet_true_now) (defScope s_Sheet_true_now) .none kV20 dc20 pm20 an20 cd20 ct20), sl20⟩) (c20 : PySem.W.codeIn K cd20 "Sheet.true_now" = true) (k20 : PySem.W.keepIn K (.ref f20) = true)
    {pp20 : Addr} {pr20 : List Value} (pa20 : PySem.W.findIn K (.ref C_Sheet) "true_now" = some (some (.ref pp20))) (pg20 : PySem.W.specialIn K (.ref pp20) "__get__" = some (some (.builtin "property.__get__"))) (pt20 : PySem.W.takesIn K (.ref pp20) = some true) (pc20 : PySem.W.recIn K pp20 "property" = some (.ref f20 :: pr20))
    {f21 : Addr} {oc21 kV21 dc21 pm21 cd21 ct21 : Value} {od21 an21 : Option Addr} {sl21 : Array (Option Value)}
    (l21 : K.lookup f21 = some ⟨oc21, od21, .func (PySem.W.fnOf "__len__" "Sheet.__len__" (defArgs s_Sheet_len) (defBody s_Sheet_len) (defScope s_Sheet_len) .none kV21 dc21 pm21 an21 cd21 ct21), sl21⟩) (c21 : PySem.W.codeIn K cd21 "Sheet.__len__" = true) (k21 : PySem.W.keepIn K (.ref f21) = true)
    (a21 : PySem.W.findIn K (.ref C_Sheet) "__len__" = some (some (.ref f21))) (i21 : PySem.W.isFn K (.ref f21) = true)
    {f22 : Addr} {oc22 kV22 dc22 pm22 cd22 ct22 : Value} {od22 an22 : Option Addr} {sl22 : Array (Option Value)}
    (a22 : PySem.W.nsIn K mainGlobals "_law_urn" = some (some (.ref f22))) (l22 : K.lookup f22 = some ⟨oc22, od22, .func (PySem.W.fnOf "_law_urn" "_law_urn" (defArgs s_law_urn) (defBody s_law_urn) (defScope s_law_urn) .none kV22 dc22 pm22 an22 cd22 ct22), sl22⟩) (c22 : PySem.W.codeIn K cd22 "_law_urn" = true) (k22 : PySem.W.keepIn K (.ref f22) = true)
    {f23 : Addr} {oc23 kV23 dc23 pm23 cd23 ct23 : Value} {od23 an23 : Option Addr} {sl23 : Array (Option Value)}
    (a23 : PySem.W.nsIn K mainGlobals "_law_draw" = some (some (.ref f23))) (l23 : K.lookup f23 = some ⟨oc23, od23, .func (PySem.W.fnOf "_law_draw" "_law_draw" (defArgs s_law_draw) (defBody s_law_draw) (defScope s_law_draw) .none kV23 dc23 pm23 an23 cd23 ct23), sl23⟩) (c23 : PySem.W.codeIn K cd23 "_law_draw" = true) (k23 : PySem.W.keepIn K (.ref f23) = true)
    {f24 : Addr} {oc24 kV24 dc24 pm24 cd24 ct24 : Value} {od24 an24 : Option Addr} {sl24 : Array (Option Value)}
    (a24 : PySem.W.nsIn K mainGlobals "_law_item" = some (some (.ref f24))) (l24 : K.lookup f24 = some ⟨oc24, od24, .func (PySem.W.fnOf "_law_item" "_law_item" (defArgs s_law_item) (defBody s_law_item) (defScope s_law_item) .none kV24 dc24 pm24 an24 cd24 ct24), sl24⟩) (c24 : PySem.W.codeIn K cd24 "_law_item" = true) (k24 : PySem.W.keepIn K (.ref f24) = true)
    {f25 : Addr} {oc25 kV25 dc25 pm25 cd25 ct25 : Value} {od25 an25 : Option Addr} {sl25 : Array (Option Value)}
    (a25 : PySem.W.nsIn K mainGlobals "_law_row" = some (some (.ref f25))) (l25 : K.lookup f25 = some ⟨oc25, od25, .func (PySem.W.fnOf "_law_row" "_law_row" (defArgs s_law_row) (defBody s_law_row) (defScope s_law_row) .none kV25 dc25 pm25 an25 cd25 ct25), sl25⟩) (c25 : PySem.W.codeIn K cd25 "_law_row" = true) (k25 : PySem.W.keepIn K (.ref f25) = true)
    {f26 : Addr} {oc26 kV26 dc26 pm26 cd26 ct26 : Value} {od26 an26 : Option Addr} {sl26 : Array (Option Value)}
    (a26 : PySem.W.nsIn K mainGlobals "_law_shared" = some (some (.ref f26))) (l26 : K.lookup f26 = some ⟨oc26, od26, .func (PySem.W.fnOf "_law_shared" "_law_shared" (defArgs s_law_shared) (defBody s_law_shared) (defScope s_law_shared) .none kV26 dc26 pm26 an26 cd26 ct26), sl26⟩) (c26 : PySem.W.codeIn K cd26 "_law_shared" = true) (k26 : PySem.W.keepIn K (.ref f26) = true)
    {f27 : Addr} {oc27 kV27 dc27 pm27 cd27 ct27 : Value} {od27 an27 : Option Addr} {sl27 : Array (Option Value)}
    (a27 : PySem.W.nsIn K mainGlobals "_law_page" = some (some (.ref f27))) (l27 : K.lookup f27 = some ⟨oc27, od27, .func (PySem.W.fnOf "_law_page" "_law_page" (defArgs s_law_page) (defBody s_law_page) (defScope s_law_page) .none kV27 dc27 pm27 an27 cd27 ct27), sl27⟩) (c27 : PySem.W.codeIn K cd27 "_law_page" = true) (k27 : PySem.W.keepIn K (.ref f27) = true)
    {f28 : Addr} {oc28 kV28 dc28 pm28 cd28 ct28 : Value} {od28 an28 : Option Addr} {sl28 : Array (Option Value)}
    (a28 : PySem.W.nsIn K mainGlobals "_law_read" = some (some (.ref f28))) (l28 : K.lookup f28 = some ⟨oc28, od28, .func (PySem.W.fnOf "_law_read" "_law_read" (defArgs s_law_read) (defBody s_law_read) (defScope s_law_read) .none kV28 dc28 pm28 an28 cd28 ct28), sl28⟩) (c28 : PySem.W.codeIn K cd28 "_law_read" = true) (k28 : PySem.W.keepIn K (.ref f28) = true)
    {f29 : Addr} {oc29 kV29 dc29 pm29 cd29 ct29 : Value} {od29 an29 : Option Addr} {sl29 : Array (Option Value)}
    (a29 : PySem.W.nsIn K mainGlobals "_law_shows" = some (some (.ref f29))) (l29 : K.lookup f29 = some ⟨oc29, od29, .func (PySem.W.fnOf "_law_shows" "_law_shows" (defArgs s_law_shows) (defBody s_law_shows) (defScope s_law_shows) .none kV29 dc29 pm29 an29 cd29 ct29), sl29⟩) (c29 : PySem.W.codeIn K cd29 "_law_shows" = true) (k29 : PySem.W.keepIn K (.ref f29) = true)
    {f30 : Addr} {oc30 kV30 dc30 pm30 cd30 ct30 : Value} {od30 an30 : Option Addr} {sl30 : Array (Option Value)}
    (a30 : PySem.W.nsIn K mainGlobals "law" = some (some (.ref f30))) (l30 : K.lookup f30 = some ⟨oc30, od30, .func (PySem.W.fnOf "law" "law" (defArgs s_law) (defBody s_law) (defScope s_law) .none kV30 dc30 pm30 an30 cd30 ct30), sl30⟩) (c30 : PySem.W.codeIn K cd30 "law" = true) (k30 : PySem.W.keepIn K (.ref f30) = true)
    (z_abs : PySem.W.nsIn K mainGlobals "abs" = some none)
    (z_all : PySem.W.nsIn K mainGlobals "all" = some none)
    (z_any : PySem.W.nsIn K mainGlobals "any" = some none)
    (z_bool : PySem.W.nsIn K mainGlobals "bool" = some none)
    (z_enumerate : PySem.W.nsIn K mainGlobals "enumerate" = some none)
    (z_int : PySem.W.nsIn K mainGlobals "int" = some none)
    (z_isinstance : PySem.W.nsIn K mainGlobals "isinstance" = some none)
    (z_len : PySem.W.nsIn K mainGlobals "len" = some none)
    (z_list : PySem.W.nsIn K mainGlobals "list" = some none)
    (z_max : PySem.W.nsIn K mainGlobals "max" = some none)
    (z_min : PySem.W.nsIn K mainGlobals "min" = some none)
    (z_range : PySem.W.nsIn K mainGlobals "range" = some none)
    (z_repr : PySem.W.nsIn K mainGlobals "repr" = some none)
    (z_str : PySem.W.nsIn K mainGlobals "str" = some none)
    (z_tuple : PySem.W.nsIn K mainGlobals "tuple" = some none)
    (z_zip : PySem.W.nsIn K mainGlobals "zip" = some none)
    {t_MOST_ROWS : Tok} (g_MOST_ROWS : PySem.W.nsIn K mainGlobals "MOST_ROWS" = some (some (.int 60 t_MOST_ROWS)))
    {t_MOST_SIGNS : Tok} (g_MOST_SIGNS : PySem.W.nsIn K mainGlobals "MOST_SIGNS" = some (some (.int 8 t_MOST_SIGNS)))
    {t_MOST_WIDTH : Tok} (g_MOST_WIDTH : PySem.W.nsIn K mainGlobals "MOST_WIDTH" = some (some (.int 6 t_MOST_WIDTH)))
    {t_SIGNS : Tok} (g_SIGNS : PySem.W.nsIn K mainGlobals "SIGNS" = some (some (.str "abcdefghijklmnopqrstuvwxyz0123456789" t_SIGNS)))
    : ∃ fd : FuncData, (∀ (s : Shared) (v : Value), BindsTo s fd ⟨[v], []⟩ [("script", v)]) ∧ ∀ base : Heap, K.In base → base.Ns mainGlobals mg → FnG l.prog w K mg base 8 fa fd ["script"] (liftSp K (sp_law 0 E_InvalidCount E_InvalidPage E_InvalidPlace E_InvalidRow E_Loose)) := by
  have e := hfa.symm.trans (PySem.W.mg_of X G a30)
  cases e
  have F0 := fun_mk (st := s_is_integer) l0 c0 k0
  have b0 := F0.binds (ps := ["value", "low", "high"]) fun _ _ _ _ _ _ us hl => match us, hl with | [_, _, _], _ => rfl
  have F1 := fun_mk (st := s_is_cell) l1 c1 k1
  have b1 := F1.binds (ps := ["value"]) fun _ _ _ _ _ _ us hl => match us, hl with | [_], _ => rfl
  have F2 := fun_mk (st := s_blanks_in) l2 c2 k2
  have b2 := F2.binds (ps := ["cells"]) fun _ _ _ _ _ _ us hl => match us, hl with | [_], _ => rfl
  have F3 := fun_mk (st := s_is_printed_row) l3 c3 k3
  have b3 := F3.binds (ps := ["value"]) fun _ _ _ _ _ _ us hl => match us, hl with | [_], _ => rfl
  have F4 := fun_mk (st := s_are_printed_rows) l4 c4 k4
  have b4 := F4.binds (ps := ["value"]) fun _ _ _ _ _ _ us hl => match us, hl with | [_], _ => rfl
  have F5 := fun_mk (st := s_has_page_form) l5 c5 k5
  have b5 := F5.binds (ps := ["value"]) fun _ _ _ _ _ _ us hl => match us, hl with | [_], _ => rfl
  have F6 := fun_mk (st := s_require_page) l6 c6 k6
  have b6 := F6.binds (ps := ["value"]) fun _ _ _ _ _ _ us hl => match us, hl with | [_], _ => rfl
  have F7 := fun_mk (st := s_require_row) l7 c7 k7
  have b7 := F7.binds (ps := ["many", "value"]) fun _ _ _ _ _ _ us hl => match us, hl with | [_, _], _ => rfl
  have F8 := fun_mk (st := s_with_blanks) l8 c8 k8
  have b8 := F8.binds (ps := ["row", "count"]) fun _ _ _ _ _ _ us hl => match us, hl with | [_, _], _ => rfl
  have F9 := fun_mk (st := s_read_rows) l9 c9 k9
  have b9 := F9.binds (ps := ["rows"]) fun _ _ _ _ _ _ us hl => match us, hl with | [_], _ => rfl
  have F10 := fun_mk (st := s_require_place) l10 c10 k10
  have b10 := F10.binds (ps := ["value", "most"]) fun _ _ _ _ _ _ us hl => match us, hl with | [_, _], _ => rfl
  have F11 := fun_mk (st := s_moved) l11 c11 k11
  have b11 := F11.binds (ps := ["items", "first", "last", "place"]) fun _ _ _ _ _ _ us hl => match us, hl with | [_, _, _, _], _ => rfl
  have F12 := fun_mk (st := s_Sheet_init) l12 c12 k12
  have b12 := F12.binds (ps := ["self", "page"]) fun _ _ _ _ _ _ us hl => match us, hl with | [_, _], _ => rfl
  have F13 := fun_mk (st := s_Sheet_change) l13 c13 k13
  have b13 := F13.binds (ps := ["self", "cells", "full_rows"]) fun _ _ _ _ _ _ us hl => match us, hl with | [_, _, _], _ => rfl
  have F14 := fun_mk (st := s_Sheet_move) l14 c14 k14
  have b14 := F14.binds (ps := ["self", "first", "last", "place"]) fun _ _ _ _ _ _ us hl => match us, hl with | [_, _, _, _], _ => rfl
  have F15 := fun_mk (st := s_Sheet_write) l15 c15 k15
  have b15 := F15.binds (ps := ["self", "row", "count"]) fun _ _ _ _ _ _ us hl => match us, hl with | [_, _, _], _ => rfl
  have F16 := fun_mk (st := s_Sheet_adopt) l16 c16 k16
  have b16 := F16.binds (ps := ["self"]) fun _ _ _ _ _ _ us hl => match us, hl with | [_], _ => rfl
  have F17 := fun_mk (st := s_Sheet_wrong) l17 c17 k17
  have b17 := F17.binds (ps := ["self"]) fun _ _ _ _ _ _ us hl => match us, hl with | [_], _ => rfl
  have F18 := fun_mk (st := s_Sheet_cells_now) l18 c18 k18
  have b18 := F18.binds (ps := ["self"]) fun _ _ _ _ _ _ us hl => match us, hl with | [_], _ => rfl
  have F19 := fun_mk (st := s_Sheet_read_now) l19 c19 k19
  have b19 := F19.binds (ps := ["self"]) fun _ _ _ _ _ _ us hl => match us, hl with | [_], _ => rfl
  have F20 := fun_mk (st := s_Sheet_true_now) l20 c20 k20
  have b20 := F20.binds (ps := ["self"]) fun _ _ _ _ _ _ us hl => match us, hl with | [_], _ => rfl
  have F21 := fun_mk (st := s_Sheet_len) l21 c21 k21
  have b21 := F21.binds (ps := ["self"]) fun _ _ _ _ _ _ us hl => match us, hl with | [_], _ => rfl
  have F22 := fun_mk (st := s_law_urn) l22 c22 k22
  have b22 := F22.binds (ps := ["cells_here", "k"]) fun _ _ _ _ _ _ us hl => match us, hl with | [_, _], _ => rfl
  have F23 := fun_mk (st := s_law_draw) l23 c23 k23
  have b23 := F23.binds (ps := ["urn", "many"]) fun _ _ _ _ _ _ us hl => match us, hl with | [_, _], _ => rfl
  have F24 := fun_mk (st := s_law_item) l24 c24 k24
  have b24 := F24.binds (ps := ["urn"]) fun _ _ _ _ _ _ us hl => match us, hl with | [_], _ => rfl
  have F25 := fun_mk (st := s_law_row) l25 c25 k25
  have b25 := F25.binds (ps := ["urn", "wide", "above"]) fun _ _ _ _ _ _ us hl => match us, hl with | [_, _, _], _ => rfl
  have F26 := fun_mk (st := s_law_shared) l26 c26 k26
  have b26 := F26.binds (ps := ["one", "two"]) fun _ _ _ _ _ _ us hl => match us, hl with | [_, _], _ => rfl
  have F27 := fun_mk (st := s_law_page) l27 c27 k27
  have b27 := F27.binds (ps := ["urn", "most"]) fun _ _ _ _ _ _ us hl => match us, hl with | [_, _], _ => rfl
  have F28 := fun_mk (st := s_law_read) l28 c28 k28
  have b28 := F28.binds (ps := ["some"]) fun _ _ _ _ _ _ us hl => match us, hl with | [_], _ => rfl
  have F29 := fun_mk (st := s_law_shows) l29 c29 k29
  have b29 := F29.binds (ps := ["sheet", "cells_here", "full_rows"]) fun _ _ _ _ _ _ us hl => match us, hl with | [_, _, _], _ => rfl
  have F30 := fun_mk (st := s_law) l30 c30 k30
  have b30 := F30.binds (ps := ["script"]) fun _ _ _ _ _ _ us hl => match us, hl with | [_], _ => rfl
  have b_Sheet_write_1_count_row : Bd K _ ["self", "row", "count"] 1 ["count", "row"] [0, 2, 1] := Bd.all F15 fun _ _ _ _ _ _ us ws hl hm => match us, ws, hl, hm with | [_], [_, _], _, _ => rfl
  have T : Txt K mg ⟨f0, _, f1, _, f2, _, f3, _, f4, _, f5, _, f6, _, f7, _, f8, _, f9, _, f10, _, f11, _, f12, _, f13, _, f14, _, f15, _, f16, _, f17, _, f18, _, f19, _, f20, _, f21, _, f22, _, f23, _, f24, _, f25, _, f26, _, f27, _, f28, _, f29, _, fa, _, t_MOST_ROWS, t_MOST_SIGNS, t_MOST_WIDTH, t_SIGNS, C_Sheet, pp18, pp19, pp20⟩ := ⟨F0, PySem.W.mg_of X G a0, k0, b0, F1, PySem.W.mg_of X G a1, k1, b1, F2, PySem.W.mg_of X G a2, k2, b2, F3, PySem.W.mg_of X G a3, k3, b3, F4, PySem.W.mg_of X G a4, k4, b4, F5, PySem.W.mg_of X G a5, k5, b5, F6, PySem.W.mg_of X G a6, k6, b6, F7, PySem.W.mg_of X G a7, k7, b7, F8, PySem.W.mg_of X G a8, k8, b8, F9, PySem.W.mg_of X G a9, k9, b9, F10, PySem.W.mg_of X G a10, k10, b10, F11, PySem.W.mg_of X G a11, k11, b11, F12, k12, b12, F13, k13, b13, F14, k14, b14, F15, k15, b15, F16, k16, b16, F17, k17, b17, F18, k18, b18, F19, k19, b19, F20, k20, b20, F21, k21, b21, F22, PySem.W.mg_of X G a22, k22, b22, F23, PySem.W.mg_of X G a23, k23, b23, F24, PySem.W.mg_of X G a24, k24, b24, F25, PySem.W.mg_of X G a25, k25, b25, F26, PySem.W.mg_of X G a26, k26, b26, F27, PySem.W.mg_of X G a27, k27, b27, F28, PySem.W.mg_of X G a28, k28, b28, F29, PySem.W.mg_of X G a29, k29, b29, F30, PySem.W.mg_of X G a30, k30, b30, b_Sheet_write_1_count_row, PySem.W.mg_none_of X G z_abs, PySem.W.mg_none_of X G z_all, PySem.W.mg_none_of X G z_any, PySem.W.mg_none_of X G z_bool, PySem.W.mg_none_of X G z_enumerate, PySem.W.mg_none_of X G z_int, PySem.W.mg_none_of X G z_isinstance, PySem.W.mg_none_of X G z_len, PySem.W.mg_none_of X G z_list, PySem.W.mg_none_of X G z_max, PySem.W.mg_none_of X G z_min, PySem.W.mg_none_of X G z_range, PySem.W.mg_none_of X G z_repr, PySem.W.mg_none_of X G z_str, PySem.W.mg_none_of X G z_tuple, PySem.W.mg_none_of X G z_zip, PySem.W.mg_of X G g_MOST_ROWS, PySem.W.mg_of X G g_MOST_SIGNS, PySem.W.mg_of X G g_MOST_WIDTH, PySem.W.mg_of X G g_SIGNS, ⟨pg_Sheet, hd_Sheet, po_Sheet, sa_Sheet⟩, PySem.W.mg_of X G aC_Sheet, ⟨mk_Sheet, a12, i12, kc_Sheet⟩, na_Sheet_past, na_Sheet_state, ⟨a16, i16, k16⟩, ⟨a13, i13, k13⟩, ⟨a21, i21, k21⟩, ⟨a14, i14, k14⟩, ⟨a15, i15, k15⟩, ⟨a17, i17, k17⟩, ⟨pa18, pg18, pt18, ⟨_, pc18⟩⟩, ⟨pa19, pg19, pt19, ⟨_, pc19⟩⟩, ⟨pa20, pg20, pt20, ⟨_, pc20⟩⟩⟩
  exact ⟨_, fun s v => .of_eq rfl, fun base _ _ => ok_law T⟩
theorem law_holds : ∀ (ns : List Int) (h : DH) (Q : DK) (X : DX), (ns.length ≤ 63 ∧ ∀ z ∈ ns, Builtin.Int.intBits z ≤ 1048576) → (∀ h', Q (.bl true) h') → sp_law 0 E_InvalidCount E_InvalidPage E_InvalidPlace E_InvalidRow E_Loose [.scr ns] h Q X := fun ns h Q X c z => ⟨c.2, z⟩
end DL
open PySem PySem.W PyProof.Rows in
set_option maxRecDepth 100000 in
set_option maxHeartbeats 0 in
theorem PySem.Challenge.cw_dittorows_k52_cells_written_and_adopted_holds : PySem.Challenge.rw_dittorows_k52_cells_written_and_adopted.Holds := by
  w_on; o_law; k_head; (case hw => w_witness2)
  k_fill
  refine DL.walkD (n := 63) (x := "script") (k := 8) (l := PySem.Challenge.rw_dittorows_k52_cells_written_and_adopted) rfl (by decide) rfl ⟨rfl, by decide, by decide⟩ (fun w h Y => PySem.W.kIn_of Y) ?F DL.law_holds
  case F =>
    intro w mg fa h KX G hmg
    refine' DL.all_mk KX G hmg ?aC_Sheet ?pg_Sheet ?hd_Sheet ?po_Sheet ?sa_Sheet ?mk_Sheet ?kc_Sheet ?na_Sheet_past ?na_Sheet_state ?a0 ?l0 ?c0 ?k0 ?a1 ?l1 ?c1 ?k1 ?a2 ?l2 ?c2 ?k2 ?a3 ?l3 ?c3 ?k3 ?a4 ?l4 ?c4 ?k4 ?a5 ?l5 ?c5 ?k5 ?a6 ?l6 ?c6 ?k6 ?a7 ?l7 ?c7 ?k7 ?a8 ?l8 ?c8 ?k8 ?a9 ?l9 ?c9 ?k9 ?a10 ?l10 ?c10 ?k10 ?a11 ?l11 ?c11 ?k11 ?l12 ?c12 ?k12 ?a12 ?i12 ?l13 ?c13 ?k13 ?a13 ?i13 ?l14 ?c14 ?k14 ?a14 ?i14 ?l15 ?c15 ?k15 ?a15 ?i15 ?l16 ?c16 ?k16 ?a16 ?i16 ?l17 ?c17 ?k17 ?a17 ?i17 ?l18 ?c18 ?k18 ?pa18 ?pg18 ?pt18 ?pc18 ?l19 ?c19 ?k19 ?pa19 ?pg19 ?pt19 ?pc19 ?l20 ?c20 ?k20 ?pa20 ?pg20 ?pt20 ?pc20 ?l21 ?c21 ?k21 ?a21 ?i21 ?a22 ?l22 ?c22 ?k22 ?a23 ?l23 ?c23 ?k23 ?a24 ?l24 ?c24 ?k24 ?a25 ?l25 ?c25 ?k25 ?a26 ?l26 ?c26 ?k26 ?a27 ?l27 ?c27 ?k27 ?a28 ?l28 ?c28 ?k28 ?a29 ?l29 ?c29 ?k29 ?a30 ?l30 ?c30 ?k30 ?z_abs ?z_all ?z_any ?z_bool ?z_enumerate ?z_int ?z_isinstance ?z_len ?z_list ?z_max ?z_min ?z_range ?z_repr ?z_str ?z_tuple ?z_zip ?g_MOST_ROWS ?g_MOST_SIGNS ?g_MOST_WIDTH ?g_SIGNS
    (case aC_Sheet => k_is)
    (case pg_Sheet => k_is)
    (case hd_Sheet => k_is)
    (case po_Sheet => k_is)
    (case sa_Sheet => k_is)
    (case mk_Sheet => k_is)
    (case kc_Sheet => k_is)
    (case na_Sheet_past => k_is)
    (case na_Sheet_state => k_is)
    (case a0 => k_is)
    (case l0 => k_is)
    (case c0 => k_is)
    (case k0 => k_is)
    (case a1 => k_is)
    (case l1 => k_is)
    (case c1 => k_is)
    (case k1 => k_is)
    (case a2 => k_is)
    (case l2 => k_is)
    (case c2 => k_is)
    (case k2 => k_is)
    (case a3 => k_is)
    (case l3 => k_is)
    (case c3 => k_is)
    (case k3 => k_is)
    (case a4 => k_is)
    (case l4 => k_is)
    (case c4 => k_is)
    (case k4 => k_is)
    (case a5 => k_is)
    (case l5 => k_is)
    (case c5 => k_is)
    (case k5 => k_is)
    (case a6 => k_is)
    (case l6 => k_is)
    (case c6 => k_is)
    (case k6 => k_is)
    (case a7 => k_is)
    (case l7 => k_is)
    (case c7 => k_is)
    (case k7 => k_is)
    (case a8 => k_is)
    (case l8 => k_is)
    (case c8 => k_is)
    (case k8 => k_is)
    (case a9 => k_is)
    (case l9 => k_is)
    (case c9 => k_is)
    (case k9 => k_is)
    (case a10 => k_is)
    (case l10 => k_is)
    (case c10 => k_is)
    (case k10 => k_is)
    (case a11 => k_is)
    (case l11 => k_is)
    (case c11 => k_is)
    (case k11 => k_is)
    (case a12 => k_is)
    (case i12 => k_is)
    (case l12 => k_is)
    (case c12 => k_is)
    (case k12 => k_is)
    (case a13 => k_is)
    (case i13 => k_is)
    (case l13 => k_is)
    (case c13 => k_is)
    (case k13 => k_is)
    (case a14 => k_is)
    (case i14 => k_is)
    (case l14 => k_is)
    (case c14 => k_is)
    (case k14 => k_is)
    (case a15 => k_is)
    (case i15 => k_is)
    (case l15 => k_is)
    (case c15 => k_is)
    (case k15 => k_is)
    (case a16 => k_is)
    (case i16 => k_is)
    (case l16 => k_is)
    (case c16 => k_is)
    (case k16 => k_is)
    (case a17 => k_is)
    (case i17 => k_is)
    (case l17 => k_is)
    (case c17 => k_is)
    (case k17 => k_is)
    (case pa18 => k_is)
    (case pg18 => k_is)
    (case pt18 => k_is)
    (case pc18 => k_is)
    (case l18 => k_is)
    (case c18 => k_is)
    (case k18 => k_is)
    (case pa19 => k_is)
    (case pg19 => k_is)
    (case pt19 => k_is)
    (case pc19 => k_is)
    (case l19 => k_is)
    (case c19 => k_is)
    (case k19 => k_is)
    (case pa20 => k_is)
    (case pg20 => k_is)
    (case pt20 => k_is)
    (case pc20 => k_is)
    (case l20 => k_is)
    (case c20 => k_is)
    (case k20 => k_is)
    (case a21 => k_is)
    (case i21 => k_is)
    (case l21 => k_is)
    (case c21 => k_is)
    (case k21 => k_is)
    (case a22 => k_is)
    (case l22 => k_is)
    (case c22 => k_is)
    (case k22 => k_is)
    (case a23 => k_is)
    (case l23 => k_is)
    (case c23 => k_is)
    (case k23 => k_is)
    (case a24 => k_is)
    (case l24 => k_is)
    (case c24 => k_is)
    (case k24 => k_is)
    (case a25 => k_is)
    (case l25 => k_is)
    (case c25 => k_is)
    (case k25 => k_is)
    (case a26 => k_is)
    (case l26 => k_is)
    (case c26 => k_is)
    (case k26 => k_is)
    (case a27 => k_is)
    (case l27 => k_is)
    (case c27 => k_is)
    (case k27 => k_is)
    (case a28 => k_is)
    (case l28 => k_is)
    (case c28 => k_is)
    (case k28 => k_is)
    (case a29 => k_is)
    (case l29 => k_is)
    (case c29 => k_is)
    (case k29 => k_is)
    (case a30 => k_is)
    (case l30 => k_is)
    (case c30 => k_is)
    (case k30 => k_is)
    (case z_abs => k_is)
    (case z_all => k_is)
    (case z_any => k_is)
    (case z_bool => k_is)
    (case z_enumerate => k_is)
    (case z_int => k_is)
    (case z_isinstance => k_is)
    (case z_len => k_is)
    (case z_list => k_is)
    (case z_max => k_is)
    (case z_min => k_is)
    (case z_range => k_is)
    (case z_repr => k_is)
    (case z_str => k_is)
    (case z_tuple => k_is)
    (case z_zip => k_is)
    (case g_MOST_ROWS => k_is)
    (case g_MOST_SIGNS => k_is)
    (case g_MOST_WIDTH => k_is)
    (case g_SIGNS => k_is)

#print axioms PySem.Challenge.cw_dittorows_k52_cells_written_and_adopted_holds
