import PyProof.Rows.All
import Wide.All
import OpenK.AllK
import Wide.FinOn
import HandS.ForMost
import HandS.ForExc
import HandS.TupAny
import HandS.TupMul
import HandS.Deep
import HandS.IsInst
import HandS.More
import HandS.RaiseMore
import HandS.Style
import PyProof.ReprRoads
import KE.GoesMore
import KE.GoesEnum
import HandS.Walk
import HandS.Comp
import HandS.Flow
import HandS.Property
import HandS.Defaults
import HandS.ExcCtx
import Wide.Txt
import KE.IntBitsLaws
import PyProof.StrLawsReplace
import HandS.EndBits
import HandS.MakeKw
import HandS.DictSub
import HandS.Star
import HandS.ExcOwn
import HandS.TryOnly
import HandS.TryMany
import HandS.ExcIs
import HandS.Small
import HandS.Text
import HandS.Conv
import HandS.SortInts
import HandS.Dict
import KE.IntTextLaws
import PyProof.StrOps2
import HandS.OwnEq
import PyProof.InstNe
import PyProof.EqKinds
import PyProof.FactsAll.dict
import HandS.HotCalls
import HandS.ExcInit
import HandS.ExcField
import PySem.Challenge.RW_dittorows_k59_texts_of_no_rows
set_option Elab.async false
set_option linter.all false
set_option maxRecDepth 100000
set_option maxHeartbeats 4000000
/-! D: the data layer: values as trees, what may change as addresses. -/
namespace DL
open PySem L2

/-- data: what never changes as a tree; what may change by its address -/
inductive D where
  | non | bl (b : Bool) | int (i : Int) | str (x : Str) | tup (xs : List D) | lst (xs : List D) | dct | scr (ns : List Int) | ref (a : Addr)
/-- what may change -/
inductive DO where
  | lst (xs : List D)
  | ins (C : Addr) (fs : List (Str × D))
  | exd (fs : List (Str × D))
abbrev DH := Addr → Option DO
def dupd (h : DH) (a : Addr) (o : DO) : DH := fun b => if b = a then some o else h b
def ddel (h : DH) (a : Addr) : DH := fun b => if b = a then none else h b
theorem dupd_same {h : DH} {a : Addr} {o : DO} : dupd h a o a = some o := by unfold dupd; rw [if_pos rfl]
theorem dupd_ne {h : DH} {a b : Addr} {o : DO} (e : b ≠ a) : dupd h a o b = h b := by unfold dupd; rw [if_neg e]
theorem dupd_dupd {h : DH} {a : Addr} {o u : DO} : dupd (dupd h a o) a u = dupd h a u := by
  funext b; unfold dupd; split <;> rfl
theorem ddel_ne {h : DH} {a b : Addr} (e : b ≠ a) : ddel h a b = h b := by unfold ddel; rw [if_neg e]
theorem ddel_same {h : DH} {a : Addr} : ddel h a a = none := by unfold ddel; rw [if_pos rfl]
/-- the part of h -/
def DSub (h h' : DH) : Prop := ∀ a o, h a = some o → h' a = some o
theorem DSub.refl (h : DH) : DSub h h := fun _ _ e => e
theorem DSub.trans {h h1 h2 : DH} (a : DSub h h1) (b : DSub h1 h2) : DSub h h2 := fun x o e => b x o (a x o e)
theorem DSub.new {h h' : DH} {a : Addr} {o : DO} (s : DSub h h') (n : h a = none) : DSub h (dupd h' a o) := fun b u e => by
  have hb : b ≠ a := fun q => by subst q; rw [n] at e; cases e
  rw [dupd_ne hb]
  exact s b u e
theorem DSub.del {h h' : DH} {a : Addr} (s : DSub h h') (n : h a = none) : DSub h (ddel h' a) := fun b u e => by
  have hb : b ≠ a := fun q => by subst q; rw [n] at e; cases e
  rw [ddel_ne hb]
  exact s b u e
theorem DSub.none {h h' : DH} {a : Addr} (s : DSub h h') (n : h' a = .none) : h a = .none := by
  cases e : h a with
  | none => rfl
  | some o => rw [s a o e] at n; cases n

abbrev NS := Addr → Prop
section
variable (K : PySem.W.Frag)
/-- a list, a tuple of the written part -/
def KL (a : Addr) (xs : List V) : Prop := ∃ (o : Obj) (its : Array Value) (n : Nat), K.lookup a = some o ∧ o.cls = .type "list" ∧ o.dict = none ∧ o.data = .seq its n ∧ its.size ≤ sizeLine ∧ Vals xs its.toList
def KT (a : Addr) (xs : List V) : Prop := ∃ (o : Obj) (its : Array Value) (n : Nat), K.lookup a = some o ∧ o.cls = .type "tuple" ∧ o.data = .seq its n ∧ its.size ≤ sizeLine ∧ Vals xs its.toList
def FzL (H : Hp) (N : NS) (a : Addr) (xs : List V) : Prop := (¬ N a ∧ Rd H a (.lst xs)) ∨ KL K a xs
def FzT (H : Hp) (N : NS) (a : Addr) (xs : List V) : Prop := (¬ N a ∧ Rd H a (.tup xs)) ∨ KT K a xs
mutual
def Rep (H : Hp) (N : NS) : D → V → Prop
  | .non, v => v = .non
  | .bl b, v => v = .bl b
  | .int i, v => v = .int i
  | .str x, v => v = .str x
  | .tup ds, v => ∃ a xs, v = .ref a ∧ FzT K H N a xs ∧ RepL H N ds xs
  | .lst ds, v => ∃ a xs, v = .ref a ∧ (¬ N a ∧ Rd H a (.lst xs)) ∧ RepL H N ds xs
  | .dct, v => ∃ a, v = .ref a ∧ ¬ N a ∧ Rd H a (.dK [])
  | .scr ns, v => ∃ a, v = .ref a ∧ FzL K H N a (ns.map V.int)
  | .ref a, v => v = .ref a
def RepL (H : Hp) (N : NS) : List D → List V → Prop
  | [], xs => xs = []
  | d :: ds, xs => ∃ x r, xs = x :: r ∧ Rep H N d x ∧ RepL H N ds r
end
def FRep (H : Hp) (N : NS) (fs : List (Str × D)) (gs : List (Str × V)) : Prop := gs.map (·.1) = fs.map (·.1) ∧ RepL K H N (fs.map (·.2)) (gs.map (·.2))
def ORep (H : Hp) (h : DH) (N : NS) (a : Addr) : DO → Prop
  | .lst ds => ∃ xs, H a = some (.lst xs) ∧ RepL K H N ds xs
  | .ins C fs => ∃ dx gs, H a = some (.ins C dx gs) ∧ FRep K H N fs gs
  | .exd fs => ∃ gs, H a = some (.xd gs) ∧ FRep K H N fs gs
structure HRep (H : Hp) (h : DH) (N : NS) : Prop where
  at_ : ∀ a o, h a = some o → ORep K H h N a o
  un : ∀ a o, h a = some o → N a
end
/-- what was tracked and not in h stays, frozen or not as it was -/
def Ext (H : Hp) (h : DH) (N : NS) (H' : Hp) (h' : DH) (N' : NS) : Prop := ∀ a u, H a = some u → h a = none → H' a = some u ∧ h' a = none ∧ (N' a ↔ N a)
theorem Ext.refl (H : Hp) (h : DH) (N : NS) : Ext H h N H h N := fun _ _ e n => ⟨e, n, Iff.rfl⟩
theorem Ext.trans {H H1 H2 : Hp} {h h1 h2 : DH} {N N1 N2 : NS} (a : Ext H h N H1 h1 N1) (b : Ext H1 h1 N1 H2 h2 N2) : Ext H h N H2 h2 N2 := fun x u e n => by
  obtain ⟨e1, n1, i1⟩ := a x u e n
  obtain ⟨e2, n2, i2⟩ := b x u e1 n1
  exact ⟨e2, n2, i2.trans i1⟩

section
variable {K : PySem.W.Frag} {H H' : Hp} {h h' : DH} {N N' : NS}
theorem FzL.sq {a : Addr} {xs : List V} (f : FzL K H N a xs) : SqL K H a xs := f.elim (fun z => .inl z.2) .inr
theorem FzT.sq {a : Addr} {xs : List V} (f : FzT K H N a xs) : SqT K H a xs := f.elim (fun z => .inl z.2) .inr
theorem rd_ext {a : Addr} {u : HO} (un : ∀ a o, h a = some o → N a) (e : Ext H h N H' h' N') (n : ¬ N a) (r : Rd H a u) : ¬ N' a ∧ Rd H' a u := by
  have hn : h a = none := by
    cases q : h a with
    | none => rfl
    | some o => exact absurd (un a o q) n
  rcases r with r | ⟨o, r⟩
  · obtain ⟨e1, _, i⟩ := e a _ r hn
    exact ⟨fun z => n (i.mp z), .inl e1⟩
  · obtain ⟨e1, _, i⟩ := e a _ r hn
    exact ⟨fun z => n (i.mp z), .inr ⟨o, e1⟩⟩
mutual
theorem Rep.ext (un : ∀ a o, h a = some o → N a) (e : Ext H h N H' h' N') : ∀ (d : D) (v : V), Rep K H N d v → Rep K H' N' d v
  | .non, _, r => r
  | .bl _, _, r => r
  | .int _, _, r => r
  | .str _, _, r => r
  | .tup ds, v, r => by
    simp only [Rep] at r ⊢
    obtain ⟨a, xs, e1, f, r⟩ := r
    exact ⟨a, xs, e1, f.elim (fun z => .inl (rd_ext un e z.1 z.2)) .inr, RepL.ext un e ds xs r⟩
  | .lst ds, v, r => by
    simp only [Rep] at r ⊢
    obtain ⟨a, xs, e1, f, r⟩ := r
    exact ⟨a, xs, e1, rd_ext un e f.1 f.2, RepL.ext un e ds xs r⟩
  | .scr ns, v, r => by
    simp only [Rep] at r ⊢
    obtain ⟨a, e1, f⟩ := r
    exact ⟨a, e1, f.elim (fun z => .inl (rd_ext un e z.1 z.2)) .inr⟩
  | .dct, v, r => by
    simp only [Rep] at r ⊢
    obtain ⟨a, e1, n, r⟩ := r
    obtain ⟨n', r'⟩ := rd_ext un e n r
    exact ⟨a, e1, n', r'⟩
  | .ref _, _, r => r
theorem RepL.ext (un : ∀ a o, h a = some o → N a) (e : Ext H h N H' h' N') : ∀ (ds : List D) (xs : List V), RepL K H N ds xs → RepL K H' N' ds xs
  | [], _, r => r
  | d :: ds, xs, r => by
    simp only [RepL] at r ⊢
    obtain ⟨x, t, e1, r1, r2⟩ := r
    exact ⟨x, t, e1, Rep.ext un e d x r1, RepL.ext un e ds t r2⟩
end
theorem FRep.ext (un : ∀ a o, h a = some o → N a) (e : Ext H h N H' h' N') {fs : List (Str × D)} {gs : List (Str × V)} (r : FRep K H N fs gs) : FRep K H' N' fs gs := ⟨r.1, RepL.ext un e _ _ r.2⟩

/-! lists of representations -/
theorem RepL.nil : RepL K H N [] [] := rfl
theorem RepL.cons {d : D} {v : V} {ds : List D} {vs : List V} (a : Rep K H N d v) (b : RepL K H N ds vs) : RepL K H N (d :: ds) (v :: vs) := ⟨v, vs, rfl, a, b⟩
theorem RepL.length : ∀ {ds : List D} {vs : List V}, RepL K H N ds vs → vs.length = ds.length
  | [], _, r => by cases (show _ = _ from r); rfl
  | d :: ds, vs, r => by
    obtain ⟨x, t, rfl, _, r2⟩ := r
    rw [List.length_cons, List.length_cons, RepL.length r2]
theorem RepL.get : ∀ {ds : List D} {vs : List V} {i : Nat} {v : V}, RepL K H N ds vs → vs[i]? = some v → ∃ d, ds[i]? = some d ∧ Rep K H N d v
  | [], _, _, _, r, e => by cases (show _ = _ from r); simp at e
  | d :: ds, vs, 0, v, r, e => by
    obtain ⟨x, t, rfl, r1, r2⟩ := r
    simp at e; subst e
    exact ⟨d, rfl, r1⟩
  | d :: ds, vs, i + 1, v, r, e => by
    obtain ⟨x, t, rfl, r1, r2⟩ := r
    simp at e
    obtain ⟨d', h1, h2⟩ := RepL.get r2 e
    exact ⟨d', by simpa using h1, h2⟩
theorem RepL.getD : ∀ {ds : List D} {vs : List V} {i : Nat} {d : D}, RepL K H N ds vs → ds[i]? = some d → ∃ v, vs[i]? = some v ∧ Rep K H N d v
  | [], _, _, _, _, e => by simp at e
  | d :: ds, vs, 0, d', r, e => by
    obtain ⟨x, t, rfl, r1, r2⟩ := r
    simp at e; subst e
    exact ⟨x, rfl, r1⟩
  | d :: ds, vs, i + 1, d', r, e => by
    obtain ⟨x, t, rfl, r1, r2⟩ := r
    simp at e
    obtain ⟨v, h1, h2⟩ := RepL.getD r2 e
    exact ⟨v, by simpa using h1, h2⟩
theorem RepL.append : ∀ {ds es : List D} {vs ws : List V}, RepL K H N ds vs → RepL K H N es ws → RepL K H N (ds ++ es) (vs ++ ws)
  | [], _, _, _, r, s => by cases (show _ = _ from r); exact s
  | d :: ds, es, vs, ws, r, s => by
    obtain ⟨x, t, rfl, r1, r2⟩ := r
    exact ⟨x, t ++ ws, rfl, r1, RepL.append r2 s⟩
theorem RepL.take : ∀ {ds : List D} {vs : List V} (n : Nat), RepL K H N ds vs → RepL K H N (ds.take n) (vs.take n)
  | _, _, 0, _ => rfl
  | [], _, _ + 1, r => by cases (show _ = _ from r); rfl
  | d :: ds, vs, n + 1, r => by
    obtain ⟨x, t, rfl, r1, r2⟩ := r
    exact ⟨x, t.take n, rfl, r1, RepL.take n r2⟩
theorem RepL.drop : ∀ {ds : List D} {vs : List V} (n : Nat), RepL K H N ds vs → RepL K H N (ds.drop n) (vs.drop n)
  | _, _, 0, r => r
  | [], _, _ + 1, r => by cases (show _ = _ from r); rfl
  | d :: ds, vs, n + 1, r => by
    obtain ⟨x, t, rfl, r1, r2⟩ := r
    exact RepL.drop n r2
theorem RepL.set : ∀ {ds : List D} {vs : List V} {d : D} {v : V} (i : Nat), Rep K H N d v → RepL K H N ds vs → RepL K H N (ds.set i d) (vs.set i v)
  | [], _, _, _, _, _, r => by cases (show _ = _ from r); exact rfl
  | _ :: ds, vs, d, v, 0, a, r => by
    obtain ⟨x, t, rfl, r1, r2⟩ := r
    exact ⟨v, t, rfl, a, r2⟩
  | c :: ds, vs, d, v, i + 1, a, r => by
    obtain ⟨x, t, rfl, r1, r2⟩ := r
    exact ⟨x, t.set i v, rfl, r1, RepL.set i a r2⟩
theorem RepL.reverse {ds : List D} {vs : List V} (r : RepL K H N ds vs) : RepL K H N ds.reverse vs.reverse := by
  induction ds generalizing vs with
  | nil => cases (show _ = _ from r); rfl
  | cons d ds ih =>
    obtain ⟨x, t, rfl, r1, r2⟩ := r
    rw [List.reverse_cons, List.reverse_cons]
    exact (ih r2).append ⟨x, [], rfl, r1, rfl⟩
theorem RepL.eraseIdx : ∀ {ds : List D} {vs : List V} (i : Nat), RepL K H N ds vs → RepL K H N (ds.eraseIdx i) (vs.eraseIdx i)
  | [], _, _, r => by cases (show _ = _ from r); exact rfl
  | _ :: ds, vs, 0, r => by
    obtain ⟨x, t, rfl, r1, r2⟩ := r
    exact r2
  | c :: ds, vs, i + 1, r => by
    obtain ⟨x, t, rfl, r1, r2⟩ := r
    exact ⟨x, t.eraseIdx i, rfl, r1, RepL.eraseIdx i r2⟩
theorem RepL.ints : ∀ {is : List Int} {vs : List V}, RepL K H N (is.map D.int) vs → vs = is.map V.int
  | [], _, r => r
  | i :: is, vs, r => by
    obtain ⟨x, t, rfl, r1, r2⟩ := r
    cases (show x = _ from r1)
    rw [RepL.ints r2]
    rfl
theorem RepL.of_ints : ∀ (is : List Int), RepL K H N (is.map D.int) (is.map V.int)
  | [] => rfl
  | i :: is => ⟨_, _, rfl, rfl, RepL.of_ints is⟩
theorem RepL.strs : ∀ {is : List Str} {vs : List V}, RepL K H N (is.map D.str) vs → vs = is.map V.str
  | [], _, r => r
  | i :: is, vs, r => by
    obtain ⟨x, t, rfl, r1, r2⟩ := r
    cases (show x = _ from r1)
    rw [RepL.strs r2]
    rfl
theorem RepL.of_strs : ∀ (is : List Str), RepL K H N (is.map D.str) (is.map V.str)
  | [] => rfl
  | i :: is => ⟨_, _, rfl, rfl, RepL.of_strs is⟩
theorem RepL.bls : ∀ {is : List Bool} {vs : List V}, RepL K H N (is.map D.bl) vs → vs = is.map V.bl
  | [], _, r => r
  | i :: is, vs, r => by
    obtain ⟨x, t, rfl, r1, r2⟩ := r
    cases (show x = _ from r1)
    rw [RepL.bls r2]
    rfl

/-! the heaps -/
theorem HRep.none (R : HRep K H h N) {a : Addr} (n : H a = none) : h a = none := by
  cases q : h a with
  | none => rfl
  | some o =>
    have z := R.at_ a o q
    cases o with
    | lst ds => obtain ⟨xs, e, _⟩ := z; rw [n] at e; cases e
    | ins C fs => obtain ⟨dx, gs, e, _⟩ := z; rw [n] at e; cases e
    | exd fs => obtain ⟨gs, e, _⟩ := z; rw [n] at e; cases e
/-- ORep at other heaps -/
theorem ORep.ext (un : ∀ a o, h a = some o → N a) (e : Ext H h N H' h' N') {a : Addr} {o : DO} (keep : ∀ u, H a = some u → H' a = some u) (r : ORep K H h N a o) : ORep K H' h' N' a o := by
  cases o with
  | lst ds => obtain ⟨xs, q, r⟩ := r; exact ⟨xs, keep _ q, RepL.ext un e _ _ r⟩
  | ins C fs => obtain ⟨dx, gs, q, r⟩ := r; exact ⟨dx, gs, keep _ q, r.ext un e⟩
  | exd fs => obtain ⟨gs, q, r⟩ := r; exact ⟨gs, keep _ q, r.ext un e⟩
/-- a new thing that is not tracked here: frozen -/
theorem HRep.new (R : HRep K H h N) {p : Addr} {o : HO} (n : H p = .none) : HRep K (upd H p o) h (fun a => N a ∧ a ≠ p) ∧ Ext H h N (upd H p o) h (fun a => N a ∧ a ≠ p) := by
  have e : Ext H h N (upd H p o) h (fun a => N a ∧ a ≠ p) := fun a u q hn => by
    have hp : a ≠ p := ne_of_none q n
    exact ⟨by rw [upd_ne hp]; exact q, hn, ⟨fun z => z.1, fun z => ⟨z, hp⟩⟩⟩
  have np : ∀ a o, h a = some o → a ≠ p := fun a o q z => by subst z; rw [R.none n] at q; cases q
  exact ⟨⟨fun a o q => (R.at_ a o q).ext R.un e fun u z => by rw [upd_ne (np a o q)]; exact z, fun a o q => ⟨R.un a o q, np a o q⟩⟩, e⟩
/-- a new thing that may change -/
theorem HRep.newM (R : HRep K H h N) {p : Addr} {o : HO} {d : DO} (n : H p = .none) (ho : ORep K (upd H p o) (dupd h p d) (fun a => N a ∨ a = p) p d) :
    HRep K (upd H p o) (dupd h p d) (fun a => N a ∨ a = p) ∧ Ext H h N (upd H p o) (dupd h p d) (fun a => N a ∨ a = p) := by
  have e : Ext H h N (upd H p o) (dupd h p d) (fun a => N a ∨ a = p) := fun a u q hn => by
    have hp : a ≠ p := ne_of_none q n
    exact ⟨by rw [upd_ne hp]; exact q, by rw [dupd_ne hp]; exact hn, ⟨fun z => z.elim id fun z => absurd z hp, .inl⟩⟩
  refine ⟨⟨fun a u q => ?_, fun a u q => ?_⟩, e⟩
  · by_cases hp : a = p
    · subst hp; rw [dupd_same] at q; cases q; exact ho
    · rw [dupd_ne hp] at q
      exact (R.at_ a u q).ext R.un e fun w z => by rw [upd_ne hp]; exact z
  · by_cases hp : a = p
    · exact .inr hp
    · rw [dupd_ne hp] at q
      exact .inl (R.un a u q)
/-- a thing of h is changed -/
theorem HRep.mut (R : HRep K H h N) {p : Addr} {o : HO} {d d' : DO} (hp : h p = some d) (ho : ORep K (upd H p o) (dupd h p d') N p d') :
    HRep K (upd H p o) (dupd h p d') N ∧ Ext H h N (upd H p o) (dupd h p d') N := by
  have e : Ext H h N (upd H p o) (dupd h p d') N := fun a u q hn => by
    have hne : a ≠ p := fun z => by subst z; rw [hp] at hn; cases hn
    exact ⟨by rw [upd_ne hne]; exact q, by rw [dupd_ne hne]; exact hn, Iff.rfl⟩
  refine ⟨⟨fun a u q => ?_, fun a u q => ?_⟩, e⟩
  · by_cases hne : a = p
    · subst hne; rw [dupd_same] at q; cases q; exact ho
    · rw [dupd_ne hne] at q
      exact (R.at_ a u q).ext R.un e fun w z => by rw [upd_ne hne]; exact z
  · by_cases hne : a = p
    · subst hne; exact R.un _ _ hp
    · rw [dupd_ne hne] at q
      exact R.un a u q
/-- less is tracked -/
theorem HRep.sub (R : HRep K H h' N) (s : DSub h h') : HRep K H h N := by
  have e : Ext H h' N H h N := fun a u q hn => ⟨q, s.none hn, Iff.rfl⟩
  exact ⟨fun a o q => (R.at_ a o (s a o q)).ext R.un e fun _ z => z, fun a o q => R.un a o (s a o q)⟩
theorem Ext.sub {H0 : Hp} {h0 : DH} {N0 : NS} (e : Ext H0 h0 N0 H h' N) (s : DSub h h') : Ext H0 h0 N0 H h N := fun a u q hn => by
  obtain ⟨e1, n1, i⟩ := e a u q hn
  exact ⟨e1, s.none n1, i⟩
/-- a list is frozen -/
theorem HRep.freeze (R : HRep K H h N) {p : Addr} {ds : List D} (hp : h p = some (.lst ds)) :
    HRep K H (ddel h p) (fun a => N a ∧ a ≠ p) ∧ Ext H h N H (ddel h p) (fun a => N a ∧ a ≠ p) ∧ Rep K H (fun a => N a ∧ a ≠ p) (.lst ds) (.ref p) := by
  have e : Ext H h N H (ddel h p) (fun a => N a ∧ a ≠ p) := fun a u q hn => by
    have hne : a ≠ p := fun z => by subst z; rw [hp] at hn; cases hn
    exact ⟨q, by rw [ddel_ne hne]; exact hn, ⟨fun z => z.1, fun z => ⟨z, hne⟩⟩⟩
  refine ⟨⟨fun a u q => ?_, fun a u q => ?_⟩, e, ?_⟩
  · by_cases hne : a = p
    · subst hne; rw [ddel_same] at q; cases q
    · rw [ddel_ne hne] at q
      exact (R.at_ a u q).ext R.un e fun _ z => z
  · by_cases hne : a = p
    · subst hne; rw [ddel_same] at q; cases q
    · rw [ddel_ne hne] at q
      exact ⟨R.un a u q, hne⟩
  · obtain ⟨xs, q, r⟩ := R.at_ p _ hp
    exact ⟨p, xs, rfl, ⟨fun z => z.2 rfl, .inl q⟩, RepL.ext R.un e _ _ r⟩
end

/-! ### readings over data -/
abbrev DSt := List (Option D)
abbrev FS := List (Str × D)
abbrev DK := D → DH → Prop
/-- an exception: its class, its fields, the heap -/
abbrev DX := Addr → FS → DH → Prop
abbrev DE := DSt → DH → DK → DX → Prop
abbrev DT := DSt → DH → (Bool → DH → Prop) → DX → Prop
abbrev DA := DSt → DH → (List D → DH → Prop) → DX → Prop
structure DEnds where
  nx : DSt → DH → Prop
  rt : DK
  bk : DSt → DH → Prop := fun _ _ => False
  ct : DSt → DH → Prop := fun _ _ => False
  ex : Addr → FS → DSt → DH → Prop := fun _ _ _ _ => False
abbrev DS := DEnds → DSt → DH → Prop
abbrev DSp := List D → DH → DK → DX → Prop

section
variable (K : PySem.W.Frag)
structure SRep (H : Hp) (N : NS) (τ : DSt) (σ : L2.St) : Prop where
  len : σ.length = τ.length
  get : ∀ (i : Nat) d, τ[i]? = some (some d) → ∃ v, σ[i]? = some (some v) ∧ Rep K H N d v
def XRep (H : Hp) (N : NS) (fs : FS) : Option Addr → Prop
  | none => fs = []
  | some dx => fs ≠ [] ∧ ∃ gs, H dx = some (.xd gs) ∧ FRep K H N fs gs
def EXc (W : WX) (σ : L2.St) (H : Hp) (h : DH) (N : NS) (X0 : DX) : Prop := ∀ C fs h' N' H' d, X0 C fs h' → Ext H h N H' h' N' → HRep K H' h' N' → XRep K H' N' fs d → W (.ref C) d σ H'
def Post (H : Hp) (h : DH) (N : NS) (Q0 : DK) (Q : VK) : Prop := ∀ d h' N' v H', Q0 d h' → Ext H h N H' h' N' → HRep K H' h' N' → Rep K H' N' d v → Q v H'
def PostT (H : Hp) (h : DH) (N : NS) (Q0 : Bool → DH → Prop) (Q : Bool → Hp → Prop) : Prop := ∀ d h' N' H', Q0 d h' → Ext H h N H' h' N' → HRep K H' h' N' → Q d H'
def PostA (H : Hp) (h : DH) (N : NS) (Q0 : List D → DH → Prop) (Q : List V → Hp → Prop) : Prop := ∀ d h' N' v H', Q0 d h' → Ext H h N H' h' N' → HRep K H' h' N' → RepL K H' N' d v → Q v H'
def liftE (W : WX) (t : DE) : TE := fun σ H Q => ∃ τ h N Q0 X0, SRep K H N τ σ ∧ HRep K H h N ∧ t τ h Q0 X0 ∧ Post K H h N Q0 Q ∧ EXc K W σ H h N X0
def liftT (W : WX) (t : DT) : TT := fun σ H Q => ∃ τ h N Q0 X0, SRep K H N τ σ ∧ HRep K H h N ∧ t τ h Q0 X0 ∧ PostT K H h N Q0 Q ∧ EXc K W σ H h N X0
def liftA (W : WX) (t : DA) : TA := fun σ H Q => ∃ τ h N Q0 X0, SRep K H N τ σ ∧ HRep K H h N ∧ t τ h Q0 X0 ∧ PostA K H h N Q0 Q ∧ EXc K W σ H h N X0
structure Under (W : WX) (H : Hp) (h : DH) (N : NS) (D0 : DEnds) (D : Ends) : Prop where
  nx : ∀ τ' h' N' σ' H', D0.nx τ' h' → Ext H h N H' h' N' → SRep K H' N' τ' σ' → HRep K H' h' N' → D.nx σ' H'
  rt : Post K H h N D0.rt D.rt
  bk : ∀ τ' h' N' σ' H', D0.bk τ' h' → Ext H h N H' h' N' → SRep K H' N' τ' σ' → HRep K H' h' N' → D.bk σ' H'
  ct : ∀ τ' h' N' σ' H', D0.ct τ' h' → Ext H h N H' h' N' → SRep K H' N' τ' σ' → HRep K H' h' N' → D.ct σ' H'
  ex : ∀ C fs τ' h' N' σ' H' d, D0.ex C fs τ' h' → Ext H h N H' h' N' → SRep K H' N' τ' σ' → HRep K H' h' N' → XRep K H' N' fs d → W (.ref C) d σ' H'
def liftS (W : WX) (t : DS) : TS := fun D σ H => ∃ τ h N D0, SRep K H N τ σ ∧ HRep K H h N ∧ t D0 τ h ∧ Under K W H h N D0 D
def liftSp (sp : DSp) : Sp := fun vs H Q E => ∃ ds h N Q0 X0, RepL K H N ds vs ∧ HRep K H h N ∧ sp ds h Q0 X0 ∧ Post K H h N Q0 Q ∧ EXc K (fun c d _ H => E c d H) [] H h N X0
end
section
variable {K : PySem.W.Frag} {W : WX} {H H' H1 : Hp} {h h' h1 : DH} {N N' N1 : NS} {τ : DSt} {σ : L2.St}
theorem SRep.ext (un : ∀ a o, h a = some o → N a) (e : Ext H h N H' h' N') (r : SRep K H N τ σ) : SRep K H' N' τ σ := ⟨r.len, fun i d q => by
  obtain ⟨v, e1, r1⟩ := r.get i d q
  exact ⟨v, e1, Rep.ext un e _ _ r1⟩⟩
theorem SRep.set {i : Nat} {d : D} {v : V} (r : SRep K H N τ σ) (rv : Rep K H N d v) : SRep K H N (τ.set i (some d)) (σ.set i (some v)) := ⟨by rw [List.length_set, List.length_set]; exact r.len, fun j d' q => by
  by_cases hj : i = j
  · subst hj
    by_cases hi : i < τ.length
    · rw [List.getElem?_set_self hi] at q
      cases q
      exact ⟨v, List.getElem?_set_self (by rw [r.len]; exact hi), rv⟩
    · rw [List.getElem?_eq_none_iff.mpr (by rw [List.length_set]; omega)] at q
      cases q
  · rw [List.getElem?_set_ne hj] at q
    obtain ⟨v', e1, r1⟩ := r.get j d' q
    exact ⟨v', by rw [List.getElem?_set_ne hj]; exact e1, r1⟩⟩
theorem Post.ext (e : Ext H h N H1 h1 N1) {Q0 : DK} {Q : VK} (p : Post K H h N Q0 Q) : Post K H1 h1 N1 Q0 Q := fun d h' N' v H' q e' R r => p d h' N' v H' q (e.trans e') R r
theorem PostT.ext (e : Ext H h N H1 h1 N1) {Q0 : Bool → DH → Prop} {Q : Bool → Hp → Prop} (p : PostT K H h N Q0 Q) : PostT K H1 h1 N1 Q0 Q := fun d h' N' H' q e' R => p d h' N' H' q (e.trans e') R
theorem PostA.ext (e : Ext H h N H1 h1 N1) {Q0 : List D → DH → Prop} {Q : List V → Hp → Prop} (p : PostA K H h N Q0 Q) : PostA K H1 h1 N1 Q0 Q := fun d h' N' v H' q e' R r => p d h' N' v H' q (e.trans e') R r
theorem EXc.ext (e : Ext H h N H1 h1 N1) {X0 : DX} (p : EXc K W σ H h N X0) : EXc K W σ H1 h1 N1 X0 := fun C fs h' N' H' d q e' R r => p C fs h' N' H' d q (e.trans e') R r
theorem Under.ext (e : Ext H h N H1 h1 N1) {D0 : DEnds} {D : Ends} (u : Under K W H h N D0 D) : Under K W H1 h1 N1 D0 D :=
  ⟨fun τ' h' N' σ' H' q e' => u.nx τ' h' N' σ' H' q (e.trans e'), u.rt.ext e, fun τ' h' N' σ' H' q e' => u.bk τ' h' N' σ' H' q (e.trans e'), fun τ' h' N' σ' H' q e' => u.ct τ' h' N' σ' H' q (e.trans e'), fun C fs τ' h' N' σ' H' d q e' => u.ex C fs τ' h' N' σ' H' d q (e.trans e')⟩
/-- a wish of an expression out of the wish of a statement -/
theorem Under.exc {D0 : DEnds} {D : Ends} (u : Under K W H h N D0 D) (S : SRep K H N τ σ) (un : ∀ a o, h a = some o → N a) : EXc K W σ H h N (fun C fs h' => D0.ex C fs τ h') := fun C fs h' N' H' d q e R r =>
  u.ex C fs τ h' N' σ H' d q e (S.ext un e) R r
end

/-! weaker readings -/
theorem PE.imp {X : Cx} {e : Expr} {t t' : TE} (p : PE X e t) (i : ∀ σ H Q, t' σ H Q → t σ H Q) : PE X e t' := ⟨fun pins s σ H Q I h => p.run pins s σ H Q I (i σ H Q h)⟩
theorem PT.imp {X : Cx} {e : Expr} {t t' : TT} (p : PT X e t) (i : ∀ σ H Q, t' σ H Q → t σ H Q) : PT X e t' := ⟨fun pins s σ H Q I h => p.run pins s σ H Q I (i σ H Q h)⟩
theorem PA.imp {X : Cx} {e : List Expr} {t t' : TA} (p : PA X e t) (i : ∀ σ H Q, t' σ H Q → t σ H Q) : PA X e t' := ⟨fun pos pins s σ H Q I h => p.run pos pins s σ H Q I (i σ H Q h)⟩
theorem PS.imp {X : Cx} {e : Stmt} {t t' : TS} (p : PS X e t) (i : ∀ D σ H, t' D σ H → t D σ H) : PS X e t' := ⟨fun pins s σ H D I h => p.run pins s σ H D I (i D σ H h)⟩
theorem PSs.imp {X : Cx} {e : List Stmt} {t t' : TS} (p : PSs X e t) (i : ∀ D σ H, t' D σ H → t D σ H) : PSs X e t' := ⟨fun pins s σ H D I h => p.run pins s σ H D I (i D σ H h)⟩
end DL

/-! D2: expressions over data. -/
namespace DL
open PySem PySem.Spec L2 PyProof.Rows

/-! ### combinators -/
def dVar (i : Nat) : DE := fun τ h Q _ => match τ[i]? with | some (some d) => Q d h | _ => False
def dC (d : D) : DE := fun _ h Q _ => Q d h
def dOp (r : D → D → DH → DK → Prop) (ta tb : DE) : DE := fun τ h Q X => ta τ h (fun x h1 => tb τ h1 (fun y h2 => r x y h2 Q) X) X
def dUn (r : D → DH → DK → Prop) (ta : DE) : DE := fun τ h Q X => ta τ h (fun x h1 => r x h1 Q) X
def dTest (t : DE) : DT := fun τ h Q X => t τ h (fun x h1 => match x with | .bl b => Q b h1 | _ => False) X
def dAnd (t u : DT) : DT := fun τ h Q X => t τ h (fun c h1 => (c = true → u τ h1 Q X) ∧ (c = false → Q false h1)) X
def dOr (t u : DT) : DT := fun τ h Q X => t τ h (fun c h1 => (c = true → Q true h1) ∧ (c = false → u τ h1 Q X)) X
def dNot (t : DT) : DT := fun τ h Q X => t τ h (fun c h1 => Q (!c) h1) X
def dAndV (t u : DE) : DE := fun τ h Q X => t τ h (fun x h1 => match x with | .bl c => (c = true → u τ h1 Q X) ∧ (c = false → Q (.bl false) h1) | _ => False) X
def dOrV (t u : DE) : DE := fun τ h Q X => t τ h (fun x h1 => match x with | .bl c => (c = true → Q (.bl true) h1) ∧ (c = false → u τ h1 Q X) | _ => False) X
def dNotV (t : DE) : DE := fun τ h Q X => t τ h (fun x h1 => match x with | .bl c => Q (.bl (!c)) h1 | _ => False) X
def dIfE (t : DT) (ta tb : DE) : DE := fun τ h Q X => t τ h (fun c h1 => (c = true → ta τ h1 Q X) ∧ (c = false → tb τ h1 Q X)) X
def dChain (r r' : D → D → DH → DK → Prop) (ta tb tc : DE) : DE := fun τ h Q X => ta τ h (fun x h1 => tb τ h1 (fun y h2 => r x y h2 (fun z h3 => match z with
  | .bl k => (k = true → tc τ h3 (fun w h4 => r' y w h4 Q) X) ∧ (k = false → Q (.bl false) h3)
  | _ => False)) X) X
def dNil : DA := fun _ h Q _ => Q [] h
def dCons (ta : DE) (tr : DA) : DA := fun τ h Q X => ta τ h (fun x h1 => tr τ h1 (fun xs h2 => Q (x :: xs) h2) X) X
def dTup (t : DA) : DE := fun τ h Q X => t τ h (fun xs h1 => xs.length ≤ sizeLine ∧ Q (.tup xs) h1) X
/-- a new list, never changed | one that will change -/
def dLst (t : DA) : DE := fun τ h Q X => t τ h (fun xs h1 => xs.length ≤ sizeLine ∧ Q (.lst xs) h1) X
def dLstM (t : DA) : DE := fun τ h Q X => t τ h (fun xs h1 => xs.length ≤ sizeLine ∧ ∀ p, h1 p = none → Q (.ref p) (dupd h1 p (.lst xs))) X
def dCB (r : List D → DH → DK → Prop) (t : DA) : DE := fun τ h Q X => t τ h (fun xs h1 => r xs h1 Q) X
def dTy (T : String) (x : D) (h : DH) : Prop := match x with
  | .str _ => T = "str"
  | .int _ => T = "int"
  | .lst _ => T = "list"
  | .scr _ => T = "list"
  | .ref a => T = "list" ∧ ∃ ds, h a = some (.lst ds)
  | _ => False
def dBM (T : String) (r : D → List D → DH → DK → Prop) (to : DE) (t : DA) : DE := fun τ h Q X => to τ h (fun x h1 => dTy T x h1 ∧ t τ h1 (fun xs h2 => r x xs h2 Q) X) X
/-- a tracked list is never changed from here on -/
def dFrz (t : DE) : DE := fun τ h Q X => t τ h (fun x h1 => match x with
  | .ref a => (match h1 a with | some (.lst ds) => Q (.lst ds) (ddel h1 a) | _ => False)
  | x => Q x h1) X
abbrev DO' := DSt → DH → (Option Int → DH → Prop) → DX → Prop
def dNoPart : DO' := fun _ h Q _ => Q none h
def dPart (t : DE) : DO' := fun τ h Q X => t τ h (fun x h1 => match x with | .int i => Q (some i) h1 | _ => False) X
def dSl (r : D → Option Int → Option Int → DH → DK → Prop) (te : DE) (tl th : DO') : DE := fun τ h Q X => te τ h (fun x h1 => tl τ h1 (fun l h2 => th τ h2 (fun u h3 => r x l u h3 Q) X) X) X

/-! ### by values -/
section
variable (K : PySem.W.Frag)
def lift2 (r : D → D → DH → DK → Prop) : R2 := fun v u H Q => ∃ x y h N Q0, Rep K H N x v ∧ Rep K H N y u ∧ HRep K H h N ∧ r x y h Q0 ∧ Post K H h N Q0 Q
def lift1 (r : D → DH → DK → Prop) : V → Hp → VK → Prop := fun v H Q => ∃ x h N Q0, Rep K H N x v ∧ HRep K H h N ∧ r x h Q0 ∧ Post K H h N Q0 Q
def liftC (r : List D → DH → DK → Prop) : List V → Hp → VK → Prop := fun vs H Q => ∃ xs h N Q0, RepL K H N xs vs ∧ HRep K H h N ∧ r xs h Q0 ∧ Post K H h N Q0 Q
def liftM (r : D → List D → DH → DK → Prop) : V → List V → Hp → VK → Prop := fun v vs H Q => ∃ x xs h N Q0, Rep K H N x v ∧ RepL K H N xs vs ∧ HRep K H h N ∧ r x xs h Q0 ∧ Post K H h N Q0 Q
def liftSl (r : D → Option Int → Option Int → DH → DK → Prop) : V → Option Int → Option Int → Hp → VK → Prop := fun v lo hi H Q => ∃ x h N Q0, Rep K H N x v ∧ HRep K H h N ∧ r x lo hi h Q0 ∧ Post K H h N Q0 Q
def liftO (W : WX) (t : DO') : TO := fun σ H Q => ∃ τ h N Q0 X0, SRep K H N τ σ ∧ HRep K H h N ∧ t τ h Q0 X0 ∧ (∀ o h' N' H', Q0 o h' → Ext H h N H' h' N' → HRep K H' h' N' → Q o H') ∧ EXc K W σ H h N X0
end

section
variable {X : Cx} {W : WX} {a b c e o : Expr} {es rest : List Expr} {ta tb tc te : DE} {t u : DT} {pos pos' : Pos} {r r' : D → D → DH → DK → Prop} {tr : DA}
abbrev DEp (X : Cx) (W : WX) (e : Expr) (t : DE) : Prop := PE X e (liftE X.K W t)
abbrev DTp (X : Cx) (W : WX) (e : Expr) (t : DT) : Prop := PT X e (liftT X.K W t)
abbrev DTw (X : Cx) (W : WX) (e : Expr) (t : DT) : Prop := PW X e (liftT X.K W t)
abbrev DAp (X : Cx) (W : WX) (e : List Expr) (t : DA) : Prop := PA X e (liftA X.K W t)
abbrev DSp' (X : Cx) (W : WX) (e : Stmt) (t : DS) : Prop := PS X e (liftS X.K W t)
abbrev DSs (X : Cx) (W : WX) (e : List Stmt) (t : DS) : Prop := PSs X e (liftS X.K W t)
abbrev DOp (X : Cx) (W : WX) (e : Option Expr) (t : DO') : Prop := PO X e (liftO X.K W t)
abbrev OpD (X : Cx) (f : Value → Value → Sem Value) (r : D → D → DH → DK → Prop) : Prop := OpR X f (lift2 X.K r)
abbrev CallD (X : Cx) (f : Value) (r : List D → DH → DK → Prop) : Prop := CallR X f (liftC X.K r)
abbrev MtD (X : Cx) (id : String) (r : D → List D → DH → DK → Prop) : Prop := MtR X id (liftM X.K r)
abbrev SlD (X : Cx) (r : D → Option Int → Option Int → DH → DK → Prop) : Prop := SlR X (liftSl X.K r)
abbrev IxD (X : Cx) (r : D → D → DH → DK → Prop) : Prop := IxR X (lift2 X.K r)

theorem PW.imp {X : Cx} {e : Expr} {t t' : TT} (p : PW X e t) (i : ∀ σ H Q, t' σ H Q → t σ H Q) : PW X e t' := ⟨fun wh pins s σ H Q I h => p.run wh pins s σ H Q I (i σ H Q h)⟩
theorem PO.imp {X : Cx} {e : Option Expr} {t t' : TO} (p : PO X e t) (i : ∀ σ H Q, t' σ H Q → t σ H Q) : PO X e t' := ⟨fun pins s σ H Q I h => p.run pins s σ H Q I (i σ H Q h)⟩

/-- a value that costs nothing -/
theorem post_at {K : PySem.W.Frag} {H : Hp} {h : DH} {N : NS} {Q0 : DK} {Q : VK} (p : Post K H h N Q0 Q) (R : HRep K H h N) {d : D} {v : V} (q : Q0 d h) (r : Rep K H N d v) : Q v H := p d h N v H q (Ext.refl _ _ _) R r

theorem d_var (i : Nat) {x : Str} {pos : Pos} (hN : X.N[i]? = some x := by rfl) (hv : Vis X.env.scope x := by first | exact Or.inl rfl | exact Or.inr (Or.inl rfl) | exact Or.inr (Or.inr rfl)) (hd : (x == ("__debug__" : Str)) = false := by decide)
    (hcd : (x == ("__classdict__" : Str)) = false := by decide) : DEp X W (.Name x pos) (dVar i) := PE.imp (pe_var hN hv hd hcd) fun σ H Q ⟨τ, h, N, Q0, X0, S, R, t, p, ex⟩ => by
  unfold dVar at t
  cases e : τ[i]? with
  | none => rw [e] at t; exact t.elim
  | some o =>
    cases o with
    | none => rw [e] at t; exact t.elim
    | some d =>
      rw [e] at t
      obtain ⟨v, ev, rv⟩ := S.get i d e
      exact ⟨v, ev, post_at p R t rv⟩
theorem d_const {d : D} {v : V} (he : PE X e (tC v)) (r : ∀ (H : Hp) N, Rep X.K H N d v) : DEp X W e (dC d) := PE.imp he fun σ H Q ⟨τ, h, N, Q0, X0, S, R, t, p, ex⟩ => post_at p R t (r H N)
theorem d_int {i : Int} {j pos} : DEp X W (.Constant (.int i) j pos) (dC (.int i)) := d_const pe_int fun _ _ => rfl
theorem d_bl {b j pos} : DEp X W (.Constant (.bool b) j pos) (dC (.bl b)) := d_const pe_bl fun _ _ => rfl
theorem d_non {j pos} : DEp X W (.Constant .none j pos) (dC .non) := d_const pe_non fun _ _ => rfl
theorem d_str {x j pos} : DEp X W (.Constant (.str x) j pos) (dC (.str x)) := d_const pe_str fun _ _ => rfl
/-- a module's constant -/
theorem d_globI {x : Str} {i : Int} {u : Value} {pos : Pos} (hg : Gl X x) (hm : X.mg x = some u) (r : RelV (.int i) u) (hd : (x == ("__debug__" : Str)) = false := by decide) : DEp X W (.Name x pos) (dC (.int i)) := d_const (pe_glob hg hm r hd) fun _ _ => rfl
theorem d_globS {x z : Str} {u : Value} {pos : Pos} (hg : Gl X x) (hm : X.mg x = some u) (r : RelV (.str z) u) (hd : (x == ("__debug__" : Str)) = false := by decide) : DEp X W (.Name x pos) (dC (.str z)) := d_const (pe_glob hg hm r hd) fun _ _ => rfl

theorem lift_op {K : PySem.W.Frag} {σ : L2.St} {H : Hp} {Q : VK} (z : liftE K W (dOp r ta tb) σ H Q) : tOp (lift2 K r) (liftE K W ta) (liftE K W tb) σ H Q := by
  obtain ⟨τ, h, N, Q0, X0, S, R, t, p, ex⟩ := z
  refine ⟨τ, h, N, _, X0, S, R, t, fun x h1 N1 v H1 q e R1 rx => ⟨τ, h1, N1, _, X0, S.ext R.un e, R1, q, fun y h2 N2 u H2 q2 e2 R2 ry => ?_, ex.ext e⟩, ex⟩
  exact ⟨x, y, h2, N2, Q0, Rep.ext R1.un e2 _ _ rx, ry, R2, q2, p.ext (e.trans e2)⟩
theorem d_op {op : Operator} (ho : OpD X (binaryOp op) r) (ha : DEp X W a ta) (hb : DEp X W b tb) : DEp X W (.BinOp a op b pos) (dOp r ta tb) := PE.imp (pe_op ho ha hb) fun _ _ _ z => lift_op z
theorem d_cmp {op : CmpOp} (ho : OpD X (compareOp op) r) (ha : DEp X W a ta) (hb : DEp X W b tb) (hm : behindInMarks op b = false := by first | exact nomark _ | with_unfolding_all rfl) : DEp X W (.Compare a [op] [b] pos) (dOp r ta tb) := PE.imp (pe_cmpR ho ha hb hm) fun _ _ _ z => lift_op z
theorem lift_test {K : PySem.W.Frag} {σ : L2.St} {H : Hp} {Q : Bool → Hp → Prop} {T : TE} (hT : ∀ Q, liftE K W te σ H Q → T σ H Q) (z : liftT K W (dTest te) σ H Q) : tTest T σ H Q := by
  obtain ⟨τ, h, N, Q0, X0, S, R, t, p, ex⟩ := z
  refine hT _ ⟨τ, h, N, _, X0, S, R, t, fun x h1 N1 v H1 q e R1 rx => ?_, ex⟩
  cases x with
  | bl b =>
    cases (show v = _ from rx)
    exact ⟨b, rfl, p b h1 N1 H1 q e R1⟩
  | _ => exact q.elim
theorem d_cmpT {op : CmpOp} (ho : OpD X (compareOp op) r) (ha : DEp X W a ta) (hb : DEp X W b tb) (hm : behindInMarks op b = false := by first | exact nomark _ | with_unfolding_all rfl) : DTp X W (.Compare a [op] [b] pos) (dTest (dOp r ta tb)) :=
  PT.imp (pt_cmpR ho ha hb hm) fun _ _ _ z => lift_test (fun _ y => lift_op y) z
theorem lift_chain {K : PySem.W.Frag} {σ : L2.St} {H : Hp} {Q : VK} (z : liftE K W (dChain r r' ta tb tc) σ H Q) : tChain (lift2 K r) (lift2 K r') (liftE K W ta) (liftE K W tb) (liftE K W tc) σ H Q := by
  obtain ⟨τ, h, N, Q0, X0, S, R, t, p, ex⟩ := z
  refine ⟨τ, h, N, _, X0, S, R, t, fun x h1 N1 v H1 q e R1 rx => ⟨τ, h1, N1, _, X0, S.ext R.un e, R1, q, fun y h2 N2 u H2 q2 e2 R2 ry => ?_, ex.ext e⟩, ex⟩
  refine ⟨x, y, h2, N2, _, Rep.ext R1.un e2 _ _ rx, ry, R2, q2, fun z h3 N3 w H3 q3 e3 R3 rz => ?_⟩
  cases z with
  | bl k =>
    cases (show w = _ from rz)
    refine ⟨k, rfl, ?_⟩
    cases k with
    | true =>
      rw [if_pos rfl]
      refine ⟨τ, h3, N3, _, X0, (S.ext R.un e).ext R1.un (e2.trans e3), R3, q3.1 rfl, fun w h4 N4 wv H4 q4 e4 R4 rw' => ?_, ex.ext (e.trans (e2.trans e3))⟩
      exact ⟨y, w, h4, N4, Q0, Rep.ext R2.un (e3.trans e4) _ _ ry, rw', R4, q4, p.ext (e.trans (e2.trans (e3.trans e4)))⟩
    | false =>
      rw [if_neg Bool.false_ne_true]
      exact p (.bl false) h3 N3 _ H3 (q3.2 rfl) (e.trans (e2.trans e3)) R3 rfl
  | _ => exact q3.elim
theorem d_chain {op op' : CmpOp} (ho : OpD X (compareOp op) r) (ho' : OpD X (compareOp op') r') (ha : DEp X W a ta) (hb : DEp X W b tb) (hc : DEp X W c tc) (hm : lastMarks [op, op'] [b, c] = false := by with_unfolding_all rfl) :
    DEp X W (.Compare a [op, op'] [b, c] pos) (dChain r r' ta tb tc) := PE.imp (pe_chain ho ho' ha hb hc hm) fun _ _ _ z => lift_chain z
theorem d_chainT {op op' : CmpOp} (ho : OpD X (compareOp op) r) (ho' : OpD X (compareOp op') r') (ha : DEp X W a ta) (hb : DEp X W b tb) (hc : DEp X W c tc) (hm : lastMarks [op, op'] [b, c] = false := by with_unfolding_all rfl) :
    DTp X W (.Compare a [op, op'] [b, c] pos) (dTest (dChain r r' ta tb tc)) := PT.imp (pt_chain ho ho' ha hb hc hm) fun _ _ _ z => lift_test (fun _ y => lift_chain y) z
theorem tB_eq {T : TE} {σ : L2.St} {H : Hp} {Q : Bool → Hp → Prop} (z : tTest T σ H Q) : tB T σ H Q := z
/-- an expression that gives a bool, as a test -/
theorem d_val (he : DEp X W e te) (hw : ∀ whole, isTrue e X.env whole = (do let v ← whole; standAt e.pos; holding [v] (truthy v)) := by intro _; rfl) : DTp X W e (dTest te) := PT.imp (pt_val he hw) fun _ _ _ z => tB_eq (lift_test (fun _ y => y) z)

theorem d_not (ha : DTp X W a t) : DTp X W (.UnaryOp .Not a pos) (dNot t) := PT.imp (pt_not ha) fun σ H Q ⟨τ, h, N, Q0, X0, S, R, z, p, ex⟩ => ⟨τ, h, N, _, X0, S, R, z, fun c h1 N1 H1 q e R1 => p (!c) h1 N1 H1 q e R1, ex⟩
theorem d_and1 (ha : DTp X W a t) : DTw X W (.BoolOp .And [a] pos) t := pw_and1 ha
theorem d_or1 (ha : DTp X W a t) : DTw X W (.BoolOp .Or [a] pos) t := pw_or1 ha
theorem d_and (ha : DTp X W a t) (hb : DTw X W (.BoolOp .And (b :: rest) pos) u) : DTw X W (.BoolOp .And (a :: b :: rest) pos) (dAnd t u) := PW.imp (pw_and ha hb) fun σ H Q ⟨τ, h, N, Q0, X0, S, R, z, p, ex⟩ => by
  refine ⟨τ, h, N, _, X0, S, R, z, fun c h1 N1 H1 q e R1 => ?_, ex⟩
  cases c with
  | true => rw [if_pos rfl]; exact ⟨τ, h1, N1, Q0, X0, S.ext R.un e, R1, q.1 rfl, p.ext e, ex.ext e⟩
  | false => rw [if_neg Bool.false_ne_true]; exact p false h1 N1 H1 (q.2 rfl) e R1
theorem d_or (ha : DTp X W a t) (hb : DTw X W (.BoolOp .Or (b :: rest) pos) u) : DTw X W (.BoolOp .Or (a :: b :: rest) pos) (dOr t u) := PW.imp (pw_or ha hb) fun σ H Q ⟨τ, h, N, Q0, X0, S, R, z, p, ex⟩ => by
  refine ⟨τ, h, N, _, X0, S, R, z, fun c h1 N1 H1 q e R1 => ?_, ex⟩
  cases c with
  | true => rw [if_pos rfl]; exact p true h1 N1 H1 (q.1 rfl) e R1
  | false => rw [if_neg Bool.false_ne_true]; exact ⟨τ, h1, N1, Q0, X0, S.ext R.un e, R1, q.2 rfl, p.ext e, ex.ext e⟩
theorem d_one (op : BoolOp) (ha : DEp X W a ta) (h : PE X (.BoolOp op [a] pos) (liftE X.K W ta)) : DEp X W (.BoolOp op [a] pos) ta := h
theorem d_andV (ha : DEp X W a ta) (hb : DEp X W (.BoolOp .And (b :: rest) pos) tb) : DEp X W (.BoolOp .And (a :: b :: rest) pos) (dAndV ta tb) := PE.imp (pe_and ha hb) fun σ H Q ⟨τ, h, N, Q0, X0, S, R, z, p, ex⟩ => by
  refine ⟨τ, h, N, _, X0, S, R, z, fun x h1 N1 v H1 q e R1 rx => ?_, ex⟩
  cases x with
  | bl c =>
    cases (show v = _ from rx)
    refine ⟨c, rfl, ?_⟩
    cases c with
    | true => rw [if_pos rfl]; exact ⟨τ, h1, N1, Q0, X0, S.ext R.un e, R1, q.1 rfl, p.ext e, ex.ext e⟩
    | false => rw [if_neg Bool.false_ne_true]; exact p (.bl false) h1 N1 _ H1 (q.2 rfl) e R1 rfl
  | _ => exact q.elim
theorem d_orV (ha : DEp X W a ta) (hb : DEp X W (.BoolOp .Or (b :: rest) pos) tb) : DEp X W (.BoolOp .Or (a :: b :: rest) pos) (dOrV ta tb) := PE.imp (pe_or ha hb) fun σ H Q ⟨τ, h, N, Q0, X0, S, R, z, p, ex⟩ => by
  refine ⟨τ, h, N, _, X0, S, R, z, fun x h1 N1 v H1 q e R1 rx => ?_, ex⟩
  cases x with
  | bl c =>
    cases (show v = _ from rx)
    refine ⟨c, rfl, ?_⟩
    cases c with
    | true => rw [if_pos rfl]; exact p (.bl true) h1 N1 _ H1 (q.1 rfl) e R1 rfl
    | false => rw [if_neg Bool.false_ne_true]; exact ⟨τ, h1, N1, Q0, X0, S.ext R.un e, R1, q.2 rfl, p.ext e, ex.ext e⟩
  | _ => exact q.elim
theorem d_notV (ha : DEp X W a ta) : DEp X W (.UnaryOp .Not a pos) (dNotV ta) := PE.imp (pe_not ha) fun σ H Q ⟨τ, h, N, Q0, X0, S, R, z, p, ex⟩ => by
  refine ⟨τ, h, N, _, X0, S, R, z, fun x h1 N1 v H1 q e R1 rx => ?_, ex⟩
  cases x with
  | bl c =>
    cases (show v = _ from rx)
    exact ⟨c, rfl, p (.bl (!c)) h1 N1 _ H1 q e R1 rfl⟩
  | _ => exact q.elim
theorem d_ifE (hc : DTp X W c t) (ha : DEp X W a ta) (hb : DEp X W b tb) : DEp X W (.IfExp c a b pos) (dIfE t ta tb) := PE.imp (pe_ifExp hc ha hb) fun σ H Q ⟨τ, h, N, Q0, X0, S, R, z, p, ex⟩ => by
  refine ⟨τ, h, N, _, X0, S, R, z, fun c h1 N1 H1 q e R1 => ?_, ex⟩
  cases c with
  | true => rw [if_pos rfl]; exact ⟨τ, h1, N1, Q0, X0, S.ext R.un e, R1, q.1 rfl, p.ext e, ex.ext e⟩
  | false => rw [if_neg Bool.false_ne_true]; exact ⟨τ, h1, N1, Q0, X0, S.ext R.un e, R1, q.2 rfl, p.ext e, ex.ext e⟩

/-! ### arguments, displays -/
theorem d_nil : DAp X W [] dNil := PA.imp pa_nil fun σ H Q ⟨τ, h, N, Q0, X0, S, R, z, p, ex⟩ => p [] h N [] H z (Ext.refl _ _ _) R rfl
theorem d_cons (ha : DEp X W e ta) (hr : DAp X W es tr) (hs : starEach (e :: es) X.env = (false, eval e X.env) :: starEach es X.env := by rfl) : DAp X W (e :: es) (dCons ta tr) := PA.imp (pa_cons ha hr hs) fun σ H Q ⟨τ, h, N, Q0, X0, S, R, z, p, ex⟩ =>
  ⟨τ, h, N, _, X0, S, R, z, fun x h1 N1 v H1 q e R1 rx => ⟨τ, h1, N1, _, X0, S.ext R.un e, R1, q, fun xs h2 N2 vs H2 q2 e2 R2 rs => p (x :: xs) h2 N2 (v :: vs) H2 q2 (e.trans e2) R2 (.cons (Rep.ext R1.un e2 _ _ rx) rs), ex.ext e⟩, ex⟩
theorem tup_new {K : PySem.W.Frag} {H : Hp} {h : DH} {N : NS} {xs : List D} {vs : List V} {p : Addr} (R : HRep K H h N) (n : H p = none) (rs : RepL K H N xs vs) :
    HRep K (upd H p (.tup vs)) h (fun a => N a ∧ a ≠ p) ∧ Ext H h N (upd H p (.tup vs)) h (fun a => N a ∧ a ≠ p) ∧ Rep K (upd H p (.tup vs)) (fun a => N a ∧ a ≠ p) (.tup xs) (.ref p) := by
  obtain ⟨R1, e1⟩ := R.new (o := .tup vs) n
  exact ⟨R1, e1, p, vs, rfl, .inl ⟨fun z => z.2 rfl, .inl upd_same⟩, RepL.ext R.un e1 _ _ rs⟩
theorem lst_new {K : PySem.W.Frag} {H : Hp} {h : DH} {N : NS} {xs : List D} {vs : List V} {p : Addr} (R : HRep K H h N) (n : H p = none) (rs : RepL K H N xs vs) :
    HRep K (upd H p (.lst vs)) h (fun a => N a ∧ a ≠ p) ∧ Ext H h N (upd H p (.lst vs)) h (fun a => N a ∧ a ≠ p) ∧ Rep K (upd H p (.lst vs)) (fun a => N a ∧ a ≠ p) (.lst xs) (.ref p) := by
  obtain ⟨R1, e1⟩ := R.new (o := .lst vs) n
  exact ⟨R1, e1, p, vs, rfl, ⟨fun z => z.2 rfl, .inl upd_same⟩, RepL.ext R.un e1 _ _ rs⟩
theorem lst_newM {K : PySem.W.Frag} {H : Hp} {h : DH} {N : NS} {xs : List D} {vs : List V} {p : Addr} (R : HRep K H h N) (n : H p = none) (rs : RepL K H N xs vs) :
    HRep K (upd H p (.lst vs)) (dupd h p (.lst xs)) (fun a => N a ∨ a = p) ∧ Ext H h N (upd H p (.lst vs)) (dupd h p (.lst xs)) (fun a => N a ∨ a = p) := by
  have e : Ext H h N (upd H p (.lst vs)) (dupd h p (.lst xs)) (fun a => N a ∨ a = p) := fun a u q hn => by
    have hp : a ≠ p := ne_of_none q n
    exact ⟨by rw [upd_ne hp]; exact q, by rw [dupd_ne hp]; exact hn, ⟨fun z => z.elim id fun z => absurd z hp, .inl⟩⟩
  exact R.newM n ⟨vs, upd_same, RepL.ext R.un e _ _ rs⟩
theorem d_tup {x1} (ht : DAp X W es tr) : DEp X W (.Tuple es x1 pos) (dTup tr) := PE.imp (pe_tup ht) fun σ H Q ⟨τ, h, N, Q0, X0, S, R, z, p, ex⟩ =>
  ⟨τ, h, N, _, X0, S, R, z, fun xs h1 N1 vs H1 q e R1 rs => ⟨by rw [rs.length]; exact q.1, fun a n => by
    obtain ⟨R2, e2, r2⟩ := tup_new R1 n rs
    exact p (.tup xs) h1 _ _ _ q.2 (e.trans e2) R2 r2⟩, ex⟩
theorem d_lst (ht : DAp X W es tr) : DEp X W (.List es pos) (dLst tr) := PE.imp (pe_lst ht) fun σ H Q ⟨τ, h, N, Q0, X0, S, R, z, p, ex⟩ =>
  ⟨τ, h, N, _, X0, S, R, z, fun xs h1 N1 vs H1 q e R1 rs => ⟨by rw [rs.length]; exact q.1, fun a n => by
    obtain ⟨R2, e2, r2⟩ := lst_new R1 n rs
    exact p (.lst xs) h1 _ _ _ q.2 (e.trans e2) R2 r2⟩, ex⟩
theorem d_lstM (ht : DAp X W es tr) : DEp X W (.List es pos) (dLstM tr) := PE.imp (pe_lst ht) fun σ H Q ⟨τ, h, N, Q0, X0, S, R, z, p, ex⟩ =>
  ⟨τ, h, N, _, X0, S, R, z, fun xs h1 N1 vs H1 q e R1 rs => ⟨by rw [rs.length]; exact q.1, fun a n => by
    obtain ⟨R2, e2⟩ := lst_newM R1 n rs
    exact p (.ref a) _ _ _ _ (q.2 a (R1.none n)) (e.trans e2) R2 rfl⟩, ex⟩
theorem d_frz (he : DEp X W e te) : DEp X W e (dFrz te) := PE.imp he fun σ H Q ⟨τ, h, N, Q0, X0, S, R, z, p, ex⟩ =>
  ⟨τ, h, N, _, X0, S, R, z, fun x h1 N1 v H1 q e R1 rx => by
    cases x with
    | ref a =>
      cases (show v = _ from rx)
      cases ea : h1 a with
      | none => simp only [ea] at q
      | some o =>
        cases o with
        | lst ds =>
          simp only [ea] at q
          obtain ⟨R2, e2, r2⟩ := R1.freeze ea
          exact p _ _ _ _ _ q (e.trans e2) R2 r2
        | ins C fs => simp only [ea] at q
        | exd fs => simp only [ea] at q
    | _ => exact p _ _ _ _ _ q e R1 rx, ex⟩

/-! ### calls of built-ins -/
section
variable {x : Str} {id T : String} {rc : List D → DH → DK → Prop} {p : Pos}
theorem lift_cb {K : PySem.W.Frag} {σ : L2.St} {H : Hp} {Q : VK} (z : liftE K W (dCB rc tr) σ H Q) : tCB (liftC K rc) (liftA K W tr) σ H Q := by
  obtain ⟨τ, h, N, Q0, X0, S, R, z, p, ex⟩ := z
  exact ⟨τ, h, N, _, X0, S, R, z, fun xs h1 N1 vs H1 q e R1 rs => ⟨xs, h1, N1, Q0, rs, R1, q, p.ext e⟩, ex⟩
theorem d_callB (hc : CallD X (.builtin id) rc) (hg : Gl X x) (hm : X.mg x = none) (hv : bootBuiltins x = some (.builtin id)) (ha : DAp X W (e :: es) tr) (hn : x ≠ "__name__" := by decide) (hdb : (x == ("__debug__" : Str)) = false := by decide)
    (he : starEach (e :: es) X.env = (false, eval e X.env) :: starEach es X.env := by rfl) (hpl : (backTo pos (starEach es X.env)).any (·.1) = false := by rfl) : DEp X W (.Call (.Name x p) (e :: es) [] pos) (dCB rc tr) :=
  PE.imp (pe_callB hc hg hm hv ha hn hdb he hpl) fun _ _ _ z => lift_cb z
theorem d_callTy (hc : CallD X (.type T) rc) (hg : Gl X x) (hm : X.mg x = none) (hv : bootBuiltins x = some (.type T)) (ha : DAp X W (e :: es) tr) (hn : x ≠ "__name__" := by decide) (hdb : (x == ("__debug__" : Str)) = false := by decide)
    (he : starEach (e :: es) X.env = (false, eval e X.env) :: starEach es X.env := by rfl) (hpl : (backTo pos (starEach es X.env)).any (·.1) = false := by rfl) : DEp X W (.Call (.Name x p) (e :: es) [] pos) (dCB rc tr) :=
  PE.imp (pe_callTy hc hg hm hv ha hn hdb he hpl) fun _ _ _ z => lift_cb z
end

/-! ### subscripts, slices, methods -/
theorem d_ix (hr : IxD X r) (ha : DEp X W a ta) (hb : DEp X W b tb) (hs : PlainIx b := by intro _ _; rfl) : DEp X W (.Subscript a b pos) (dOp r ta tb) := PE.imp (pe_ix hr ha hb hs) fun _ _ _ z => lift_op z
theorem d_noPart : DOp X W none dNoPart := PO.imp po_none fun σ H Q ⟨τ, h, N, Q0, X0, S, R, z, p, ex⟩ => p none h N H z (Ext.refl _ _ _) R
theorem d_slice {rs : D → Option Int → Option Int → DH → DK → Prop} {lo hi : Option Expr} {tl th : DO'} {p2 : Pos} (hr : SlD X rs) (he : DEp X W e te) (hl : DOp X W lo tl) (hu : DOp X W hi th) : DEp X W (.Subscript e (.Slice lo hi none p2) pos) (dSl rs te tl th) :=
  PE.imp (pe_slice hr he hl hu) fun σ H Q ⟨τ, h, N, Q0, X0, S, R, z, p, ex⟩ =>
    ⟨τ, h, N, _, X0, S, R, z, fun x h1 N1 v H1 q e R1 rx => ⟨τ, h1, N1, _, X0, S.ext R.un e, R1, q, fun l h2 N2 H2 q2 e2 R2 => ⟨τ, h2, N2, _, X0, (S.ext R.un e).ext R1.un e2, R2, q2, fun u h3 N3 H3 q3 e3 R3 =>
      ⟨x, h3, N3, Q0, Rep.ext R1.un (e2.trans e3) _ _ rx, R3, q3, p.ext (e.trans (e2.trans e3))⟩, ex.ext (e.trans e2)⟩, ex.ext e⟩, ex⟩
theorem dty {K : PySem.W.Frag} {H : Hp} {h : DH} {N : NS} {T : String} {x : D} {v : V} (R : HRep K H h N) (r : Rep K H N x v) (ty : dTy T x h) : tyV K T v H := by
  cases x with
  | str z => cases (show v = _ from r); exact ty
  | int z => cases (show v = _ from r); exact ty
  | lst ds =>
    obtain ⟨a, xs, rfl, f, _⟩ := r
    exact .inl ⟨ty, xs, .inl f.2⟩
  | scr ns =>
    obtain ⟨a, rfl, f⟩ := r
    exact .inl ⟨ty, _, f.sq⟩
  | ref a =>
    cases (show v = _ from r)
    obtain ⟨e, ds, q⟩ := ty
    obtain ⟨xs, e2, _⟩ := R.at_ a _ q
    exact .inl ⟨e, xs, .of e2⟩
  | _ => exact ty.elim
theorem d_bm {name : Str} {apos cpos : Pos} {T id : String} {rm : D → List D → DH → DK → Prop} {to : DE} (pa : PlainAttrs T) (slot : Slot T name id) (hty : typeOf (.builtin id) = pure (.type "method_descriptor")) (hm : MtD X id rm) (ho : DEp X W o to) (ha : DAp X W (e :: es) tr)
    (hbase : attributeBase o name X.env (eval o X.env) = eval o X.env := by rfl)
    (hfew : ((backTo cpos (starEach (e :: es) X.env)).all (fun x => !x.1) && (backToKw cpos (keywordEach [] X.env)).all (fun x => x.1.isSome)
      && decide ((e :: es).length + ([] : List Keyword).length + (if ([] : List Keyword).isEmpty then 0 else 1) < 30)) = true := by rfl)
    (hline : (apos.endLine == cpos.line) = true := by rfl) (hs : starEach (e :: es) X.env = (false, eval e X.env) :: starEach es X.env := by rfl) (hplain : (backTo cpos (starEach es X.env)).any (·.1) = false := by rfl) :
    DEp X W (.Call (.Attribute o name apos) (e :: es) [] cpos) (dBM T rm to tr) := PE.imp (pe_bm pa slot hty hm ho ha hbase hfew hline hs hplain) fun σ H Q ⟨τ, h, N, Q0, X0, S, R, z, p, ex⟩ =>
  ⟨τ, h, N, _, X0, S, R, z, fun x h1 N1 v H1 q e R1 rx => ⟨dty R1 rx q.1, τ, h1, N1, _, X0, S.ext R.un e, R1, q.2, fun xs h2 N2 vs H2 q2 e2 R2 rs => ⟨x, xs, h2, N2, Q0, Rep.ext R1.un e2 _ _ rx, rs, R2, q2, p.ext (e.trans e2)⟩, ex.ext e⟩, ex⟩
theorem d_bm0 {name : Str} {apos cpos : Pos} {T id : String} {rm : D → List D → DH → DK → Prop} {to : DE} (pa : PlainAttrs T) (slot : Slot T name id) (hty : typeOf (.builtin id) = pure (.type "method_descriptor")) (hm : MtD X id rm) (ho : DEp X W o to)
    (hbase : attributeBase o name X.env (eval o X.env) = eval o X.env := by rfl) (hline : (apos.endLine == cpos.line) = true := by rfl) :
    DEp X W (.Call (.Attribute o name apos) [] [] cpos) (dBM T rm to dNil) := PE.imp (pe_bm0 pa slot hty hm ho hbase hline) fun σ H Q ⟨τ, h, N, Q0, X0, S, R, z, p, ex⟩ =>
  ⟨τ, h, N, _, X0, S, R, z, fun x h1 N1 v H1 q e R1 rx => ⟨dty R1 rx q.1, x, [], h1, N1, Q0, rx, rfl, R1, q.2, p.ext e⟩, ex⟩
end
end DL

/-! D3: operations over data, by values. -/
namespace DL
open PySem PySem.Spec L2 PyProof.Rows

/-! ### data as PyData -/
mutual
def py : D → PyData
  | .non => .none
  | .bl b => .bool b
  | .int i => .int i
  | .str x => .str x
  | .tup xs => .tuple (pyL xs)
  | .lst xs => .list (pyL xs)
  | .dct => .dict []
  | .scr _ => .none
  | .ref _ => .none
def pyL : List D → List PyData
  | [] => []
  | x :: xs => py x :: pyL xs
end
/-- plain data of at most that depth, no dict, no object -/
def dn : Nat → D → Bool
  | _, .non => true
  | _, .bl _ => true
  | _, .int _ => true
  | _, .str x => PyData.strOk x
  | 0, .tup _ => false
  | n + 1, .tup xs => xs.all (dn n)
  | 0, .lst _ => false
  | n + 1, .lst xs => xs.all (dn n)
  | _, .dct => false
  | _, .scr _ => false
  | _, .ref _ => false
/-- .. for repr: ints below 2 ^ 1920, the empty dict -/
def rn : Nat → D → Bool
  | _, .non => true
  | _, .bl _ => true
  | _, .int i => decide (i.natAbs.log2 < 1920)
  | _, .str x => PyData.strOk x
  | 0, .tup _ => false
  | n + 1, .tup xs => xs.all (rn n)
  | 0, .lst _ => false
  | n + 1, .lst xs => xs.all (rn n)
  | _, .dct => false
  | _, .scr _ => false
  | _, .ref _ => false
/-- a bound of the length of repr -/
def wt : D → Nat
  | .non => 4
  | .bl _ => 5
  | .int i => i.natAbs.log2 + 3
  | .str x => 10 * x.length + 2
  | .tup xs => wtL xs + 4
  | .lst xs => wtL xs + 4
  | .dct => 2
  | .scr _ => 0
  | .ref _ => 0
where wtL : List D → Nat
  | [] => 0
  | x :: xs => wt x + 2 + wtL xs
theorem pyL_map : ∀ xs : List D, pyL xs = xs.map py
  | [] => rfl
  | x :: xs => by simp only [pyL, List.map_cons, pyL_map xs]

theorem dn_lay : ∀ (n : Nat) (d : D), dn n d = true → (py d).canLay0 = true ∧ (py d).depth ≤ n := by
  intro n
  induction n with
  | zero =>
    intro d h
    cases d <;> simp only [dn, py, PyData.canLay0, PyData.depth] at h ⊢ <;> first | exact ⟨h, Nat.zero_le _⟩ | exact ⟨trivial, Nat.zero_le _⟩ | exact ⟨rfl, Nat.zero_le _⟩ | (exact absurd h Bool.false_ne_true)
  | succ n ih =>
    have all : ∀ xs : List D, xs.all (dn n) = true → PyData.canLayAll0 (pyL xs) = true ∧ PyData.depthAll (pyL xs) ≤ n := by
      intro xs
      induction xs with
      | nil => intro _; simp only [pyL, PyData.canLayAll0, PyData.depthAll]; exact ⟨trivial, Nat.zero_le _⟩
      | cons x xs ih2 =>
        intro h
        rw [List.all_cons, Bool.and_eq_true] at h
        obtain ⟨a1, a2⟩ := ih x h.1
        obtain ⟨b1, b2⟩ := ih2 h.2
        simp only [pyL, PyData.canLayAll0, PyData.depthAll]
        exact ⟨by rw [a1, b1]; rfl, Nat.max_le.mpr ⟨a2, b2⟩⟩
    intro d h
    cases d with
    | tup xs =>
      simp only [dn] at h
      obtain ⟨a, b⟩ := all xs h
      simp only [py, PyData.canLay0, PyData.depth]
      exact ⟨a, by omega⟩
    | lst xs =>
      simp only [dn] at h
      obtain ⟨a, b⟩ := all xs h
      simp only [py, PyData.canLay0, PyData.depth]
      exact ⟨a, by omega⟩
    | _ => simp only [dn, py, PyData.canLay0, PyData.depth] at h ⊢ <;> first | exact ⟨h, Nat.zero_le _⟩ | exact ⟨trivial, Nat.zero_le _⟩ | exact ⟨rfl, Nat.zero_le _⟩ | (exact absurd h Bool.false_ne_true)
theorem dn_shaped {n : Nat} {d : D} (h : dn n d = true) (hn : n ≤ 64) : SeqAt.shaped (py d) = true := by
  obtain ⟨a, b⟩ := dn_lay n d h
  unfold SeqAt.shaped
  rw [a, decide_eq_true (Nat.le_trans b hn)]
  rfl
section
variable {K : PySem.W.Frag} {H : Hp} {h : DH} {N : NS}
theorem rep_dp : ∀ (n : Nat) (d : D) (v : V), dn n d = true → Rep K H N d v → Dp K H v (py d) := by
  intro n
  induction n with
  | zero =>
    intro d v hd r
    cases d with
    | non => cases (show v = _ from r); exact .non
    | bl b => cases (show v = _ from r); exact .bl b
    | int b => cases (show v = _ from r); exact .int b
    | str b => cases (show v = _ from r); exact .str b
    | _ => simp only [dn] at hd; exact absurd hd Bool.false_ne_true
  | succ n ih =>
    have all : ∀ (xs : List D) (vs : List V), xs.all (dn n) = true → RepL K H N xs vs → DpAll K H vs (pyL xs) := by
      intro xs
      induction xs with
      | nil => intro vs _ r; cases (show vs = _ from r); exact .nil
      | cons x xs ih2 =>
        intro vs hd r
        rw [List.all_cons, Bool.and_eq_true] at hd
        obtain ⟨v, t, rfl, r1, r2⟩ := r
        exact .cons (ih x v hd.1 r1) (ih2 t hd.2 r2)
    intro d v hd r
    cases d with
    | non => cases (show v = _ from r); exact .non
    | bl b => cases (show v = _ from r); exact .bl b
    | int b => cases (show v = _ from r); exact .int b
    | str b => cases (show v = _ from r); exact .str b
    | tup xs =>
      simp only [dn] at hd
      obtain ⟨a, vs, rfl, f, r⟩ := r
      exact .tup f.sq (all xs vs hd r)
    | lst xs =>
      simp only [dn] at hd
      obtain ⟨a, vs, rfl, f, r⟩ := r
      exact .lst (.inl f.2) (all xs vs hd r)
    | dct => simp only [dn] at hd; exact absurd hd Bool.false_ne_true
    | scr a => simp only [dn] at hd; exact absurd hd Bool.false_ne_true
    | ref a => simp only [dn] at hd; exact absurd hd Bool.false_ne_true
end

/-- a list that is tracked is read as it stands -/
def view (h : DH) : D → D
  | .ref a => match h a with
    | some (.lst ds) => .lst ds
    | _ => .ref a
  | x => x
section
variable {K : PySem.W.Frag} {H : Hp} {h : DH} {N : NS}
theorem view_dp (R : HRep K H h N) {n : Nat} {d : D} {v : V} (r : Rep K H N d v) (hd : dn n (view h d) = true) : Dp K H v (py (view h d)) := by
  cases d with
  | ref a =>
    cases (show v = _ from r)
    unfold view at hd ⊢
    cases e : h a with
    | none => simp only [e] at hd; simp only [dn] at hd; exact absurd hd Bool.false_ne_true
    | some o =>
      cases o with
      | ins C fs => simp only [e] at hd; simp only [dn] at hd; exact absurd hd Bool.false_ne_true
      | exd fs => simp only [e] at hd; simp only [dn] at hd; exact absurd hd Bool.false_ne_true
      | lst ds =>
        simp only [e] at hd ⊢
        obtain ⟨xs, q, rs⟩ := R.at_ a _ e
        cases n with
        | zero => simp only [dn] at hd; exact absurd hd Bool.false_ne_true
        | succ n =>
          simp only [dn] at hd
          simp only [py]
          refine .lst (.of q) ?_
          clear e q
          induction ds generalizing xs with
          | nil => cases (show xs = _ from rs); exact .nil
          | cons x ds ih =>
            rw [List.all_cons, Bool.and_eq_true] at hd
            obtain ⟨v, t, rfl, r1, r2⟩ := rs
            exact .cons (rep_dp n x v hd.1 r1) (ih _ r2 hd.2)
  | _ => exact rep_dp n _ _ hd r
end

/-! ### == -/
def eqvD (x y : D) : Bool := PyData.eqv (py x) (py y)
def dEq (x y : D) (h : DH) (Q : DK) : Prop := match x, y with
  | .str a, .str b => Q (.bl (decide (a = b))) h
  | x, y => dn 12 (view h x) = true ∧ dn 12 (view h y) = true ∧ Q (.bl (eqvD (view h x) (view h y))) h
def dNe (x y : D) (h : DH) (Q : DK) : Prop := match x, y with
  | .str a, .str b => Q (.bl (!decide (a = b))) h
  | x, y => dn 12 (view h x) = true ∧ dn 12 (view h y) = true ∧ Q (.bl (!eqvD (view h x) (view h y))) h
section
variable {X : Cx}
theorem od_eq (hu : X.A.units + 64 < cLine) : OpD X (compareOp .Eq) dEq := by
  intro pins s σ H v u vv uu Q I rv ru ⟨x, y, h, N, Q0, rx, ry, R, q, p⟩
  unfold dEq at q
  split at q
  · rename_i a b
    cases (show v = V.str a from rx)
    cases (show u = V.str b from ry)
    refine op_eq pins s σ H _ _ vv uu Q I rv ru ⟨rfl, ?_⟩
    rw [dec_str, show (a == b) = decide (a = b) by by_cases e : a = b <;> simp [e]]
    exact post_at p R q rfl
  obtain ⟨hx, hy, q⟩ := q
  exact op_eqD hu pins s σ H v u vv uu Q I rv ru ⟨_, _, view_dp R rx hx, view_dp R ry hy, dn_shaped hx (by decide), dn_shaped hy (by decide), post_at p R q rfl⟩
theorem od_ne (hu : X.A.units + 64 < cLine) : OpD X (compareOp .NotEq) dNe := by
  intro pins s σ H v u vv uu Q I rv ru ⟨x, y, h, N, Q0, rx, ry, R, q, p⟩
  unfold dNe at q
  split at q
  · rename_i a b
    cases (show v = V.str a from rx)
    cases (show u = V.str b from ry)
    refine op_ne pins s σ H _ _ vv uu Q I rv ru ⟨rfl, ?_⟩
    rw [dec_str, show (a == b) = decide (a = b) by by_cases e : a = b <;> simp [e]]
    exact post_at p R q rfl
  obtain ⟨hx, hy, q⟩ := q
  exact op_neD hu pins s σ H v u vv uu Q I rv ru ⟨_, _, view_dp R rx hx, view_dp R ry hy, dn_shaped hx (by decide), dn_shaped hy (by decide), post_at p R q rfl⟩
end

/-! ### ints, is None -/
def dLt : D → D → DH → DK → Prop
  | .int i, .int j, h, Q => Q (.bl (decide (i < j))) h
  | _, _, _, _ => False
def dLe : D → D → DH → DK → Prop
  | .int i, .int j, h, Q => Q (.bl (decide (i ≤ j))) h
  | _, _, _, _ => False
def dGt : D → D → DH → DK → Prop
  | .int i, .int j, h, Q => Q (.bl (decide (j < i))) h
  | _, _, _, _ => False
def dGe : D → D → DH → DK → Prop
  | .int i, .int j, h, Q => Q (.bl (decide (j ≤ i))) h
  | _, _, _, _ => False
def isN : D → Bool
  | .non => true
  | _ => false
def dIsN (x y : D) (h : DH) (Q : DK) : Prop := match y with
  | .non => Q (.bl (isN x)) h
  | _ => False
def dIsNN (x y : D) (h : DH) (Q : DK) : Prop := match y with
  | .non => Q (.bl (!isN x)) h
  | _ => False
def dSub : D → D → DH → DK → Prop
  | .int i, .int j, h, Q => Q (.int (i - j)) h
  | _, _, _, _ => False
def dMod : D → D → DH → DK → Prop
  | .int i, .int j, h, Q => 0 < j ∧ Q (.int (i % j)) h
  | _, _, _, _ => False
def dFdiv : D → D → DH → DK → Prop
  | .int i, .int j, h, Q => 0 < j ∧ j.natAbs.log2 < 9000 ∧ Q (.int (i / j)) h
  | _, _, _, _ => False
def dPow : D → D → DH → DK → Prop
  | .int i, .int j, h, Q => 0 ≤ j ∧ (Builtin.Int.intBits i : Int) * j ≤ 2 ^ 27 ∧ Q (.int (i ^ j.toNat)) h
  | _, _, _, _ => False
def dAdd : D → D → DH → DK → Prop
  | .int i, .int j, h, Q => Q (.int (i + j)) h
  | .str a, .str b, h, Q => a.length + b.length ≤ sizeLine ∧ Q (.str (a ++ b)) h
  | .tup a, .tup b, h, Q => a.length + b.length ≤ sizeLine ∧ Q (.tup (a ++ b)) h
  | .lst a, .lst b, h, Q => a.length + b.length ≤ sizeLine ∧ Q (.lst (a ++ b)) h
  | _, _, _, _ => False
def rpt (k : Int) (xs : List D) : List D := (List.replicate k.toNat xs).flatten
def dMul : D → D → DH → DK → Prop
  | .int i, .int j, h, Q => IntMulOk i j ∧ Q (.int (i * j)) h
  | .tup a, .int k, h, Q => a ≠ [] ∧ 0 ≤ k ∧ k ≤ 1000 ∧ a.length ≤ 1000 ∧ Q (.tup (rpt k a)) h
  | .lst a, .int k, h, Q => -(2 ^ 63) ≤ k ∧ k < 2 ^ 63 ∧ a.length * k.toNat ≤ sizeLine ∧ Q (.lst (rpt k a)) h
  | _, _, _, _ => False
section
variable {X : Cx}
theorem rep_int {K : PySem.W.Frag} {H : Hp} {N : NS} {i : Int} {v : V} (r : Rep K H N (.int i) v) : v = .int i := r
theorem rep_str {K : PySem.W.Frag} {H : Hp} {N : NS} {i : Str} {v : V} (r : Rep K H N (.str i) v) : v = .str i := r
theorem rep_bl {K : PySem.W.Frag} {H : Hp} {N : NS} {i : Bool} {v : V} (r : Rep K H N (.bl i) v) : v = .bl i := r
theorem rep_ref {K : PySem.W.Frag} {H : Hp} {N : NS} {i : Addr} {v : V} (r : Rep K H N (.ref i) v) : v = .ref i := r
theorem rep_non {K : PySem.W.Frag} {H : Hp} {N : NS} {v : V} (r : Rep K H N .non v) : v = .non := r
theorem rep_isN {K : PySem.W.Frag} {H : Hp} {N : NS} : ∀ {d : D} {v : V}, Rep K H N d v → decide (v = V.non) = isN d
  | .non, _, r => by cases rep_non r; rfl
  | .bl _, _, r => by cases rep_bl r; rfl
  | .int _, _, r => by cases rep_int r; rfl
  | .str _, _, r => by cases rep_str r; rfl
  | .tup _, _, r => by obtain ⟨a, xs, rfl, _⟩ := r; rfl
  | .lst _, _, r => by obtain ⟨a, xs, rfl, _⟩ := r; rfl
  | .dct, _, r => by obtain ⟨a, rfl, _⟩ := r; rfl
  | .scr _, _, r => by obtain ⟨a, rfl, _⟩ := r; rfl
  | .ref _, _, r => by cases rep_ref r; rfl
theorem od_lt : OpD X (compareOp .Lt) dLt := by
  intro pins s σ H v u vv uu Q I rv ru ⟨x, y, h, N, Q0, rx, ry, R, q, p⟩
  cases x <;> cases y <;> first | exact q.elim | skip
  cases rep_int rx; cases rep_int ry
  exact op_lt pins s σ H _ _ vv uu Q I rv ru ⟨_, _, rfl, rfl, post_at p R q rfl⟩
theorem od_le : OpD X (compareOp .LtE) dLe := by
  intro pins s σ H v u vv uu Q I rv ru ⟨x, y, h, N, Q0, rx, ry, R, q, p⟩
  cases x <;> cases y <;> first | exact q.elim | skip
  cases rep_int rx; cases rep_int ry
  exact op_le pins s σ H _ _ vv uu Q I rv ru ⟨_, _, rfl, rfl, post_at p R q rfl⟩
theorem od_gt : OpD X (compareOp .Gt) dGt := by
  intro pins s σ H v u vv uu Q I rv ru ⟨x, y, h, N, Q0, rx, ry, R, q, p⟩
  cases x <;> cases y <;> first | exact q.elim | skip
  cases rep_int rx; cases rep_int ry
  exact op_gt pins s σ H _ _ vv uu Q I rv ru ⟨_, _, rfl, rfl, post_at p R q rfl⟩
theorem od_ge : OpD X (compareOp .GtE) dGe := by
  intro pins s σ H v u vv uu Q I rv ru ⟨x, y, h, N, Q0, rx, ry, R, q, p⟩
  cases x <;> cases y <;> first | exact q.elim | skip
  cases rep_int rx; cases rep_int ry
  exact op_ge pins s σ H _ _ vv uu Q I rv ru ⟨_, _, rfl, rfl, post_at p R q rfl⟩
theorem od_isN : OpD X (compareOp .Is) dIsN := by
  intro pins s σ H v u vv uu Q I rv ru ⟨x, y, h, N, Q0, rx, ry, R, q, p⟩
  cases y <;> first | exact q.elim | skip
  cases rep_non ry
  exact op_isN pins s σ H _ _ vv uu Q I rv ru ⟨rfl, by rw [rep_isN rx]; exact post_at p R q rfl⟩
theorem od_isNN : OpD X (compareOp .IsNot) dIsNN := by
  intro pins s σ H v u vv uu Q I rv ru ⟨x, y, h, N, Q0, rx, ry, R, q, p⟩
  cases y <;> first | exact q.elim | skip
  cases rep_non ry
  exact op_notN pins s σ H _ _ vv uu Q I rv ru ⟨rfl, by rw [rep_isN rx]; exact post_at p R q rfl⟩
theorem od_sub : OpD X (binaryOp .Sub) dSub := by
  intro pins s σ H v u vv uu Q I rv ru ⟨x, y, h, N, Q0, rx, ry, R, q, p⟩
  cases x <;> cases y <;> first | exact q.elim | skip
  cases rep_int rx; cases rep_int ry
  exact op_sub pins s σ H _ _ vv uu Q I rv ru ⟨_, _, rfl, rfl, post_at p R q rfl⟩
theorem od_mod : OpD X (binaryOp .Mod) dMod := by
  intro pins s σ H v u vv uu Q I rv ru ⟨x, y, h, N, Q0, rx, ry, R, q, p⟩
  cases x <;> cases y <;> first | exact q.elim | skip
  cases rep_int rx; cases rep_int ry
  exact op_mod pins s σ H _ _ vv uu Q I rv ru ⟨_, _, rfl, rfl, q.1, post_at p R q.2 rfl⟩
theorem op_fdivG : OpR X (binaryOp .FloorDiv) (rI (fun _ j => 0 < j ∧ j.natAbs.log2 < 9000) fun i j => .int (i / j)) := opI fun i j _ _ _ _ _ hc q => by
  have h1 : (0 : Int) < j := hc.1
  exact floordiv_int (by omega) (by rw [Int.fdiv_eq_ediv_of_nonneg i (by omega)]; exact q) (.inl (PyProof.noPylong_of_log2 hc.2))
theorem od_fdiv : OpD X (binaryOp .FloorDiv) dFdiv := by
  intro pins s σ H v u vv uu Q I rv ru ⟨x, y, h, N, Q0, rx, ry, R, q, p⟩
  cases x <;> cases y <;> first | exact q.elim | skip
  cases rep_int rx; cases rep_int ry
  exact op_fdivG pins s σ H _ _ vv uu Q I rv ru ⟨_, _, rfl, rfl, ⟨q.1, q.2.1⟩, post_at p R q.2.2 rfl⟩
theorem op_powG : OpR X (binaryOp .Pow) (rI (fun i j => 0 ≤ j ∧ (Builtin.Int.intBits i : Int) * j ≤ 2 ^ 27) fun i j => .int (i ^ j.toNat)) := opI fun _ _ _ _ _ _ _ hc q => pow_int hc.1 hc.2 q
theorem od_pow : OpD X (binaryOp .Pow) dPow := by
  intro pins s σ H v u vv uu Q I rv ru ⟨x, y, h, N, Q0, rx, ry, R, q, p⟩
  cases x <;> cases y <;> first | exact q.elim | skip
  cases rep_int rx; cases rep_int ry
  exact op_powG pins s σ H _ _ vv uu Q I rv ru ⟨_, _, rfl, rfl, ⟨q.1, q.2.1⟩, post_at p R q.2.2 rfl⟩
/-- list + list, any list that is read -/
theorem lstR {X : Cx} {pins : List (Addr × Obj)} {σ : L2.St} {H : Hp} {s : Shared} {l : Addr} {xs : List V} (I : Inv X pins σ H s) (hH : Rd H l (.lst xs)) :
    xs.length ≤ sizeLine ∧ ∃ (its : List Value) (n : Nat), Vals xs its ∧ xs.length = its.length ∧ s.heap.get? l = some { cls := .type "list", data := .seq its.toArray n } := by
  obtain ⟨z, its, n, r, e⟩ := hH.ok I.hok
  exact ⟨z, its, n, r, r.length, e⟩
theorem op_catL : OpR X (binaryOp .Add) (fun x y H Q => ∃ l b xs zs, x = .ref l ∧ y = .ref b ∧ Rd H l (.lst xs) ∧ Rd H b (.lst zs) ∧ xs.length + zs.length ≤ sizeLine ∧ ∀ p, H p = none → Q (.ref p) (upd H p (.lst (xs ++ zs)))) := by
  intro pins s σ H x y v u Q I rx ry h
  obtain ⟨l, b, xs, zs, rfl, rfl, hH, hB, hz, q⟩ := h
  cases rx
  cases ry
  obtain ⟨z, its, n, r, hl, e⟩ := lstR I hH
  obtain ⟨z2, its2, n2, r2, hl2, e2⟩ := lstR I hB
  refine PySem.P.add_list e e2 ?_ (by rw [List.size_toArray, List.size_toArray]; omega)
  have ea : its.toArray ++ its2.toArray = (its ++ its2).toArray := by simp
  rw [ea]
  exact ⟨.ref _, _, I.lnew (t' := s.toks) (r.append r2) (by rw [List.length_append]; omega), rfl, q _ I.fresh⟩
theorem op_repL : OpR X (binaryOp .Mult) (fun x y H Q => ∃ l k xs, x = .ref l ∧ y = .int k ∧ Rd H l (.lst xs) ∧ -(2 ^ 63) ≤ k ∧ k < 2 ^ 63 ∧ xs.length * k.toNat ≤ sizeLine ∧
  ∀ p, H p = none → Q (.ref p) (upd H p (.lst (List.replicate k.toNat xs).flatten))) := by
  intro pins s σ H x y v u Q I rx ry h
  obtain ⟨l, k, xs, rfl, rfl, hH, h1, h2, hz, q⟩ := h
  cases rx
  obtain ⟨t, rfl⟩ := ry
  obtain ⟨z, its, n, r, hl, e⟩ := lstR I hH
  have hlen : its.toArray.size * k.toNat ≤ sizeLine := by rw [List.size_toArray, ← hl]; exact hz
  have hcap : ¬ its.toArray.size * k.toNat > (2 ^ 63 - 1) / 8 := by
    have : (sizeLine : Nat) ≤ (2 ^ 63 - 1) / 8 := by decide
    omega
  have hfit : ¬ (!Builtin.List.listFitsIndex k) = true := by
    rw [fitsIndex_both h1 h2]
    exact Bool.false_ne_true
  have hlong : ¬ Builtin.List.listTooLong (its.toArray.size * k.toNat) = true := by
    rw [notLongL hlen]
    exact Bool.false_ne_true
  have hnew : List.foldl (fun x1 x2 => x1 ++ x2) #[] (List.replicate (if its.toArray.isEmpty = true then 0 else k.toNat) its.toArray) = (List.replicate k.toNat its).flatten.toArray := by
    have f0 : ∀ m : Nat, List.foldl (fun x1 x2 => x1 ++ x2) #[] (List.replicate m its.toArray) = (List.replicate m its).flatten.toArray := fun m => by
      have := foldl_rep its m []
      rw [List.nil_append] at this
      exact this
    rw [f0]
    cases its with
    | nil => simp
    | cons a r' => rw [if_neg (by simp)]
  refine wpAny_binaryOp_repeat_ref (T := "list") (U := "int") (by decide) ⟨_, e, rfl⟩ (fun s' => typeIs_int s' k t) noFill_list_mul F.fills_int_mul F.slot_int_rmul repeat_list F.slot_int_index.lookup
    (call_meets F.slot_int_rmul (typeIs_int s k t) F.entry_int_rmul (F.args_int_rmul_2 _ _) (int___rmul___int_list k t l its.toArray n)
      ⟨e, rfl, ⟨_, e, rfl⟩, call_meets F.slot_list_mul ⟨_, e, rfl⟩ F.entry_list_mul (F.args_list_mul_2 _ _) (AutoListH.list___mul___list_int_3 l its.toArray n k t hfit hcap hlong) ⟨e, ?_⟩⟩)
  rw [hnew]
  exact ⟨.ref _, _, I.lnew (t' := s.toks) (r.rep k.toNat) (by rw [PyProof.Rows.lm_len_rep_flat, Nat.mul_comm]; exact hz), rfl, q _ I.fresh⟩
/-- a tuple times 1 is the tuple itself, times 0 a new empty one -/
theorem tuple_mul1 (l : Addr) (items : Array Value) (n : Nat) (dd : Option Addr) (sl : Array (Option Value)) (u : Tok) :
    Meets (Builtin.«tuple.__mul__» ⟨[.ref l, .int 1 u], []⟩) (fun _ R s => s.heap.get? l = some { cls := .type "tuple", dict := dd, data := .seq items n, slots := sl } ∧ R (.ok (.ret (Value.ref l))) s) :=
  .of_wp fun prog w A R s h => by
    obtain ⟨hp, g, d, tk, os⟩ := s
    obtain ⟨hl, h⟩ := h
    have f1 := AutoSeq1.idx_int
    wp_walk using wpAny_loadPart' hl
    repeat (first
      | (refine wpAny_ite_false (decide_eq_false (by decide)) ?_; wp_walk using wpAny_loadPart' hl)
      | (refine wpAny_ite_true (decide_eq_true (by simp)) ?_; wp_walk using wpAny_loadPart' hl))
    exact ⟨_, rfl, h⟩
theorem tuple_mul0 (l : Addr) (items : Array Value) (n : Nat) (dd : Option Addr) (sl : Array (Option Value)) (u : Tok) (c1 : items.isEmpty = false) :
    Meets (Builtin.«tuple.__mul__» ⟨[.ref l, .int 0 u], []⟩) (fun _ R s => s.heap.get? l = some { cls := .type "tuple", dict := dd, data := .seq items n, slots := sl } ∧
      R (.ok (.ret (Value.ref s.heap.objs.size))) { s with heap := s.heap.push { cls := Value.type "tuple", data := Data.seq #[] }, toks := s.toks }) :=
  .of_wp fun prog w A R s h => by
    obtain ⟨hp, g, d, tk, os⟩ := s
    obtain ⟨hl, h⟩ := h
    have f1 := AutoSeq1.idx_int
    wp_walk using wpAny_loadPart' hl
    repeat (first
      | (refine wpAny_ite_false (decide_eq_false (by decide)) ?_; wp_walk using wpAny_loadPart' hl)
      | (refine wpAny_ite_false (decide_eq_false (by rw [c1]; decide)) ?_; wp_walk using wpAny_loadPart' hl)
      | (refine wpAny_ite_true (decide_eq_true (by simp)) ?_; wp_walk using wpAny_loadPart' hl))
    exact ⟨_, rfl, h⟩
theorem op_repT01 : OpR X (binaryOp .Mult) (fun x y H Q => ∃ l k xs, x = .ref l ∧ y = .int k ∧ SqT X.K H l xs ∧ xs ≠ [] ∧ ((k = 1 ∧ Q (.ref l) H) ∨ (k = 0 ∧ ∀ p, H p = none → Q (.ref p) (upd H p (.tup []))))) := by
  intro pins s σ H x y v u Q I rx ry h
  obtain ⟨l, k, xs, rfl, rfl, hT, hne, q⟩ := h
  cases rx
  obtain ⟨t, rfl⟩ := ry
  obtain ⟨its, r, ⟨⟨cls, dd, data, sl⟩, ho, hc, n, hd⟩, hs⟩ := I.tuple hT
  simp only at hc hd
  subst hc hd
  have hi : its.toArray.isEmpty = false := by
    cases its with
    | nil => cases r; exact absurd rfl hne
    | cons a b => rfl
  rcases q with ⟨rfl, q⟩ | ⟨rfl, q⟩
  · refine wpAny_binaryOp_repeat_ref (T := "tuple") (U := "int") (by decide) ⟨_, ho, rfl⟩ (fun s' => typeIs_int s' 1 t) noFill_tuple_mul F.fills_int_mul F.slot_int_rmul repeat_tuple F.slot_int_index.lookup
      (call_meets F.slot_int_rmul (typeIs_int s 1 t) F.entry_int_rmul (F.args_int_rmul_2 _ _) (int_rmul_tuple 1 t l its.toArray n dd sl)
        ⟨ho, rfl, ⟨_, ho, rfl⟩, call_meets F.slot_tuple_mul ⟨_, ho, rfl⟩ F.entry_tuple_mul (F.args_tuple_mul_2 _ _) (tuple_mul1 l its.toArray n dd sl t) ⟨ho, ?_⟩⟩)
    exact ⟨.ref l, H, I, rfl, q⟩
  · refine wpAny_binaryOp_repeat_ref (T := "tuple") (U := "int") (by decide) ⟨_, ho, rfl⟩ (fun s' => typeIs_int s' 0 t) noFill_tuple_mul F.fills_int_mul F.slot_int_rmul repeat_tuple F.slot_int_index.lookup
      (call_meets F.slot_int_rmul (typeIs_int s 0 t) F.entry_int_rmul (F.args_int_rmul_2 _ _) (int_rmul_tuple 0 t l its.toArray n dd sl)
        ⟨ho, rfl, ⟨_, ho, rfl⟩, call_meets F.slot_tuple_mul ⟨_, ho, rfl⟩ F.entry_tuple_mul (F.args_tuple_mul_2 _ _) (tuple_mul0 l its.toArray n dd sl t hi) ⟨ho, ?_⟩⟩)
    refine ⟨.ref s.heap.objs.size, _, I.laid (t' := s.toks) (o := .tup []) (fun b ob q => Heap.get?_push_of_some _ q) (Nat.le_refl _) ?_, rfl, q _ (I.hok.fresh (Nat.le_refl _))⟩
    exact ⟨Nat.zero_le _, [], .nil, IsTup.new _ _⟩
theorem RepL.rep {K : PySem.W.Frag} {H : Hp} {N : NS} {xs : List D} {vs : List V} (r : RepL K H N xs vs) : ∀ k : Nat, RepL K H N (List.replicate k xs).flatten (List.replicate k vs).flatten
  | 0 => rfl
  | k + 1 => by
    rw [List.replicate_succ, List.replicate_succ, List.flatten_cons, List.flatten_cons]
    exact r.append (RepL.rep r k)
theorem od_mul : OpD X (binaryOp .Mult) dMul := by
  intro pins s σ H v u vv uu Q I rv ru ⟨x, y, h, N, Q0, rx, ry, R, q, p⟩
  cases x <;> cases y <;> first | exact q.elim | skip
  · cases rep_int rx; cases rep_int ry
    exact (opI fun _ _ _ _ _ _ _ hc q => mul_int q hc : OpR X (binaryOp .Mult) (rI IntMulOk fun i j => .int (i * j))) pins s σ H _ _ vv uu Q I rv ru ⟨_, _, rfl, rfl, q.1, post_at p R q.2 rfl⟩
  · rename_i a k
    cases rep_int ry
    obtain ⟨ax, xs, rfl, fx, r1⟩ := rx
    obtain ⟨q1, q2, q3, q4, q⟩ := q
    have hl := r1.length
    have hne : xs ≠ [] := fun e => q1 (List.eq_nil_of_length_eq_zero (by rw [← hl, e]; rfl))
    by_cases hk : 2 ≤ k
    · refine op_repT pins s σ H _ _ vv uu Q I rv ru ⟨ax, k, xs, rfl, rfl, fx.sq, hne, hk, q3, by rw [hl]; exact q4, fun t n => ?_⟩
      obtain ⟨R1, e1, r3⟩ := tup_new R n (r1.rep k.toNat)
      exact p _ _ _ _ _ q e1 R1 r3
    · refine op_repT01 pins s σ H _ _ vv uu Q I rv ru ⟨ax, k, xs, rfl, rfl, fx.sq, hne, ?_⟩
      by_cases h1 : k = 1
      · refine .inl ⟨h1, ?_⟩
        subst h1
        refine post_at p R q ?_
        have e : rpt 1 a = a := by unfold rpt; simp
        rw [e]
        exact ⟨ax, xs, rfl, fx, r1⟩
      · have h0 : k = 0 := by omega
        subst h0
        refine .inr ⟨rfl, fun t n => ?_⟩
        obtain ⟨R1, e1, r3⟩ := tup_new (xs := []) (vs := []) R n rfl
        exact p _ _ _ _ _ q e1 R1 r3
  · rename_i a k
    cases rep_int ry
    obtain ⟨ax, xs, rfl, fx, r1⟩ := rx
    obtain ⟨q1, q2, q3, q⟩ := q
    refine op_repL pins s σ H _ _ vv uu Q I rv ru ⟨ax, k, xs, rfl, rfl, fx.2, q1, q2, by rw [r1.length]; exact q3, fun t n => ?_⟩
    obtain ⟨R1, e1, r3⟩ := lst_new R n (r1.rep k.toNat)
    exact p _ _ _ _ _ q e1 R1 r3
theorem od_add : OpD X (binaryOp .Add) dAdd := by
  intro pins s σ H v u vv uu Q I rv ru ⟨x, y, h, N, Q0, rx, ry, R, q, p⟩
  cases x <;> cases y <;> first | exact q.elim | skip
  · cases rep_int rx; cases rep_int ry
    exact op_add pins s σ H _ _ vv uu Q I rv ru ⟨_, _, rfl, rfl, post_at p R q rfl⟩
  · cases rep_str rx; cases rep_str ry
    exact op_add_str pins s σ H _ _ vv uu Q I rv ru ⟨_, _, rfl, rfl, q.1, post_at p R q.2 rfl⟩
  · rename_i a b
    obtain ⟨ax, xs, rfl, fx, r1⟩ := rx
    obtain ⟨ay, ys, rfl, fy, r2⟩ := ry
    refine op_catA pins s σ H _ _ vv uu Q I rv ru ⟨ax, ay, xs, ys, rfl, rfl, fx.sq, fy.sq, by rw [r1.length, r2.length]; exact q.1, fun e => ?_, fun e1 e2 => ?_, fun e1 e2 t n => ?_⟩
    · have ea : a = [] := List.eq_nil_of_length_eq_zero (by rw [← r1.length, e]; rfl)
      refine post_at p R q.2 ?_
      rw [ea]
      exact ⟨ay, ys, rfl, fy, r2⟩
    · have ea : b = [] := List.eq_nil_of_length_eq_zero (by rw [← r2.length, e2]; rfl)
      refine post_at p R q.2 ?_
      rw [ea, List.append_nil]
      exact ⟨ax, xs, rfl, fx, r1⟩
    · obtain ⟨R1, e1, r3⟩ := tup_new R n (r1.append r2)
      exact p _ _ _ _ _ q.2 e1 R1 r3
  · obtain ⟨ax, xs, rfl, fx, r1⟩ := rx
    obtain ⟨ay, ys, rfl, fy, r2⟩ := ry
    refine op_catL pins s σ H _ _ vv uu Q I rv ru ⟨ax, ay, xs, ys, rfl, rfl, fx.2, fy.2, by rw [r1.length, r2.length]; exact q.1, fun t n => ?_⟩
    obtain ⟨R1, e1, r3⟩ := lst_new R n (r1.append r2)
    exact p _ _ _ _ _ q.2 e1 R1 r3
end
end DL

/-! D4: in, subscripts, slices, built-ins, methods. -/
namespace DL
open PySem PySem.Spec L2 PyProof.Rows

/-! ### in -/
def dInS : D → D → DH → DK → Prop
  | .str c, .str z, h, Q => ∃ k, c = ⟨#[k]⟩ ∧ Q (.bl (decide (k ∈ z.cps.toList))) h
  | _, _, _, _ => False
def dNotInS : D → D → DH → DK → Prop
  | .str c, .str z, h, Q => ∃ k, c = ⟨#[k]⟩ ∧ Q (.bl (!decide (k ∈ z.cps.toList))) h
  | _, _, _, _ => False
def inD (x : D) (ys : List D) : Bool := ys.any fun y => eqvD y x
def dIn (x y : D) (h : DH) (Q : DK) : Prop := dn 12 (view h x) = true ∧ match view h y with
  | .tup ys => ys.all (dn 11) = true ∧ Q (.bl (inD (view h x) ys)) h
  | .lst ys => ys.all (dn 11) = true ∧ Q (.bl (inD (view h x) ys)) h
  | _ => False
def dNotIn (x y : D) (h : DH) (Q : DK) : Prop := dn 12 (view h x) = true ∧ match view h y with
  | .tup ys => ys.all (dn 11) = true ∧ Q (.bl (!inD (view h x) ys)) h
  | .lst ys => ys.all (dn 11) = true ∧ Q (.bl (!inD (view h x) ys)) h
  | _ => False
theorem any_py (x : PyData) : ∀ ys : List D, ((pyL ys).any fun y => PyData.eqv y x) = (ys.any fun y => PyData.eqv (py y) x)
  | [] => rfl
  | y :: ys => by simp only [pyL, List.any_cons, any_py x ys]
section
variable {X : Cx}
theorem od_inS : OpD X (compareOp .In) dInS := by
  intro pins s σ H v u vv uu Q I rv ru ⟨x, y, h, N, Q0, rx, ry, R, q, p⟩
  cases x <;> cases y <;> first | exact q.elim | skip
  cases rep_str rx; cases rep_str ry
  obtain ⟨k, rfl, q⟩ := q
  exact op_in_sign pins s σ H _ _ vv uu Q I rv ru ⟨_, _, rfl, rfl, post_at p R q rfl⟩
theorem od_notInS : OpD X (compareOp .NotIn) dNotInS := by
  intro pins s σ H v u vv uu Q I rv ru ⟨x, y, h, N, Q0, rx, ry, R, q, p⟩
  cases x <;> cases y <;> first | exact q.elim | skip
  cases rep_str rx; cases rep_str ry
  obtain ⟨k, rfl, q⟩ := q
  exact op_notIn_sign pins s σ H _ _ vv uu Q I rv ru ⟨_, _, rfl, rfl, post_at p R q rfl⟩
theorem od_in (hu : X.A.units + 65 < cLine) : OpD X (compareOp .In) dIn := by
  intro pins s σ H v u vv uu Q I rv ru ⟨x, y, h, N, Q0, rx, ry, R, ⟨hx, q⟩, p⟩
  obtain ⟨as, r1⟩ := Dp.reads I _ v vv (view_dp R rx hx) rv
  have l1 := dn_lay _ _ hx
  have hr : ∀ ys : List PyData, X.A.units + 1 + min (PyData.depthAll ys) (py (view h x)).depth < cLine := fun ys => by
    have := Nat.min_le_right (PyData.depthAll ys) (py (view h x)).depth
    omega
  cases ey : view h y <;> rw [ey] at q <;> first | exact q.elim | skip
  · rename_i ys
    have hy : dn 12 (view h y) = true := by rw [ey]; exact q.1
    obtain ⟨bs, r2⟩ := Dp.reads I _ u uu (view_dp R ry hy) ru
    rw [ey] at r2
    have l2 := dn_lay 12 (.tup ys) q.1
    simp only [py] at r2 l2
    exact SeqAt.in_tuple_reads r2 r1 (by simpa only [PyData.canLay0] using l2.1) l1.1 (hr _) ⟨.bl _, H, I, rfl, by rw [any_py]; exact post_at p R q.2 rfl⟩
  · rename_i ys
    have hy : dn 12 (view h y) = true := by rw [ey]; exact q.1
    obtain ⟨bs, r2⟩ := Dp.reads I _ u uu (view_dp R ry hy) ru
    rw [ey] at r2
    have l2 := dn_lay 12 (.lst ys) q.1
    simp only [py] at r2 l2
    exact SeqAt.in_list_reads r2 r1 (by simpa only [PyData.canLay0] using l2.1) l1.1 (hr _) ⟨.bl _, H, I, rfl, by rw [any_py]; exact post_at p R q.2 rfl⟩
theorem od_notIn (hu : X.A.units + 65 < cLine) : OpD X (compareOp .NotIn) dNotIn := by
  intro pins s σ H v u vv uu Q I rv ru ⟨x, y, h, N, Q0, rx, ry, R, ⟨hx, q⟩, p⟩
  obtain ⟨as, r1⟩ := Dp.reads I _ v vv (view_dp R rx hx) rv
  have l1 := dn_lay _ _ hx
  have hr : ∀ ys : List PyData, X.A.units + 1 + min (PyData.depthAll ys) (py (view h x)).depth < cLine := fun ys => by
    have := Nat.min_le_right (PyData.depthAll ys) (py (view h x)).depth
    omega
  cases ey : view h y <;> rw [ey] at q <;> first | exact q.elim | skip
  · rename_i ys
    have hy : dn 12 (view h y) = true := by rw [ey]; exact q.1
    obtain ⟨bs, r2⟩ := Dp.reads I _ u uu (view_dp R ry hy) ru
    rw [ey] at r2
    have l2 := dn_lay 12 (.tup ys) q.1
    simp only [py] at r2 l2
    exact SeqAt.notIn_tuple_reads r2 r1 (by simpa only [PyData.canLay0] using l2.1) l1.1 (hr _) ⟨.bl _, H, I, rfl, by rw [any_py]; exact post_at p R q.2 rfl⟩
  · rename_i ys
    have hy : dn 12 (view h y) = true := by rw [ey]; exact q.1
    obtain ⟨bs, r2⟩ := Dp.reads I _ u uu (view_dp R ry hy) ru
    rw [ey] at r2
    have l2 := dn_lay 12 (.lst ys) q.1
    simp only [py] at r2 l2
    exact SeqAt.notIn_list_reads r2 r1 (by simpa only [PyData.canLay0] using l2.1) l1.1 (hr _) ⟨.bl _, H, I, rfl, by rw [any_py]; exact post_at p R q.2 rfl⟩
end

/-! ### subscripts -/
def dIx (x y : D) (h : DH) (Q : DK) : Prop := match y with
  | .int i => match view h x with
    | .tup xs => (match atI xs i with | some d => Q d h | none => False)
    | .lst xs => (match atI xs i with | some d => Q d h | none => False)
    | .scr ns => (match atI ns i with | some n => Q (.int n) h | none => False)
    | .str z => z.length ≤ sizeLine ∧ (match atI z.cps.toList i with | some c => Q (.str ⟨#[c]⟩) h | none => False)
    | _ => False
  | _ => False
section
variable {X : Cx} {K : PySem.W.Frag} {H : Hp} {h : DH} {N : NS}
theorem atI_rep {xs : List D} {vs : List V} {i : Int} {d : D} (r : RepL K H N xs vs) (e : atI xs i = some d) : ∃ v, atI vs i = some v ∧ Rep K H N d v := by
  unfold atI at e ⊢
  rw [r.length]
  cases q : ixN xs.length i with
  | none => rw [q] at e; cases e
  | some j =>
    rw [q] at e
    exact RepL.getD r e
theorem view_lst (R : HRep K H h N) {x : D} {v : V} (r : Rep K H N x v) {xs : List D} (e : view h x = .lst xs) : ∃ a vs, v = .ref a ∧ Rd H a (.lst vs) ∧ RepL K H N xs vs := by
  cases x with
  | ref a =>
    cases rep_ref r
    unfold view at e
    cases ea : h a with
    | none => simp only [ea] at e; cases e
    | some o =>
      cases o with
      | ins C fs => simp only [ea] at e; cases e
      | exd fs => simp only [ea] at e; cases e
      | lst ds =>
        simp only [ea] at e
        cases e
        obtain ⟨vs, q, rs⟩ := R.at_ a _ ea
        exact ⟨a, vs, rfl, .of q, rs⟩
  | lst ds =>
    cases (show D.lst ds = _ from e)
    obtain ⟨a, vs, rfl, f, rs⟩ := r
    exact ⟨a, vs, rfl, f.2, rs⟩
  | non => cases (show D.non = _ from e)
  | bl b => cases (show D.bl b = _ from e)
  | int b => cases (show D.int b = _ from e)
  | str b => cases (show D.str b = _ from e)
  | tup b => cases (show D.tup b = _ from e)
  | dct => cases (show D.dct = _ from e)
  | scr b => cases (show D.scr b = _ from e)
theorem view_other {x y : D} (e : view h x = y) (n1 : ∀ xs, y ≠ .lst xs) (n2 : ∀ a, y ≠ .ref a) : x = y := by
  cases x with
  | ref a =>
    unfold view at e
    cases ea : h a with
    | none => simp only [ea] at e; exact absurd e.symm (n2 a)
    | some o =>
      cases o with
      | ins C fs => simp only [ea] at e; exact absurd e.symm (n2 a)
      | exd fs => simp only [ea] at e; exact absurd e.symm (n2 a)
      | lst ds => simp only [ea] at e; exact absurd e.symm (n1 ds)
  | _ => exact e
theorem xd_ix : IxD X dIx := by
  intro value slice pins s σ H v u vv uu Q I rv ru ⟨x, y, h, N, Q0, rx, ry, R, q, p⟩ hs
  cases y <;> first | exact (show False from q).elim | skip
  rename_i i
  cases rep_int ry
  unfold dIx at q
  dsimp only at q
  cases ex : view h x <;> rw [ex] at q <;> dsimp only at q <;> first | exact q.elim | skip
  · rename_i z
    have := view_other ex (fun _ z => nomatch z) (fun _ z => nomatch z)
    subst this
    cases rep_str rx
    obtain ⟨hz, q⟩ := q
    cases e : atI z.cps.toList i with
    | none => rw [e] at q; exact q.elim
    | some c =>
      rw [e] at q
      exact ix_str value slice pins s σ H _ _ vv uu Q I rv ru ⟨z, i, c, rfl, rfl, hz, e, post_at p R q rfl⟩ hs
  · rename_i xs
    have := view_other ex (fun _ z => nomatch z) (fun _ z => nomatch z)
    subst this
    obtain ⟨a, vs, rfl, f, rs⟩ := rx
    cases e : atI xs i with
    | none => rw [e] at q; exact q.elim
    | some c =>
      rw [e] at q
      obtain ⟨w, e2, rw'⟩ := atI_rep rs e
      exact ix_tup value slice pins s σ H _ _ vv uu Q I rv ru ⟨a, vs, i, w, rfl, rfl, f.sq, e2, post_at p R q rw'⟩ hs
  · rename_i xs
    obtain ⟨a, vs, rfl, f, rs⟩ := view_lst R rx ex
    cases e : atI xs i with
    | none => rw [e] at q; exact q.elim
    | some c =>
      rw [e] at q
      obtain ⟨w, e2, rw'⟩ := atI_rep rs e
      exact ix_list value slice pins s σ H _ _ vv uu Q I rv ru ⟨a, vs, i, w, rfl, rfl, .inl f, e2, post_at p R q rw'⟩ hs
  · rename_i ns
    have := view_other ex (fun _ z => nomatch z) (fun _ z => nomatch z)
    subst this
    obtain ⟨a, rfl, f⟩ := rx
    cases e : atI ns i with
    | none => rw [e] at q; exact q.elim
    | some c =>
      rw [e] at q
      have e2 : atI (ns.map V.int) i = some (.int c) := by
        unfold atI at e ⊢
        rw [List.length_map]
        cases z : ixN ns.length i with
        | none => rw [z] at e; cases e
        | some j =>
          rw [z] at e
          show (ns.map V.int)[j]? = _
          rw [List.getElem?_map]
          have e' : ns[j]? = some c := e
          rw [e']
          rfl
      exact ix_list value slice pins s σ H _ _ vv uu Q I rv ru ⟨a, _, i, .int c, rfl, rfl, f.sq, e2, post_at p R q rfl⟩ hs
end

/-! ### slices -/
def cutG {α : Type} (xs : List α) (lo hi : Option Int) : List α := (xs.drop (HT.sIx xs.length 0 lo)).take (HT.sIx xs.length xs.length hi - HT.sIx xs.length 0 lo)
theorem cutG_from {α : Type} (xs : List α) (k : Nat) : cutG xs (some (k : Int)) none = xs.drop k := by
  unfold cutG
  rw [HT.sIx_nat, HT.sIx_none]
  by_cases h : k ≤ xs.length
  · rw [Nat.min_eq_left h]
    exact List.take_of_length_le (by rw [List.length_drop]; exact Nat.le_refl _)
  · rw [Nat.min_eq_right (by omega), List.drop_eq_nil_of_le (Nat.le_refl _), List.drop_eq_nil_of_le (by omega), List.take_nil]
theorem cutG_to {α : Type} (xs : List α) (k : Nat) : cutG xs none (some (k : Int)) = xs.take k := by
  unfold cutG
  rw [HT.sIx_nat, HT.sIx_none, List.drop_zero, Nat.sub_zero]
  by_cases h : k ≤ xs.length
  · rw [Nat.min_eq_left h]
  · rw [Nat.min_eq_right (by omega), List.take_of_length_le (Nat.le_refl _), List.take_of_length_le (by omega)]
theorem cutG_all {α : Type} (xs : List α) : cutG xs none none = xs := by
  unfold cutG
  rw [HT.sIx_none, HT.sIx_none, List.drop_zero, Nat.sub_zero, List.take_of_length_le (Nat.le_refl _)]
theorem cutG_len {α : Type} (xs : List α) (lo hi : Option Int) : (cutG xs lo hi).length ≤ xs.length := by
  unfold cutG
  rw [List.length_take, List.length_drop]
  omega
theorem cutG_map {α β : Type} (f : α → β) (xs : List α) (lo hi : Option Int) : cutG (xs.map f) lo hi = (cutG xs lo hi).map f := by
  unfold cutG
  rw [List.length_map, List.map_take, List.map_drop]
def dSlice (x : D) (lo hi : Option Int) (h : DH) (Q : DK) : Prop := match view h x with
  | .tup xs => Q (.tup (cutG xs lo hi)) h
  | .lst xs => Q (.lst (cutG xs lo hi)) h
  | .str z => z.length ≤ sizeLine ∧ Q (.str (cutS z lo hi)) h
  | _ => False
section
variable {X : Cx} {K : PySem.W.Frag} {H : Hp} {h : DH} {N : NS}
theorem RepL.cut {xs : List D} {vs : List V} (r : RepL K H N xs vs) (lo hi : Option Int) : RepL K H N (cutG xs lo hi) (cutV vs lo hi) := by
  unfold cutG cutV
  rw [r.length]
  exact (r.drop _).take _
theorem sd_slice : SlD X dSlice := by
  intro pins s σ H v vv vl vu lo hi sl Q I rv hs pl pu ⟨x, h, N, Q0, rx, R, q, p⟩
  unfold dSlice at q
  cases ex : view h x <;> rw [ex] at q <;> dsimp only at q <;> first | exact q.elim | skip
  · rename_i z
    have := view_other ex (fun _ z => nomatch z) (fun _ z => nomatch z)
    subst this
    cases rep_str rx
    exact sl_str pins s σ H _ vv vl vu lo hi sl Q I rv hs pl pu ⟨z, rfl, q.1, post_at p R q.2 rfl⟩
  · rename_i xs
    have := view_other ex (fun _ z => nomatch z) (fun _ z => nomatch z)
    subst this
    obtain ⟨a, vs, rfl, f, rs⟩ := rx
    refine sl_tupA pins s σ H _ vv vl vu lo hi sl Q I rv hs pl pu ⟨a, vs, rfl, f.sq, fun z => ?_, fun _ t n => ?_⟩
    · refine post_at p R q ?_
      have e : cutG xs lo hi = xs := by
        unfold cutG
        rw [rs.length] at z
        rw [z.1, z.2, List.drop_zero, Nat.sub_zero, List.take_of_length_le (Nat.le_refl _)]
      rw [e]
      exact ⟨a, vs, rfl, f, rs⟩
    · obtain ⟨R1, e1, r3⟩ := tup_new R n (rs.cut lo hi)
      exact p _ _ _ _ _ q e1 R1 r3
  · rename_i xs
    obtain ⟨a, vs, rfl, f, rs⟩ := view_lst R rx ex
    refine sl_list pins s σ H _ vv vl vu lo hi sl Q I rv hs pl pu ⟨a, vs, rfl, .inl f, fun t n => ?_⟩
    obtain ⟨R1, e1, r3⟩ := lst_new R n (rs.cut lo hi)
    exact p _ _ _ _ _ q e1 R1 r3
theorem d_part {e : Expr} {W : WX} {t : DE} (he : DEp X W e t) : DOp X W (some e) (dPart t) := by
  refine PO.imp (po_some he) fun σ H Q ⟨τ, h, N, Q0, X0, S, R, z, p, ex⟩ => ?_
  refine ⟨τ, h, N, _, X0, S, R, z, fun x h1 N1 v H1 q e R1 rx => ?_, ex⟩
  cases x <;> first | exact (show False from q).elim | skip
  rename_i i
  cases rep_int rx
  exact ⟨i, rfl, p _ _ _ _ q e R1⟩
/-- x[::-1] of a list -/
def dRevL (t : DE) : DE := fun τ h Q X => t τ h (fun x h1 => match view h1 x with | .lst xs => Q (.lst xs.reverse) h1 | _ => False) X
theorem d_revL {e : Expr} {W : WX} {te : DE} {k : Nat} {p1 p2 p3 pos : Pos} (he : DEp X W e te) : DEp X W (.Subscript e (.Slice none none (some (.UnaryOp .USub (.Constant (.int 1) k p1) p2)) p3) pos) (dRevL te) := PE.imp (pe_revL he) fun σ H Q ⟨τ, h, N, Q0, X0, S, R, z, p, ex⟩ => by
  refine ⟨τ, h, N, _, X0, S, R, z, fun x h1 N1 v H1 q e R1 rx => ?_, ex⟩
  dsimp only at q
  cases ev : view h1 x <;> rw [ev] at q <;> dsimp only at q <;> first | exact q.elim | skip
  obtain ⟨a, vs, rfl, f, rs⟩ := view_lst R1 rx ev
  refine ⟨a, vs, rfl, .inl f, fun t n => ?_⟩
  obtain ⟨R2, e2, r3⟩ := lst_new R1 n rs.reverse
  exact p _ _ _ _ _ q (e.trans e2) R2 r3
end

/-! ### built-in calls -/
def dLen (vs : List D) (h : DH) (Q : DK) : Prop := match vs with
  | [x] => (match view h x with
    | .str z => z.length ≤ sizeLine ∧ Q (.int (z.length : Nat)) h
    | .tup xs => Q (.int (xs.length : Nat)) h
    | .lst xs => Q (.int (xs.length : Nat)) h
    | .scr ns => Q (.int (ns.length : Nat)) h
    | _ => False)
  | _ => False
/-- the bools of a list -/
def bools : List D → Option (List Bool)
  | [] => some []
  | .bl b :: r => (bools r).map (b :: ·)
  | _ => none
theorem bools_map : ∀ bs : List Bool, bools (bs.map D.bl) = some bs
  | [] => rfl
  | b :: bs => by rw [List.map_cons]; simp only [bools, bools_map bs, Option.map_some]
theorem bools_eq : ∀ {xs : List D} {bs : List Bool}, bools xs = some bs → xs = bs.map D.bl
  | [], bs, e => by cases e; rfl
  | .bl b :: r, bs, e => by
    simp only [bools] at e
    cases q : bools r with
    | none => rw [q] at e; cases e
    | some c => rw [q] at e; cases e; rw [bools_eq q]; rfl
  | .non :: _, _, e => by cases e
  | .int _ :: _, _, e => by cases e
  | .str _ :: _, _, e => by cases e
  | .tup _ :: _, _, e => by cases e
  | .lst _ :: _, _, e => by cases e
  | .dct :: _, _, e => by cases e
  | .scr _ :: _, _, e => by cases e
  | .ref _ :: _, _, e => by cases e
def dAll (vs : List D) (h : DH) (Q : DK) : Prop := match vs with
  | [.lst xs] => (match bools xs with | some bs => Q (.bl (bs.all id)) h | none => False)
  | _ => False
def dAny (vs : List D) (h : DH) (Q : DK) : Prop := match vs with
  | [.lst xs] => (match bools xs with | some bs => Q (.bl (bs.any id)) h | none => False)
  | _ => False
def intsOf : List D → Option (List Int)
  | [] => some []
  | .int b :: r => (intsOf r).map (b :: ·)
  | _ => none
theorem intsOf_map : ∀ bs : List Int, intsOf (bs.map D.int) = some bs
  | [] => rfl
  | b :: bs => by rw [List.map_cons]; simp only [intsOf, intsOf_map bs, Option.map_some]
theorem intsOf_eq : ∀ {xs : List D} {bs : List Int}, intsOf xs = some bs → xs = bs.map D.int
  | [], bs, e => by cases e; rfl
  | .int b :: r, bs, e => by
    simp only [intsOf] at e
    cases q : intsOf r with
    | none => rw [q] at e; cases e
    | some c => rw [q] at e; cases e; rw [intsOf_eq q]; rfl
  | .non :: _, _, e => by cases e
  | .bl _ :: _, _, e => by cases e
  | .str _ :: _, _, e => by cases e
  | .tup _ :: _, _, e => by cases e
  | .lst _ :: _, _, e => by cases e
  | .dct :: _, _, e => by cases e
  | .scr _ :: _, _, e => by cases e
  | .ref _ :: _, _, e => by cases e
def strsOf : List D → Option (List Str)
  | [] => some []
  | .str b :: r => (strsOf r).map (b :: ·)
  | _ => none
theorem strsOf_map : ∀ bs : List Str, strsOf (bs.map D.str) = some bs
  | [] => rfl
  | b :: bs => by rw [List.map_cons]; simp only [strsOf, strsOf_map bs, Option.map_some]
theorem strsOf_eq : ∀ {xs : List D} {bs : List Str}, strsOf xs = some bs → xs = bs.map D.str
  | [], bs, e => by cases e; rfl
  | .str b :: r, bs, e => by
    simp only [strsOf] at e
    cases q : strsOf r with
    | none => rw [q] at e; cases e
    | some c => rw [q] at e; cases e; rw [strsOf_eq q]; rfl
  | .non :: _, _, e => by cases e
  | .bl _ :: _, _, e => by cases e
  | .int _ :: _, _, e => by cases e
  | .tup _ :: _, _, e => by cases e
  | .lst _ :: _, _, e => by cases e
  | .dct :: _, _, e => by cases e
  | .scr _ :: _, _, e => by cases e
  | .ref _ :: _, _, e => by cases e
def dSum (vs : List D) (h : DH) (Q : DK) : Prop := match vs with
  | [x] => (match view h x with
    | .lst xs => (match intsOf xs with | some ns => Q (.int ns.sum) h | none => False)
    | _ => False)
  | _ => False
def dTuple (vs : List D) (h : DH) (Q : DK) : Prop := match vs with
  | [x] => (match view h x with
    | .lst xs => Q (.tup xs) h
    | .tup xs => Q (.tup xs) h
    | _ => False)
  | _ => False
def dList (vs : List D) (h : DH) (Q : DK) : Prop := match vs with
  | [x] => (match view h x with
    | .lst xs => Q (.lst xs) h
    | .tup xs => Q (.lst xs) h
    | _ => False)
  | _ => False
/-- .. a list that will change -/
def dListM (vs : List D) (h : DH) (Q : DK) : Prop := match vs with
  | [x] => (match view h x with
    | .lst xs => ∀ p, h p = none → Q (.ref p) (dupd h p (.lst xs))
    | .tup xs => ∀ p, h p = none → Q (.ref p) (dupd h p (.lst xs))
    | _ => False)
  | _ => False
def dMax2 (vs : List D) (h : DH) (Q : DK) : Prop := match vs with
  | [.int i, .int j] => Q (.int (if j > i then j else i)) h
  | _ => False
def dMin2 (vs : List D) (h : DH) (Q : DK) : Prop := match vs with
  | [.int i, .int j] => Q (.int (if j < i then j else i)) h
  | _ => False
def dAbs (vs : List D) (h : DH) (Q : DK) : Prop := match vs with
  | [.int i] => Q (.int (if i < 0 then -i else i)) h
  | _ => False
def dInt (vs : List D) (h : DH) (Q : DK) : Prop := match vs with
  | [.int i] => Q (.int i) h
  | [.bl b] => Q (.int (if b then 1 else 0)) h
  | _ => False
def dStrI (vs : List D) (h : DH) (Q : DK) : Prop := match vs with
  | [.int i] => i.natAbs.log2 < 1920 ∧ Q (.str (toString i)) h
  | _ => False
section
variable {X : Cx} {K : PySem.W.Frag} {H : Hp} {h : DH} {N : NS}
theorem repl1 {xs : List D} {vs : List V} {x : D} (e : xs = [x]) (r : RepL K H N xs vs) : ∃ v, vs = [v] ∧ Rep K H N x v := by
  subst e
  obtain ⟨v, t, rfl, r1, r2⟩ := r
  cases (show t = _ from r2)
  exact ⟨v, rfl, r1⟩
theorem repl2 {xs : List D} {vs : List V} {x y : D} (e : xs = [x, y]) (r : RepL K H N xs vs) : ∃ v u, vs = [v, u] ∧ Rep K H N x v ∧ Rep K H N y u := by
  subst e
  obtain ⟨v, t, rfl, r1, u, t2, rfl, r2, r3⟩ := r
  cases (show t2 = _ from r3)
  exact ⟨v, u, rfl, r1, r2⟩
theorem cd_len : CallD X (.builtin "len") dLen := by
  intro pins s σ H vs us Q I rv ⟨xs, h, N, Q0, rx, R, q, p⟩
  match xs, rx, q with
  | [x], rx, q =>
    obtain ⟨v, rfl, r1⟩ := repl1 rfl rx
    unfold dLen at q
    dsimp only at q
    cases ex : view h x <;> rw [ex] at q <;> dsimp only at q <;> first | exact q.elim | skip
    · rename_i z
      have := view_other ex (fun _ z => nomatch z) (fun _ z => nomatch z)
      subst this
      cases rep_str r1
      exact call_len pins s σ H _ us Q I rv ⟨_, z.length, rfl, ⟨q.1, rfl⟩, post_at p R q.2 rfl⟩
    · rename_i xs
      have := view_other ex (fun _ z => nomatch z) (fun _ z => nomatch z)
      subst this
      obtain ⟨a, vs, rfl, f, rs⟩ := r1
      exact call_len pins s σ H _ us Q I rv ⟨_, vs.length, rfl, .inr ⟨vs, f.sq, rfl⟩, by rw [rs.length]; exact post_at p R q rfl⟩
    · rename_i xs
      obtain ⟨a, vs, rfl, f, rs⟩ := view_lst R r1 ex
      exact call_len pins s σ H _ us Q I rv ⟨_, vs.length, rfl, .inl ⟨vs, .inl f, rfl⟩, by rw [rs.length]; exact post_at p R q rfl⟩
    · rename_i ns
      have := view_other ex (fun _ z => nomatch z) (fun _ z => nomatch z)
      subst this
      obtain ⟨a, rfl, f⟩ := r1
      exact call_len pins s σ H _ us Q I rv ⟨_, ns.length, rfl, .inl ⟨_, f.sq, by rw [List.length_map]⟩, post_at p R q rfl⟩
  | [], _, q => exact (show False from q).elim
  | _ :: _ :: _, _, q => exact (show False from q).elim
theorem rep_lstV {xs : List D} {v : V} (r : Rep K H N (.lst xs) v) : ∃ a vs, v = .ref a ∧ Rd H a (.lst vs) ∧ RepL K H N xs vs := by
  obtain ⟨a, vs, rfl, f, rs⟩ := r
  exact ⟨a, vs, rfl, f.2, rs⟩
theorem cd_all (hc : X.calm = true) : CallD X (.builtin "all") dAll := by
  intro pins s σ H vs us Q I rv ⟨xs, h, N, Q0, rx, R, q, p⟩
  unfold dAll at q
  split at q
  · rename_i ys
    obtain ⟨v, rfl, r1⟩ := repl1 rfl rx
    cases eb : bools ys with
    | none => rw [eb] at q; exact q.elim
    | some bs =>
      rw [eb] at q
      have := bools_eq eb
      subst this
      obtain ⟨a, vs, rfl, f, rs⟩ := rep_lstV r1
      have := rs.bls
      subst this
      exact cr_all hc pins s σ H _ us Q I rv ⟨a, bs, rfl, .inl f, post_at p R q rfl⟩
  · exact q.elim
theorem cd_any (hc : X.calm = true) : CallD X (.builtin "any") dAny := by
  intro pins s σ H vs us Q I rv ⟨xs, h, N, Q0, rx, R, q, p⟩
  unfold dAny at q
  split at q
  · rename_i ys
    obtain ⟨v, rfl, r1⟩ := repl1 rfl rx
    cases eb : bools ys with
    | none => rw [eb] at q; exact q.elim
    | some bs =>
      rw [eb] at q
      have := bools_eq eb
      subst this
      obtain ⟨a, vs, rfl, f, rs⟩ := rep_lstV r1
      have := rs.bls
      subst this
      exact cr_any hc pins s σ H _ us Q I rv ⟨a, bs, rfl, .inl f, post_at p R q rfl⟩
  · exact q.elim
theorem cd_sum (hc : X.calm = true) : CallD X (.builtin "sum") dSum := by
  intro pins s σ H vs us Q I rv ⟨xs, h, N, Q0, rx, R, q, p⟩
  unfold dSum at q
  split at q
  · rename_i x
    obtain ⟨v, rfl, r1⟩ := repl1 rfl rx
    cases ex : view h x <;> rw [ex] at q <;> dsimp only at q <;> first | exact q.elim | skip
    rename_i ys
    obtain ⟨a, vs, rfl, f, rs⟩ := view_lst R r1 ex
    cases eb : intsOf ys with
    | none => rw [eb] at q; exact q.elim
    | some ns =>
      rw [eb] at q
      have := intsOf_eq eb
      subst this
      have := rs.ints
      subst this
      exact cr_sum hc pins s σ H _ us Q I rv ⟨a, ns, rfl, .inl f, post_at p R q rfl⟩
  · exact q.elim
theorem cd_tuple : CallD X (.type "tuple") dTuple := by
  intro pins s σ H vs us Q I rv ⟨xs, h, N, Q0, rx, R, q, p⟩
  unfold dTuple at q
  split at q
  · rename_i x
    obtain ⟨v, rfl, r1⟩ := repl1 rfl rx
    cases ex : view h x <;> rw [ex] at q <;> dsimp only at q <;> first | exact q.elim | skip
    · rename_i xs
      have := view_other ex (fun _ z => nomatch z) (fun _ z => nomatch z)
      subst this
      have rx0 := r1
      obtain ⟨a, vs, rfl, f, rs⟩ := r1
      exact call_tuple_of pins s σ H _ us Q I rv ⟨a, vs, rfl, .inr ⟨f.sq, post_at p R q rx0⟩⟩
    · rename_i xs
      obtain ⟨a, vs, rfl, f, rs⟩ := view_lst R r1 ex
      refine call_tuple_of pins s σ H _ us Q I rv ⟨a, vs, rfl, .inl ⟨.inl f, fun t n => ?_⟩⟩
      obtain ⟨R2, e2, r3⟩ := tup_new R n rs
      exact p _ _ _ _ _ q e2 R2 r3
  · exact q.elim
theorem cd_list : CallD X (.type "list") dList := by
  intro pins s σ H vs us Q I rv ⟨xs, h, N, Q0, rx, R, q, p⟩
  unfold dList at q
  split at q
  · rename_i x
    obtain ⟨v, rfl, r1⟩ := repl1 rfl rx
    cases ex : view h x <;> rw [ex] at q <;> dsimp only at q <;> first | exact q.elim | skip
    · rename_i xs
      have := view_other ex (fun _ z => nomatch z) (fun _ z => nomatch z)
      subst this
      obtain ⟨a, vs, rfl, f, rs⟩ := r1
      refine call_list_of pins s σ H _ us Q I rv ⟨a, vs, rfl, .inr f.sq, fun t n => ?_⟩
      obtain ⟨R2, e2, r3⟩ := lst_new R n rs
      exact p _ _ _ _ _ q e2 R2 r3
    · rename_i xs
      obtain ⟨a, vs, rfl, f, rs⟩ := view_lst R r1 ex
      refine call_list_of pins s σ H _ us Q I rv ⟨a, vs, rfl, .inl (.inl f), fun t n => ?_⟩
      obtain ⟨R2, e2, r3⟩ := lst_new R n rs
      exact p _ _ _ _ _ q e2 R2 r3
  · exact q.elim
theorem cd_listM : CallD X (.type "list") dListM := by
  intro pins s σ H vs us Q I rv ⟨xs, h, N, Q0, rx, R, q, p⟩
  unfold dListM at q
  split at q
  · rename_i x
    obtain ⟨v, rfl, r1⟩ := repl1 rfl rx
    cases ex : view h x <;> rw [ex] at q <;> dsimp only at q <;> first | exact q.elim | skip
    · rename_i xs
      have := view_other ex (fun _ z => nomatch z) (fun _ z => nomatch z)
      subst this
      obtain ⟨a, vs, rfl, f, rs⟩ := r1
      refine call_list_of pins s σ H _ us Q I rv ⟨a, vs, rfl, .inr f.sq, fun t n => ?_⟩
      obtain ⟨R2, e2⟩ := lst_newM R n rs
      exact p _ _ _ _ _ (q t (R.none n)) e2 R2 rfl
    · rename_i xs
      obtain ⟨a, vs, rfl, f, rs⟩ := view_lst R r1 ex
      refine call_list_of pins s σ H _ us Q I rv ⟨a, vs, rfl, .inl (.inl f), fun t n => ?_⟩
      obtain ⟨R2, e2⟩ := lst_newM R n rs
      exact p _ _ _ _ _ (q t (R.none n)) e2 R2 rfl
  · exact q.elim
theorem cd_max2 (hc : X.calm = true) : CallD X (.builtin "max") dMax2 := by
  intro pins s σ H vs us Q I rv ⟨xs, h, N, Q0, rx, R, q, p⟩
  unfold dMax2 at q
  split at q
  · obtain ⟨v, u, rfl, r1, r2⟩ := repl2 rfl rx
    cases rep_int r1; cases rep_int r2
    exact call_max2 hc pins s σ H _ us Q I rv ⟨_, _, rfl, post_at p R q rfl⟩
  · exact q.elim
theorem cd_min2 (hc : X.calm = true) : CallD X (.builtin "min") dMin2 := by
  intro pins s σ H vs us Q I rv ⟨xs, h, N, Q0, rx, R, q, p⟩
  unfold dMin2 at q
  split at q
  · obtain ⟨v, u, rfl, r1, r2⟩ := repl2 rfl rx
    cases rep_int r1; cases rep_int r2
    exact call_min2 hc pins s σ H _ us Q I rv ⟨_, _, rfl, post_at p R q rfl⟩
  · exact q.elim
theorem cd_abs : CallD X (.builtin "abs") dAbs := by
  intro pins s σ H vs us Q I rv ⟨xs, h, N, Q0, rx, R, q, p⟩
  unfold dAbs at q
  split at q
  · obtain ⟨v, rfl, r1⟩ := repl1 rfl rx
    cases rep_int r1
    exact call_abs pins s σ H _ us Q I rv ⟨_, rfl, post_at p R q rfl⟩
  · exact q.elim
theorem cd_int : CallD X (.type "int") dInt := by
  intro pins s σ H vs us Q I rv ⟨xs, h, N, Q0, rx, R, q, p⟩
  unfold dInt at q
  split at q
  · obtain ⟨v, rfl, r1⟩ := repl1 rfl rx
    cases rep_int r1
    exact call_int1 pins s σ H _ us Q I rv (.inl ⟨_, rfl, post_at p R q rfl⟩)
  · obtain ⟨v, rfl, r1⟩ := repl1 rfl rx
    cases rep_bl r1
    exact call_int1 pins s σ H _ us Q I rv (.inr ⟨_, rfl, post_at p R q rfl⟩)
  · exact q.elim
theorem cd_strI : CallD X (.type "str") dStrI := by
  intro pins s σ H vs us Q I rv ⟨xs, h, N, Q0, rx, R, q, p⟩
  unfold dStrI at q
  split at q
  · obtain ⟨v, rfl, r1⟩ := repl1 rfl rx
    cases rep_int r1
    exact call_str_int pins s σ H _ us Q I rv ⟨_, rfl, q.1, post_at p R q.2 rfl⟩
  · exact q.elim
end
end DL

/-! D5: isinstance of built-in types, repr, methods of lists and texts. -/
namespace DL
open PySem PySem.Spec L2 PyProof.Rows

/-! ### isinstance(x, T), T a built-in type -/
def tyN : D → String
  | .non => "NoneType"
  | .bl _ => "bool"
  | .int _ => "int"
  | .str _ => "str"
  | .tup _ => "tuple"
  | .lst _ => "list"
  | .scr _ => "list"
  | .dct => "dict"
  | .ref _ => "?"
def isiB (t T : String) : Bool := t == T || (t == "bool" && T == "int")
def dTyp (T : String) : DE := fun _ _ _ _ => False
/-- isinstance(e, T) -/
def dIsi (T : String) (t : DE) : DE := fun τ h Q X => t τ h (fun x h1 => tyN (view h1 x) ≠ "?" ∧ Q (.bl (isiB (tyN (view h1 x)) T)) h1) X
section
variable {X : Cx} {K : PySem.W.Frag} {H : Hp} {h : DH} {N : NS}
theorem tyx (R : HRep K H h N) {d : D} {v : V} (r : Rep K H N d v) (hd : tyN (view h d) ≠ "?") : TyX K H v (.type (tyN (view h d))) := by
  cases ex : view h d with
  | non => cases view_other ex (fun _ z => nomatch z) (fun _ z => nomatch z); cases rep_non r; exact .base .non
  | bl b => cases view_other ex (fun _ z => nomatch z) (fun _ z => nomatch z); cases rep_bl r; exact .base (.bl _)
  | int b => cases view_other ex (fun _ z => nomatch z) (fun _ z => nomatch z); cases rep_int r; exact .base (.int _)
  | str b => cases view_other ex (fun _ z => nomatch z) (fun _ z => nomatch z); cases rep_str r; exact .base (.str _)
  | tup xs =>
    cases view_other ex (fun _ z => nomatch z) (fun _ z => nomatch z)
    obtain ⟨a, vs, rfl, f, rs⟩ := r
    rcases f with ⟨_, f | ⟨o, f⟩⟩ | ⟨o, its, n, k, c, _⟩
    · exact .base (.tup f)
    · exact .fTuple f
    · exact .kTuple k c
  | lst xs =>
    obtain ⟨a, vs, rfl, f, rs⟩ := view_lst R r ex
    rcases f with f | ⟨o, f⟩
    · exact .base (.lst f)
    · exact .base (.frz f)
  | scr ns =>
    cases view_other ex (fun _ z => nomatch z) (fun _ z => nomatch z)
    obtain ⟨a, rfl, f⟩ := r
    rcases f with ⟨_, f | ⟨o, f⟩⟩ | ⟨o, its, n, k, c, _⟩
    · exact .base (.lst f)
    · exact .base (.frz f)
    · exact .kList k c
  | dct =>
    cases view_other ex (fun _ z => nomatch z) (fun _ z => nomatch z)
    obtain ⟨a, rfl, n, f⟩ := r
    rcases f with f | ⟨o, f⟩
    · exact .base (.dK f)
    · exact .fDict f
  | ref a => rw [ex] at hd; exact absurd rfl hd
theorem kit_all : ∀ t ∈ ["NoneType", "bool", "int", "str", "tuple", "list", "dict"], ∀ T ∈ ["int", "bool", "str", "tuple", "list", "dict"], kitB t T = some (isiB t T) := by decide +kernel
theorem tyN_mem {d : D} (hd : tyN d ≠ "?") : tyN d ∈ ["NoneType", "bool", "int", "str", "tuple", "list", "dict"] := by
  cases d <;> simp [tyN] at hd ⊢
theorem kit_isi (T : String) (hT : T ∈ ["int", "bool", "str", "tuple", "list", "dict"]) (d : D) (hd : tyN d ≠ "?") : PySem.W.kitOne K (.type (tyN d)) (.type T) = some (isiB (tyN d) T) :=
  kit_ty (kit_all _ (tyN_mem hd) _ hT)
theorem d_isi {T : String} {x y : Str} {e : Expr} {W : WX} {t : DE} {p p2 pos : Pos} (hT : T ∈ ["int", "bool", "str", "tuple", "list", "dict"]) (hg : Gl X "isinstance") (hm : X.mg "isinstance" = none)
    (hgT : Gl X y) (hmT : X.mg y = none) (hv : bootBuiltins y = some (.type T)) (he : DEp X W e t) (hn : y ≠ "__name__" := by decide) (hdb : (y == ("__debug__" : Str)) = false := by decide)
    (hs1 : starEach [e, .Name y p2] X.env = (false, eval e X.env) :: starEach [.Name y p2] X.env := by rfl) (hs2 : starEach [.Name y p2] X.env = (false, eval (.Name y p2) X.env) :: starEach [] X.env := by rfl) (hpl : (backTo pos (starEach [.Name y p2] X.env)).any (·.1) = false := by rfl) :
    DEp X W (.Call (.Name "isinstance" p) [e, .Name y p2] [] pos) (dIsi T t) := by
  refine PE.imp (pe_callB call_isi hg hm (by decide +kernel) (pa_cons he (pa_cons (pe_bltn (v := .ty T) hgT hmT hv rfl hn hdb) pa_nil hs2) hs1) (by decide) (by decide) hs1 hpl) fun σ H Q ⟨τ, h, N, Q0, X0, S, R, z, p, ex⟩ => ?_
  refine ⟨τ, h, N, _, X0, S, R, z, fun d h1 N1 v H1 q e R1 rx => ?_, ex⟩
  exact ⟨v, .ty T, _, _, _, rfl, .ty T, tyx R1 rx q.1, kit_isi T hT _ q.1, p _ _ _ _ _ q.2 e R1 rfl⟩
end

/-! ### repr -/
def shownD (x : D) : Str := PyData.shown (py x)
def dRepr (vs : List D) (h : DH) (Q : DK) : Prop := match vs with
  | [x] => rn 12 (view h x) = true ∧ wt (view h x) ≤ 16000000 ∧ Q (.str (shownD (view h x))) h
  | _ => False
theorem shownL (xs : List D) : PyData.shownAll (pyL xs) = xs.map shownD := by
  induction xs with
  | nil => rfl
  | cons x xs ih => simp only [pyL, PyData.shownAll, List.map_cons, ih]; rfl
theorem textFrom_le : ∀ (ts : List Str) (k : Nat) (acc : Str), (textFrom k acc ts).length ≤ acc.length + piled ts
  | [], k, acc => by show acc.length ≤ _; omega
  | t :: r, k, acc => by
    have ih := textFrom_le r (k + 1) (acc ++ (if k > 0 then ", " else "" : String) ++ t)
    have e : (acc ++ (if k > 0 then ", " else "" : String) ++ t).length = acc.length + (if k > 0 then 2 else 0) + t.length := by
      rw [strLen_append, strLen_append]
      by_cases h : k > 0
      · rw [if_pos h, if_pos h]; rfl
      · rw [if_neg h, if_neg h]; rfl
    rw [e] at ih
    rw [piled_cons]
    show (textFrom (k + 1) (acc ++ (if k > 0 then ", " else "" : String) ++ t) r).length ≤ _
    have h2 : (if k > 0 then 2 else 0) ≤ 2 := by split <;> omega
    omega
theorem listText_le (ts : List Str) : (listText ts).length ≤ piled ts + 2 := by
  have h := textFrom_le ts 0 "["
  show (textFrom 0 "[" ts ++ "]").length ≤ _
  rw [strLen_append]
  have e1 : (("[" : Str)).length = 1 := rfl
  have e2 : (("]" : Str)).length = 1 := rfl
  omega
theorem join_le : ∀ ts : List Str, (Str.join ", " ts).length ≤ piled ts := by
  intro ts
  by_cases h : ts = []
  · subst h; exact Nat.le_refl _
  · have := join_length_add ts h; omega
theorem tupleText_le (ts : List Str) : (tupleText ts).length ≤ piled ts + 3 := by
  have h := join_le ts
  unfold tupleText
  rw [strLen_append, strLen_append]
  have e1 : (("(" : Str)).length = 1 := rfl
  have e2 : (((if ts.length == 1 then ",)" else ")" : String) : Str)).length ≤ 2 := by
    split
    · exact Nat.le_refl _
    · show (")" : Str).length ≤ 2
      decide
  omega
theorem rn_show : ∀ (n : Nat) (d : D), rn n d = true → (py d).showable = true ∧ (shownD d).length ≤ wt d ∧ (py d).depth ≤ n + 1 := by
  intro n
  induction n with
  | zero =>
    intro d h
    cases d <;> simp only [rn] at h <;> first | exact absurd h Bool.false_ne_true | skip
    · exact ⟨rfl, by decide, Nat.zero_le _⟩
    · rename_i b; cases b <;> exact ⟨rfl, by decide, Nat.zero_le _⟩
    · rename_i i
      refine ⟨h, ?_, Nat.zero_le _⟩
      have hi := of_decide_eq_true h
      have := int_text_length_le (a := i) (k := i.natAbs.log2 + 1) (by omega) (by omega)
      show (Str.ofString (toString i)).length ≤ i.natAbs.log2 + 3
      rw [PySem.ofString_length]
      omega
    · rename_i x
      refine ⟨rfl, ?_, Nat.zero_le _⟩
      show (reprText x).length ≤ 10 * x.length + 2
      refine StrLaws.reprText_len x fun c hc => ?_
      unfold PyData.strOk at h
      have := Array.all_eq_true'.mp h c (by simpa using hc)
      have h2 := of_decide_eq_true this
      omega
  | succ n ih =>
    have all : ∀ xs : List D, xs.all (rn n) = true → PyData.showableAll (pyL xs) = true ∧ piled (xs.map shownD) ≤ wt.wtL xs ∧ PyData.depthAll (pyL xs) ≤ n + 1 := by
      intro xs
      induction xs with
      | nil => intro _; exact ⟨rfl, Nat.le_refl _, Nat.zero_le _⟩
      | cons x xs ih2 =>
        intro h
        rw [List.all_cons, Bool.and_eq_true] at h
        obtain ⟨a1, a2, a3⟩ := ih x h.1
        obtain ⟨b1, b2, b3⟩ := ih2 h.2
        refine ⟨?_, ?_, ?_⟩
        · simp only [pyL, PyData.showableAll, a1, b1]; rfl
        · rw [List.map_cons, piled_cons]; simp only [wt.wtL]; omega
        · simp only [pyL, PyData.depthAll]; exact Nat.max_le.mpr ⟨a3, b3⟩
    intro d h
    cases d with
    | tup xs =>
      simp only [rn] at h
      obtain ⟨a, b, c⟩ := all xs h
      refine ⟨?_, ?_, ?_⟩
      · simp only [py, PyData.showable]; exact a
      · unfold shownD; simp only [py, PyData.shown, wt]; rw [shownL]
        have := tupleText_le (xs.map shownD)
        omega
      · simp only [py, PyData.depth]; omega
    | lst xs =>
      simp only [rn] at h
      obtain ⟨a, b, c⟩ := all xs h
      refine ⟨?_, ?_, ?_⟩
      · simp only [py, PyData.showable]; exact a
      · unfold shownD; simp only [py, PyData.shown, wt]; rw [shownL]
        have := listText_le (xs.map shownD)
        omega
      · simp only [py, PyData.depth]; omega
    | dct => simp only [rn] at h; exact absurd h Bool.false_ne_true
    | non => exact ⟨rfl, by decide, Nat.zero_le _⟩
    | bl b => cases b <;> exact ⟨rfl, by decide, Nat.zero_le _⟩
    | int i =>
      simp only [rn] at h
      refine ⟨h, ?_, Nat.zero_le _⟩
      have hi := of_decide_eq_true h
      have := int_text_length_le (a := i) (k := i.natAbs.log2 + 1) (by omega) (by omega)
      show (Str.ofString (toString i)).length ≤ i.natAbs.log2 + 3
      rw [PySem.ofString_length]
      omega
    | str x =>
      simp only [rn] at h
      refine ⟨rfl, ?_, Nat.zero_le _⟩
      show (reprText x).length ≤ 10 * x.length + 2
      refine StrLaws.reprText_len x fun c hc => ?_
      unfold PyData.strOk at h
      have := Array.all_eq_true'.mp h c (by simpa using hc)
      have h2 := of_decide_eq_true this
      omega
    | scr _ => simp only [rn] at h; exact absurd h Bool.false_ne_true
    | ref _ => simp only [rn] at h; exact absurd h Bool.false_ne_true
section
variable {X : Cx} {pins : List (Addr × Obj)} {σ : L2.St} {H : Hp} {s : Shared} {h : DH} {N : NS}
theorem rn_dn : ∀ (n : Nat) (d : D), rn n d = true → dn n d = true := by
  intro n
  induction n with
  | zero => intro d h; cases d <;> simp only [rn, dn] at h ⊢ <;> exact h
  | succ n ih =>
    intro d h
    cases d <;> simp only [rn, dn] at h ⊢ <;> first | exact h | (rw [List.all_eq_true] at h ⊢; exact fun x hx => ih x (h x hx))
theorem cd_repr (hg : X.A.guards = some []) (hu : X.A.units + 64 < cLine) : CallD X (.builtin "repr") dRepr := by
  intro pins s σ H vs us Q I rv ⟨xs, h, N, Q0, rx, R, q, p⟩
  unfold dRepr at q
  split at q
  · rename_i x
    obtain ⟨v, rfl, r1⟩ := repl1 rfl rx
    obtain ⟨hr, hw, q⟩ := q
    have hd := rn_dn _ _ hr
    have hz : (sizeLine : Nat) = 16777216 := sizeLine_eq
    obtain ⟨s1, s2, s3⟩ := rn_show _ _ hr
    have dp := view_dp R r1 hd
    obtain ⟨u, rfl, ru⟩ : ∃ u, us = [u] ∧ RelV v u := by
      cases rv with
      | cons a b => cases b; exact ⟨_, rfl, a⟩
    obtain ⟨as, rd⟩ := Dp.reads I _ v u dp ru
    have hnd := PyData.hasDict_of_canLay _ (dn_lay _ _ hd).1
    have fin : ∀ (h' : Heap) (t : Tok) (tk : Nat), (∀ b o, s.heap.get? b = some o → h'.get? b = some o) → EP X pins σ Q (.str (shownD (view h x)) t) { s with heap := h', toks := tk } := fun h' t tk k =>
      ⟨.str (shownD (view h x)), H, I.kept k, ⟨t, rfl⟩, post_at p R q rfl⟩
    cases ex : view h x with
    | non =>
      cases view_other ex (fun _ z => nomatch z) (fun _ z => nomatch z)
      cases rep_non r1; cases ru
      exact PySem.P.repr_of_none (fin s.heap _ _ fun _ _ e => e)
    | bl b =>
      cases view_other ex (fun _ z => nomatch z) (fun _ z => nomatch z)
      cases rep_bl r1; cases ru
      exact PySem.P.repr_of_bool (fin s.heap _ _ fun _ _ e => e)
    | int i =>
      cases view_other ex (fun _ z => nomatch z) (fun _ z => nomatch z)
      cases rep_int r1
      obtain ⟨t, rfl⟩ := ru
      rw [ex] at hr
      exact PySem.P.repr_of_int (of_decide_eq_true hr) (fin s.heap _ _ fun _ _ e => e)
    | str z =>
      cases view_other ex (fun _ z => nomatch z) (fun _ z => nomatch z)
      cases rep_str r1
      obtain ⟨t, rfl⟩ := ru
      have : (reprText z).length ≤ sizeLine := by
        rw [ex] at s2 hw
        have e : (reprText z).length ≤ wt (.str z) := s2
        omega
      exact PySem.P.repr_of_str (fin s.heap _ _ fun _ _ e => e) this
    | tup zs =>
      cases view_other ex (fun _ z => nomatch z) (fun _ z => nomatch z)
      obtain ⟨a, ws, rfl, f, rs⟩ := r1
      cases ru
      refine repr_of_reads' rd s1 (fun e => by rw [hnd] at e; cases e) hg (by omega) (fun _ _ e => e) (fun h' t tk k => fin h' t tk k) ?_
      have e : (PyData.shown (py (view h (.tup zs)))).length ≤ wt (view h (.tup zs)) := s2
      omega
    | lst zs =>
      obtain ⟨a, ws, rfl, f, rs⟩ := view_lst R r1 ex
      cases ru
      refine repr_of_reads' rd s1 (fun e => by rw [hnd] at e; cases e) hg (by omega) (fun _ _ e => e) (fun h' t tk k => fin h' t tk k) ?_
      have e : (PyData.shown (py (view h x))).length ≤ wt (view h x) := s2
      omega
    | dct => rw [ex] at hr; exact absurd (show false = true from hr) Bool.false_ne_true
    | scr _ => rw [ex] at hr; exact absurd (show false = true from hr) Bool.false_ne_true
    | ref _ => rw [ex] at hr; exact absurd (show false = true from hr) Bool.false_ne_true
  · exact q.elim
end

/-! ### methods of lists -/
def dAppend (x : D) (ys : List D) (h : DH) (Q : DK) : Prop := match x, ys with
  | .ref a, [y] => (match h a with | some (.lst ds) => ds.length < sizeLine ∧ Q .non (dupd h a (.lst (ds ++ [y]))) | _ => False)
  | _, _ => False
def dPop0 (x : D) (ys : List D) (h : DH) (Q : DK) : Prop := match x, ys with
  | .ref a, [] => (match h a with | some (.lst ds) => (match ds[ds.length - 1]? with | some d => Q d (dupd h a (.lst ds.dropLast)) | none => False) | _ => False)
  | _, _ => False
def dPopAt (x : D) (ys : List D) (h : DH) (Q : DK) : Prop := match x, ys with
  | .ref a, [.int i] => (match h a with | some (.lst ds) => 0 ≤ i ∧ i < 2 ^ 63 ∧ (match ds[i.toNat]? with | some d => Q d (dupd h a (.lst (ds.eraseIdx i.toNat))) | none => False) | _ => False)
  | _, _ => False
def dInsert (x : D) (ys : List D) (h : DH) (Q : DK) : Prop := match x, ys with
  | .ref a, [.int i, y] => (match h a with | some (.lst ds) => ds.length < sizeLine ∧ 0 ≤ i ∧ i < 2 ^ 63 ∧ Q .non (dupd h a (.lst (ds.take i.toNat ++ [y] ++ ds.drop i.toNat))) | _ => False)
  | _, _ => False
def dClear (x : D) (ys : List D) (h : DH) (Q : DK) : Prop := match x, ys with
  | .ref a, [] => (match h a with | some (.lst ds) => Q .non (dupd h a (.lst [])) | _ => False)
  | _, _ => False
def dReverse (x : D) (ys : List D) (h : DH) (Q : DK) : Prop := match x, ys with
  | .ref a, [] => (match h a with | some (.lst ds) => Q .non (dupd h a (.lst ds.reverse)) | _ => False)
  | _, _ => False
def dExtend (x : D) (ys : List D) (h : DH) (Q : DK) : Prop := match x, ys with
  | .ref a, [y] => (match h a, view h y with | some (.lst ds), .lst es => ds.length + es.length ≤ sizeLine ∧ Q .non (dupd h a (.lst (ds ++ es))) | _, _ => False)
  | _, _ => False
section
variable {X : Cx} {K : PySem.W.Frag} {H : Hp} {h : DH} {N : NS}
theorem repl0 {vs : List V} (r : RepL K H N [] vs) : vs = [] := r
theorem lst_mut {a : Addr} {ds ds' : List D} {xs' : List V} (R : HRep K H h N) (ha : h a = some (.lst ds)) (rs : RepL K H N ds' xs') :
    HRep K (upd H a (.lst xs')) (dupd h a (.lst ds')) N ∧ Ext H h N (upd H a (.lst xs')) (dupd h a (.lst ds')) N := by
  have e : Ext H h N (upd H a (.lst xs')) (dupd h a (.lst ds')) N := fun b u q hn => by
    have hne : b ≠ a := fun z => by subst z; rw [ha] at hn; cases hn
    exact ⟨by rw [upd_ne hne]; exact q, by rw [dupd_ne hne]; exact hn, Iff.rfl⟩
  exact R.mut ha ⟨xs', upd_same, RepL.ext R.un e _ _ rs⟩
theorem RepL.dropLast {xs : List D} {vs : List V} (r : RepL K H N xs vs) : RepL K H N xs.dropLast vs.dropLast := by
  rw [List.dropLast_eq_take, List.dropLast_eq_take, r.length]
  exact r.take _
theorem md_append : MtD X "list.append" dAppend := by
  intro pins s σ H v vs vv us Q I rv rvs ⟨x, xs, h, N, Q0, rx, rs, R, q, p⟩
  unfold dAppend at q
  split at q
  · rename_i a y
    cases rep_ref rx
    obtain ⟨w, rfl, r1⟩ := repl1 rfl rs
    cases ea : h a with
    | none => rw [ea] at q; exact q.elim
    | some o =>
      cases o with
      | ins C fs => rw [ea] at q; exact q.elim
      | exd fs => rw [ea] at q; exact q.elim
      | lst ds =>
        rw [ea] at q
        obtain ⟨ws, e, r2⟩ := R.at_ a _ ea
        obtain ⟨R2, e2⟩ := lst_mut R ea (r2.append (RepL.cons r1 RepL.nil))
        exact mt_append pins s σ H _ _ vv us Q I rv rvs ⟨a, ws, w, rfl, rfl, e, by rw [r2.length]; exact q.1, p _ _ _ _ _ q.2 e2 R2 rfl⟩
  · exact q.elim
theorem md_pop0 : MtD X "list.pop" dPop0 := by
  intro pins s σ H v vs vv us Q I rv rvs ⟨x, xs, h, N, Q0, rx, rs, R, q, p⟩
  unfold dPop0 at q
  split at q
  · rename_i a
    cases rep_ref rx
    cases repl0 rs
    cases ea : h a with
    | none => rw [ea] at q; exact q.elim
    | some o =>
      cases o with
      | ins C fs => rw [ea] at q; exact q.elim
      | exd fs => rw [ea] at q; exact q.elim
      | lst ds =>
        rw [ea] at q
        dsimp only at q
        obtain ⟨ws, e, r2⟩ := R.at_ a _ ea
        obtain ⟨R2, e2⟩ := lst_mut R ea r2.dropLast
        cases ed : ds[ds.length - 1]? with
        | none => rw [ed] at q; exact q.elim
        | some d =>
          rw [ed] at q
          obtain ⟨w, ew, rw'⟩ := r2.getD ed
          exact mt_pop pins s σ H _ _ vv us Q I rv rvs ⟨a, ws, w, rfl, rfl, e, by rw [r2.length]; exact ew, p _ _ _ _ _ q e2 R2 (Rep.ext R.un e2 _ _ rw')⟩
  · exact q.elim
theorem md_popAt : MtD X "list.pop" dPopAt := by
  intro pins s σ H v vs vv us Q I rv rvs ⟨x, xs, h, N, Q0, rx, rs, R, q, p⟩
  unfold dPopAt at q
  split at q
  · rename_i a i
    cases rep_ref rx
    obtain ⟨w0, rfl, r1⟩ := repl1 rfl rs
    cases rep_int r1
    cases ea : h a with
    | none => rw [ea] at q; exact q.elim
    | some o =>
      cases o with
      | ins C fs => rw [ea] at q; exact q.elim
      | exd fs => rw [ea] at q; exact q.elim
      | lst ds =>
        rw [ea] at q
        dsimp only at q
        obtain ⟨q1, q2, q⟩ := q
        obtain ⟨ws, e, r2⟩ := R.at_ a _ ea
        obtain ⟨R2, e2⟩ := lst_mut R ea (r2.eraseIdx i.toNat)
        cases ed : ds[i.toNat]? with
        | none => rw [ed] at q; exact q.elim
        | some d =>
          rw [ed] at q
          obtain ⟨w, ew, rw'⟩ := r2.getD ed
          have hi := (List.getElem?_eq_some_iff.mp ew).1
          exact mt_popAt pins s σ H _ _ vv us Q I rv rvs ⟨a, ws, i, i.toNat, w, rfl, rfl, e, by omega, q2, by rw [seqIndex_of q1 (by omega)], ew, p _ _ _ _ _ q e2 R2 (Rep.ext R.un e2 _ _ rw')⟩
  · exact q.elim
theorem md_insert : MtD X "list.insert" dInsert := by
  intro pins s σ H v vs vv us Q I rv rvs ⟨x, xs, h, N, Q0, rx, rs, R, q, p⟩
  unfold dInsert at q
  split at q
  · rename_i a i y
    cases rep_ref rx
    obtain ⟨w0, w, rfl, r1, r1'⟩ := repl2 rfl rs
    cases rep_int r1
    cases ea : h a with
    | none => rw [ea] at q; exact q.elim
    | some o =>
      cases o with
      | ins C fs => rw [ea] at q; exact q.elim
      | exd fs => rw [ea] at q; exact q.elim
      | lst ds =>
        rw [ea] at q
        dsimp only at q
        obtain ⟨q1, q2, q3, q⟩ := q
        obtain ⟨ws, e, r2⟩ := R.at_ a _ ea
        obtain ⟨R2, e2⟩ := lst_mut R ea (((r2.take i.toNat).append (RepL.cons r1' RepL.nil)).append (r2.drop i.toNat))
        exact mt_insert pins s σ H _ _ vv us Q I rv rvs ⟨a, ws, i, w, rfl, rfl, e, by rw [r2.length]; exact q1, q2, q3, p _ _ _ _ _ q e2 R2 rfl⟩
  · exact q.elim
theorem md_clear : MtD X "list.clear" dClear := by
  intro pins s σ H v vs vv us Q I rv rvs ⟨x, xs, h, N, Q0, rx, rs, R, q, p⟩
  unfold dClear at q
  split at q
  · rename_i a
    cases rep_ref rx
    cases repl0 rs
    cases ea : h a with
    | none => rw [ea] at q; exact q.elim
    | some o =>
      cases o with
      | ins C fs => rw [ea] at q; exact q.elim
      | exd fs => rw [ea] at q; exact q.elim
      | lst ds =>
        rw [ea] at q
        obtain ⟨ws, e, r2⟩ := R.at_ a _ ea
        obtain ⟨R2, e2⟩ := lst_mut (ds' := []) (xs' := []) R ea rfl
        exact mt_clear pins s σ H _ _ vv us Q I rv rvs ⟨a, ws, rfl, rfl, e, p _ _ _ _ _ q e2 R2 rfl⟩
  · exact q.elim
theorem md_reverse : MtD X "list.reverse" dReverse := by
  intro pins s σ H v vs vv us Q I rv rvs ⟨x, xs, h, N, Q0, rx, rs, R, q, p⟩
  unfold dReverse at q
  split at q
  · rename_i a
    cases rep_ref rx
    cases repl0 rs
    cases ea : h a with
    | none => rw [ea] at q; exact q.elim
    | some o =>
      cases o with
      | ins C fs => rw [ea] at q; exact q.elim
      | exd fs => rw [ea] at q; exact q.elim
      | lst ds =>
        rw [ea] at q
        obtain ⟨ws, e, r2⟩ := R.at_ a _ ea
        obtain ⟨R2, e2⟩ := lst_mut R ea r2.reverse
        exact mt_reverse pins s σ H _ _ vv us Q I rv rvs ⟨a, ws, rfl, rfl, e, p _ _ _ _ _ q e2 R2 rfl⟩
  · exact q.elim
/-- list.extend by any list that is read -/
theorem mt_extendL : MtR X "list.extend" (fun x vs H Q => ∃ l b xs zs, x = .ref l ∧ vs = [.ref b] ∧ H l = some (.lst xs) ∧ Rd H b (.lst zs) ∧ xs.length + zs.length ≤ sizeLine ∧ Q .non (upd H l (.lst (xs ++ zs)))) := by
  intro pins s σ H x vs v us Q I rx rv h
  obtain ⟨l, b, xs, zs, rfl, rfl, hH, hB, hz, q⟩ := h
  cases rx
  obtain ⟨u, rfl, ru⟩ := rv.one
  cases ru
  obtain ⟨z, its, n, r, hl, e⟩ := I.lstM hH
  obtain ⟨z2, its2, n2, r2, hl2, e2⟩ := lstR I hB
  have hsz : its.toArray.size + its2.toArray.size ≤ sizeLine := by rw [List.size_toArray, List.size_toArray]; omega
  have hlong : ¬ (!its.toArray.isEmpty && Builtin.List.listTooLong (its.toArray.size + its2.toArray.size)) = true := by
    rw [notLongL hsz, Bool.and_false]
    exact Bool.false_ne_true
  refine call_meets F.slot_list_extend ⟨_, e, rfl⟩ F.entry_list_extend (F.args_list_extend_2 _ _)
    (AutoSeq1.list_extend_list_list_0 l its.toArray n b its2.toArray n2 hlong (by rw [List.size_toArray]; omega) (by omega)) ⟨e, e2, ?_⟩
  refine ⟨.non, _, I.lset (its' := its ++ its2) hH e (by simp) (r.append r2) ?_, rfl, q⟩
  rw [List.length_append]
  omega
theorem md_extend : MtD X "list.extend" dExtend := by
  intro pins s σ H v vs vv us Q I rv rvs ⟨x, xs, h, N, Q0, rx, rs, R, q, p⟩
  unfold dExtend at q
  split at q
  · rename_i a y
    cases rep_ref rx
    obtain ⟨w, rfl, r1⟩ := repl1 rfl rs
    split at q
    · rename_i ds es ea ey
      obtain ⟨ws, e, r2⟩ := R.at_ a _ ea
      obtain ⟨b, zs, rfl, f, r3⟩ := view_lst R r1 ey
      obtain ⟨R2, e2⟩ := lst_mut R ea (r2.append r3)
      exact mt_extendL pins s σ H _ _ vv us Q I rv rvs ⟨a, b, ws, zs, rfl, rfl, e, f, by rw [r2.length, r3.length]; exact q.1, p _ _ _ _ _ q.2 e2 R2 rfl⟩
    · exact q.elim
  · exact q.elim
end

/-! ### methods of texts -/
def dJoin (x : D) (ys : List D) (h : DH) (Q : DK) : Prop := match x, ys with
  | .str a, [y] => (match view h y with
    | .lst es => (match strsOf es with | some zs => (zs.map (·.length)).sum + zs.length * a.length ≤ 16777216 ∧ Q (.str (Txt.join a zs)) h | none => False)
    | .tup es => (match strsOf es with | some zs => (zs.map (·.length)).sum + zs.length * a.length ≤ 16777216 ∧ Q (.str (Txt.join a zs)) h | none => False)
    | _ => False)
  | _, _ => False
def dSplit (x : D) (ys : List D) (h : DH) (Q : DK) : Prop := match x, ys with
  | .str a, [.str b] => (b.length == 0) = false ∧ a.length + 2 ≤ sizeLine ∧ Q (.lst ((Txt.split a b).map D.str)) h
  | _, _ => False
section
variable {X : Cx} {K : PySem.W.Frag} {H : Hp} {h : DH} {N : NS}
theorem md_join : MtD X "str.join" dJoin := by
  intro pins s σ H v vs vv us Q I rv rvs ⟨x, xs, h, N, Q0, rx, rs, R, q, p⟩
  unfold dJoin at q
  split at q
  · rename_i a y
    cases rep_str rx
    obtain ⟨w, rfl, r1⟩ := repl1 rfl rs
    cases ey : view h y <;> rw [ey] at q <;> dsimp only at q <;> first | exact q.elim | skip
    · rename_i es
      have := view_other ey (fun _ z => nomatch z) (fun _ z => nomatch z)
      subst this
      cases ez : strsOf es with
      | none => rw [ez] at q; exact q.elim
      | some zs =>
        rw [ez] at q
        have := strsOf_eq ez
        subst this
        obtain ⟨b, ws, rfl, f, r3⟩ := r1
        have := r3.strs
        subst this
        exact mt_join pins s σ H _ _ vv us Q I rv rvs ⟨a, b, zs, rfl, rfl, .inr f.sq, q.1, post_at p R q.2 rfl⟩
    · rename_i es
      cases ez : strsOf es with
      | none => rw [ez] at q; exact q.elim
      | some zs =>
        rw [ez] at q
        have := strsOf_eq ez
        subst this
        obtain ⟨b, ws, rfl, f, r3⟩ := view_lst R r1 ey
        have := r3.strs
        subst this
        exact mt_join pins s σ H _ _ vv us Q I rv rvs ⟨a, b, zs, rfl, rfl, .inl (.inl f), q.1, post_at p R q.2 rfl⟩
  · exact q.elim
theorem md_split : MtD X "str.split" dSplit := by
  intro pins s σ H v vs vv us Q I rv rvs ⟨x, xs, h, N, Q0, rx, rs, R, q, p⟩
  unfold dSplit at q
  split at q
  · rename_i a b
    cases rep_str rx
    obtain ⟨w, rfl, r1⟩ := repl1 rfl rs
    cases rep_str r1
    refine mt_split pins s σ H _ _ vv us Q I rv rvs ⟨a, b, rfl, rfl, q.1, q.2.1, fun t n => ?_⟩
    obtain ⟨R2, e2, r3⟩ := lst_new R n (RepL.of_strs (Txt.split a b))
    exact p _ _ _ _ _ q.2.2 e2 R2 r3
  · exact q.elim
end
end DL

/-! D6: what is walked. -/
namespace DL
open PySem PySem.Spec L2 PyProof.Rows

inductive SK where
  | L | T | S
/-- x is a list, a tuple, a text of the items xs -/
def VS (K : PySem.W.Frag) (k : SK) (H : Hp) (x : V) (xs : List V) : Prop := match k with
  | .L => ∃ a, x = .ref a ∧ SqL K H a xs
  | .T => ∃ a, x = .ref a ∧ SqT K H a xs
  | .S => ∃ z : Str, x = .str z ∧ xs = z.cps.toList.map fun c => V.str ⟨#[c]⟩
/-- the iterator over x at it, at turn i -/
def Own (k : SK) (x : V) (it : Addr) (i : Nat) (h : Heap) : Prop := match k with
  | .L => ∃ a, x = .ref a ∧ h.IsListIter it a i
  | .T => ∃ a, x = .ref a ∧ h.IsTupleIter it a i
  | .S => ∃ z t, x = .str z ∧ h.IsStrIter it (strIterType z) z t i
section
variable {X : Cx} {pins : List (Addr × Obj)} {σ : L2.St} {H : Hp} {s : Shared} {k : SK} {x : V} {xs : List V} {it : Addr} {i : Nat}
theorem Own.keep {h h' : Heap} (o : Own k x it i h) (hk : ∀ o, h.get? it = some o → h'.get? it = some o) : Own k x it i h' := by
  cases k with
  | L => obtain ⟨a, e, q⟩ := o; exact ⟨a, e, q.at hk⟩
  | T => obtain ⟨a, e, q⟩ := o; exact ⟨a, e, q.at hk⟩
  | S => obtain ⟨z, t, e, o, ho, r⟩ := o; exact ⟨z, t, e, o, hk o ho, r⟩
theorem Own.obj {h : Heap} (o : Own k x it i h) : ∃ o, h.get? it = some o ∧ ∀ v, o.data ≠ .cell v := by
  cases k with
  | L => obtain ⟨a, e, o, ho, _, hd⟩ := o; exact ⟨o, ho, fun v q => by rw [hd] at q; cases q⟩
  | T => obtain ⟨a, e, o, ho, _, hd⟩ := o; exact ⟨o, ho, fun v q => by rw [hd] at q; cases q⟩
  | S => obtain ⟨z, t, e, o, ho, _, hd⟩ := o; exact ⟨o, ho, fun v q => by rw [hd] at q; cases q⟩
/-- what stands in the written part or is tracked is no cell of an iterator -/
theorem kin_ne (I : Inv X pins σ H s) {a b : Addr} {o : Obj} (hk : X.K.lookup a = some o) (f : FpOk X pins H b) : a ≠ b := fun e => by
  subst e
  have hb := I.mod.kin a o hk
  obtain ⟨_, _, _, g, _⟩ := f
  rcases g with g | g
  · exact I.ok.noex a o hb g
  · exact absurd (Nat.lt_of_lt_of_le (Heap.lt_size hb) I.ok.bsz) (Nat.not_lt.mpr g)
theorem sql_ne (I : Inv X pins σ H s) {a b : Addr} (q : SqL X.K H a xs) (f : FpOk X pins H b) : a ≠ b := by
  rcases q with (q | ⟨o, q⟩) | ⟨o, its, n, hk, _⟩
  · exact ne_of_none q f.1
  · exact ne_of_none q f.1
  · exact kin_ne I hk f
theorem sqt_ne (I : Inv X pins σ H s) {a b : Addr} (q : SqT X.K H a xs) (f : FpOk X pins H b) : a ≠ b := by
  rcases q with (q | ⟨o, q⟩) | ⟨o, its, n, hk, _⟩
  · exact ne_of_none q f.1
  · exact ne_of_none q f.1
  · exact kin_ne I hk f
theorem vs_draws (I : Inv X pins σ H s) (v : VS X.K k H x xs) (ow : Own k x it i s.heap) (f : FpOk X pins H it) (A : Around) (hh : A.handled = none) :
    ∃ fp P St, Draws X.prog X.w A it fp xs.length P St ∧ St i s.heap ∧ it ∈ fp ∧ (∀ b, b ≠ it → FpOk X pins H b → b ∉ fp) ∧ (∀ j w, P j w → ∃ y, xs[j]? = some y ∧ RelV y w) ∧ (∀ j h, St j h → Own k x it j h) := by
  cases k with
  | L =>
    obtain ⟨a, rfl, q⟩ := v
    obtain ⟨a', e, ow⟩ := ow
    cases e
    obtain ⟨its, rv, p, hz⟩ := I.list q
    have ne := sql_ne I q f
    have D := Draws.list (prog := X.prog) (w := X.w) (A := A) hh it a ne its.toArray
    have e : its.toArray.size = xs.length := by rw [List.size_toArray]; exact rv.length.symm
    rw [e] at D
    refine ⟨_, _, _, D, ⟨ow, p.isList⟩, by simp, fun b hb fb hm => ?_, fun j w hp => ?_, fun j h st => ⟨a, rfl, st.1⟩⟩
    · have e' : b = it ∨ b = a := by simpa using hm
      rcases e' with z | z
      · exact hb z
      · exact sql_ne I q fb z.symm
    · have hp : its[j]? = some w := by simpa using hp
      have hj : j < xs.length := by rw [rv.length]; exact (List.getElem?_eq_some_iff.mp hp).1
      obtain ⟨w', hw, r⟩ := rv.get (List.getElem?_eq_getElem hj)
      rw [hp] at hw; cases hw
      exact ⟨_, List.getElem?_eq_getElem hj, r⟩
  | T =>
    obtain ⟨a, rfl, q⟩ := v
    obtain ⟨a', e, ow⟩ := ow
    cases e
    obtain ⟨its, rv, p, hz⟩ := I.tuple q
    have ne := sqt_ne I q f
    have D := Draws.tuple (prog := X.prog) (w := X.w) (A := A) hh it a ne its.toArray
    have e : its.toArray.size = xs.length := by rw [List.size_toArray]; exact rv.length.symm
    rw [e] at D
    refine ⟨_, _, _, D, ⟨ow, p⟩, by simp, fun b hb fb hm => ?_, fun j w hp => ?_, fun j h st => ⟨a, rfl, st.1⟩⟩
    · have e' : b = it ∨ b = a := by simpa using hm
      rcases e' with z | z
      · exact hb z
      · exact sqt_ne I q fb z.symm
    · have hp : its[j]? = some w := by simpa using hp
      have hj : j < xs.length := by rw [rv.length]; exact (List.getElem?_eq_some_iff.mp hp).1
      obtain ⟨w', hw, r⟩ := rv.get (List.getElem?_eq_getElem hj)
      rw [hp] at hw; cases hw
      exact ⟨_, List.getElem?_eq_getElem hj, r⟩
  | S =>
    obtain ⟨z, rfl, rfl⟩ := v
    obtain ⟨z', t, e, ow⟩ := ow
    cases e
    have D := Draws.text (prog := X.prog) (w := X.w) (A := A) hh it z t
    have e : z.cps.size = (z.cps.toList.map fun c => V.str ⟨#[c]⟩).length := by simp
    rw [e] at D
    refine ⟨_, _, _, D, ow, by simp, fun b hb fb hm => hb (by simpa using hm), fun j w hp => ?_, fun j h st => ⟨z, t, rfl, st⟩⟩
    obtain ⟨c, u, hc, rfl⟩ := hp
    refine ⟨.str ⟨#[c]⟩, ?_, ⟨u, rfl⟩⟩
    rw [List.getElem?_map, Array.getElem?_toList, hc]
    rfl
theorem vs_inj (I : Inv X pins σ H s) {ys : List V} (a : VS X.K k H x xs) (b : VS X.K k H x ys) : xs = ys := by
  cases k with
  | L => obtain ⟨p, rfl, q⟩ := a; obtain ⟨p', e, q'⟩ := b; cases e; exact I.list_inj q q'
  | T => obtain ⟨p, rfl, q⟩ := a; obtain ⟨p', e, q'⟩ := b; cases e; exact I.tuple_inj q q'
  | S => obtain ⟨z, rfl, e1⟩ := a; obtain ⟨z', e, e2⟩ := b; cases e; rw [e1, e2]
theorem vs_begins (I : Inv X pins σ H s) (v : VS X.K k H x xs) {u : Value} (ru : RelV x u) :
    ∃ o sf, Begins u o sf ∧ sf s.heap ∧ ∀ (h : Heap) it, h.get? it = some o → Own k x it 0 h := by
  cases k with
  | L =>
    obtain ⟨a, rfl, q⟩ := v
    cases ru
    obtain ⟨its, rv, p, hz⟩ := I.list q
    exact ⟨_, _, begins_list a its.toArray, p.isList, fun h it e => ⟨a, rfl, _, e, rfl, rfl⟩⟩
  | T =>
    obtain ⟨a, rfl, q⟩ := v
    cases ru
    obtain ⟨its, rv, p, hz⟩ := I.tuple q
    exact ⟨_, _, begins_tuple a its.toArray, p, fun h it e => ⟨a, rfl, _, e, rfl, rfl⟩⟩
  | S =>
    obtain ⟨z, rfl, rfl⟩ := v
    obtain ⟨t, rfl⟩ := ru
    exact ⟨_, _, begins_text z t, trivial, fun h it e => ⟨z, t, rfl, _, e, rfl, rfl⟩⟩
/-- zip of two: xs, ys as they stand at each turn -/
def ItZ (K : PySem.W.Frag) (k1 k2 : SK) (x y : V) : It :=
  ⟨fun i H => ∃ xs ys, VS K k1 H x xs ∧ VS K k2 H y ys ∧ i < xs.length ∧ i < ys.length,
    fun i H v H' => ∃ T a b, v = .ref T ∧ H T = none ∧ H' = upd H T (.tup [a, b]) ∧ (∀ xs, VS K k1 H x xs → xs[i]? = some a) ∧ (∀ ys, VS K k2 H y ys → ys[i]? = some b),
    fun i H => ∃ xs ys, VS K k1 H x xs ∧ VS K k2 H y ys ∧ i = min xs.length ys.length⟩
theorem turn_z {P : Program} {w : World} {K : PySem.W.Frag} {elts : List Expr} {kk : Nat} {tpos : Pos} {k1 k2 : SK} {x y : V} {z TI TO i1 i2 : Addr} (apart : z ≠ TI ∧ z ≠ TO ∧ z ≠ i1 ∧ z ≠ i2 ∧ TI ≠ TO ∧ TI ≠ i1 ∧ TI ≠ i2 ∧ TO ≠ i1 ∧ TO ≠ i2 ∧ i1 ≠ i2) :
    Turn P w K (.Tuple elts kk tpos) (ItZ K k1 k2 x y) [z, TI, TO, i1, i2] z (fun i h => IsZip h z TI TO .none ∧ IsTupOf2 h TI (.ref i1) (.ref i2) ∧ (∃ a b, IsTupOf2 h TO a b) ∧ Own k1 x i1 i h ∧ Own k2 y i2 i h) where
  mem := by simp
  obj := fun i h st c hc => by
    obtain ⟨hz, hTI, ⟨a, b, hTO⟩, o1, o2⟩ := st
    have e' : c = z ∨ c = TI ∨ c = TO ∨ c = i1 ∨ c = i2 := by simpa using hc
    rcases e' with q | q | q | q | q
    · rw [q]; exact ⟨_, hz, fun v q => nomatch q⟩
    · rw [q]; exact ⟨_, hTI, fun v q => nomatch q⟩
    · rw [q]; exact ⟨_, hTO, fun v q => nomatch q⟩
    · rw [q]; exact o1.obj
    · rw [q]; exact o2.obj
  keep := fun i h h' st k => by
    obtain ⟨hz, hTI, ⟨a, b, hTO⟩, o1, o2⟩ := st
    exact ⟨k z (by simp) _ hz, k TI (by simp) _ hTI, ⟨a, b, k TO (by simp) _ hTO⟩, o1.keep fun o q => k i1 (by simp) o q, o2.keep fun o q => k i2 (by simp) o q⟩
  item := by
    intro X hP hw hK hc i pins s σ H E I hf st hg
    subst hP hw hK
    obtain ⟨n1, n2, n3, n4, n5, n6, n7, n8, n9, n10⟩ := apart
    obtain ⟨hz, hTI, hTO, o1, o2⟩ := st
    obtain ⟨xs, ys, v1, v2, h1, h2⟩ := hg
    have fz := hf z (by simp)
    have fTI := hf TI (by simp)
    have fTO := hf TO (by simp)
    have f1 := hf i1 (by simp)
    have f2 := hf i2 (by simp)
    have hh : X.A.in1.handled = none := I.ok.hd hc
    obtain ⟨fp1, P1, St1, D1, s1, m1, a1, r1, q1⟩ := vs_draws I v1 o1 f1 X.A.in1 hh
    obtain ⟨fp2, P2, St2, D2, s2, m2, a2, r2, q2⟩ := vs_draws I v2 o2 f2 X.A.in1 hh
    have S : ZipSep2 z TI TO i1 i2 fp1 fp2 := ⟨n1.symm, n2.symm, n5, n6, m1, a1 z n3 fz, a1 TO n8 fTO, n7, m2, a2 z n4 fz, a2 TO n9 fTO, a2 i1 n10 f1, a1 i2 n10.symm f2⟩
    have Wk := WalksT.zipD2 S D1 D2
    have wr : ∀ b ∈ [z, TO, i1, i2], b ∈ [z, TI, TO, i1, i2] := fun b hb => by
      simp only [List.mem_cons, List.mem_nil_iff, or_false] at hb ⊢
      rcases hb with q | q | q | q <;> simp [q]
    refine Wk.item i s _ _ (Nat.lt_min.mpr ⟨h1, h2⟩) ⟨hz, hTI, hTO, s1, s2⟩ fun T vals h' tk hP hT hTt hM hk => ?_
    obtain ⟨w1, w2, p1, p2, rfl⟩ := hP
    refine ⟨_, rfl, Wk.go elts kk tpos i T _ _ _ hM fun h'' st' hk' => ?_⟩
    obtain ⟨b1, e1, rb1⟩ := r1 i w1 p1
    obtain ⟨b2, e2, rb2⟩ := r2 i w2 p2
    have hTw : T ∉ [z, TO, i1, i2] := Wk.apart i T _ hM
    have hT2 : h''.IsTuple T #[w1, w2] := by
      obtain ⟨o, ho, r⟩ := hTt
      exact ⟨o, hk' T o hTw ho, r⟩
    have new : ObjOk X.prog X.w (upd H T (.tup [b1, b2])) h'' T (.tup [b1, b2]) := ⟨by show 2 ≤ sizeLine; decide, [w1, w2], .cons rb1 (.cons rb2 .nil), hT2⟩
    have I1 : Inv X pins σ (upd H T (.tup [b1, b2])) { s with heap := h'', toks := tk } :=
      I.turnedNew (ch := [z, TI, TO, i1, i2]) (fun c o hb q => hk' c o (fun z => hb (wr c z)) (hk c o (fun z => hb (wr c z)) q)) hf hT new
    obtain ⟨z1, z2, z3, z4, z5⟩ := st'
    refine ⟨.ref T, _, I1, rfl, ⟨T, b1, b2, rfl, I.hok.fresh hT, rfl, fun l hl => by rw [vs_inj I hl v1]; exact e1, fun l hl => by rw [vs_inj I hl v2]; exact e2⟩, ⟨z1, z2, z3, q1 _ _ z4, q2 _ _ z5⟩, fun c hcm => ?_⟩
    have hlt : c < s.heap.objs.size := by
      have e' : c = z ∨ c = TI ∨ c = TO ∨ c = i1 ∨ c = i2 := by simpa using hcm
      rcases e' with q | q | q | q | q
      · rw [q]; exact Heap.lt_size hz
      · rw [q]; exact Heap.lt_size hTI
      · rw [q]; obtain ⟨_, _, hTO⟩ := hTO; exact Heap.lt_size hTO
      · rw [q]; obtain ⟨_, e1, _⟩ := o1.obj; exact Heap.lt_size e1
      · rw [q]; obtain ⟨_, e2, _⟩ := o2.obj; exact Heap.lt_size e2
    rw [upd_ne (Nat.ne_of_lt (Nat.lt_of_lt_of_le hlt hT))]
    exact (hf c hcm).1
  done := by
    intro X hP hw hK hc i pins s σ H E I hf st hg
    subst hP hw hK
    obtain ⟨n1, n2, n3, n4, n5, n6, n7, n8, n9, n10⟩ := apart
    obtain ⟨hz, hTI, hTO, o1, o2⟩ := st
    obtain ⟨xs, ys, v1, v2, hi⟩ := hg
    have fz := hf z (by simp)
    have fTI := hf TI (by simp)
    have fTO := hf TO (by simp)
    have f1 := hf i1 (by simp)
    have f2 := hf i2 (by simp)
    have hh : X.A.in1.handled = none := I.ok.hd hc
    obtain ⟨fp1, P1, St1, D1, s1, m1, a1, r1, q1⟩ := vs_draws I v1 o1 f1 X.A.in1 hh
    obtain ⟨fp2, P2, St2, D2, s2, m2, a2, r2, q2⟩ := vs_draws I v2 o2 f2 X.A.in1 hh
    have S : ZipSep2 z TI TO i1 i2 fp1 fp2 := ⟨n1.symm, n2.symm, n5, n6, m1, a1 z n3 fz, a1 TO n8 fTO, n7, m2, a2 z n4 fz, a2 TO n9 fTO, a2 i1 n10 f1, a1 i2 n10.symm f2⟩
    have Wk := WalksT.zipD2 S D1 D2
    have wr : ∀ b ∈ [z, TO, i1, i2], b ∈ [z, TI, TO, i1, i2] := fun b hb => by
      simp only [List.mem_cons, List.mem_nil_iff, or_false] at hb ⊢
      rcases hb with q | q | q | q <;> simp [q]
    subst hi
    exact Wk.done s _ _ ⟨hz, hTI, hTO, s1, s2⟩ fun h' tk hk => ⟨rfl, I.turnedL (t' := tk) (ch := [z, TI, TO, i1, i2]) (fun c o hb q => hk c o (fun z => hb (wr c z)) q) hf⟩
  self := fun A i s Q E st h => wpAny_pyIter_zip st.1 h
/-- for .. in zip(a, b), a, b lists, tuples, texts -/
def iZ (K : PySem.W.Frag) (ta : TA) : TI := fun σ H R => ta σ H fun vs H1 => ∃ x y k1 k2 xs ys, vs = [x, y] ∧ VS K k1 H1 x xs ∧ VS K k2 H1 y ys ∧ R (ItZ K k1 k2 x y) H1
theorem pi_z {X : Cx} {e e2 : Expr} {ta : TA} {p pos tpos : Pos} {elts : List Expr} {kk : Nat} (hg : Gl X "zip") (hm : X.mg "zip" = none) (ha : PA X [e, e2] ta)
    (hs : starEach [e, e2] X.env = (false, eval e X.env) :: starEach [e2] X.env := by rfl) (hpl : (backTo pos (starEach [e2] X.env)).any (·.1) = false := by rfl) :
    PI X (.Tuple elts kk tpos) (.Call (.Name "zip" p) [e, e2] [] pos) (iZ X.K ta) := by
  refine ⟨fun pins s σ H R I h => ?_⟩
  refine Call_ (ld_blt I hg hm PyProof.Rows.boot_zip (PyProof.Rows.callWith_type1 (thn (ha.run pos pins s σ H _ I h) fun us s1 ⟨vs, H1, I1, r1, q1⟩ => ?_) hs hpl))
  obtain ⟨x, y, k1, k2, xs, ys, ex, v1, v2, q⟩ := q1
  subst ex
  cases r1 with
  | cons r rr =>
    cases rr with
    | cons r' rr =>
      cases rr
      obtain ⟨o1, sf1, B1, h1, w1⟩ := vs_begins I1 v1 r
      obtain ⟨o2, sf2, B2, h2, w2⟩ := vs_begins I1 v2 r'
      refine zip_begins2 B1 B2 h1 h2 fun h' hz hTI hTO e1 e2 hsz hk => wpAny_pyIter_zip hz ?_
      have I2 : Inv X pins σ H1 { s1 with heap := h' } := I1.kept (t' := s1.toks) hk
      refine ⟨s1.heap.objs.size + 4, [s1.heap.objs.size + 4, s1.heap.objs.size + 2, s1.heap.objs.size + 3, s1.heap.objs.size, s1.heap.objs.size + 1], _, _, H1, rfl, I2, turn_z (k1 := k1) (k2 := k2) (x := x) (y := y) ?_, ⟨hz, hTI, ⟨_, _, hTO⟩, w1 _ _ e1, w2 _ _ e2⟩, fun c hcm => ?_, q⟩
      · have ap : ∀ N : Nat, N + 4 ≠ N + 2 ∧ N + 4 ≠ N + 3 ∧ N + 4 ≠ N ∧ N + 4 ≠ N + 1 ∧ N + 2 ≠ N + 3 ∧ N + 2 ≠ N ∧ N + 2 ≠ N + 1 ∧ N + 3 ≠ N ∧ N + 3 ≠ N + 1 ∧ N ≠ N + 1 := by intro N; omega
        exact ap s1.heap.objs.size
      · have e' : c = s1.heap.objs.size + 4 ∨ c = s1.heap.objs.size + 2 ∨ c = s1.heap.objs.size + 3 ∨ c = s1.heap.objs.size ∨ c = s1.heap.objs.size + 1 := by simpa using hcm
        have hle : s1.heap.objs.size ≤ c := by
          rcases e' with z | z | z | z | z
          · rw [z]; exact Nat.le_add_right _ _
          · rw [z]; exact Nat.le_add_right _ _
          · rw [z]; exact Nat.le_add_right _ _
          · rw [z]; exact Nat.le_refl _
          · rw [z]; exact Nat.le_add_right _ _
        exact I1.fpOk hle (I1.hok.fresh hle)

/-! ### enumerate -/
def ItE (K : PySem.W.Frag) (k : SK) (x : V) : It :=
  ⟨fun i H => ∃ xs, VS K k H x xs ∧ i < xs.length,
    fun i H v H' => ∃ T a, v = .ref T ∧ H T = none ∧ H' = upd H T (.tup [.int (i : Nat), a]) ∧ (∀ xs, VS K k H x xs → xs[i]? = some a),
    fun i H => ∃ xs, VS K k H x xs ∧ i = xs.length⟩
theorem turn_e {P : Program} {w : World} {K : PySem.W.Frag} {elts : List Expr} {kk : Nat} {tpos : Pos} {k : SK} {x : V} {e it : Addr} (hne : e ≠ it) :
    Turn P w K (.Tuple elts kk tpos) (ItE K k x) [e, it] e (fun i h => (∃ old, IsEnum h e it ((0 : Int) + (i : Nat)) old) ∧ Own k x it i h) where
  mem := by simp
  obj := fun i h st c hc => by
    obtain ⟨⟨old, he⟩, o1⟩ := st
    have e' : c = e ∨ c = it := by simpa using hc
    rcases e' with q | q
    · rw [q]; exact ⟨_, he, fun v q => nomatch q⟩
    · rw [q]; exact o1.obj
  keep := fun i h h' st k => by
    obtain ⟨⟨old, he⟩, o1⟩ := st
    exact ⟨⟨old, k e (by simp) _ he⟩, o1.keep fun o q => k it (by simp) o q⟩
  item := by
    intro X hP hw hK hc i pins s σ H E I hf st hg
    subst hP hw hK
    obtain ⟨he, o1⟩ := st
    obtain ⟨xs, v1, h1⟩ := hg
    have fe := hf e (by simp)
    have f1 := hf it (by simp)
    have hh : X.A.in1.handled = none := I.ok.hd hc
    obtain ⟨fp1, P1, St1, D1, s1, m1, a1, r1, q1⟩ := vs_draws I v1 o1 f1 X.A.in1 hh
    have Wk := WalksT.enumFrom 0 D1 e hne (a1 e hne fe) m1
    refine Wk.item i s _ _ h1 ⟨he, s1⟩ fun T vals h' tk hP hT hTt hM hk => ?_
    obtain ⟨t, w1, p1, rfl⟩ := hP
    refine ⟨_, rfl, Wk.go elts kk tpos i T _ _ _ hM fun h'' st' hk' => ?_⟩
    obtain ⟨b1, e1, rb1⟩ := r1 i w1 p1
    have hTw : T ∉ [e, it] := Wk.apart i T _ hM
    have hT2 : h''.IsTuple T #[.int (0 + (i : Int)) t, w1] := by
      obtain ⟨o, ho, r⟩ := hTt
      exact ⟨o, hk' T o hTw ho, r⟩
    rw [Int.zero_add] at hT2
    have new : ObjOk X.prog X.w (upd H T (.tup [.int (i : Nat), b1])) h'' T (.tup [.int (i : Nat), b1]) := ⟨by show 2 ≤ sizeLine; decide, [.int i t, w1], .cons ⟨t, rfl⟩ (.cons rb1 .nil), hT2⟩
    have I1 : Inv X pins σ (upd H T (.tup [.int (i : Nat), b1])) { s with heap := h'', toks := tk } :=
      I.turnedNew (ch := [e, it]) (fun c o hb q => hk' c o hb (hk c o hb q)) hf hT new
    obtain ⟨z1, z2⟩ := st'
    refine ⟨.ref T, _, I1, rfl, ⟨T, b1, rfl, I.hok.fresh hT, rfl, fun l hl => by rw [vs_inj I hl v1]; exact e1⟩, ⟨z1, q1 _ _ z2⟩, fun c hcm => ?_⟩
    have hlt : c < s.heap.objs.size := by
      have e' : c = e ∨ c = it := by simpa using hcm
      rcases e' with q | q
      · rw [q]; obtain ⟨_, he⟩ := he; exact Heap.lt_size he
      · rw [q]; obtain ⟨_, e1, _⟩ := o1.obj; exact Heap.lt_size e1
    rw [upd_ne (Nat.ne_of_lt (Nat.lt_of_lt_of_le hlt hT))]
    exact (hf c hcm).1
  done := by
    intro X hP hw hK hc i pins s σ H E I hf st hg
    subst hP hw hK
    obtain ⟨he, o1⟩ := st
    obtain ⟨xs, v1, hi⟩ := hg
    have fe := hf e (by simp)
    have f1 := hf it (by simp)
    have hh : X.A.in1.handled = none := I.ok.hd hc
    obtain ⟨fp1, P1, St1, D1, s1, m1, a1, r1, q1⟩ := vs_draws I v1 o1 f1 X.A.in1 hh
    have Wk := WalksT.enumFrom 0 D1 e hne (a1 e hne fe) m1
    subst hi
    exact Wk.done s _ _ ⟨he, s1⟩ fun h' tk hk => ⟨rfl, I.turnedL (t' := tk) (ch := [e, it]) (fun c o hb q => hk c o hb q) hf⟩
  self := fun A i s Q E st h => let ⟨⟨_, he⟩, _⟩ := st; wpAny_pyIter_enum he h
theorem meets_enumerate_new1 {v : Value} {o : Obj} {H : Heap → Prop} (B : Begins v o H) :
    Meets (Builtin.«enumerate.__new__» ⟨[.type "enumerate", v], []⟩) (fun _ R s => H s.heap ∧
      R (.ok (.ret (.ref (s.heap.push o).objs.size))) { s with heap := (s.heap.push o).push { cls := .type "enumerate", data := .fields #[.none, .bool false, .ref s.heap.objs.size, rawInt 0, .none, .none] } }) :=
  .of_wp fun prog w A R s h => by
    obtain ⟨hp, g, d, tk, os⟩ := s; obtain ⟨h1, h⟩ := h
    have hsub := sub_enumerate
    have q1 : ∀ {A' : Around} {E : Value → Shared → Prop} {Q : Value → Shared → Prop}, Q (.ref hp.objs.size) ⟨hp.push o, g, d, tk, os⟩ → wpAny (model prog w) A' (pyIter v) Q E ⟨hp, g, d, tk, os⟩ :=
      fun q => B.iter prog w _ _ ⟨hp, g, d, tk, os⟩ _ h1 q
    wp_walk using q1
    refine wpAny_stack_any fun st => wpAny_pure ?_
    split
    · rename_i c _ _ _ _ _
      cases (c == Value.type "enumerate")
      · wp_walk using q1
        exact ⟨_, rfl, h⟩
      · wp_walk using q1
        exact ⟨_, rfl, h⟩
    · wp_walk using q1
      exact ⟨_, rfl, h⟩
theorem enum_begins1 {prog : Program} {w : World} {A : Around} {E : Value → Shared → Prop} {s : Shared} {v : Value} {o : Obj} {H : Heap → Prop} {Q : Value → Shared → Prop} (B : Begins v o H) (h1 : H s.heap)
    (h : ∀ h', IsEnum h' (s.heap.objs.size + 1) s.heap.objs.size 0 .none → h'.get? s.heap.objs.size = some o → h'.objs.size = s.heap.objs.size + 2 →
      (∀ b o, s.heap.get? b = some o → h'.get? b = some o) → Q (.ref (s.heap.objs.size + 1)) { s with heap := h' }) :
    wpAny (model prog w) A (call (.type "enumerate") [v]) Q E s := by
  refine callType_new F.called_enumerate (by decide) (F.typeCall_enumerate_1 _) (F.newCall_enumerate_1 _) (fun obj => F.args_object_init_2 obj _) F.entry_enumerate_new
    (meets_enumerate_new1 B) ⟨h1, ?_⟩
  have hz : (s.heap.push o).objs.size = s.heap.objs.size + 1 := Heap.size_push ..
  show _ ∧ _
  rw [hz]
  have he : IsEnum ((s.heap.push o).push { cls := .type "enumerate", data := .fields #[.none, .bool false, .ref s.heap.objs.size, rawInt 0, .none, .none] }) (s.heap.objs.size + 1) s.heap.objs.size 0 .none := by
    have := Heap.get?_push_size (s.heap.push o) (o := { cls := .type "enumerate", data := .fields #[.none, .bool false, .ref s.heap.objs.size, rawInt 0, .none, .none] }) rfl
    rw [hz] at this; exact this
  refine ⟨⟨_, he, rfl⟩, h _ he (Heap.get?_push_of_some _ (Heap.get?_push_size _ B.free)) (by rw [Heap.size_push, hz]) fun b o x => Heap.get?_push_of_some _ (Heap.get?_push_of_some _ x)⟩
def iE (K : PySem.W.Frag) (ta : TA) : TI := fun σ H R => ta σ H fun vs H1 => ∃ x k xs, vs = [x] ∧ VS K k H1 x xs ∧ R (ItE K k x) H1
theorem pi_e {X : Cx} {e : Expr} {ta : TA} {p pos tpos : Pos} {elts : List Expr} {kk : Nat} (hg : Gl X "enumerate") (hm : X.mg "enumerate" = none) (ha : PA X [e] ta) (hs : starEach [e] X.env = [(false, eval e X.env)] := by rfl) :
    PI X (.Tuple elts kk tpos) (.Call (.Name "enumerate" p) [e] [] pos) (iE X.K ta) := by
  refine ⟨fun pins s σ H R I h => ?_⟩
  refine Call_ (ld_blt I hg hm boot_enumerate (PyProof.Rows.callWith_type1 (thn (ha.run pos pins s σ H _ I h) fun us s1 ⟨vs, H1, I1, r1, q1⟩ => ?_) hs rfl))
  obtain ⟨x, k, xs, ex, v1, q⟩ := q1
  subst ex
  cases r1 with
  | cons r rr =>
    cases rr
    obtain ⟨o1, sf1, B1, h1, w1⟩ := vs_begins I1 v1 r
    refine enum_begins1 B1 h1 fun h' he e1 hsz hk => wpAny_pyIter_enum he ?_
    have I2 : Inv X pins σ H1 { s1 with heap := h' } := I1.kept (t' := s1.toks) hk
    refine ⟨s1.heap.objs.size + 1, [s1.heap.objs.size + 1, s1.heap.objs.size], _, _, H1, rfl, I2, turn_e (k := k) (x := x) (Nat.succ_ne_self _), ⟨⟨.none, by simpa using he⟩, w1 _ _ e1⟩, fun b hb => ?_, q⟩
    have e' : b = s1.heap.objs.size + 1 ∨ b = s1.heap.objs.size := by simpa using hb
    have hle : s1.heap.objs.size ≤ b := by
      rcases e' with z | z
      · rw [z]; exact Nat.le_add_right _ _
      · rw [z]; exact Nat.le_refl _
    exact I1.fpOk hle (I1.hok.fresh hle)
end
end DL

/-! D7: loops, comprehensions, statements over data. -/
namespace DL
open PySem PySem.Spec L2 PyProof.Rows

/-! ### targets -/
inductive Tgt where
  | nm (i : Nat) | tp (ts : List Tgt)
mutual
def bindT : Tgt → D → DSt → Option DSt
  | .nm i, d, τ => some (τ.set i (some d))
  | .tp ts, .tup ds, τ => bindTs ts ds τ
  | .tp _, _, _ => none
def bindTs : List Tgt → List D → DSt → Option DSt
  | [], [], τ => some τ
  | t :: ts, d :: ds, τ => match bindT t d τ with
    | some τ' => bindTs ts ds τ'
    | none => none
  | [], _ :: _, _ => none
  | _ :: _, [], _ => none
def gT (K : PySem.W.Frag) : Tgt → TG
  | .nm i => gName i
  | .tp ts => gTup K ts.length (gTs K ts)
def gTs (K : PySem.W.Frag) : List Tgt → TGs
  | [] => gNil
  | t :: ts => gCons (gT K t) (gTs K ts)
def slots : Tgt → List Nat
  | .nm i => [i]
  | .tp ts => slotsL ts
def slotsL : List Tgt → List Nat
  | [] => []
  | t :: ts => slots t ++ slotsL ts
end
theorem wipe_set {σ : L2.St} {i : Nat} {x : Option V} : ∀ {vs : List Nat}, i ∈ vs → wipe (σ.set i x) vs = wipe σ vs
  | v :: vs, h => by
    unfold wipe
    by_cases hm : i ∈ vs
    · rw [wipe_set hm]
    · have e : v = i := by
        rcases List.mem_cons.mp h with z | z
        · exact z.symm
        · exact absurd z hm
      subst e
      have : ∀ (ws : List Nat), v ∉ ws → (wipe (σ.set v x) ws).set v none = (wipe σ ws).set v none := by
        intro ws
        induction ws with
        | nil => intro _; simp [wipe]
        | cons w ws ih =>
          intro hw
          rw [List.mem_cons, not_or] at hw
          show ((wipe (σ.set v x) ws).set w none).set v none = ((wipe σ ws).set w none).set v none
          rw [List.set_comm _ _ (show w ≠ v from fun e => hw.1 e.symm), List.set_comm _ _ (show w ≠ v from fun e => hw.1 e.symm), ih hw.2]
      exact this vs hm
section
variable {K : PySem.W.Frag} {H : Hp} {N : NS}
mutual
theorem bindT_ok : ∀ (t : Tgt) (d : D) (τ τ' : DSt) (v : V) (σ : L2.St), bindT t d τ = some τ' → SRep K H N τ σ → Rep K H N d v →
    ∃ σ', SRep K H N τ' σ' ∧ (∀ vs, (∀ i ∈ slots t, i ∈ vs) → wipe σ' vs = wipe σ vs) ∧ ∀ Q : L2.St → Hp → Prop, Q σ' H → gT K t v σ H Q
  | .nm i, d, τ, τ', v, σ, e, S, r => by
    simp only [bindT] at e
    cases e
    exact ⟨σ.set i (some v), S.set r, fun vs hs => wipe_set (hs i (by simp [slots])), fun Q q => by simp only [gT]; exact q⟩
  | .tp ts, d, τ, τ', v, σ, e, S, r => by
    cases d <;> simp only [bindT] at e <;> first | cases e | skip
    rename_i ds
    obtain ⟨a, xs, rfl, f, rs⟩ := r
    obtain ⟨σ', S', w', q'⟩ := bindTs_ok ts ds τ τ' xs σ e S rs
    refine ⟨σ', S', fun vs hs => w' vs (by simpa only [slots] using hs), fun Q q => ?_⟩
    simp only [gT]
    refine ⟨a, xs, rfl, f.sq, ?_, q' Q q⟩
    have : ∀ (ts : List Tgt) (ds : List D) (τ : DSt), bindTs ts ds τ = some τ' → ts.length = ds.length := by
      intro ts
      induction ts with
      | nil => intro ds τ e; cases ds with
        | nil => rfl
        | cons d ds => simp only [bindTs] at e; cases e
      | cons t ts ih => intro ds τ e; cases ds with
        | nil => simp only [bindTs] at e; cases e
        | cons d ds =>
          simp only [bindTs] at e
          cases q : bindT t d τ with
          | none => rw [q] at e; cases e
          | some τ1 => rw [q] at e; rw [List.length_cons, List.length_cons, ih ds τ1 e]
    rw [rs.length, this ts ds τ e]
theorem bindTs_ok : ∀ (ts : List Tgt) (ds : List D) (τ τ' : DSt) (xs : List V) (σ : L2.St), bindTs ts ds τ = some τ' → SRep K H N τ σ → RepL K H N ds xs →
    ∃ σ', SRep K H N τ' σ' ∧ (∀ vs, (∀ i ∈ slotsL ts, i ∈ vs) → wipe σ' vs = wipe σ vs) ∧ ∀ Q : L2.St → Hp → Prop, Q σ' H → gTs K ts xs σ H Q
  | [], [], τ, τ', xs, σ, e, S, r => by
    simp only [bindTs] at e
    cases e
    cases repl0 r
    exact ⟨σ, S, fun _ _ => rfl, fun Q q => by simp only [gTs]; exact ⟨rfl, q⟩⟩
  | t :: ts, d :: ds, τ, τ', xs, σ, e, S, r => by
    simp only [bindTs] at e
    cases q : bindT t d τ with
    | none => rw [q] at e; cases e
    | some τ1 =>
      rw [q] at e
      obtain ⟨x, tl, rfl, r1, r2⟩ := r
      obtain ⟨σ1, S1, w1, q1⟩ := bindT_ok t d τ τ1 x σ q S r1
      obtain ⟨σ2, S2, w2, q2⟩ := bindTs_ok ts ds τ1 τ' tl σ1 e S1 r2
      refine ⟨σ2, S2, fun vs hs => ?_, fun Q q => ?_⟩
      · rw [w2 vs fun i hi => hs i (by simp only [slotsL, List.mem_append]; exact .inr hi), w1 vs fun i hi => hs i (by simp only [slotsL, List.mem_append]; exact .inl hi)]
      · simp only [gTs]
        exact ⟨x, tl, rfl, q1 _ (q2 Q q)⟩
  | [], _ :: _, _, _, _, _, e, _, _ => by simp only [bindTs] at e; cases e
  | _ :: _, [], _, _, _, _, e, _, _ => by simp only [bindTs] at e; cases e
end
end

/-! ### what is walked -/
abbrev DI := DSt → DH → (List D → DH → Prop) → DX → Prop
structure JRep (K : PySem.W.Frag) (J : It) (ds : List D) (H : Hp) (h : DH) (N : NS) : Prop where
  go : ∀ H' h' N', Ext H h N H' h' N' → HRep K H' h' N' → ∀ i, i < ds.length → J.go i H' ∧ ∀ x H2, J.yld i H' x H2 → ∃ N2 d, ds[i]? = some d ∧ HRep K H2 h' N2 ∧ Ext H' h' N' H2 h' N2 ∧ Rep K H2 N2 d x
  stop : ∀ H' h' N', Ext H h N H' h' N' → HRep K H' h' N' → J.stop ds.length H'
def liftI (K : PySem.W.Frag) (W : WX) (t : DI) : TI := fun σ H R => ∃ τ h N Q0 X0, SRep K H N τ σ ∧ HRep K H h N ∧ t τ h Q0 X0 ∧ (∀ ds h' N' J H', Q0 ds h' → Ext H h N H' h' N' → HRep K H' h' N' → JRep K J ds H' h' N' → R J H') ∧ EXc K W σ H h N X0
abbrev DIp (X : Cx) (W : WX) (tg e : Expr) (t : DI) : Prop := PI X tg e (liftI X.K W t)
theorem PI.imp {X : Cx} {tg e : Expr} {t t' : TI} (p : PI X tg e t) (i : ∀ σ H R, t' σ H R → t σ H R) : PI X tg e t' := ⟨fun pins s σ H R I h => p.run pins s σ H R I (i σ H R h)⟩
/-- the items of what is walked: a tuple, a list that never changes, a text -/
def itemsD : D → Option (List D)
  | .tup xs => some xs
  | .lst xs => some xs
  | .str z => some (z.cps.toList.map fun c => .str ⟨#[c]⟩)
  | _ => none
def iSeqD (t : DE) : DI := fun τ h Q X => t τ h (fun x h1 => match itemsD x with | some ds => Q ds h1 | none => False) X
def iRange1 (t : DE) : DI := fun τ h Q X => t τ h (fun x h1 => match x with | .int n => -(2 ^ 62) ≤ n ∧ n < 2 ^ 62 ∧ Q ((List.range n.toNat).map fun i => .int (i : Nat)) h1 | _ => False) X
def iRange2 (ta tb : DE) : DI := fun τ h Q X => ta τ h (fun x h1 => tb τ h1 (fun y h2 => match x, y with | .int a, .int b => (-(2 ^ 62) ≤ a ∧ a < 2 ^ 62 ∧ -(2 ^ 62) ≤ b ∧ b < 2 ^ 62) ∧ Q ((List.range (b - a).toNat).map fun i => .int (a + (i : Nat))) h2 | _, _ => False) X) X
def enumD (ds : List D) : List D := (List.range ds.length).zip ds |>.map fun p => .tup [.int (p.1 : Nat), p.2]
def iEnumD (t : DE) : DI := fun τ h Q X => t τ h (fun x h1 => match itemsD x with | some ds => Q (enumD ds) h1 | none => False) X
def zipD (ds es : List D) : List D := (ds.zip es).map fun p => .tup [p.1, p.2]
def iZipD (ta tb : DE) : DI := fun τ h Q X => ta τ h (fun x h1 => tb τ h1 (fun y h2 => match itemsD x, itemsD y with | some ds, some es => Q (zipD ds es) h2 | _, _ => False) X) X

section
variable {X : Cx} {W : WX} {tg e : Expr} {te : DE}
/-- a list, a tuple, a text -/
def iSeqV (K : PySem.W.Frag) (tl : TE) : TI := fun σ H R => tl σ H fun x H1 => (∃ a, x = .ref a ∧ (∃ xs, SqL K H1 a xs) ∧ R (Itl K a) H1) ∨ (∃ a, x = .ref a ∧ (∃ xs, SqT K H1 a xs) ∧ R (Itt K a) H1) ∨ (∃ z, x = .str z ∧ R (Its z) H1)
theorem pi_seqV {tl : TE} (hl : PE X e tl) : PI X tg e (iSeqV X.K tl) := by
  refine ⟨fun pins s σ H R I h => ?_⟩
  refine thn (hl.run pins s σ H _ I h) fun v s1 ⟨x, H1, I1, r1, q1⟩ => ?_
  rcases q1 with ⟨a, e, ⟨xs, hq⟩, q⟩ | ⟨a, e, ⟨xs, hq⟩, q⟩ | ⟨z, e, q⟩
  · subst e
    cases r1
    obtain ⟨its, rv, p, hz⟩ := I1.list hq
    refine wpAny_pyIter_list p.isList ?_
    refine ⟨s1.heap.objs.size, [s1.heap.objs.size], _, _, H1, rfl, I1.kept (t' := s1.toks) fun b o e => Heap.get?_push_of_some _ e, turn_list a _, ⟨_, Heap.get?_push_size _ rfl, rfl, rfl⟩, fun b hb => ?_, q⟩
    have e : b = s1.heap.objs.size := by simpa using hb
    subst e
    exact I1.fpOk (Nat.le_refl _) (I1.hok.fresh (Nat.le_refl _))
  · subst e
    cases r1
    obtain ⟨its, rv, p, hz⟩ := I1.tuple hq
    refine wpAny_pyIter_tuple (show s1.heap.IsTuple a its.toArray from p) ?_
    refine ⟨s1.heap.objs.size, [s1.heap.objs.size], _, _, H1, rfl, I1.kept (t' := s1.toks) fun b o e => Heap.get?_push_of_some _ e, turn_tuple a _, ⟨_, Heap.get?_push_size _ rfl, rfl, rfl⟩, fun b hb => ?_, q⟩
    have e : b = s1.heap.objs.size := by simpa using hb
    subst e
    exact I1.fpOk (Nat.le_refl _) (I1.hok.fresh (Nat.le_refl _))
  · subst e
    obtain ⟨t, rfl⟩ := r1
    cases ha : z.cps.all (· < 128)
    · exact wpAny_pyIter_wide ha (pi_one (tk := s1.toks) I1 _ (turn_str _ z t "str_iterator" (.inr rfl)) ⟨_, Heap.get?_push_size _ rfl, rfl, rfl⟩ q)
    · exact wpAny_pyIter_ascii ha (pi_one (tk := s1.toks) I1 _ (turn_str _ z t "str_ascii_iterator" (.inl rfl)) ⟨_, Heap.get?_push_size _ rfl, rfl, rfl⟩ q)
theorem jrep_of {K : PySem.W.Frag} {J : It} {ds : List D} {H : Hp} {h : DH} {N : NS} (go : ∀ H' h' N', Ext H h N H' h' N' → HRep K H' h' N' → ∀ i, i < ds.length → J.go i H' ∧ ∀ x H2, J.yld i H' x H2 → H2 = H' ∧ ∃ d, ds[i]? = some d ∧ Rep K H' N' d x)
    (stop : ∀ H' h' N', Ext H h N H' h' N' → HRep K H' h' N' → J.stop ds.length H') : JRep K J ds H h N := ⟨fun H' h' N' e R i hi => ⟨(go H' h' N' e R i hi).1, fun x H2 y => by
  obtain ⟨e1, d, e2, r⟩ := (go H' h' N' e R i hi).2 x H2 y
  subst e1
  exact ⟨N', d, e2, R, Ext.refl _ _ _, r⟩⟩, stop⟩
theorem items_vs {K : PySem.W.Frag} {H : Hp} {N : NS} {x : D} {v : V} {ds : List D} (r : Rep K H N x v) (e : itemsD x = some ds) : ∃ k xs, VS K k H v xs ∧ RepL K H N ds xs := by
  cases x <;> simp only [itemsD] at e <;> first | cases e | skip
  · rename_i z
    cases rep_str r
    refine ⟨.S, _, ⟨z, rfl, rfl⟩, ?_⟩
    generalize z.cps.toList = l
    induction l with
    | nil => exact rfl
    | cons c l ih => exact ⟨_, _, rfl, rfl, ih⟩
  · obtain ⟨a, xs, rfl, f, rs⟩ := r
    exact ⟨.T, xs, ⟨a, rfl, f.sq⟩, rs⟩
  · obtain ⟨a, xs, rfl, f, rs⟩ := r
    exact ⟨.L, xs, ⟨a, rfl, .inl f.2⟩, rs⟩
/-- .. for good -/
theorem items_stay {K : PySem.W.Frag} {H : Hp} {h : DH} {N : NS} {x : D} {v : V} {ds : List D} (R : HRep K H h N) (r : Rep K H N x v) (e : itemsD x = some ds) :
    ∃ k, ∀ H' h' N', Ext H h N H' h' N' → ∃ xs, VS K k H' v xs ∧ RepL K H' N' ds xs := by
  cases x <;> simp only [itemsD] at e <;> first | cases e | skip
  · exact ⟨.S, fun H' h' N' ex => by
      obtain ⟨k, xs, v, rs⟩ := items_vs (Rep.ext R.un ex _ _ r) rfl
      rename_i z
      cases rep_str r
      refine ⟨_, ⟨z, rfl, rfl⟩, ?_⟩
      generalize z.cps.toList = l
      induction l with
      | nil => exact rfl
      | cons c l ih => exact ⟨_, _, rfl, rfl, ih⟩⟩
  · exact ⟨.T, fun H' h' N' ex => by
      obtain ⟨a, xs, e1, f, rs⟩ := Rep.ext R.un ex _ _ r
      exact ⟨xs, ⟨a, e1, f.sq⟩, rs⟩⟩
  · exact ⟨.L, fun H' h' N' ex => by
      obtain ⟨a, xs, e1, f, rs⟩ := Rep.ext R.un ex _ _ r
      exact ⟨xs, ⟨a, e1, .inl f.2⟩, rs⟩⟩
theorem di_seq (he : DEp X W e te) : DIp X W tg e (iSeqD te) := PI.imp (pi_seqV he) fun σ H R ⟨τ, h, N, Q0, X0, S, R0, z, p, ex⟩ => by
  refine ⟨τ, h, N, _, X0, S, R0, z, fun x h1 N1 v H1 q e R1 rx => ?_, ex⟩
  cases ei : itemsD x with
  | none => simp only [ei] at q
  | some ds =>
    simp only [ei] at q
    cases x with
    | str zz =>
      cases ei
      cases rep_str rx
      refine .inr (.inr ⟨zz, rfl, p _ _ _ _ _ q e R1 ?_⟩)
      refine jrep_of (fun H' h' N' _ _ i hi => ⟨?_, fun x H2 y => ?_⟩) fun H' h' N' _ _ => ?_
      · show i < zz.cps.size; simpa using hi
      · obtain ⟨y1, c, hc, rfl⟩ := y
        refine ⟨y1, .str ⟨#[c]⟩, ?_, rfl⟩
        rw [List.getElem?_map, Array.getElem?_toList, hc]
        rfl
      · show zz.cps.size ≤ _; simp
    | tup zz =>
      cases ei
      have rx0 := rx
      obtain ⟨a, xs, rfl, f, rs⟩ := rx
      refine .inr (.inl ⟨a, rfl, ⟨xs, f.sq⟩, p _ _ _ _ _ q e R1 ?_⟩)
      have st : ∀ H' h' N', Ext H1 h1 N1 H' h' N' → ∃ xs, SqT X.K H' a xs ∧ RepL X.K H' N' ds xs := fun H' h' N' ex => by
        obtain ⟨a', xs', e1, f', rs'⟩ := Rep.ext R1.un ex _ _ rx0
        cases e1
        exact ⟨xs', f'.sq, rs'⟩
      refine jrep_of (fun H' h' N' e' R' i hi => ?_) fun H' h' N' e' R' => ?_
      · obtain ⟨xs', f', rs'⟩ := st H' h' N' e'
        have hi' : i < xs'.length := by rw [rs'.length]; exact hi
        refine ⟨⟨xs', xs'[i], f', List.getElem?_eq_getElem hi'⟩, fun x H2 y => ⟨y.1, ?_⟩⟩
        exact rs'.get (y.2 xs' f')
      · obtain ⟨xs', f', rs'⟩ := st H' h' N' e'
        exact ⟨xs', f', by rw [rs'.length]; exact Nat.le_refl _⟩
    | lst zz =>
      cases ei
      have rx0 := rx
      obtain ⟨a, xs, rfl, f, rs⟩ := rx
      refine .inl ⟨a, rfl, ⟨xs, .inl f.2⟩, p _ _ _ _ _ q e R1 ?_⟩
      have st : ∀ H' h' N', Ext H1 h1 N1 H' h' N' → ∃ xs, SqL X.K H' a xs ∧ RepL X.K H' N' ds xs := fun H' h' N' ex => by
        obtain ⟨a', xs', e1, f', rs'⟩ := Rep.ext R1.un ex _ _ rx0
        cases e1
        exact ⟨xs', .inl f'.2, rs'⟩
      refine jrep_of (fun H' h' N' e' R' i hi => ?_) fun H' h' N' e' R' => ?_
      · obtain ⟨xs', f', rs'⟩ := st H' h' N' e'
        have hi' : i < xs'.length := by rw [rs'.length]; exact hi
        refine ⟨⟨xs', xs'[i], f', List.getElem?_eq_getElem hi'⟩, fun x H2 y => ⟨y.1, ?_⟩⟩
        exact rs'.get (y.2 xs' f')
      · obtain ⟨xs', f', rs'⟩ := st H' h' N' e'
        exact ⟨xs', f', by rw [rs'.length]; exact Nat.le_refl _⟩
    | _ => cases ei
theorem jrep_range {K : PySem.W.Frag} {H : Hp} {h : DH} {N : NS} (lo : Int) (n : Nat) : JRep K (Itr lo n) ((List.range n).map fun i => .int (lo + (i : Nat))) H h N := by
  refine jrep_of (fun H' h' N' _ _ i hi => ?_) fun H' h' N' _ _ => ?_
  · have hi : i < n := by simpa using hi
    refine ⟨hi, fun x H2 y => ⟨y.1, .int (lo + (i : Nat)), ?_, y.2⟩⟩
    rw [List.getElem?_map, List.getElem?_range hi]
    rfl
  · show n ≤ _; simp
theorem di_range1 {e : Expr} {p pos : Pos} (hg : Gl X "range") (hm : X.mg "range" = none) (he : DEp X W e te) (hs : starEach [e] X.env = [(false, eval e X.env)] := by rfl) : DIp X W tg (.Call (.Name "range" p) [e] [] pos) (iRange1 te) :=
  PI.imp (pi_range1 hg hm (pa_cons he pa_nil hs) hs) fun σ H R ⟨τ, h, N, Q0, X0, S, R0, z, p, ex⟩ => by
    refine ⟨τ, h, N, _, X0, S, R0, z, fun x h1 N1 v H1 q e R1 rx => ?_, ex⟩
    cases x <;> first | exact (show False from q).elim | skip
    rename_i n
    cases rep_int rx
    refine ⟨n, rfl, q.1, q.2.1, p _ _ _ _ _ q.2.2 e R1 ?_⟩
    have := jrep_range (K := X.K) (H := H1) (h := h1) (N := N1) 0 n.toNat
    simpa only [Int.zero_add] using this
theorem di_range2 {a b : Expr} {ta tb : DE} {p pos : Pos} (hg : Gl X "range") (hm : X.mg "range" = none) (ha : DEp X W a ta) (hb : DEp X W b tb) (hs : starEach [a, b] X.env = [(false, eval a X.env), (false, eval b X.env)] := by rfl) (hs2 : starEach [b] X.env = [(false, eval b X.env)] := by rfl) : DIp X W tg (.Call (.Name "range" p) [a, b] [] pos) (iRange2 ta tb) :=
  PI.imp (pi_range2 hg hm (pa_cons ha (pa_cons hb pa_nil hs2) (by rw [hs, hs2])) hs hs2) fun σ H R ⟨τ, h, N, Q0, X0, S, R0, z, p, ex⟩ => by
    refine ⟨τ, h, N, _, X0, S, R0, z, fun x h1 N1 v H1 q e R1 rx => ⟨τ, h1, N1, _, X0, S.ext R0.un e, R1, q, fun y h2 N2 u H2 q2 e2 R2 ry => ?_, ex.ext e⟩, ex⟩
    cases x <;> cases y <;> first | exact (show False from q2).elim | skip
    rename_i n m
    cases rep_int rx
    cases rep_int ry
    exact ⟨n, m, rfl, q2.1, p _ _ _ _ _ q2.2 (e.trans e2) R2 (jrep_range n (m - n).toNat)⟩
theorem enumD_get {ds : List D} {i : Nat} {d : D} (h : ds[i]? = some d) : (enumD ds)[i]? = some (.tup [.int (i : Nat), d]) := by
  unfold enumD
  have hi := (List.getElem?_eq_some_iff.mp h).1
  have e : ((List.range ds.length).zip ds)[i]? = some (i, d) := List.getElem?_zip_eq_some.mpr ⟨List.getElem?_range hi, h⟩
  rw [List.getElem?_map, e]
  rfl
theorem enumD_length (ds : List D) : (enumD ds).length = ds.length := by
  unfold enumD
  rw [List.length_map, List.length_zip, List.length_range, Nat.min_self]
theorem zipD_get {ds es : List D} {i : Nat} {d e : D} (h : ds[i]? = some d) (h2 : es[i]? = some e) : (zipD ds es)[i]? = some (.tup [d, e]) := by
  unfold zipD
  have q : (ds.zip es)[i]? = some (d, e) := List.getElem?_zip_eq_some.mpr ⟨h, h2⟩
  rw [List.getElem?_map, q]
  rfl
theorem zipD_length (ds es : List D) : (zipD ds es).length = min ds.length es.length := by
  unfold zipD
  rw [List.length_map, List.length_zip]
theorem pair_new {K : PySem.W.Frag} {H : Hp} {h : DH} {N : NS} {d e : D} {v u : V} {p : Addr} (R : HRep K H h N) (n : H p = none) (r1 : Rep K H N d v) (r2 : Rep K H N e u) :
    ∃ N2, HRep K (upd H p (.tup [v, u])) h N2 ∧ Ext H h N (upd H p (.tup [v, u])) h N2 ∧ Rep K (upd H p (.tup [v, u])) N2 (.tup [d, e]) (.ref p) := by
  obtain ⟨R2, e2, r3⟩ := tup_new R n (RepL.cons r1 (RepL.cons r2 RepL.nil))
  exact ⟨_, R2, e2, r3⟩
theorem di_enum {p pos tpos : Pos} {elts : List Expr} {kk : Nat} (hg : Gl X "enumerate") (hm : X.mg "enumerate" = none) (he : DEp X W e te) (hs : starEach [e] X.env = [(false, eval e X.env)] := by rfl) :
    DIp X W (.Tuple elts kk tpos) (.Call (.Name "enumerate" p) [e] [] pos) (iEnumD te) := PI.imp (pi_e hg hm (pa_cons he pa_nil hs) hs) fun σ H R ⟨τ, h, N, Q0, X0, S, R0, z, p, ex⟩ => by
  refine ⟨τ, h, N, _, X0, S, R0, z, fun x h1 N1 v H1 q e R1 rx => ?_, ex⟩
  cases ei : itemsD x with
  | none => simp only [ei] at q
  | some ds =>
    simp only [ei] at q
    obtain ⟨k, st⟩ := items_stay R1 rx ei
    obtain ⟨xs, vs, _⟩ := st H1 h1 N1 (Ext.refl _ _ _)
    refine ⟨v, k, xs, rfl, vs, p _ _ _ _ _ q e R1 ⟨fun H' h' N' e' R' i hi => ?_, fun H' h' N' e' R' => ?_⟩⟩
    · rw [enumD_length] at hi
      obtain ⟨xs', vs', rs'⟩ := st H' h' N' e'
      have hi' : i < xs'.length := by rw [rs'.length]; exact hi
      refine ⟨⟨xs', vs', hi'⟩, fun x H2 y => ?_⟩
      obtain ⟨T, a, rfl, n, rfl, ya⟩ := y
      obtain ⟨d, ed, rd⟩ := rs'.get (ya xs' vs')
      obtain ⟨N2, R2, e2, r3⟩ := pair_new (d := .int (i : Nat)) (v := .int (i : Nat)) R' n rfl rd
      exact ⟨N2, _, enumD_get ed, R2, e2, r3⟩
    · obtain ⟨xs', vs', rs'⟩ := st H' h' N' e'
      exact ⟨xs', vs', by rw [enumD_length, rs'.length]⟩
theorem di_zip {a b : Expr} {ta tb : DE} {p pos tpos : Pos} {elts : List Expr} {kk : Nat} (hg : Gl X "zip") (hm : X.mg "zip" = none) (ha : DEp X W a ta) (hb : DEp X W b tb)
    (hs : starEach [a, b] X.env = (false, eval a X.env) :: starEach [b] X.env := by rfl) (hs2 : starEach [b] X.env = (false, eval b X.env) :: starEach [] X.env := by rfl) (hpl : (backTo pos (starEach [b] X.env)).any (·.1) = false := by rfl) :
    DIp X W (.Tuple elts kk tpos) (.Call (.Name "zip" p) [a, b] [] pos) (iZipD ta tb) := PI.imp (pi_z hg hm (pa_cons ha (pa_cons hb pa_nil hs2) hs) hs hpl) fun σ H R ⟨τ, h, N, Q0, X0, S, R0, z, p, ex⟩ => by
  refine ⟨τ, h, N, _, X0, S, R0, z, fun x h1 N1 v H1 q e R1 rx => ⟨τ, h1, N1, _, X0, S.ext R0.un e, R1, q, fun y h2 N2 u H2 q2 e2 R2 ry => ?_, ex.ext e⟩, ex⟩
  cases ei : itemsD x with
  | none => simp only [ei] at q2
  | some ds =>
    cases ej : itemsD y with
    | none => simp only [ei, ej] at q2
    | some es =>
      simp only [ei, ej] at q2
      obtain ⟨k1, st1⟩ := items_stay R2 (Rep.ext R1.un e2 _ _ rx) ei
      obtain ⟨k2, st2⟩ := items_stay R2 ry ej
      obtain ⟨xs, vs, _⟩ := st1 H2 h2 N2 (Ext.refl _ _ _)
      obtain ⟨ys, vs2, _⟩ := st2 H2 h2 N2 (Ext.refl _ _ _)
      refine ⟨v, u, k1, k2, xs, ys, rfl, vs, vs2, p _ _ _ _ _ q2 (e.trans e2) R2 ⟨fun H' h' N' e' R' i hi => ?_, fun H' h' N' e' R' => ?_⟩⟩
      · rw [zipD_length] at hi
        obtain ⟨xs', vs', rs'⟩ := st1 H' h' N' e'
        obtain ⟨ys', vs2', rs2'⟩ := st2 H' h' N' e'
        have hi' : i < xs'.length := by rw [rs'.length]; omega
        have hi2' : i < ys'.length := by rw [rs2'.length]; omega
        refine ⟨⟨xs', ys', vs', vs2', hi', hi2'⟩, fun x H2 y => ?_⟩
        obtain ⟨T, a, b, rfl, n, rfl, ya, yb⟩ := y
        obtain ⟨d, ed, rd⟩ := rs'.get (ya xs' vs')
        obtain ⟨d2, ed2, rd2⟩ := rs2'.get (yb ys' vs2')
        obtain ⟨N3, R3, e3, r3⟩ := pair_new R' n rd rd2
        exact ⟨N3, _, zipD_get ed ed2, R3, e3, r3⟩
      · obtain ⟨xs', vs', rs'⟩ := st1 H' h' N' e'
        obtain ⟨ys', vs2', rs2'⟩ := st2 H' h' N' e'
        exact ⟨xs', ys', vs', vs2', by rw [zipD_length, rs'.length, rs2'.length]⟩
end
end DL

/-! D8: statements, loops, comprehensions over data. -/
namespace DL
open PySem PySem.Spec L2 PyProof.Rows

def dNext : DS := fun D τ h => D.nx τ h
def dSeq (t u : DS) : DS := fun D τ h => t { D with nx := u D } τ h
def dAsg (te : DE) (i : Nat) : DS := fun D τ h => te τ h (fun d h1 => D.nx (τ.set i (some d)) h1) (fun C fs h1 => D.ex C fs τ h1)
/-- a, b = e, several names at once -/
def dAsgT (te : DE) (t : Tgt) : DS := fun D τ h => te τ h (fun d h1 => match bindT t d τ with | some τ' => D.nx τ' h1 | none => False) (fun C fs h1 => D.ex C fs τ h1)
/-- a, b = x, y -/
def dPar (i j : Nat) (ta tb : DE) : DS := fun D τ h => ta τ h (fun x h1 => tb τ h1 (fun y h2 => D.nx ((τ.set i (some x)).set j (some y)) h2) (fun C fs h2 => D.ex C fs τ h2)) (fun C fs h1 => D.ex C fs τ h1)
def dIf (c : DT) (t u : DS) : DS := fun D τ h => c τ h (fun b h1 => (b = true → t D τ h1) ∧ (b = false → u D τ h1)) (fun C fs h1 => D.ex C fs τ h1)
def dRet (te : DE) : DS := fun D τ h => te τ h D.rt (fun C fs h1 => D.ex C fs τ h1)
def dRetN : DS := fun D _ h => D.rt .non h
def dDrop (te : DE) : DS := fun D τ h => te τ h (fun _ h1 => D.nx τ h1) (fun C fs h1 => D.ex C fs τ h1)
def dBrk : DS := fun D τ h => D.bk τ h
def dCnt : DS := fun D τ h => D.ct τ h
def dIpAdd : D → D → DH → DK → Prop
  | .int i, .int j, h, Q => Q (.int (i + j)) h
  | _, _, _, _ => False
def dIpMul : D → D → DH → DK → Prop
  | .int i, .int j, h, Q => IntMulOk i j ∧ Q (.int (i * j)) h
  | _, _, _, _ => False
def dIpSub : D → D → DH → DK → Prop
  | .int i, .int j, h, Q => Q (.int (i - j)) h
  | _, _, _, _ => False
def dIpDiv : D → D → DH → DK → Prop
  | .int i, .int j, h, Q => 0 < j ∧ j.natAbs.log2 < 9000 ∧ Q (.int (i / j)) h
  | _, _, _, _ => False
def dAug (i : Nat) (te : DE) (r : D → D → DH → DK → Prop) : DS := fun D τ h => match τ[i]? with
  | some (some x) => te τ h (fun y h1 => r x y h1 (fun z h2 => D.nx (τ.set i (some z)) h2)) (fun C fs h1 => D.ex C fs τ h1)
  | _ => False
/-- o[i] = e of a tracked list -/
def dSetI (te to ti : DE) : DS := fun D τ h => te τ h (fun v h1 => to τ h1 (fun o h2 => ti τ h2 (fun i h3 => match o, i with
  | .ref a, .int k => (match h3 a with | some (.lst ds) => 0 ≤ k ∧ k < ds.length ∧ D.nx τ (dupd h3 a (.lst (ds.set k.toNat v))) | _ => False)
  | _, _ => False) (fun C fs h2 => D.ex C fs τ h2)) (fun C fs h2 => D.ex C fs τ h2)) (fun C fs h1 => D.ex C fs τ h1)
def forGo (tg : Tgt) (tb : DS) : List D → DEnds → DSt → DH → Prop
  | [], D, τ, h => D.nx τ h
  | d :: ds, D, τ, h => match bindT tg d τ with
    | some τ' => tb { D with nx := forGo tg tb ds D, ct := forGo tg tb ds D, bk := D.nx } τ' h
    | none => False
def dFor (it : DI) (tg : Tgt) (tb : DS) : DS := fun D τ h => it τ h (fun ds h1 => forGo tg tb ds D τ h1) (fun C fs h1 => D.ex C fs τ h1)
def whileGo (c : DT) (tb : DS) : Nat → DEnds → DSt → DH → Prop
  | 0, _, _, _ => False
  | n + 1, D, τ, h => c τ h (fun b h1 => (b = true → tb { D with nx := whileGo c tb n D, ct := whileGo c tb n D, bk := D.nx } τ h1) ∧ (b = false → D.nx τ h1)) (fun C fs h1 => D.ex C fs τ h1)
def dWhile (c : DT) (tb : DS) : DS := fun D τ h => ∃ n, whileGo c tb n D τ h
def dwipe (τ : DSt) : List Nat → DSt
  | [] => τ
  | v :: vs => (dwipe τ vs).set v none
abbrev noX : DX := fun _ _ _ => False
def lcGo (tg : Tgt) (tt : DT) (te : DE) (τ : DSt) : List D → DH → (List D → DH → Prop) → Prop
  | [], h, Q => Q [] h
  | d :: ds, h, Q => match bindT tg d τ with
    | some τ' => tt τ' h (fun b h1 => (b = true → te τ' h1 (fun y h2 => lcGo tg tt te τ ds h2 (fun ys h3 => Q (y :: ys) h3)) noX) ∧ (b = false → lcGo tg tt te τ ds h1 Q)) noX
    | none => False
def dYes : DT := fun _ h Q _ => Q true h
def dLc (it : DI) (tg : Tgt) (tt : DT) (te : DE) (vs : List Nat) : DE := fun τ h Q X => it τ h (fun ds h1 => ds.length ≤ 10000000 ∧ lcGo tg tt te (dwipe τ vs) ds h1 (fun ys h2 => Q (.lst ys) h2)) X
def dLcM (it : DI) (tg : Tgt) (tt : DT) (te : DE) (vs : List Nat) : DE := fun τ h Q X => it τ h (fun ds h1 => ds.length ≤ 10000000 ∧ lcGo tg tt te (dwipe τ vs) ds h1 (fun ys h2 => ∀ p, h2 p = none → Q (.ref p) (dupd h2 p (.lst ys)))) X

section
variable {X : Cx} {W : WX} {e o ie : Expr} {st : Stmt} {rest : List Stmt} {te to ti : DE} {t u : DS} {pos : Pos}
theorem ds_nil : DSs X W [] dNext := PSs.imp pss_nil fun D σ H ⟨τ, h, N, D0, S, R, z, U⟩ => U.nx τ h N σ H z (Ext.refl _ _ _) S R
theorem ds_cons (h1 : DSp' X W st t) (h2 : DSs X W rest u) : DSs X W (st :: rest) (dSeq t u) := PSs.imp (pss_cons h1 h2) fun D σ H ⟨τ, h, N, D0, S, R, z, U⟩ =>
  ⟨τ, h, N, _, S, R, z, ⟨fun τ' h' N' σ' H' q e S' R' => ⟨τ', h', N', D0, S', R', q, U.ext e⟩, U.rt, U.bk, U.ct, U.ex⟩⟩
theorem ds_one (h1 : DSp' X W st t) : DSs X W [st] t := pss_one h1
theorem ds_pass : DSp' X W (.Pass pos) dNext := PS.imp ps_pass fun D σ H ⟨τ, h, N, D0, S, R, z, U⟩ => U.nx τ h N σ H z (Ext.refl _ _ _) S R
theorem ds_doc {x j pos'} : DSp' X W (.Expr (.Constant (.str x) j pos) pos') dNext := PS.imp ps_doc fun D σ H ⟨τ, h, N, D0, S, R, z, U⟩ => U.nx τ h N σ H z (Ext.refl _ _ _) S R
theorem ds_break : DSp' X W (.Break pos) dBrk := PS.imp ps_break fun D σ H ⟨τ, h, N, D0, S, R, z, U⟩ => U.bk τ h N σ H z (Ext.refl _ _ _) S R
theorem ds_continue : DSp' X W (.Continue pos) dCnt := PS.imp ps_continue fun D σ H ⟨τ, h, N, D0, S, R, z, U⟩ => U.ct τ h N σ H z (Ext.refl _ _ _) S R
theorem lift_asg {K : PySem.W.Frag} {i : Nat} {D : Ends} {σ : L2.St} {H : Hp} (q : liftS K W (dAsg te i) D σ H) : tAsg (liftE K W te) (gName i) D σ H := by
  obtain ⟨τ, h, N, D0, S, R, z, U⟩ := q
  exact ⟨τ, h, N, _, _, S, R, z, fun d h1 N1 v H1 q e R1 r => U.nx _ _ _ _ _ q e ((S.ext R.un e).set r) R1, U.exc S R.un⟩
theorem ds_set {i : Nat} {x : Str} {pos' : Pos} (hN : X.N.Nodup) (he : DEp X W e te) (hi : X.N[i]? = some x := by rfl) (hx : Loc X.env.scope x := by first | exact .inl rfl | exact .inr rfl) (hs : swapsWith e (some (.Name x pos')) pos.line X.env = pure false := by rfl)
    (hf : X.fn x = true ∨ X.env.scope.names.lookup x = some .local := by first | exact .inl rfl | exact .inr rfl) : DSp' X W (.Assign [.Name x pos'] e pos) (dAsg te i) :=
  PS.imp (ps_set hN hi hx he hs hf) fun _ _ _ q => lift_asg q
theorem ds_par {i j : Nat} {x y : Str} {a b : Expr} {ta tb : DE} {px py pt : Pos} {kt k2 pt2} (hc : X.calm = true) (hN : X.N.Nodup) (ha : DEp X W a ta) (hb : DEp X W b tb) (hi : X.N[i]? = some x := by rfl) (hj : X.N[j]? = some y := by rfl) (hij : i ≠ j := by decide)
    (hx : X.env.scope.names.lookup x = some .local := by rfl) (hy : X.env.scope.names.lookup y = some .local := by rfl)
    (hs1 : starEach [a, b] X.env = (false, eval a X.env) :: starEach [b] X.env := by rfl) (hs2 : starEach [b] X.env = (false, eval b X.env) :: starEach [] X.env := by rfl)
    (hw : swappedStores [.Tuple [.Name x px, .Name y py] kt pt] (.Tuple [a, b] k2 pt2) X.env = pure (some [x, y]) := by rfl)
    (hs : swapsWithSole [.Tuple [.Name x px, .Name y py] kt pt] (.Tuple [a, b] k2 pt2) pos.line X.env = pure false := by rfl) :
    DSp' X W (.Assign [.Tuple [.Name x px, .Name y py] kt pt] (.Tuple [a, b] k2 pt2) pos) (dPar i j ta tb) :=
  PS.imp (ps_par hc hN hi hj hij hx hy (pa_cons ha (pa_cons hb pa_nil hs2) hs1) hw hs) fun D σ H ⟨τ, h, N, D0, S, R, z, U⟩ =>
    ⟨τ, h, N, _, _, S, R, z, fun d h1 N1 v H1 q e R1 r => ⟨τ, h1, N1, _, _, S.ext R.un e, R1, q, fun d2 h2 N2 v2 H2 q2 e2 R2 r2 =>
      ⟨v, v2, rfl, U.nx _ _ _ _ _ q2 (e.trans e2) (((S.ext R.un (e.trans e2)).set (Rep.ext R1.un e2 _ _ r)).set r2) R2⟩, (U.ext e).exc (S.ext R.un e) R1.un⟩, U.exc S R.un⟩
/-- targets that are unpacked from a tuple -/
theorem ds_asgT {tg : Expr} {tt : Tgt} (he : DEp X W e te) (hg : PG X tg (gT X.K tt)) (hs : swapsWithSole [tg] e pos.line X.env = pure false := by rfl) (hw : swappedStores [tg] e X.env = pure none := by rfl)
    (h1 : (assignEach [tg] X.env).map (·.2) = [assign tg X.env] := by rfl) : DSp' X W (.Assign [tg] e pos) (dAsgT te tt) := PS.imp (ps_asg he hg hs hw h1) fun D σ H ⟨τ, h, N, D0, S, R, z, U⟩ =>
  ⟨τ, h, N, _, _, S, R, z, fun d h1 N1 v H1 q e R1 r => by
    cases eb : bindT tt d τ with
    | none => simp only [eb] at q
    | some τ' =>
      simp only [eb] at q
      obtain ⟨σ', S', _, g⟩ := bindT_ok tt d τ τ' v σ eb (S.ext R.un e) r
      exact g _ (U.nx _ _ _ _ _ q e S' R1), U.exc S R.un⟩
theorem ds_if {c : Expr} {a b : List Stmt} {tc : DT} (hc : DTp X W c tc) (ha : DSs X W a t) (hb : DSs X W b u) : DSp' X W (.If c a b pos) (dIf tc t u) := PS.imp (ps_if hc ha hb) fun D σ H ⟨τ, h, N, D0, S, R, z, U⟩ =>
  ⟨τ, h, N, _, _, S, R, z, fun b h1 N1 H1 q e R1 => by
    cases b with
    | true => rw [if_pos rfl]; exact ⟨τ, h1, N1, D0, S.ext R.un e, R1, q.1 rfl, U.ext e⟩
    | false => rw [if_neg Bool.false_ne_true]; exact ⟨τ, h1, N1, D0, S.ext R.un e, R1, q.2 rfl, U.ext e⟩, U.exc S R.un⟩
theorem ds_ret (he : DEp X W e te) : DSp' X W (.Return (some e) pos) (dRet te) := PS.imp (ps_ret he) fun D σ H ⟨τ, h, N, D0, S, R, z, U⟩ => ⟨τ, h, N, _, _, S, R, z, U.rt, U.exc S R.un⟩
theorem ds_retN : DSp' X W (.Return none pos) dRetN := PS.imp ps_retN fun D σ H ⟨τ, h, N, D0, S, R, z, U⟩ => U.rt _ _ _ _ _ z (Ext.refl _ _ _) R rfl
theorem ds_expr (he : DEp X W e te) (hs : swapsWith e none pos.line X.env = pure false := by rfl) : DSp' X W (.Expr e pos) (dDrop te) := PS.imp (ps_expr he hs) fun D σ H ⟨τ, h, N, D0, S, R, z, U⟩ =>
  ⟨τ, h, N, _, _, S, R, z, fun d h1 N1 v H1 q e R1 r => U.nx _ _ _ _ _ q e (S.ext R.un e) R1, U.exc S R.un⟩
abbrev IpD (X : Cx) (op : Operator) (r : D → D → DH → DK → Prop) : Prop := PIp X op (lift2 X.K r)
theorem ds_aug {i : Nat} {x : Str} {op : Operator} {r : D → D → DH → DK → Prop} {pos' : Pos} (hN : X.N.Nodup) (he : DEp X W e te) (ho : IpD X op r) (hi : X.N[i]? = some x := by rfl) (hx : Loc X.env.scope x := by first | exact .inl rfl | exact .inr rfl)
    (hf : X.fn x = true ∨ X.env.scope.names.lookup x = some .local := by first | exact .inl rfl | exact .inr rfl) : DSp' X W (.AugAssign (.Name x pos') op e pos) (dAug i te r) :=
  PS.imp (ps_aug hN hi hx he ho hf) fun D σ H ⟨τ, h, N, D0, S, R, z, U⟩ => by
    unfold dAug at z
    cases et : τ[i]? with
    | none => simp only [et] at z
    | some o =>
      cases o with
      | none => simp only [et] at z
      | some d =>
        simp only [et] at z
        obtain ⟨v, ev, rv⟩ := S.get i d et
        refine ⟨v, ev, τ, h, N, _, _, S, R, z, fun y h1 N1 u H1 q e R1 ry => ?_, U.exc S R.un⟩
        exact ⟨d, y, h1, N1, _, Rep.ext R.un e _ _ rv, ry, R1, q, fun zz h2 N2 w H2 q2 e2 R2 rz => U.nx _ _ _ _ _ q2 (e.trans e2) ((S.ext R.un (e.trans e2)).set rz) R2⟩
theorem ip_ofI {op : Operator} {f : Int → Int → Int} (h : PIp X op (ipI f)) : IpD X op (fun x y h Q => match x, y with | .int i, .int j => Q (.int (f i j)) h | _, _ => False) := by
  intro pins s σ H v u vv uu Q I rv ru ⟨x, y, h', N, Q0, rx, ry, R, q, p⟩
  cases x <;> cases y <;> first | exact q.elim | skip
  cases rep_int rx; cases rep_int ry
  exact h pins s σ H _ _ vv uu Q I rv ru ⟨_, _, rfl, rfl, post_at p R q rfl⟩
theorem id_add : IpD X .Add dIpAdd := by
  intro pins s σ H v u vv uu Q I rv ru ⟨x, y, h', N, Q0, rx, ry, R, q, p⟩
  cases x <;> cases y <;> first | exact q.elim | skip
  cases rep_int rx; cases rep_int ry
  exact ip_add pins s σ H _ _ vv uu Q I rv ru ⟨_, _, rfl, rfl, post_at p R q rfl⟩
theorem id_sub : IpD X .Sub dIpSub := by
  intro pins s σ H v u vv uu Q I rv ru ⟨x, y, h', N, Q0, rx, ry, R, q, p⟩
  cases x <;> cases y <;> first | exact q.elim | skip
  cases rep_int rx; cases rep_int ry
  exact ip_sub pins s σ H _ _ vv uu Q I rv ru ⟨_, _, rfl, rfl, post_at p R q rfl⟩
theorem id_mul : IpD X .Mult dIpMul := by
  intro pins s σ H v u vv uu Q I rv ru ⟨x, y, h', N, Q0, rx, ry, R, q, p⟩
  cases x <;> cases y <;> first | exact (show False from q).elim | skip
  cases rep_int rx; cases rep_int ry
  obtain ⟨t, rfl⟩ := rv
  obtain ⟨t', rfl⟩ := ru
  exact imul_int ⟨.int _, H, I.tok _, ⟨_, rfl⟩, post_at p R q.2 rfl⟩ q.1
/-- xs[i] = e -/
theorem ds_setI (he : DEp X W e te) (ho : DEp X W o to) (hi : DEp X W ie ti) {spos : Pos} (ha : ∀ v, assign (.Subscript o ie spos) X.env v = (do
      let ov ← holding [v] (eval o X.env)
      let iv ← holding [v, ov] (eval ie X.env)
      standAt spos
      holding [v, ov, iv] (setItem ov iv v)
      release [v, ov, iv] []) := by intro _; rfl) (hs : swapsWithSole [.Subscript o ie spos] e pos.line X.env = pure false := by rfl) (hw : swappedStores [.Subscript o ie spos] e X.env = pure none := by rfl)
    (h1 : (assignEach [.Subscript o ie spos] X.env).map (·.2) = [assign (.Subscript o ie spos) X.env] := by rfl) : DSp' X W (.Assign [.Subscript o ie spos] e pos) (dSetI te to ti) :=
  PS.imp (ps_asg he (pg_sub ho hi set_list ha) hs hw h1) fun D σ H ⟨τ, h, N, D0, S, R, z, U⟩ => by
    refine ⟨τ, h, N, _, _, S, R, z, fun v h1 N1 vv H1 q e R1 r => ⟨τ, h1, N1, _, _, S.ext R.un e, R1, q, fun o h2 N2 oo H2 q2 e2 R2 ro => ⟨τ, h2, N2, _, _, (S.ext R.un e).ext R1.un e2, R2, q2, fun i h3 N3 ii H3 q3 e3 R3 ri => ?_, (U.ext (e.trans e2)).exc ((S.ext R.un e).ext R1.un e2) R2.un⟩, (U.ext e).exc (S.ext R.un e) R1.un⟩, U.exc S R.un⟩
    cases o <;> cases i <;> first | exact q3.elim | skip
    rename_i a k
    cases rep_ref ro
    cases rep_int ri
    dsimp only at q3
    cases ea : h3 a with
    | none => rw [ea] at q3; exact q3.elim
    | some ob =>
      cases ob with
      | ins C fs => rw [ea] at q3; exact q3.elim
      | exd fs => rw [ea] at q3; exact q3.elim
      | lst ds =>
        rw [ea] at q3
        obtain ⟨k0, k1, q3⟩ := q3
        obtain ⟨xs, ex, rs⟩ := R3.at_ a _ ea
        obtain ⟨R4, e4⟩ := lst_mut R3 ea (rs.set k.toNat (Rep.ext R1.un (e2.trans e3) _ _ r))
        have hl := rs.length
        refine ⟨a, xs, k, k.toNat, rfl, rfl, ex, ?_, U.nx _ _ _ _ _ q3 (e.trans (e2.trans (e3.trans e4))) (S.ext R.un (e.trans (e2.trans (e3.trans e4)))) R4⟩
        unfold ixN
        rw [if_pos k0, if_pos (by omega)]

/-! ### loops -/
theorem SRep.len' {K : PySem.W.Frag} {H : Hp} {N : NS} {τ : DSt} {σ : L2.St} (S : SRep K H N τ σ) : σ.length = τ.length := S.len
theorem ds_for {tge iter : Expr} {body : List Stmt} {it : DI} {tg : Tgt} {tb : DS} (hp : PassesOwn (model X.prog X.w) X.A X.env X.xe) (hc : X.calm = true) (hi : DIp X W tge iter it) (hg : PG X tge (gT X.K tg)) (hb : DSs X W body tb)
    (hs : ∀ x, foldedSetIterable iter X.env x = pure x := by intro _; rfl) : DSp' X W (.For tge iter body [] pos) (dFor it tg tb) := PS.imp (ps_for hp hc hi hg hb hs) fun D σ H ⟨τ, h, N, D0, S, R, z, U⟩ => by
  refine ⟨τ, h, N, _, _, S, R, z, fun ds h1 N1 J H1 q e R1 jr => ?_, U.exc S R.un⟩
  refine ⟨fun i m σ' H' => m = ds.length - i ∧ i ≤ ds.length ∧ ∃ τ' h' N', SRep X.K H' N' τ' σ' ∧ HRep X.K H' h' N' ∧ Ext H1 h1 N1 H' h' N' ∧ forGo tg tb (ds.drop i) D0 τ' h', ⟨ds.length, rfl, Nat.zero_le _, τ, h1, N1, S.ext R.un e, R1, Ext.refl _ _ _, q⟩, ?_⟩
  rintro i m σ' H' ⟨rfl, hi, τ', h', N', S', R', e', q'⟩
  by_cases hlt : i < ds.length
  · obtain ⟨jg, jy⟩ := jr.go H' h' N' e' R' i hlt
    refine .inr ⟨jg, fun σ2 H2 => i + 1 ≤ ds.length ∧ ∃ τ' h' N', SRep X.K H2 N' τ' σ2 ∧ HRep X.K H2 h' N' ∧ Ext H1 h1 N1 H2 h' N' ∧ forGo tg tb (ds.drop (i + 1)) D0 τ' h', fun σ2 H2 ⟨hi2, w⟩ => ⟨ds.length - (i + 1), by omega, rfl, hi2, w⟩, fun x H2 y => ?_⟩
    obtain ⟨N2, d, ed, R2, e2, rd⟩ := jy x H2 y
    have edrop : ds.drop i = d :: ds.drop (i + 1) := by
      rw [List.drop_eq_getElem_cons hlt]
      have := List.getElem?_eq_getElem hlt
      rw [ed] at this
      rw [← Option.some.inj this]
    rw [edrop] at q'
    unfold forGo at q'
    cases eb : bindT tg d τ' with
    | none => rw [eb] at q'; exact q'.elim
    | some τ2 =>
      rw [eb] at q'
      obtain ⟨σ2, S2, _, g⟩ := bindT_ok tg d τ' τ2 x σ' eb (S'.ext R'.un e2) rd
      refine g _ ⟨τ2, h', N2, _, S2, R2, q', ?_⟩
      have e12 := e'.trans e2
      exact ⟨fun τ3 h3 N3 σ3 H3 q3 e3 S3 R3 => ⟨hlt, τ3, h3, N3, S3, R3, e12.trans e3, q3⟩, U.rt.ext (e.trans e12),
        fun τ3 h3 N3 σ3 H3 q3 e3 S3 R3 => U.nx τ3 h3 N3 σ3 H3 q3 (e.trans (e12.trans e3)) S3 R3, fun τ3 h3 N3 σ3 H3 q3 e3 S3 R3 => ⟨hlt, τ3, h3, N3, S3, R3, e12.trans e3, q3⟩, (U.ext (e.trans e12)).ex⟩
  · have hi' : i = ds.length := by omega
    subst hi'
    rw [List.drop_length] at q'
    exact .inl ⟨jr.stop H' h' N' e' R', U.nx _ _ _ _ _ q' (e.trans e') S' R'⟩
theorem ds_while {c : Expr} {body : List Stmt} {tc : DT} {tb : DS} (hp : PassesOwn (model X.prog X.w) X.A X.env X.xe) (hc : DTp X W c tc) (hb : DSs X W body tb) : DSp' X W (.While c body [] pos) (dWhile tc tb) := PS.imp (ps_while hp hc hb) fun D σ H ⟨τ, h, N, D0, S, R, ⟨n, z⟩, U⟩ => by
  refine ⟨fun m σ' H' => ∃ τ' h' N', SRep X.K H' N' τ' σ' ∧ HRep X.K H' h' N' ∧ Ext H h N H' h' N' ∧ whileGo tc tb m D0 τ' h', ⟨n, τ, h, N, S, R, Ext.refl _ _ _, z⟩, ?_⟩
  rintro m σ' H' ⟨τ', h', N', S', R', e', q'⟩
  cases m with
  | zero => exact q'.elim
  | succ m =>
    unfold whileGo at q'
    refine ⟨τ', h', N', _, _, S', R', q', fun b h1 N1 H1 q e R1 => ?_, (U.ext e').exc S' R'.un⟩
    cases b with
    | true =>
      rw [if_pos rfl]
      refine ⟨fun σ2 H2 => ∃ τ' h' N', SRep X.K H2 N' τ' σ2 ∧ HRep X.K H2 h' N' ∧ Ext H h N H2 h' N' ∧ whileGo tc tb m D0 τ' h', fun σ2 H2 w => ⟨m, Nat.lt_succ_self _, w⟩, τ', h1, N1, _, S'.ext R'.un e, R1, q.1 rfl, ?_⟩
      have e1 := e'.trans e
      exact ⟨fun τ3 h3 N3 σ3 H3 q3 e3 S3 R3 => ⟨τ3, h3, N3, S3, R3, e1.trans e3, q3⟩, U.rt.ext e1, fun τ3 h3 N3 σ3 H3 q3 e3 S3 R3 => U.nx τ3 h3 N3 σ3 H3 q3 (e1.trans e3) S3 R3, fun τ3 h3 N3 σ3 H3 q3 e3 S3 R3 => ⟨τ3, h3, N3, S3, R3, e1.trans e3, q3⟩, (U.ext e1).ex⟩
    | false =>
      rw [if_neg Bool.false_ne_true]
      exact U.nx _ _ _ _ _ (q.2 rfl) (e'.trans e) (S'.ext R'.un e) R1

/-! ### comprehensions -/
theorem dwipe_rep {K : PySem.W.Frag} {H : Hp} {N : NS} {τ : DSt} {σ : L2.St} (S : SRep K H N τ σ) : ∀ vs : List Nat, SRep K H N (dwipe τ vs) (wipe σ vs)
  | [] => S
  | v :: vs => by
    have ih := dwipe_rep S vs
    unfold dwipe wipe
    refine ⟨by rw [List.length_set, List.length_set]; exact ih.len, fun i d q => ?_⟩
    by_cases hv : v = i
    · subst hv
      by_cases hl : v < (dwipe τ vs).length
      · rw [List.getElem?_set_self hl] at q; cases q
      · rw [List.getElem?_eq_none_iff.mpr (by rw [List.length_set]; omega)] at q; cases q
    · rw [List.getElem?_set_ne hv] at q
      obtain ⟨v', e1, r⟩ := ih.get i d q
      exact ⟨v', by rw [List.getElem?_set_ne hv]; exact e1, r⟩
theorem HRep.newH {K : PySem.W.Frag} {H : Hp} {h : DH} {N : NS} (R : HRep K H h N) {p : Addr} {o : HO} (n : H p = .none) : HRep K (upd H p o) h (fun a => N a ∨ a = p) ∧ Ext H h N (upd H p o) h (fun a => N a ∨ a = p) := by
  have e : Ext H h N (upd H p o) h (fun a => N a ∨ a = p) := fun a u q hn => by
    have hp : a ≠ p := ne_of_none q n
    exact ⟨by rw [upd_ne hp]; exact q, hn, ⟨fun z => z.elim id fun z => absurd z hp, .inl⟩⟩
  have np : ∀ a o, h a = some o → a ≠ p := fun a o q z => by subst z; rw [R.none n] at q; cases q
  exact ⟨⟨fun a o q => (R.at_ a o q).ext R.un e fun u z => by rw [upd_ne (np a o q)]; exact z, fun a o q => .inl (R.un a o q)⟩, e⟩
section
variable {K : PySem.W.Frag} {H H' : Hp} {N N' : NS}
mutual
theorem Rep.tr (f : ∀ a u, ¬ N a → Rd H a u → ¬ N' a ∧ Rd H' a u) : ∀ (d : D) (v : V), Rep K H N d v → Rep K H' N' d v
  | .non, _, r => r
  | .bl _, _, r => r
  | .int _, _, r => r
  | .str _, _, r => r
  | .tup ds, v, r => by
    simp only [Rep] at r ⊢
    obtain ⟨a, xs, e1, g, r⟩ := r
    exact ⟨a, xs, e1, g.elim (fun z => .inl (f a _ z.1 z.2)) .inr, RepL.tr f ds xs r⟩
  | .lst ds, v, r => by
    simp only [Rep] at r ⊢
    obtain ⟨a, xs, e1, g, r⟩ := r
    exact ⟨a, xs, e1, f a _ g.1 g.2, RepL.tr f ds xs r⟩
  | .scr ns, v, r => by
    simp only [Rep] at r ⊢
    obtain ⟨a, e1, g⟩ := r
    exact ⟨a, e1, g.elim (fun z => .inl (f a _ z.1 z.2)) .inr⟩
  | .dct, v, r => by
    simp only [Rep] at r ⊢
    obtain ⟨a, e1, n, r⟩ := r
    obtain ⟨n', r'⟩ := f a _ n r
    exact ⟨a, e1, n', r'⟩
  | .ref _, _, r => r
theorem RepL.tr (f : ∀ a u, ¬ N a → Rd H a u → ¬ N' a ∧ Rd H' a u) : ∀ (ds : List D) (xs : List V), RepL K H N ds xs → RepL K H' N' ds xs
  | [], _, r => r
  | d :: ds, xs, r => by
    simp only [RepL] at r ⊢
    obtain ⟨x, t, e1, r1, r2⟩ := r
    exact ⟨x, t, e1, Rep.tr f d x r1, RepL.tr f ds t r2⟩
end
end
/-- a hidden list is written -/
theorem hid_write {K : PySem.W.Frag} {H : Hp} {h : DH} {N : NS} (R : HRep K H h N) {p : Addr} {o u : HO} (hp : H p = some u) (hn : h p = none) (hN : N p) :
    HRep K (upd H p o) h N ∧ (∀ ds vs, RepL K H N ds vs → RepL K (upd H p o) N ds vs) ∧ ∀ H0 h0 N0, Ext H0 h0 N0 H h N → H0 p = none → Ext H0 h0 N0 (upd H p o) h N := by
  have rd : ∀ {a u}, ¬ N a → Rd H a u → Rd (upd H p o) a u := fun {a u} na r => by
    have ne : a ≠ p := fun e => na (by rw [e]; exact hN)
    rcases r with r | ⟨ob, r⟩
    · exact .inl (by rw [upd_ne ne]; exact r)
    · exact .inr ⟨ob, by rw [upd_ne ne]; exact r⟩
  have rl : ∀ ds vs, RepL K H N ds vs → RepL K (upd H p o) N ds vs := RepL.tr fun a u na r => ⟨na, rd na r⟩
  refine ⟨⟨fun a ob q => ?_, R.un⟩, rl, fun H0 h0 N0 e0 n0 a u q hn => ?_⟩
  · have ne : a ≠ p := fun e => by rw [e, hn] at q; cases q
    have z := R.at_ a ob q
    cases ob with
    | lst ds => obtain ⟨xs, e1, r⟩ := z; exact ⟨xs, by rw [upd_ne ne]; exact e1, rl _ _ r⟩
    | ins C fs => obtain ⟨dx, gs, e1, r⟩ := z; exact ⟨dx, gs, by rw [upd_ne ne]; exact e1, r.1, rl _ _ r.2⟩
    | exd fs => obtain ⟨gs, e1, r⟩ := z; exact ⟨gs, by rw [upd_ne ne]; exact e1, r.1, rl _ _ r.2⟩
  · have ne : a ≠ p := fun e => by rw [e, n0] at q; cases q
    obtain ⟨e1, n1, i⟩ := e0 a u q hn
    exact ⟨by rw [upd_ne ne]; exact e1, n1, i⟩
/-- the turns of a comprehension -/
theorem lc_turns {K : PySem.W.Frag} {J : It} {ds : List D} {tg : Tgt} {tt : DT} {te : DE} {vs : List Nat} {τ : DSt} {σ : L2.St} {H1 : Hp} {h1 : DH} {N1 : NS} {Q0 : List D → DH → Prop} {Q : VK} {W0 : WX} (S : SRep K H1 N1 τ σ) (R1 : HRep K H1 h1 N1) (jr : JRep K J ds H1 h1 N1)
    (hv : ∀ i ∈ slots tg, i ∈ vs) (hz : ds.length ≤ 10000000) (q : lcGo tg tt te (dwipe τ vs) ds h1 Q0)
    (fin : ∀ (Dl : Addr) ys vys h' N' H', H1 Dl = none → Q0 ys h' → H' Dl = some (.lst vys) → h' Dl = none → N' Dl → RepL K H' N' ys vys → HRep K H' h' N' → Ext H1 h1 N1 H' h' N' → Q (.ref Dl) H') :
    ∀ Dl, H1 Dl = none → ∃ Wd : Nat → Nat → Hp → Prop, (∃ m, Wd 0 m (upd H1 Dl (.lst []))) ∧ ∀ i m H, Wd i m H →
      (J.stop i H ∧ Q (.ref Dl) H) ∨ (J.go i H ∧ ∃ Nx : Hp → Prop, (∀ H', Nx H' → ∃ m', m' < m ∧ Wd (i + 1) m' H') ∧ ∀ x H', J.yld i H x H' → gT K tg x (wipe σ vs) H' fun σ2 H2 => wipe σ2 vs = wipe σ vs ∧ liftT K W0 tt σ2 H2 fun b H3 =>
        if b = true then liftE K W0 te σ2 H3 fun y H4 => ∃ acc, H4 Dl = some (.lst acc) ∧ acc.length < sizeLine ∧ Nx (upd H4 Dl (.lst (acc ++ [y]))) else Nx H3) := by
  intro Dl nD
  have Sw := dwipe_rep S vs
  refine ⟨fun i m H' => m = ds.length - i ∧ i ≤ ds.length ∧ ∃ h' N' acc vacc, H' Dl = some (.lst vacc) ∧ h' Dl = none ∧ N' Dl ∧ RepL K H' N' acc vacc ∧ HRep K H' h' N' ∧ Ext H1 h1 N1 H' h' N' ∧ acc.length ≤ i ∧
    lcGo tg tt te (dwipe τ vs) (ds.drop i) h' (fun ys h2 => Q0 (acc ++ ys) h2), ⟨ds.length, rfl, Nat.zero_le _, ?_⟩, ?_⟩
  · obtain ⟨R2, e2⟩ := R1.newH (o := .lst []) nD
    exact ⟨h1, _, [], [], upd_same, R1.none nD, .inr rfl, rfl, R2, e2, Nat.le_refl _, q⟩
  rintro i m H' ⟨rfl, hi, h', N', acc, vacc, hD, hD0, hND, ra, R', e', hl, q'⟩
  by_cases hlt : i < ds.length
  · obtain ⟨jg, jy⟩ := jr.go H' h' N' e' R' i hlt
    refine .inr ⟨jg, fun H2 => i + 1 ≤ ds.length ∧ ∃ h' N' acc vacc, H2 Dl = some (.lst vacc) ∧ h' Dl = none ∧ N' Dl ∧ RepL K H2 N' acc vacc ∧ HRep K H2 h' N' ∧ Ext H1 h1 N1 H2 h' N' ∧ acc.length ≤ i + 1 ∧
      lcGo tg tt te (dwipe τ vs) (ds.drop (i + 1)) h' (fun ys h2 => Q0 (acc ++ ys) h2), fun H2 ⟨a, b⟩ => ⟨ds.length - (i + 1), by omega, rfl, a, b⟩, fun x H2 y => ?_⟩
    obtain ⟨N2, d, ed, R2, e2, rd⟩ := jy x H2 y
    have edrop : ds.drop i = d :: ds.drop (i + 1) := by
      rw [List.drop_eq_getElem_cons hlt]
      have := List.getElem?_eq_getElem hlt
      rw [ed] at this
      rw [← Option.some.inj this]
    rw [edrop] at q'
    unfold lcGo at q'
    cases eb : bindT tg d (dwipe τ vs) with
    | none => rw [eb] at q'; exact q'.elim
    | some τ2 =>
      rw [eb] at q'
      obtain ⟨σ2, S2, w2, g⟩ := bindT_ok tg d _ τ2 x _ eb (Sw.ext R1.un (e'.trans e2)) rd
      obtain ⟨hD2, _, iD2⟩ := e2 Dl _ hD hD0
      refine g _ ⟨?_, τ2, h', N2, _, noX, S2, R2, q', fun b h3 N3 H3 q3 e3 R3 => ?_, fun _ _ _ _ _ _ z => z.elim⟩
      · rw [w2 vs hv]
        have : ∀ (us : List Nat), (∀ i ∈ us, i ∈ vs) → wipe (wipe σ us) vs = wipe σ vs := by
          intro us
          induction us with
          | nil => intro _; rfl
          | cons w us ih =>
            intro hu
            show wipe ((wipe σ us).set w none) vs = wipe σ vs
            rw [wipe_set (hu w (by simp)), ih fun i hi => hu i (by simp [hi])]
        exact this vs fun _ h => h
      · obtain ⟨hD3, hD03, iD3⟩ := e3 Dl _ hD2 hD0
        have ra3 := RepL.ext R2.un e3 _ _ (RepL.ext R'.un e2 _ _ ra)
        cases b with
        | true =>
          rw [if_pos rfl]
          refine ⟨τ2, h3, N3, _, noX, S2.ext R2.un e3, R3, q3.1 rfl, fun y h4 N4 v H4 q4 e4 R4 ry => ?_, fun _ _ _ _ _ _ z => z.elim⟩
          obtain ⟨hD4, hD04, iD4⟩ := e4 Dl _ hD3 hD03
          have ra4 := RepL.ext R3.un e4 _ _ ra3
          have hND4 : N4 Dl := iD4.mpr (iD3.mpr (iD2.mpr hND))
          have hlen : vacc.length < sizeLine := by rw [ra4.length, sizeLine_eq]; omega
          refine ⟨vacc, hD4, hlen, hlt, ?_⟩
          obtain ⟨R5, rl5, e5⟩ := hid_write (o := .lst (vacc ++ [v])) R4 hD4 hD04 hND4
          refine ⟨h4, N4, acc ++ [y], vacc ++ [v], upd_same, hD04, hND4, rl5 _ _ (ra4.append (RepL.cons ry RepL.nil)), R5, e5 _ _ _ (e'.trans (e2.trans (e3.trans e4))) nD, by rw [List.length_append, List.length_singleton]; omega, ?_⟩
          have e6 : (fun ys h2 => Q0 (acc ++ [y] ++ ys) h2) = fun ys h3 => Q0 (acc ++ (y :: ys)) h3 := by
            funext ys h2
            rw [List.append_assoc]; rfl
          rw [e6]
          exact q4
        | false =>
          rw [if_neg Bool.false_ne_true]
          exact ⟨hlt, h3, N3, acc, vacc, hD3, hD03, iD3.mpr (iD2.mpr hND), ra3, R3, e'.trans (e2.trans e3), by omega, q3.2 rfl⟩
  · have hi' : i = ds.length := by omega
    subst hi'
    rw [List.drop_length] at q'
    have q' : Q0 (acc ++ []) h' := q'
    rw [List.append_nil] at q'
    exact .inl ⟨jr.stop H' h' N' e' R', fin Dl acc vacc h' N' H' nD q' hD hD0 hND ra R' e'⟩
theorem lift_lc {K : PySem.W.Frag} {it : DI} {tg : Tgt} {tt : DT} {vs : List Nat} {σ : L2.St} {H : Hp} {Q : VK} {W0 : WX} (hv : ∀ i ∈ slots tg, i ∈ vs) (z : liftE K W (dLc it tg tt te vs) σ H Q) : tLc (liftI K W it) (gT K tg) (liftT K W0 tt) (liftE K W0 te) vs σ H Q := by
  obtain ⟨τ, h, N, Q0, X0, S, R, t, p, ex⟩ := z
  refine ⟨τ, h, N, _, X0, S, R, t, fun ds h1 N1 J H1 q e R1 jr => lc_turns (S.ext R.un e) R1 jr hv q.1 q.2 fun Dl ys vys h' N' H' nD q hD hD0 hND rs R' e' => ?_, ex⟩
  have e2 : Ext H1 h1 N1 H' h' (fun a => N' a ∧ a ≠ Dl) := fun a u qa hn => by
    obtain ⟨x1, x2, x3⟩ := e' a u qa hn
    exact ⟨x1, x2, ⟨fun z => x3.mp z.1, fun z => ⟨x3.mpr z, ne_of_none qa nD⟩⟩⟩
  have rl : ∀ ds vs, RepL K H' N' ds vs → RepL K H' (fun a => N' a ∧ a ≠ Dl) ds vs := RepL.tr fun a u na r => ⟨fun y => na y.1, r⟩
  refine p (.lst ys) h' _ _ H' q (e.trans e2) ⟨fun a o qo => ?_, fun a o qo => ⟨R'.un a o qo, fun z => by rw [z, hD0] at qo; cases qo⟩⟩ ⟨Dl, vys, rfl, ⟨fun z => z.2 rfl, .inl hD⟩, rl _ _ rs⟩
  have zo := R'.at_ a o qo
  cases o with
  | lst ds => obtain ⟨xs, e1, r⟩ := zo; exact ⟨xs, e1, rl _ _ r⟩
  | ins C fs => obtain ⟨dx, gs, e1, r⟩ := zo; exact ⟨dx, gs, e1, r.1, rl _ _ r.2⟩
  | exd fs => obtain ⟨gs, e1, r⟩ := zo; exact ⟨gs, e1, r.1, rl _ _ r.2⟩
theorem lift_lcM {K : PySem.W.Frag} {it : DI} {tg : Tgt} {tt : DT} {vs : List Nat} {σ : L2.St} {H : Hp} {Q : VK} {W0 : WX} (hv : ∀ i ∈ slots tg, i ∈ vs) (z : liftE K W (dLcM it tg tt te vs) σ H Q) : tLc (liftI K W it) (gT K tg) (liftT K W0 tt) (liftE K W0 te) vs σ H Q := by
  obtain ⟨τ, h, N, Q0, X0, S, R, t, p, ex⟩ := z
  refine ⟨τ, h, N, _, X0, S, R, t, fun ds h1 N1 J H1 q e R1 jr => lc_turns (S.ext R.un e) R1 jr hv q.1 q.2 fun Dl ys vys h' N' H' nD q hD hD0 hND rs R' e' => ?_, ex⟩
  have e2 : Ext H1 h1 N1 H' (dupd h' Dl (.lst ys)) N' := fun a u qa hn => by
    obtain ⟨x1, x2, x3⟩ := e' a u qa hn
    exact ⟨x1, by rw [dupd_ne (ne_of_none qa nD)]; exact x2, x3⟩
  refine p (.ref Dl) _ _ _ H' (q Dl hD0) (e.trans e2) ⟨fun a o qo => ?_, fun a o qo => ?_⟩ rfl
  · by_cases ha : a = Dl
    · subst ha; rw [dupd_same] at qo; cases qo; exact ⟨vys, hD, rs⟩
    · rw [dupd_ne ha] at qo
      have zo := R'.at_ a o qo
      cases o with
      | lst ds => exact zo
      | ins C fs => exact zo
      | exd fs => exact zo
  · by_cases ha : a = Dl
    · rw [ha]; exact hND
    · rw [dupd_ne ha] at qo; exact R'.un a o qo
section
variable {elt tge iter : Expr} {ifs : List Expr} {scope : Scope} {own : List (Str × Nat)} {it : DI} {tg : Tgt} {tt : DT} {W0 : WX}
abbrev DTs' (X : Cx) (W : WX) (e : List Expr) (t : DT) : Prop := PTs X e (liftT X.K W t)
theorem dts_nil : DTs' X W [] dYes := ⟨fun pins s σ H Q I ⟨τ, h, N, Q0, X0, S, R, z, p, ex⟩ => pts_nil.run pins s σ H Q I (p true h N H z (Ext.refl _ _ _) R)⟩
theorem dts_one {c : Expr} {t : DT} (h : DTp X W c t) : DTs' X W [c] t := pts_one h
theorem d_lc (hc : X.calm = true) (hN : X.N.Nodup) (hi : DIp X W tge iter it) (ok : BlkOk X.N X.env.scope scope own) (hv : ∀ i ∈ slots tg, i ∈ own.map (·.2))
    (hg : ∀ (s : Shared) (H : Hp) (C : Addr) (cl : List (Str × Addr)) (fp : List Addr), PG (X.blk s H scope (compEnvC scope cl C X.env) fp) tge (gT X.K tg)) (ht : ∀ (s : Shared) (H : Hp) (C : Addr) (cl : List (Str × Addr)) (fp : List Addr), DTs' (X.blk s H scope (compEnvC scope cl C X.env) fp) W0 ifs tt)
    (he : ∀ (s : Shared) (H : Hp) (C : Addr) (cl : List (Str × Addr)) (fp : List Addr), DEp (X.blk s H scope (compEnvC scope cl C X.env) fp) W0 elt te) (hs : ∀ x, foldedSetIterable iter X.env x = pure x := by intro _; rfl) :
    DEp X W (.ListComp elt [⟨tge, iter, ifs, 0⟩] scope pos) (dLc it tg tt te (own.map (·.2))) := PE.imp (pe_lc hc hN hi ok hg ht he hs) fun _ _ _ z => lift_lc hv z
theorem d_lcM (hc : X.calm = true) (hN : X.N.Nodup) (hi : DIp X W tge iter it) (ok : BlkOk X.N X.env.scope scope own) (hv : ∀ i ∈ slots tg, i ∈ own.map (·.2))
    (hg : ∀ (s : Shared) (H : Hp) (C : Addr) (cl : List (Str × Addr)) (fp : List Addr), PG (X.blk s H scope (compEnvC scope cl C X.env) fp) tge (gT X.K tg)) (ht : ∀ (s : Shared) (H : Hp) (C : Addr) (cl : List (Str × Addr)) (fp : List Addr), DTs' (X.blk s H scope (compEnvC scope cl C X.env) fp) W0 ifs tt)
    (he : ∀ (s : Shared) (H : Hp) (C : Addr) (cl : List (Str × Addr)) (fp : List Addr), DEp (X.blk s H scope (compEnvC scope cl C X.env) fp) W0 elt te) (hs : ∀ x, foldedSetIterable iter X.env x = pure x := by intro _; rfl) :
    DEp X W (.ListComp elt [⟨tge, iter, ifs, 0⟩] scope pos) (dLcM it tg tt te (own.map (·.2))) := PE.imp (pe_lc hc hN hi ok hg ht he hs) fun _ _ _ z => lift_lcM hv z
/-- y = [..] where the model stores from within -/
theorem ds_setLc {i : Nat} {y : Str} {py spos : Pos} (hc : X.calm = true) (hN : X.N.Nodup) (hi : DIp X W tge iter it) (ok : BlkOk X.N X.env.scope scope own) (hv : ∀ i ∈ slots tg, i ∈ own.map (·.2))
    (hg : ∀ (s : Shared) (H : Hp) (C : Addr) (cl : List (Str × Addr)) (fp : List Addr), PG (X.blk s H scope (compEnvC scope cl C X.env) fp) tge (gT X.K tg)) (ht : ∀ (s : Shared) (H : Hp) (C : Addr) (cl : List (Str × Addr)) (fp : List Addr), DTs' (X.blk s H scope (compEnvC scope cl C X.env) fp) W0 ifs tt)
    (he : ∀ (s : Shared) (H : Hp) (C : Addr) (cl : List (Str × Addr)) (fp : List Addr), DEp (X.blk s H scope (compEnvC scope cl C X.env) fp) W0 elt te) 
    (hsw : swapsWith (.ListComp elt [⟨tge, iter, ifs, 0⟩] scope pos) (some (.Name y py)) spos.line X.env = pure true) (hy : X.N[i]? = some y := by rfl) (hyl : X.env.scope.names.lookup y = some .local := by rfl) (hs : ∀ x, foldedSetIterable iter X.env x = pure x := by intro _; rfl) :
    DSp' X W (.Assign [.Name y py] (.ListComp elt [⟨tge, iter, ifs, 0⟩] scope pos) spos) (dAsg (dLc it tg tt te (own.map (·.2))) i) := PS.imp (ps_setLc hc hN hy hyl hsw hi ok hg ht he hs) fun D σ H q => by
  obtain ⟨τ, h, N, D0, S, R, z, U⟩ := q
  exact lift_lc (W0 := W0) hv ⟨τ, h, N, _, _, S, R, z, fun d h1 N1 v H1 q e R1 r => U.nx _ _ _ _ _ q e ((S.ext R.un e).set r) R1, U.exc S R.un⟩
theorem ds_setLcM {i : Nat} {y : Str} {py spos : Pos} (hc : X.calm = true) (hN : X.N.Nodup) (hi : DIp X W tge iter it) (ok : BlkOk X.N X.env.scope scope own) (hv : ∀ i ∈ slots tg, i ∈ own.map (·.2))
    (hg : ∀ (s : Shared) (H : Hp) (C : Addr) (cl : List (Str × Addr)) (fp : List Addr), PG (X.blk s H scope (compEnvC scope cl C X.env) fp) tge (gT X.K tg)) (ht : ∀ (s : Shared) (H : Hp) (C : Addr) (cl : List (Str × Addr)) (fp : List Addr), DTs' (X.blk s H scope (compEnvC scope cl C X.env) fp) W0 ifs tt)
    (he : ∀ (s : Shared) (H : Hp) (C : Addr) (cl : List (Str × Addr)) (fp : List Addr), DEp (X.blk s H scope (compEnvC scope cl C X.env) fp) W0 elt te) 
    (hsw : swapsWith (.ListComp elt [⟨tge, iter, ifs, 0⟩] scope pos) (some (.Name y py)) spos.line X.env = pure true) (hy : X.N[i]? = some y := by rfl) (hyl : X.env.scope.names.lookup y = some .local := by rfl) (hs : ∀ x, foldedSetIterable iter X.env x = pure x := by intro _; rfl) :
    DSp' X W (.Assign [.Name y py] (.ListComp elt [⟨tge, iter, ifs, 0⟩] scope pos) spos) (dAsg (dLcM it tg tt te (own.map (·.2))) i) := PS.imp (ps_setLc hc hN hy hyl hsw hi ok hg ht he hs) fun D σ H q => by
  obtain ⟨τ, h, N, D0, S, R, z, U⟩ := q
  exact lift_lcM (W0 := W0) hv ⟨τ, h, N, _, _, S, R, z, fun d h1 N1 v H1 q e R1 r => U.nx _ _ _ _ _ q e ((S.ext R.un e).set r) R1, U.exc S R.un⟩
end
end
end DL

/-! D9: defs and calls. -/
namespace DL
open PySem PySem.Spec L2 PyProof.Rows

/-- a def's promise where no guard is held (repr may be called) -/
structure FnG (P : Program) (w : World) (K : PySem.W.Frag) (mg : Str → Option Value) (base : Heap) (k : Nat) (f : Addr) (fd : FuncData) (ps : List Str) (sp : Sp) : Prop where
  len : ∀ vs H Q E, sp vs H Q E → vs.length = ps.length
  run : ∀ (A : Around) (outer : List Env) (s : Shared) (H : Hp) (args : Args) (us : List Value) (vs : List V) (Q : VK) (E : XK), Room k A → A.guards = some [] → Env0 P w K mg base A outer s H → BindsTo s fd args (ps.zip us) → Vals vs us → sp vs H Q E →
    codeAny (model P w) A (.call (.ref f) args) (CR (L2N.CX P w) outer P w H s Q E) s
section
variable {P : Program} {w : World} {K : PySem.W.Frag} {mg : Str → Option Value} {base : Heap}
theorem FnG.of {k : Nat} {f : Addr} {fd : FuncData} {ps : List Str} {sp : Sp} (F : FnOk P w K mg base (L2N.CX P w) k f fd ps sp) : FnG P w K mg base k f fd ps sp :=
  ⟨F.len, fun A outer s H args us vs Q E hr _ e0 hb r h => F.run A outer s H args us vs Q E hr e0 hb r h⟩
theorem FnG.mono {j k : Nat} {f : Addr} {fd : FuncData} {ps : List Str} {sp : Sp} (F : FnG P w K mg base j f fd ps sp) (h : j ≤ k) : FnG P w K mg base k f fd ps sp :=
  ⟨F.len, fun A outer s H args us vs Q E hr => F.run A outer s H args us vs Q E (hr.mono h)⟩
theorem fnG_of {k : Nat} {f : Addr} {name qual : Str} {params : Arguments} {body : List Stmt} {scope : Scope} {dV kV doc pm cdv ct oc : Value} {an od : Option Addr}
    {osl : Array (Option Value)} {N ps : List Str} {sp : Sp} (lk : K.lookup f = some ⟨oc, od, .func (PySem.W.fnOf name qual params body scope dV kV doc pm an cdv ct), osl⟩) (hcd : PySem.W.codeIn K cdv qual = true) (S : FnScope N ps scope)
    (len : ∀ vs H Q E, sp vs H Q E → vs.length = ps.length)
    (hbody : ∀ (A : Around) (outer : List Env) (s : Shared) (H : Hp) (vs : List V) (Q : VK) (E : XK), Room k (A.deeper (envOfC qual scope s.heap.objs.size f cdv)) → A.guards = some [] → sp vs H Q E →
      ∃ t, PSs (cxOf (L2N.CX P w) P w K mg base N qual scope f cdv A outer s H E) body t ∧ t { nx := fun _ H' => Q .non H', rt := Q } (L2.start N vs) H) :
    FnG P w K mg base (k + 1) f (PySem.W.fnOf name qual params body scope dV kV doc pm an cdv ct) ps sp := by
  refine ⟨len, fun A outer s H args us vs Q E hr hgd e0 hb r hsp => ?_⟩
  have hl := len _ _ _ _ hsp
  have KX : K.In s.heap := e0.mod.kin.keeps fun b o e => (e0.bs b o e).1
  have lim : s.heap.NoLimit := e0.mod.nolimit.keeps fun b o e => (e0.bs b o e).1
  have hkind : ∀ y ∈ ps.zip us, scope.names.lookup y.1 = some .local ∨ (scope.names.lookup y.1 = some .cell ∧ ((cellsFrom (s.heap.objs.size + 1) scope.names []).lookup y.1).isSome = true) := fun ⟨n, v⟩ hy => by
    rcases S.par n (List.of_mem_zip hy).1 with q | q
    · exact .inl q
    · exact .inr ⟨q, PySem.W.cellsFrom_some _ _ _ (.inl q)⟩
  refine codeAny_call_function hr.depth (KX _ _ lk) rfl S.co S.gen rfl (PySem.W.codeRec_of KX hcd) (hb _ _ _ _ ?_)
  refine wpAny_newFunctionEnv_cells S.kind hkind fun env he s1 x => ?_
  subst he
  refine ⟨lim.keeps x.toInCall.keep, codeAny_func ?_⟩
  obtain ⟨t, ht, hq⟩ := hbody A outer s H vs Q E (hr.deeper _) hgd hsp
  have I : Inv (cxOf (L2N.CX P w) P w K mg base N qual scope f cdv A outer s H E) [] (L2.start N vs) H s1 := inv_start S hr.hd e0 hl r x
  refine wpAny_mono (ht.run [] s1 (L2.start N vs) H _ I hq) (fun fl s' hs => ?_) fun e s' hs => hs
  have fin : ∀ {σ' : L2.St} {H' : Hp} {v : V} {u : Value}, Inv (cxOf (L2N.CX P w) P w K mg base N qual scope f cdv A outer s H E) [] σ' H' s' → RelV v u → Q v H' → CE outer P w H s Q u s' :=
    fun {σ' H' v u} J rv q => ⟨v, H', J.os, J.bare, J.base, J.hok, rv, q⟩
  cases fl with
  | ret u =>
    obtain ⟨v, σ', H', J, rv, q⟩ := hs
    exact fin J rv q
  | next =>
    obtain ⟨σ', H', J, q⟩ := hs
    exact fin (v := V.non) (u := Value.none) J rfl q
  | brk =>
    obtain ⟨_, _, _, q⟩ := hs
    exact False.elim q
  | cont =>
    obtain ⟨_, _, _, q⟩ := hs
    exact False.elim q

/-! ### a def over data -/
/-- the context of a def's body -/
abbrev cxD (P : Program) (w : World) (K : PySem.W.Frag) (mg : Str → Option Value) (base : Heap) (N : List Str) (qual : Str) (scope : Scope) (f : Addr) (cd : Value) (A : Around) (outer : List Env) (s : Shared) (H : Hp) (E : XK) : Cx :=
  cxOf (L2N.CX P w) P w K mg base N qual scope f cd A outer s H E
abbrev wE (E : XK) : WX := fun c d _ H => E c d H
def dstart (N : List Str) (ds : List D) : DSt := ds.map some ++ List.replicate (N.length - ds.length) none
/-- what is wanted of a def's body -/
def dEnd (Q : DK) (X : DX) : DEnds where
  nx := fun _ h' => ∃ h2, DSub h2 h' ∧ Q .non h2
  rt := fun d h' => ∃ h2, DSub h2 h' ∧ Q d h2
  ex := fun C fs _ h' => ∃ h2, DSub h2 h' ∧ X C fs h2
theorem start_rep {H : Hp} {N : NS} {Ns : List Str} : ∀ {ds : List D} {vs : List V}, RepL K H N ds vs → SRep K H N (dstart Ns ds) (L2.start Ns vs) := by
  intro ds vs r
  have hl := r.length
  unfold dstart L2.start
  rw [hl]
  refine ⟨by simp [hl], fun i d q => ?_⟩
  by_cases hi : i < ds.length
  · rw [List.getElem?_append_left (by simpa using hi), List.getElem?_map] at q
    cases e : ds[i]? with
    | none => rw [e] at q; cases q
    | some d' =>
      rw [e] at q
      cases q
      obtain ⟨v, ev, rv⟩ := r.getD e
      exact ⟨v, by rw [List.getElem?_append_left (by simpa [hl] using hi), List.getElem?_map, ev]; rfl, rv⟩
  · rw [List.getElem?_append_right (by simpa using hi), List.getElem?_replicate] at q
    split at q <;> cases q
theorem body_end {E : XK} {Q : VK} {H : Hp} {h : DH} {N : NS} {Q0 : DK} {X0 : DX} (p : Post K H h N Q0 Q) (ex : EXc K (fun c d _ H => E c d H) [] H h N X0) :
    Under K (wE E) H h N (dEnd Q0 X0) { nx := fun _ H' => Q .non H', rt := Q } :=
  ⟨fun τ' h' N' σ' H' ⟨h2, s2, q⟩ e S R => p .non h2 N' .non H' q (e.sub s2) (R.sub s2) rfl,
    fun d h' N' v H' ⟨h2, s2, q⟩ e R r => p d h2 N' v H' q (e.sub s2) (R.sub s2) r, fun _ _ _ _ _ q => q.elim, fun _ _ _ _ _ q => q.elim,
    fun C fs τ' h' N' σ' H' d ⟨h2, s2, q⟩ e S R r => ex C fs h2 N' H' d q (e.sub s2) (R.sub s2) r⟩
theorem liftSp_len {sp : DSp} {n : Nat} (len : ∀ ds h Q X, sp ds h Q X → ds.length = n) : ∀ vs H Q E, liftSp K sp vs H Q E → vs.length = n := fun vs H Q E ⟨ds, h, N, Q0, X0, r, _, q, _⟩ => by
  rw [r.length]; exact len ds h Q0 X0 q
/-- THE RULE for a def -/
theorem dokG {x qual : Str} {st : Stmt} {f : Addr} {fd : FuncData} {N ps : List Str} {k : Nat} {sp : DSp} {t : DS} (F : Fun K x qual st f fd) (S : FnScope N ps (defScope st)) (len : ∀ ds h Q X, sp ds h Q X → ds.length = ps.length)
    (body : ∀ (cdv : Value) (A : Around) (outer : List Env) (s : Shared) (H : Hp) (E : XK), Room k (A.deeper (envOfC qual (defScope st) s.heap.objs.size f cdv)) → A.guards = some [] → DSs (cxD P w K mg base N qual (defScope st) f cdv A outer s H E) (wE E) (defBody st) t)
    (rd : ∀ ds h Q X, sp ds h Q X → t (dEnd Q X) (dstart N ds) h) : FnG P w K mg base (k + 1) f fd ps (liftSp K sp) := by
  obtain ⟨oc, od, kV, doc, pm, an, cdv, ct, osl, rfl, lk, hcd⟩ := F.ex
  exact fnG_of lk hcd S (liftSp_len len) fun A outer s H vs Q E hr hgd ⟨ds, h, N', Q0, X0, r, R, q, p, ex⟩ =>
    ⟨_, body cdv A outer s H E hr hgd, _, h, N', _, start_rep r, R, rd ds h Q0 X0 q, body_end p ex⟩
end

/-! ### how arguments bind -/
def pick {α : Type} (perm : List Nat) (l : List α) : List α := perm.filterMap fun i => l[i]?
structure Bd (K : PySem.W.Frag) (fd : FuncData) (ps : List Str) (n : Nat) (ks : List Str) (perm : List Nat) : Prop where
  to : ∀ (s : Shared) (us ws : List Value), K.In s.heap → us.length = n → ws.length = ks.length → BindsTo s fd ⟨us, ks.zip ws⟩ (ps.zip (pick perm (us ++ ws)))
theorem Bd.all {K : PySem.W.Frag} {x qual : Str} {st : Stmt} {f : Addr} {fd : FuncData} {ps ks : List Str} {n : Nat} {perm : List Nat} (F : Fun K x qual st f fd)
    (h : ∀ (kV doc pm : Value) (an : Option Addr) (cdv ct : Value) (us ws : List Value), us.length = n → ws.length = ks.length → bindArgs (PySem.W.fnOf x qual (defArgs st) (defBody st) (defScope st) .none kV doc pm an cdv ct) ⟨us, ks.zip ws⟩ = pure (ps.zip (pick perm (us ++ ws)))) : Bd K fd ps n ks perm := by
  obtain ⟨oc, od, kV, doc, pm, an, cdv, ct, osl, rfl, lk, hcd⟩ := F.ex
  exact ⟨fun s us ws _ h1 h2 => .of_eq (h kV doc pm an cdv ct us ws h1 h2)⟩
theorem Vals.pick {vs : List V} {us : List Value} (r : Vals vs us) : ∀ perm : List Nat, Vals (pick perm vs) (pick perm us)
  | [] => .nil
  | i :: perm => by
    have ih := Vals.pick r perm
    unfold DL.pick at ih ⊢
    rw [List.filterMap_cons, List.filterMap_cons]
    cases e : vs[i]? with
    | none =>
      rw [Vals.none_of r e]
      exact ih
    | some v =>
      obtain ⟨u, eu, ru⟩ := r.get e
      rw [eu]
      exact .cons ru ih
theorem RepL.pick {K : PySem.W.Frag} {H : Hp} {N : NS} {ds : List D} {vs : List V} (r : RepL K H N ds vs) : ∀ perm : List Nat, RepL K H N (pick perm ds) (pick perm vs)
  | [] => rfl
  | i :: perm => by
    have ih := RepL.pick r perm
    unfold DL.pick at ih ⊢
    rw [List.filterMap_cons, List.filterMap_cons]
    cases e : ds[i]? with
    | none =>
      have : vs[i]? = none := by
        rw [List.getElem?_eq_none_iff] at e ⊢
        rw [r.length]; exact e
      rw [this]
      exact ih
    | some d =>
      obtain ⟨v, ev, rv⟩ := r.getD e
      rw [ev]
      exact RepL.cons rv ih

/-! ### calls -/
/-- keywords -/
def dKNil : DA := dNil
def dCall (sp : DSp) (t : DA) : DE := fun τ h Q X => t τ h (fun ds h1 => sp ds h1 Q X) X
def dCallK (sp : DSp) (n m : Nat) (perm : List Nat) (t tk : DA) : DE := fun τ h Q X => t τ h (fun ds h1 => tk τ h1 (fun es h2 => ds.length = n ∧ es.length = m ∧ sp (pick perm (ds ++ es)) h2 Q X) X) X
section
variable {X : Cx} {W : WX} {k : Nat} {f C : Addr} {fd : FuncData} {ps : List Str} {sp : DSp} {x m : Str} {p pos apos kpos : Pos} {e o : Expr} {es : List Expr} {kws : List Keyword} {ta te to : DE} {t tk : DA} {nm : Option Str} {n : Nat} {ks : List Str} {perm : List Nat}
abbrev DKp (X : Cx) (W : WX) (kws : List Keyword) (t : DA) : Prop := PK X kws (liftA X.K W t)
theorem PK.imp {X : Cx} {e : List Keyword} {t t' : TA} (p : PK X e t) (i : ∀ σ H Q, t' σ H Q → t σ H Q) : PK X e t' := ⟨fun pos pins s σ H Q I h => p.run pos pins s σ H Q I (i σ H Q h)⟩
theorem dk_nil : DKp X W [] dNil := PK.imp pk_nil fun σ H Q ⟨τ, h, N, Q0, X0, S, R, z, p, ex⟩ => p [] h N [] H z (Ext.refl _ _ _) R rfl
theorem dk_cons (ha : DEp X W e ta) (hr : DKp X W kws t) : DKp X W (⟨nm, e, kpos⟩ :: kws) (dCons ta t) := PK.imp (pk_cons ha hr) fun σ H Q ⟨τ, h, N, Q0, X0, S, R, z, p, ex⟩ =>
  ⟨τ, h, N, _, X0, S, R, z, fun x h1 N1 v H1 q e R1 rx => ⟨τ, h1, N1, _, X0, S.ext R.un e, R1, q, fun xs h2 N2 vs H2 q2 e2 R2 rs => p (x :: xs) h2 N2 (v :: vs) H2 q2 (e.trans e2) R2 (.cons (Rep.ext R1.un e2 _ _ rx) rs), ex.ext e⟩, ex⟩
/-- the callee runs -/
theorem run_G {pins : List (Addr × Obj)} {σ : L2.St} {H : Hp} {s : Shared} {Q : VK} {us ws : List Value} {vs zs : List V} {spv : Sp} (F : FnG X.prog X.w X.K X.mg X.base k f fd ps spv) (hr : Room k X.A) (hgd : X.A.guards = some []) (hb : Bd X.K fd ps n ks perm) (tk : L2N.Takes X W)
    (I : Inv X pins σ H s) (r : Vals vs us) (rz : Vals zs ws) (l1 : vs.length = n) (l2 : zs.length = ks.length) (h : spv (pick perm (vs ++ zs)) H Q (WE W σ)) : wpAny (model X.prog X.w) X.A (call (.ref f) us (ks.zip ws)) (EP X pins σ Q) X.xe s := by
  have r2 : Vals (pick perm (vs ++ zs)) (pick perm (us ++ ws)) := Vals.pick (r.append rz) perm
  refine wpAny_call (codeAny_mono (F.run X.A X.stack s H ⟨us, ks.zip ws⟩ _ _ Q (WE W σ) hr hgd I.env0 (hb.to s us ws I.kIn (r.length.symm.trans l1) (rz.length.symm.trans l2)) r2 h) fun r s' hq => ?_)
  cases r with
  | error e => exact L2N.passAt tk σ pins H s e s' I hq
  | ok fl =>
    cases fl with
    | ret u => exact I.after hq
    | next => exact False.elim hq
    | brk => exact False.elim hq
    | cont => exact False.elim hq
/-- .. without keywords, whatever the slots: all parameters given -/
theorem run_GB {pins : List (Addr × Obj)} {σ : L2.St} {H : Hp} {s : Shared} {Q : VK} {us : List Value} {vs : List V} {spv : Sp} (F : FnG X.prog X.w X.K X.mg X.base k f fd ps spv) (hr : Room k X.A) (hgd : X.A.guards = some []) (hb : Binds X.K fd ps []) (tk : L2N.Takes X W)
    (I : Inv X pins σ H s) (r : Vals vs us) (h : spv vs H Q (WE W σ)) : wpAny (model X.prog X.w) X.A (call (.ref f) us) (EP X pins σ Q) X.xe s := by
  have hl : us.length = ps.length := by rw [← r.length]; exact F.len _ _ _ _ h
  have b := hb s us I.kIn (by rw [List.append_nil]; exact hl)
  rw [List.append_nil] at b
  refine wpAny_call (codeAny_mono (F.run X.A X.stack s H ⟨us, []⟩ us vs Q (WE W σ) hr hgd I.env0 b r h) fun r s' hq => ?_)
  cases r with
  | error e => exact L2N.passAt tk σ pins H s e s' I hq
  | ok fl =>
    cases fl with
    | ret u => exact I.after hq
    | next => exact False.elim hq
    | brk => exact False.elim hq
    | cont => exact False.elim hq
theorem lift_call {K : PySem.W.Frag} {σ : L2.St} {H : Hp} {Q : VK} (z : liftE K W (dCall sp t) σ H Q) : liftA K W t σ H fun vs H1 => liftSp K sp vs H1 Q (WE W σ) := by
  obtain ⟨τ, h, N, Q0, X0, S, R, z, p, ex⟩ := z
  exact ⟨τ, h, N, _, X0, S, R, z, fun ds h1 N1 vs H1 q e R1 rs => ⟨ds, h1, N1, Q0, X0, rs, R1, q, p.ext e, ex.ext e⟩, ex⟩
theorem d_call (F : FnG X.prog X.w X.K X.mg X.base k f fd ps (liftSp X.K sp)) (hr : Room k X.A) (hgd : X.A.guards = some []) (hm : X.mg x = some (.ref f)) (hk : PySem.W.keepIn X.K (.ref f) = true) (hb : Binds X.K fd ps []) (tk : L2N.Takes X W)
    (ha : DAp X W (e :: es) t) (hg : Gl X x := by rfl) (hdb : (x == ("__debug__" : Str)) = false := by decide) (he : starEach (e :: es) X.env = (false, eval e X.env) :: starEach es X.env := by rfl) (hpl : (backTo pos (starEach es X.env)).any (·.1) = false := by rfl) :
    DEp X W (.Call (.Name x p) (e :: es) [] pos) (dCall sp t) := by
  refine ⟨fun pins s σ H Q I h => ?_⟩
  refine wpAny_Call_Name_kw (ld_glob I hg hm ?_ hdb)
  refine PySem.W.callWith_K (h₀ := X.base) I.ok.mod.kin hk (thn (ha.run pos pins s σ H _ I (lift_call h)) fun us s1 ⟨vs, H1, I1, r, q⟩ => ⟨I1.kIn, ?_⟩) he hpl
  exact run_GB F hr hgd hb tk I1 r q
theorem lift_callK {K : PySem.W.Frag} {σ : L2.St} {H : Hp} {Q : VK} {n m : Nat} (z : liftE K W (dCallK sp n m perm t tk) σ H Q) : liftA K W t σ H fun vs H1 => liftA K W tk σ H1 fun zs H2 => vs.length = n ∧ zs.length = m ∧ liftSp K sp (pick perm (vs ++ zs)) H2 Q (WE W σ) := by
  obtain ⟨τ, h, N, Q0, X0, S, R, z, p, ex⟩ := z
  refine ⟨τ, h, N, _, X0, S, R, z, fun ds h1 N1 vs H1 q e R1 rs => ⟨τ, h1, N1, _, X0, S.ext R.un e, R1, q, fun es h2 N2 zs H2 q2 e2 R2 rs2 => ?_, ex.ext e⟩, ex⟩
  have rs' := RepL.ext R1.un e2 _ _ rs
  exact ⟨rs.length.trans q2.1, rs2.length.trans q2.2.1, _, h2, N2, Q0, X0, (rs'.append rs2).pick perm, R2, q2.2.2, p.ext (e.trans e2), ex.ext (e.trans e2)⟩
/-- f(k = v, ..) -/
theorem d_callK0 (F : FnG X.prog X.w X.K X.mg X.base k f fd ps (liftSp X.K sp)) (hr : Room k X.A) (hgd : X.A.guards = some []) (hm : X.mg x = some (.ref f)) (hk : PySem.W.keepIn X.K (.ref f) = true) (hb : Bd X.K fd ps 0 ks perm) (tk' : L2N.Takes X W)
    (hkw : DKp X W kws tk) (hg : Gl X x := by rfl) (hall : (backToKw pos (keywordEach kws X.env)).all (·.1.isSome) = true := by rfl) (hks : (backToKw pos (keywordEach kws X.env)).filterMap (·.1) = ks := by rfl) (hdb : (x == ("__debug__" : Str)) = false := by decide)
    (hpl : ((backTo pos (starEach [] X.env)).any (·.1) || (backToKw pos (keywordEach kws X.env)).any (·.1.isNone)) = false := by rfl) :
    DEp X W (.Call (.Name x p) [] kws pos) (dCallK sp 0 ks.length perm dNil tk) := by
  refine ⟨fun pins s σ H Q I h => ?_⟩
  refine wpAny_Call_Name_kw (ld_glob I hg hm ?_ hdb)
  refine PySem.W.callWith_KW0 (h₀ := X.base) I.ok.mod.kin hk hall ?_ hpl
  obtain ⟨vs, H1, I1, r1, q1⟩ : ∃ vs H1, Inv X pins σ H1 s ∧ vs = [] ∧ liftA X.K W tk σ H1 fun zs H2 => vs.length = 0 ∧ zs.length = ks.length ∧ liftSp X.K sp (pick perm (vs ++ zs)) H2 Q (WE W σ) := by
    obtain ⟨τ, h', N, Q0, X0, S, R, z, p, ex⟩ := lift_callK h
    exact ⟨[], H, I, rfl, p [] h' N [] H z (Ext.refl _ _ _) R rfl⟩
  subst r1
  refine thn (hkw.run pos pins s σ H1 _ I1 q1) fun ws s2 ⟨zs, H2, I2, rz, l1, l2, q2⟩ => ⟨I2.kIn, ?_⟩
  rw [hks]
  exact run_G (us := []) (vs := []) F hr hgd hb tk' I2 .nil rz rfl l2 q2
theorem d_callKn (F : FnG X.prog X.w X.K X.mg X.base k f fd ps (liftSp X.K sp)) (hr : Room k X.A) (hgd : X.A.guards = some []) (hm : X.mg x = some (.ref f)) (hk : PySem.W.keepIn X.K (.ref f) = true) (hb : Bd X.K fd ps n ks perm) (tk' : L2N.Takes X W)
    (ha : DAp X W (e :: es) t) (hkw : DKp X W kws tk) (hg : Gl X x := by rfl) (hall : (backToKw pos (keywordEach kws X.env)).all (·.1.isSome) = true := by rfl) (hks : (backToKw pos (keywordEach kws X.env)).filterMap (·.1) = ks := by rfl) (hdb : (x == ("__debug__" : Str)) = false := by decide)
    (he : starEach (e :: es) X.env = (false, eval e X.env) :: starEach es X.env := by rfl) (hpl : ((backTo pos (starEach (e :: es) X.env)).any (·.1) || (backToKw pos (keywordEach kws X.env)).any (·.1.isNone)) = false := by rfl) :
    DEp X W (.Call (.Name x p) (e :: es) kws pos) (dCallK sp n ks.length perm t tk) := by
  refine ⟨fun pins s σ H Q I h => ?_⟩
  refine wpAny_Call_Name_kw (ld_glob I hg hm ?_ hdb)
  refine PySem.W.callWith_KW (h₀ := X.base) I.ok.mod.kin hk hall (thn (ha.run pos pins s σ H _ I (lift_callK h)) fun us s1 ⟨vs, H1, I1, r, q⟩ => ?_) hpl he
  refine thn (hkw.run pos pins s1 σ H1 _ I1 q) fun ws s2 ⟨zs, H2, I2, rz, l1, l2, q2⟩ => ⟨I2.kIn, ?_⟩
  rw [hks]
  exact run_G F hr hgd hb tk' I2 r rz l1 l2 q2
end
end DL

/-! D10: targets, raise, small things. -/
namespace DL
open PySem PySem.Spec L2 PyProof.Rows

theorem bt_len : bootBuiltins "len" = some (.builtin "len") := by decide +kernel
theorem bt_all : bootBuiltins "all" = some (.builtin "all") := by decide +kernel
theorem bt_any : bootBuiltins "any" = some (.builtin "any") := by decide +kernel
theorem bt_sum : bootBuiltins "sum" = some (.builtin "sum") := by decide +kernel
theorem bt_max : bootBuiltins "max" = some (.builtin "max") := by decide +kernel
theorem bt_min : bootBuiltins "min" = some (.builtin "min") := by decide +kernel
theorem bt_abs : bootBuiltins "abs" = some (.builtin "abs") := by decide +kernel
theorem bt_repr : bootBuiltins "repr" = some (.builtin "repr") := by decide +kernel
theorem bt_sorted : bootBuiltins "sorted" = some (.builtin "sorted") := by decide +kernel
theorem bt_isinstance : bootBuiltins "isinstance" = some (.builtin "isinstance") := by decide +kernel
theorem bt_tuple : bootBuiltins "tuple" = some (.type "tuple") := by decide +kernel
theorem bt_list : bootBuiltins "list" = some (.type "list") := by decide +kernel
theorem bt_int : bootBuiltins "int" = some (.type "int") := by decide +kernel
theorem bt_str : bootBuiltins "str" = some (.type "str") := by decide +kernel
theorem bt_bool : bootBuiltins "bool" = some (.type "bool") := by decide +kernel
theorem bt_dict : bootBuiltins "dict" = some (.type "dict") := by decide +kernel
theorem bt_range : bootBuiltins "range" = some (.type "range") := by decide +kernel

section
variable {X : Cx} {W : WX} {e : Expr} {es : List Expr} {pos : Pos} {t : Tgt} {ts : List Tgt} {te : DE}
theorem pgn {i : Nat} (h : PG X e (gName i)) : PG X e (gT X.K (.nm i)) := by simp only [gT]; exact h
theorem pgs0 : PGs X [] (gTs X.K []) := by simp only [gTs]; exact pgs_nil
theorem pgs1 (h : PG X e (gT X.K t)) (r : PGs X es (gTs X.K ts)) (hs : (assignEach (e :: es) X.env).map (·.2) = assign e X.env :: (assignEach es X.env).map (·.2) := by rfl) : PGs X (e :: es) (gTs X.K (t :: ts)) := by
  simp only [gTs]; exact pgs_cons h r hs
theorem pgt {k : Nat} (hc : X.calm = true) (h : PGs X es (gTs X.K ts)) (hn : (assignEach es X.env).length = ts.length := by rfl) (hst : (assignEach es X.env).findIdx? (·.1) = none := by rfl) : PG X (.Tuple es k pos) (gT X.K (.tp ts)) := by
  simp only [gT]; exact pg_tup hc h hn hst
/-- a name stored -/
theorem pgi (i : Nat) {x : Str} (nd : X.N.Nodup) (hi : X.N[i]? = some x := by rfl) (hx : Loc X.env.scope x := by first | exact .inl rfl | exact .inr rfl) (hf : X.fn x = true ∨ X.env.scope.names.lookup x = some .local := by first | exact .inl rfl | exact .inr rfl) : PG X (.Name x pos) (gT X.K (.nm i)) :=
  pgn (pg_name nd hi hx hf)
def dNeg (t : DE) : DE := fun τ h Q X => t τ h (fun x h1 => match x with | .int i => Q (.int (-i)) h1 | _ => False) X
theorem d_neg (he : DEp X W e te) : DEp X W (.UnaryOp .USub e pos) (dNeg te) := PE.imp (pe_un un_neg he) fun σ H Q ⟨τ, h, N, Q0, X0, S, R, z, p, ex⟩ => by
  refine ⟨τ, h, N, _, X0, S, R, z, fun x h1 N1 v H1 q e R1 rx => ?_, ex⟩
  cases x <;> first | exact (show False from q).elim | skip
  rename_i i
  cases rep_int rx
  exact ⟨i, rfl, p _ _ _ _ _ q e R1 rfl⟩
/-- code that is never come to -/
def dNever : DS := fun _ _ _ => False
theorem ds_never {st : Stmt} : DSp' X W st dNever := PS.imp ps_never fun _ _ _ ⟨_, _, _, _, _, _, z, _⟩ => z
theorem dss_never {st : List Stmt} : DSs X W st dNever := PSs.imp pss_never fun _ _ _ ⟨_, _, _, _, _, _, z, _⟩ => z
def dRaise (C : Addr) : DS := fun D τ h => D.ex C [] τ h
theorem ds_raise {C : Addr} (hc : X.calm = true) (tk : L2N.Takes X W) (he : L2N.PMk X e (fun _ H Q => Q (.ref C) none H)) : DSp' X W (.Raise (some e) none pos) (dRaise C) := PS.imp (L2N.ps_raise hc tk he) fun D σ H ⟨τ, h, N, D0, S, R, z, U⟩ =>
  U.ex C [] τ h N σ H none z (Ext.refl _ _ _) S R rfl
theorem d_list1 (h : DEp X W e te) : DEp X W e te := h
end
theorem hu65 {k : Nat} {A : Around} (hr : Room k A) : A.units + 65 < cLine := by have := hr.un; omega
end DL

/-! D11: how readings are read. -/
namespace DL
open PySem L2

section
variable {d : D} {τ : DSt} {h : DH} {Q : DK} {X : DX} {a0 a1 a2 a3 a4 a5 a6 a7 a8 a9 b0 b1 b2 b3 b4 b5 : Option D}
theorem v0 : dVar 0 (some d :: τ) h Q X = Q d h := id rfl
theorem v1 : dVar 1 (a0 :: some d :: τ) h Q X = Q d h := id rfl
theorem v2 : dVar 2 (a0 :: a1 :: some d :: τ) h Q X = Q d h := id rfl
theorem v3 : dVar 3 (a0 :: a1 :: a2 :: some d :: τ) h Q X = Q d h := id rfl
theorem v4 : dVar 4 (a0 :: a1 :: a2 :: a3 :: some d :: τ) h Q X = Q d h := id rfl
theorem v5 : dVar 5 (a0 :: a1 :: a2 :: a3 :: a4 :: some d :: τ) h Q X = Q d h := id rfl
theorem v6 : dVar 6 (a0 :: a1 :: a2 :: a3 :: a4 :: a5 :: some d :: τ) h Q X = Q d h := id rfl
theorem v7 : dVar 7 (a0 :: a1 :: a2 :: a3 :: a4 :: a5 :: a6 :: some d :: τ) h Q X = Q d h := id rfl
theorem v8 : dVar 8 (a0 :: a1 :: a2 :: a3 :: a4 :: a5 :: a6 :: a7 :: some d :: τ) h Q X = Q d h := id rfl
theorem v9 : dVar 9 (a0 :: a1 :: a2 :: a3 :: a4 :: a5 :: a6 :: a7 :: a8 :: some d :: τ) h Q X = Q d h := id rfl
theorem v10 : dVar 10 (a0 :: a1 :: a2 :: a3 :: a4 :: a5 :: a6 :: a7 :: a8 :: a9 :: some d :: τ) h Q X = Q d h := id rfl
theorem v11 : dVar 11 (a0 :: a1 :: a2 :: a3 :: a4 :: a5 :: a6 :: a7 :: a8 :: a9 :: b0 :: some d :: τ) h Q X = Q d h := id rfl
theorem v12 : dVar 12 (a0 :: a1 :: a2 :: a3 :: a4 :: a5 :: a6 :: a7 :: a8 :: a9 :: b0 :: b1 :: some d :: τ) h Q X = Q d h := id rfl
theorem v13 : dVar 13 (a0 :: a1 :: a2 :: a3 :: a4 :: a5 :: a6 :: a7 :: a8 :: a9 :: b0 :: b1 :: b2 :: some d :: τ) h Q X = Q d h := id rfl
theorem v14 : dVar 14 (a0 :: a1 :: a2 :: a3 :: a4 :: a5 :: a6 :: a7 :: a8 :: a9 :: b0 :: b1 :: b2 :: b3 :: some d :: τ) h Q X = Q d h := id rfl
theorem v15 : dVar 15 (a0 :: a1 :: a2 :: a3 :: a4 :: a5 :: a6 :: a7 :: a8 :: a9 :: b0 :: b1 :: b2 :: b3 :: b4 :: some d :: τ) h Q X = Q d h := id rfl
theorem v16 : dVar 16 (a0 :: a1 :: a2 :: a3 :: a4 :: a5 :: a6 :: a7 :: a8 :: a9 :: b0 :: b1 :: b2 :: b3 :: b4 :: b5 :: some d :: τ) h Q X = Q d h := id rfl
end
section
variable {x : Option D} {τ : DSt} {a0 a1 a2 a3 a4 a5 a6 a7 a8 a9 b0 b1 b2 b3 b4 b5 b6 : Option D}
theorem w0 : List.set (a0 :: τ) 0 x = x :: τ := id rfl
theorem w1 : List.set (a0 :: a1 :: τ) 1 x = a0 :: x :: τ := id rfl
theorem w2 : List.set (a0 :: a1 :: a2 :: τ) 2 x = a0 :: a1 :: x :: τ := id rfl
theorem w3 : List.set (a0 :: a1 :: a2 :: a3 :: τ) 3 x = a0 :: a1 :: a2 :: x :: τ := id rfl
theorem w4 : List.set (a0 :: a1 :: a2 :: a3 :: a4 :: τ) 4 x = a0 :: a1 :: a2 :: a3 :: x :: τ := id rfl
theorem w5 : List.set (a0 :: a1 :: a2 :: a3 :: a4 :: a5 :: τ) 5 x = a0 :: a1 :: a2 :: a3 :: a4 :: x :: τ := id rfl
theorem w6 : List.set (a0 :: a1 :: a2 :: a3 :: a4 :: a5 :: a6 :: τ) 6 x = a0 :: a1 :: a2 :: a3 :: a4 :: a5 :: x :: τ := id rfl
theorem w7 : List.set (a0 :: a1 :: a2 :: a3 :: a4 :: a5 :: a6 :: a7 :: τ) 7 x = a0 :: a1 :: a2 :: a3 :: a4 :: a5 :: a6 :: x :: τ := id rfl
theorem w8 : List.set (a0 :: a1 :: a2 :: a3 :: a4 :: a5 :: a6 :: a7 :: a8 :: τ) 8 x = a0 :: a1 :: a2 :: a3 :: a4 :: a5 :: a6 :: a7 :: x :: τ := id rfl
theorem w9 : List.set (a0 :: a1 :: a2 :: a3 :: a4 :: a5 :: a6 :: a7 :: a8 :: a9 :: τ) 9 x = a0 :: a1 :: a2 :: a3 :: a4 :: a5 :: a6 :: a7 :: a8 :: x :: τ := id rfl
theorem w10 : List.set (a0 :: a1 :: a2 :: a3 :: a4 :: a5 :: a6 :: a7 :: a8 :: a9 :: b0 :: τ) 10 x = a0 :: a1 :: a2 :: a3 :: a4 :: a5 :: a6 :: a7 :: a8 :: a9 :: x :: τ := id rfl
theorem w11 : List.set (a0 :: a1 :: a2 :: a3 :: a4 :: a5 :: a6 :: a7 :: a8 :: a9 :: b0 :: b1 :: τ) 11 x = a0 :: a1 :: a2 :: a3 :: a4 :: a5 :: a6 :: a7 :: a8 :: a9 :: b0 :: x :: τ := id rfl
theorem w12 : List.set (a0 :: a1 :: a2 :: a3 :: a4 :: a5 :: a6 :: a7 :: a8 :: a9 :: b0 :: b1 :: b2 :: τ) 12 x = a0 :: a1 :: a2 :: a3 :: a4 :: a5 :: a6 :: a7 :: a8 :: a9 :: b0 :: b1 :: x :: τ := id rfl
theorem w13 : List.set (a0 :: a1 :: a2 :: a3 :: a4 :: a5 :: a6 :: a7 :: a8 :: a9 :: b0 :: b1 :: b2 :: b3 :: τ) 13 x = a0 :: a1 :: a2 :: a3 :: a4 :: a5 :: a6 :: a7 :: a8 :: a9 :: b0 :: b1 :: b2 :: x :: τ := id rfl
theorem w14 : List.set (a0 :: a1 :: a2 :: a3 :: a4 :: a5 :: a6 :: a7 :: a8 :: a9 :: b0 :: b1 :: b2 :: b3 :: b4 :: τ) 14 x = a0 :: a1 :: a2 :: a3 :: a4 :: a5 :: a6 :: a7 :: a8 :: a9 :: b0 :: b1 :: b2 :: b3 :: x :: τ := id rfl
theorem w15 : List.set (a0 :: a1 :: a2 :: a3 :: a4 :: a5 :: a6 :: a7 :: a8 :: a9 :: b0 :: b1 :: b2 :: b3 :: b4 :: b5 :: τ) 15 x = a0 :: a1 :: a2 :: a3 :: a4 :: a5 :: a6 :: a7 :: a8 :: a9 :: b0 :: b1 :: b2 :: b3 :: b4 :: x :: τ := id rfl
theorem w16 : List.set (a0 :: a1 :: a2 :: a3 :: a4 :: a5 :: a6 :: a7 :: a8 :: a9 :: b0 :: b1 :: b2 :: b3 :: b4 :: b5 :: b6 :: τ) 16 x = a0 :: a1 :: a2 :: a3 :: a4 :: a5 :: a6 :: a7 :: a8 :: a9 :: b0 :: b1 :: b2 :: b3 :: b4 :: b5 :: x :: τ := id rfl
end
/-! comprehensions -/
theorem lc_map {α : Type} {i : Nat} {te : DE} {τ : DSt} {h : DH} {Q : List D → DH → Prop} (g f : α → D) : ∀ (xs : List α), (∀ x ∈ xs, ∀ Q' : DK, Q' (f x) h → te (τ.set i (some (g x))) h Q' noX) → Q (xs.map f) h → lcGo (.nm i) dYes te τ (xs.map g) h Q
  | [], _, q => q
  | x :: xs, hx, q => by
    unfold List.map lcGo
    simp only [bindT, dYes]
    refine ⟨fun _ => hx x (by simp) _ ?_, fun z => by cases z⟩
    exact lc_map g f xs (fun y hy => hx y (by simp [hy])) q
theorem lc_mapT {α : Type} {tg : Tgt} {te : DE} {τ : DSt} {h : DH} {Q : List D → DH → Prop} (g f : α → D) : ∀ (xs : List α), (∀ x ∈ xs, ∃ τ', bindT tg (g x) τ = some τ' ∧ ∀ Q' : DK, Q' (f x) h → te τ' h Q' noX) → Q (xs.map f) h → lcGo tg dYes te τ (xs.map g) h Q
  | [], _, q => q
  | x :: xs, hx, q => by
    obtain ⟨τ', e, t⟩ := hx x (by simp)
    unfold List.map lcGo
    simp only [e, dYes]
    refine ⟨fun _ => t _ ?_, fun z => by cases z⟩
    exact lc_mapT g f xs (fun y hy => hx y (by simp [hy])) q
theorem lc_fil {α : Type} {tg : Tgt} {tt : DT} {te : DE} {τ : DSt} {h : DH} {Q : List D → DH → Prop} (g f : α → D) (p : α → Bool) : ∀ (xs : List α), (∀ x ∈ xs, ∃ τ', bindT tg (g x) τ = some τ' ∧ (∀ Q' : Bool → DH → Prop, Q' (p x) h → tt τ' h Q' noX) ∧ (p x = true → ∀ Q' : DK, Q' (f x) h → te τ' h Q' noX)) →
    Q ((xs.filter p).map f) h → lcGo tg tt te τ (xs.map g) h Q
  | [], _, q => q
  | x :: xs, hx, q => by
    obtain ⟨τ', e, t, t2⟩ := hx x (by simp)
    unfold List.map lcGo
    simp only [e]
    refine t _ ⟨fun hp => t2 hp _ ?_, fun hp => ?_⟩
    · refine lc_fil (Q := fun ys h3 => Q (f x :: ys) h3) g f p xs (fun y hy => hx y (by simp [hy])) ?_
      rw [List.filter_cons, if_pos hp] at q
      exact q
    · refine lc_fil g f p xs (fun y hy => hx y (by simp [hy])) ?_
      rw [List.filter_cons, if_neg (by rw [hp]; decide)] at q
      exact q
/-- .. whose elements change the heap -/
theorem lc_inv {tg : Tgt} {te : DE} {τ : DSt} {Q : List D → DH → Prop} (I : List D → DH → Prop) : ∀ (ds : List D) (h : DH) (acc : List D), I acc h →
    (∀ d ∈ ds, ∃ τ', bindT tg d τ = some τ' ∧ ∀ acc h, I acc h → ∀ Q' : DK, (∀ y h2, I (acc ++ [y]) h2 → Q' y h2) → te τ' h Q' noX) → (∀ ys h2, I (acc ++ ys) h2 → ys.length = ds.length → Q ys h2) → lcGo tg dYes te τ ds h Q
  | [], h, acc, i, _, q => q [] h (by rw [List.append_nil]; exact i) rfl
  | d :: ds, h, acc, i, hx, q => by
    obtain ⟨τ', e, t⟩ := hx d (by simp)
    unfold lcGo
    simp only [e, dYes]
    refine ⟨fun _ => t acc h i _ fun y h2 i2 => ?_, fun z => by cases z⟩
    exact lc_inv I ds h2 (acc ++ [y]) i2 (fun y hy => hx y (by simp [hy])) fun ys h3 i3 hl => q (y :: ys) h3 (by rw [List.append_assoc] at i3; exact i3) (by rw [List.length_cons, List.length_cons, hl])
/-! loops -/
/-- as D, but for what follows a turn -/
structure Turns (D' D : DEnds) (I : DSt → DH → Prop) : Prop where
  nx : ∀ τ h, I τ h → D'.nx τ h
  ct : ∀ τ h, I τ h → D'.ct τ h
  rt : ∀ d h, D.rt d h → D'.rt d h
  ex : ∀ C fs τ h, D.ex C fs τ h → D'.ex C fs τ h
  bk : ∀ τ h, D.nx τ h → D'.bk τ h
theorem for_ind {tg : Tgt} {tb : DS} {E : DEnds} (I : List D → DSt → DH → Prop) (ds : List D) {τ : DSt} {h : DH} (h0 : I [] τ h)
    (step : ∀ pre d post τ h, ds = pre ++ d :: post → I pre τ h → ∀ D' : DEnds, Turns D' E (I (pre ++ [d])) → ∃ τ', bindT tg d τ = some τ' ∧ tb D' τ' h) (fin : ∀ τ h, I ds τ h → E.nx τ h) : forGo tg tb ds E τ h := by
  have go : ∀ (rest pre : List D) (τ : DSt) (h : DH), ds = pre ++ rest → I pre τ h → forGo tg tb rest E τ h := by
    intro rest
    induction rest with
    | nil =>
      intro pre τ h e i
      rw [List.append_nil] at e
      subst e
      exact fin τ h i
    | cons d rest ih =>
      intro pre τ h e i
      have nx : ∀ τ h, I (pre ++ [d]) τ h → forGo tg tb rest E τ h := fun τ h i => ih (pre ++ [d]) τ h (by rw [e, List.append_assoc]; rfl) i
      obtain ⟨τ', e2, t⟩ := step pre d rest τ h e i { E with nx := forGo tg tb rest E, ct := forGo tg tb rest E, bk := E.nx } ⟨nx, nx, fun _ _ z => z, fun _ _ _ _ z => z, fun _ _ z => z⟩
      unfold forGo
      rw [e2]
      exact t
  exact go ds [] τ h rfl h0
/-- over items that are told by x of a list -/
theorem for_indG {α : Type} {tg : Tgt} {tb : DS} {E : DEnds} (g : α → D) (I : List α → DSt → DH → Prop) (xs : List α) {τ : DSt} {h : DH} (h0 : I [] τ h)
    (step : ∀ pre x post τ h, xs = pre ++ x :: post → I pre τ h → ∀ D' : DEnds, Turns D' E (I (pre ++ [x])) → ∃ τ', bindT tg (g x) τ = some τ' ∧ tb D' τ' h) (fin : ∀ τ h, I xs τ h → E.nx τ h) : forGo tg tb (xs.map g) E τ h := by
  have go : ∀ (rest pre : List α) (τ : DSt) (h : DH), xs = pre ++ rest → I pre τ h → forGo tg tb (rest.map g) E τ h := by
    intro rest
    induction rest with
    | nil =>
      intro pre τ h e i
      rw [List.append_nil] at e
      subst e
      exact fin τ h i
    | cons d rest ih =>
      intro pre τ h e i
      have nx : ∀ τ h, I (pre ++ [d]) τ h → forGo tg tb (rest.map g) E τ h := fun τ h i => ih (pre ++ [d]) τ h (by rw [e, List.append_assoc]; rfl) i
      obtain ⟨τ', e2, t⟩ := step pre d rest τ h e i { E with nx := forGo tg tb (rest.map g) E, ct := forGo tg tb (rest.map g) E, bk := E.nx } ⟨nx, nx, fun _ _ z => z, fun _ _ _ _ z => z, fun _ _ z => z⟩
      unfold List.map forGo
      rw [e2]
      exact t
  exact go xs [] τ h rfl h0
theorem while_ind {c : DT} {tb : DS} {E : DEnds} (I : DSt → DH → Prop) (μ : DSt → DH → Nat) {τ : DSt} {h : DH} (h0 : I τ h)
    (step : ∀ τ h, I τ h → ∀ D' : DEnds, Turns D' E (fun τ' h' => I τ' h' ∧ μ τ' h' < μ τ h) → c τ h (fun b h1 => (b = true → tb D' τ h1) ∧ (b = false → E.nx τ h1)) (fun C fs h1 => E.ex C fs τ h1)) : dWhile c tb E τ h := by
  have go : ∀ (n : Nat) (τ : DSt) (h : DH), I τ h → μ τ h < n → whileGo c tb n E τ h := by
    intro n
    induction n with
    | zero => intro τ h _ l; omega
    | succ n ih =>
      intro τ h i l
      have nx : ∀ τ' h', (I τ' h' ∧ μ τ' h' < μ τ h) → whileGo c tb n E τ' h' := fun τ' h' ⟨a, b⟩ => ih τ' h' a (by omega)
      have t := step τ h i { E with nx := whileGo c tb n E, ct := whileGo c tb n E, bk := E.nx } ⟨nx, nx, fun _ _ z => z, fun _ _ _ _ z => z, fun _ _ z => z⟩
      unfold whileGo
      exact t
  exact ⟨μ τ h + 1, go _ τ h h0 (Nat.lt_succ_self _)⟩
/-! the end of a def -/
theorem dend {Q : DK} {d : D} {h h' : DH} (s : DSub h h') (q : Q d h) : ∃ h2, DSub h2 h' ∧ Q d h2 := ⟨h, s, q⟩
theorem dend0 {Q : DK} {d : D} {h : DH} (q : Q d h) : ∃ h2, DSub h2 h ∧ Q d h2 := ⟨h, DSub.refl h, q⟩
theorem tt_t {A B : Prop} (a : A) : (true = true → A) ∧ (true = false → B) := ⟨fun _ => a, fun z => (by cases z)⟩
theorem tt_f {A B : Prop} (b : B) : (false = true → A) ∧ (false = false → B) := ⟨fun z => (by cases z), fun _ => b⟩
theorem b_t {b : Bool} {A B : Prop} (e : b = true) (a : A) : (b = true → A) ∧ (b = false → B) := ⟨fun _ => a, fun z => (by rw [e] at z; cases z)⟩
theorem b_f {b : Bool} {A B : Prop} (e : b = false) (a : B) : (b = true → A) ∧ (b = false → B) := ⟨fun z => (by rw [e] at z; cases z), fun _ => a⟩
theorem tt_eq {A B : Prop} : ((true = true → A) ∧ (true = false → B)) = A := propext ⟨fun z => z.1 rfl, fun a => tt_t a⟩
theorem ff_eq {A B : Prop} : ((false = true → A) ∧ (false = false → B)) = B := propext ⟨fun z => z.2 rfl, fun a => tt_f a⟩
end DL

/-! D12: applied equations of the transformers (printed by tools/eqs.py). -/
namespace DL
open PySem L2

theorem e_dC {d : D} {τ' : DSt} {h : DH} {Q : DK} {X' : DX} : dC d τ' h Q X' = (Q d h) := id rfl
theorem e_dOp {r : D → D → DH → DK → Prop} {ta tb : DE} {τ : DSt} {h : DH} {Q : DK} {X : DX} : dOp r ta tb τ h Q X = (ta τ h (fun x h1 => tb τ h1 (fun y h2 => r x y h2 Q) X) X) := id rfl
theorem e_dUn {r : D → DH → DK → Prop} {ta : DE} {τ : DSt} {h : DH} {Q : DK} {X : DX} : dUn r ta τ h Q X = (ta τ h (fun x h1 => r x h1 Q) X) := id rfl
theorem e_dTest {t : DE} {τ : DSt} {h : DH} {Q : Bool → DH → Prop} {X : DX} : dTest t τ h Q X = (t τ h (fun x h1 => match x with | .bl b => Q b h1 | _ => False) X) := id rfl
theorem e_dAnd {t u : DT} {τ : DSt} {h : DH} {Q : Bool → DH → Prop} {X : DX} : dAnd t u τ h Q X = (t τ h (fun c h1 => (c = true → u τ h1 Q X) ∧ (c = false → Q false h1)) X) := id rfl
theorem e_dOr {t u : DT} {τ : DSt} {h : DH} {Q : Bool → DH → Prop} {X : DX} : dOr t u τ h Q X = (t τ h (fun c h1 => (c = true → Q true h1) ∧ (c = false → u τ h1 Q X)) X) := id rfl
theorem e_dNot {t : DT} {τ : DSt} {h : DH} {Q : Bool → DH → Prop} {X : DX} : dNot t τ h Q X = (t τ h (fun c h1 => Q (!c) h1) X) := id rfl
theorem e_dAndV {t u : DE} {τ : DSt} {h : DH} {Q : DK} {X : DX} : dAndV t u τ h Q X = (t τ h (fun x h1 => match x with | .bl c => (c = true → u τ h1 Q X) ∧ (c = false → Q (.bl false) h1) | _ => False) X) := id rfl
theorem e_dOrV {t u : DE} {τ : DSt} {h : DH} {Q : DK} {X : DX} : dOrV t u τ h Q X = (t τ h (fun x h1 => match x with | .bl c => (c = true → Q (.bl true) h1) ∧ (c = false → u τ h1 Q X) | _ => False) X) := id rfl
theorem e_dNotV {t : DE} {τ : DSt} {h : DH} {Q : DK} {X : DX} : dNotV t τ h Q X = (t τ h (fun x h1 => match x with | .bl c => Q (.bl (!c)) h1 | _ => False) X) := id rfl
theorem e_dIfE {t : DT} {ta tb : DE} {τ : DSt} {h : DH} {Q : DK} {X : DX} : dIfE t ta tb τ h Q X = (t τ h (fun c h1 => (c = true → ta τ h1 Q X) ∧ (c = false → tb τ h1 Q X)) X) := id rfl
theorem e_dChain {r r' : D → D → DH → DK → Prop} {ta tb tc : DE} {τ : DSt} {h : DH} {Q : DK} {X : DX} : dChain r r' ta tb tc τ h Q X = (ta τ h (fun x h1 => tb τ h1 (fun y h2 => r x y h2 (fun z h3 => match z with
  | .bl k => (k = true → tc τ h3 (fun w h4 => r' y w h4 Q) X) ∧ (k = false → Q (.bl false) h3)
  | _ => False)) X) X) := rfl
theorem e_dNil {τ' : DSt} {h : DH} {Q : List D → DH → Prop} {X' : DX} : dNil  τ' h Q X' = (Q [] h) := id rfl
theorem e_dCons {ta : DE} {tr : DA} {τ : DSt} {h : DH} {Q : List D → DH → Prop} {X : DX} : dCons ta tr τ h Q X = (ta τ h (fun x h1 => tr τ h1 (fun xs h2 => Q (x :: xs) h2) X) X) := id rfl
theorem e_dTup {t : DA} {τ : DSt} {h : DH} {Q : DK} {X : DX} : dTup t τ h Q X = (t τ h (fun xs h1 => xs.length ≤ sizeLine ∧ Q (.tup xs) h1) X) := id rfl
theorem e_dLst {t : DA} {τ : DSt} {h : DH} {Q : DK} {X : DX} : dLst t τ h Q X = (t τ h (fun xs h1 => xs.length ≤ sizeLine ∧ Q (.lst xs) h1) X) := id rfl
theorem e_dLstM {t : DA} {τ : DSt} {h : DH} {Q : DK} {X : DX} : dLstM t τ h Q X = (t τ h (fun xs h1 => xs.length ≤ sizeLine ∧ ∀ p, h1 p = none → Q (.ref p) (dupd h1 p (.lst xs))) X) := id rfl
theorem e_dCB {r : List D → DH → DK → Prop} {t : DA} {τ : DSt} {h : DH} {Q : DK} {X : DX} : dCB r t τ h Q X = (t τ h (fun xs h1 => r xs h1 Q) X) := id rfl
theorem e_dBM {T : String} {r : D → List D → DH → DK → Prop} {to : DE} {t : DA} {τ : DSt} {h : DH} {Q : DK} {X : DX} : dBM T r to t τ h Q X = (to τ h (fun x h1 => dTy T x h1 ∧ t τ h1 (fun xs h2 => r x xs h2 Q) X) X) := id rfl
theorem e_dFrz {t : DE} {τ : DSt} {h : DH} {Q : DK} {X : DX} : dFrz t τ h Q X = (t τ h (fun x h1 => match x with
  | .ref a => (match h1 a with | some (.lst ds) => Q (.lst ds) (ddel h1 a) | _ => False)
  | x => Q x h1) X) := rfl
theorem e_dNoPart {τ' : DSt} {h : DH} {Q : Option Int → DH → Prop} {X' : DX} : dNoPart  τ' h Q X' = (Q none h) := id rfl
theorem e_dPart {t : DE} {τ : DSt} {h : DH} {Q : Option Int → DH → Prop} {X : DX} : dPart t τ h Q X = (t τ h (fun x h1 => match x with | .int i => Q (some i) h1 | _ => False) X) := id rfl
theorem e_dSl {r : D → Option Int → Option Int → DH → DK → Prop} {te : DE} {tl th : DO'} {τ : DSt} {h : DH} {Q : DK} {X : DX} : dSl r te tl th τ h Q X = (te τ h (fun x h1 => tl τ h1 (fun l h2 => th τ h2 (fun u h3 => r x l u h3 Q) X) X) X) := id rfl
theorem e_dIsi {T : String} {t : DE} {τ : DSt} {h : DH} {Q : DK} {X : DX} : dIsi T t τ h Q X = (t τ h (fun x h1 => tyN (view h1 x) ≠ "?" ∧ Q (.bl (isiB (tyN (view h1 x)) T)) h1) X) := id rfl
theorem e_iSeqD {t : DE} {τ : DSt} {h : DH} {Q : List D → DH → Prop} {X : DX} : iSeqD t τ h Q X = (t τ h (fun x h1 => match itemsD x with | some ds => Q ds h1 | none => False) X) := id rfl
theorem e_iRange1 {t : DE} {τ : DSt} {h : DH} {Q : List D → DH → Prop} {X : DX} : iRange1 t τ h Q X = (t τ h (fun x h1 => match x with | .int n => -(2 ^ 62) ≤ n ∧ n < 2 ^ 62 ∧ Q ((List.range n.toNat).map fun i => .int (i : Nat)) h1 | _ => False) X) := id rfl
theorem e_iRange2 {ta tb : DE} {τ : DSt} {h : DH} {Q : List D → DH → Prop} {X : DX} : iRange2 ta tb τ h Q X = (ta τ h (fun x h1 => tb τ h1 (fun y h2 => match x, y with | .int a, .int b => (-(2 ^ 62) ≤ a ∧ a < 2 ^ 62 ∧ -(2 ^ 62) ≤ b ∧ b < 2 ^ 62) ∧ Q ((List.range (b - a).toNat).map fun i => .int (a + (i : Nat))) h2 | _, _ => False) X) X) := id rfl
theorem e_iEnumD {t : DE} {τ : DSt} {h : DH} {Q : List D → DH → Prop} {X : DX} : iEnumD t τ h Q X = (t τ h (fun x h1 => match itemsD x with | some ds => Q (enumD ds) h1 | none => False) X) := id rfl
theorem e_iZipD {ta tb : DE} {τ : DSt} {h : DH} {Q : List D → DH → Prop} {X : DX} : iZipD ta tb τ h Q X = (ta τ h (fun x h1 => tb τ h1 (fun y h2 => match itemsD x, itemsD y with | some ds, some es => Q (zipD ds es) h2 | _, _ => False) X) X) := id rfl
theorem e_dNext {DD : DEnds} {τ : DSt} {h : DH} : dNext  DD τ h = (DD.nx τ h) := id rfl
theorem e_dSeq {t u : DS} {DD : DEnds} {τ : DSt} {h : DH} : dSeq t u DD τ h = (t { DD with nx := u DD } τ h) := id rfl
theorem e_dAsg {te : DE} {i : Nat} {DD : DEnds} {τ : DSt} {h : DH} : dAsg te i DD τ h = (te τ h (fun d h1 => DD.nx (τ.set i (some d)) h1) (fun C fs h1 => DD.ex C fs τ h1)) := id rfl
theorem e_dAsgT {te : DE} {t : Tgt} {DD : DEnds} {τ : DSt} {h : DH} : dAsgT te t DD τ h = (te τ h (fun d h1 => match bindT t d τ with | some τ' => DD.nx τ' h1 | none => False) (fun C fs h1 => DD.ex C fs τ h1)) := id rfl
theorem e_dPar {i j : Nat} {ta tb : DE} {DD : DEnds} {τ : DSt} {h : DH} : dPar i j ta tb DD τ h = (ta τ h (fun x h1 => tb τ h1 (fun y h2 => DD.nx ((τ.set i (some x)).set j (some y)) h2) (fun C fs h2 => DD.ex C fs τ h2)) (fun C fs h1 => DD.ex C fs τ h1)) := id rfl
theorem e_dIf {c : DT} {t u : DS} {DD : DEnds} {τ : DSt} {h : DH} : dIf c t u DD τ h = (c τ h (fun b h1 => (b = true → t DD τ h1) ∧ (b = false → u DD τ h1)) (fun C fs h1 => DD.ex C fs τ h1)) := id rfl
theorem e_dRet {te : DE} {DD : DEnds} {τ : DSt} {h : DH} : dRet te DD τ h = (te τ h DD.rt (fun C fs h1 => DD.ex C fs τ h1)) := id rfl
theorem e_dRetN {DD : DEnds} {τ' : DSt} {h : DH} : dRetN  DD τ' h = (DD.rt .non h) := id rfl
theorem e_dDrop {te : DE} {DD : DEnds} {τ : DSt} {h : DH} : dDrop te DD τ h = (te τ h (fun _ h1 => DD.nx τ h1) (fun C fs h1 => DD.ex C fs τ h1)) := id rfl
theorem e_dBrk {DD : DEnds} {τ : DSt} {h : DH} : dBrk  DD τ h = (DD.bk τ h) := id rfl
theorem e_dCnt {DD : DEnds} {τ : DSt} {h : DH} : dCnt  DD τ h = (DD.ct τ h) := id rfl
theorem e_dAug {i : Nat} {te : DE} {r : D → D → DH → DK → Prop} {DD : DEnds} {τ : DSt} {h : DH} : dAug i te r DD τ h = (match τ[i]? with
  | some (some x) => te τ h (fun y h1 => r x y h1 (fun z h2 => DD.nx (τ.set i (some z)) h2)) (fun C fs h1 => DD.ex C fs τ h1)
  | _ => False) := rfl
theorem e_dSetI {te to ti : DE} {DD : DEnds} {τ : DSt} {h : DH} : dSetI te to ti DD τ h = (te τ h (fun v h1 => to τ h1 (fun o h2 => ti τ h2 (fun i h3 => match o, i with
  | .ref a, .int k => (match h3 a with | some (.lst ds) => 0 ≤ k ∧ k < ds.length ∧ DD.nx τ (dupd h3 a (.lst (ds.set k.toNat v))) | _ => False)
  | _, _ => False) (fun C fs h2 => DD.ex C fs τ h2)) (fun C fs h2 => DD.ex C fs τ h2)) (fun C fs h1 => DD.ex C fs τ h1)) := rfl
theorem e_dFor {it : DI} {tg : Tgt} {tb : DS} {DD : DEnds} {τ : DSt} {h : DH} : dFor it tg tb DD τ h = (it τ h (fun ds h1 => forGo tg tb ds DD τ h1) (fun C fs h1 => DD.ex C fs τ h1)) := id rfl
theorem e_dWhile {c : DT} {tb : DS} {DD : DEnds} {τ : DSt} {h : DH} : dWhile c tb DD τ h = (∃ n, whileGo c tb n DD τ h) := id rfl
theorem e_dYes {τ' : DSt} {h : DH} {Q : Bool → DH → Prop} {X' : DX} : dYes  τ' h Q X' = (Q true h) := id rfl
theorem e_dLc {it : DI} {tg : Tgt} {tt : DT} {te : DE} {vs : List Nat} {τ : DSt} {h : DH} {Q : DK} {X : DX} : dLc it tg tt te vs τ h Q X = (it τ h (fun ds h1 => ds.length ≤ 10000000 ∧ lcGo tg tt te (dwipe τ vs) ds h1 (fun ys h2 => Q (.lst ys) h2)) X) := id rfl
theorem e_dLcM {it : DI} {tg : Tgt} {tt : DT} {te : DE} {vs : List Nat} {τ : DSt} {h : DH} {Q : DK} {X : DX} : dLcM it tg tt te vs τ h Q X = (it τ h (fun ds h1 => ds.length ≤ 10000000 ∧ lcGo tg tt te (dwipe τ vs) ds h1 (fun ys h2 => ∀ p, h2 p = none → Q (.ref p) (dupd h2 p (.lst ys)))) X) := id rfl
theorem e_dCall {sp : DSp} {t : DA} {τ : DSt} {h : DH} {Q : DK} {X : DX} : dCall sp t τ h Q X = (t τ h (fun ds h1 => sp ds h1 Q X) X) := id rfl
theorem e_dCallK {sp : DSp} {n m : Nat} {perm : List Nat} {t tk : DA} {τ : DSt} {h : DH} {Q : DK} {X : DX} : dCallK sp n m perm t tk τ h Q X = (t τ h (fun ds h1 => tk τ h1 (fun es h2 => ds.length = n ∧ es.length = m ∧ sp (pick perm (ds ++ es)) h2 Q X) X) X) := id rfl
theorem e_dNeg {t : DE} {τ : DSt} {h : DH} {Q : DK} {X : DX} : dNeg t τ h Q X = (t τ h (fun x h1 => match x with | .int i => Q (.int (-i)) h1 | _ => False) X) := id rfl
theorem e_dRaise {C : Addr} {DD : DEnds} {τ : DSt} {h : DH} : dRaise C DD τ h = (DD.ex C [] τ h) := id rfl

section
variable {h : DH} {a : Addr} {s : Str} {i : Int} {b : Bool} {xs : List D} {ns : List Int}
theorem vw_str : view h (.str s) = .str s := id rfl
theorem vw_int : view h (.int i) = .int i := id rfl
theorem vw_bl : view h (.bl b) = .bl b := id rfl
theorem vw_non : view h .non = .non := id rfl
theorem vw_dct : view h .dct = .dct := id rfl
theorem vw_tup : view h (.tup xs) = .tup xs := id rfl
theorem vw_lst : view h (.lst xs) = .lst xs := id rfl
theorem vw_scr : view h (.scr ns) = .scr ns := id rfl
theorem vw_ref (e : h a = some (.lst xs)) : view h (.ref a) = .lst xs := by simp only [view, e]
theorem ty_str : tyN (.str s) = "str" := id rfl
theorem ty_int : tyN (.int i) = "int" := id rfl
theorem ty_bl : tyN (.bl b) = "bool" := id rfl
theorem ty_non : tyN .non = "NoneType" := id rfl
theorem ty_tup : tyN (.tup xs) = "tuple" := id rfl
theorem ty_lst : tyN (.lst xs) = "list" := id rfl
theorem ty_dct : tyN .dct = "dict" := id rfl
theorem it_str : itemsD (.str s) = some (s.cps.toList.map fun c => .str ⟨#[c]⟩) := id rfl
theorem it_tup : itemsD (.tup xs) = some xs := id rfl
theorem it_lst : itemsD (.lst xs) = some xs := id rfl
theorem bT_nm {j : Nat} {d : D} {τ : DSt} : bindT (.nm j) d τ = some (τ.set j (some d)) := id rfl
theorem bT_2 {t u : Tgt} {d e : D} {τ τ1 τ2 : DSt} (h1 : bindT t d τ = some τ1) (h2 : bindT u e τ1 = some τ2) : bindT (.tp [t, u]) (.tup [d, e]) τ = some τ2 := by
  simp only [bindT, bindTs, h1, h2]
theorem isN_non : isN .non = true := id rfl
theorem isN_str : isN (.str s) = false := id rfl
theorem isN_int : isN (.int i) = false := id rfl
theorem isN_bl : isN (.bl b) = false := id rfl
theorem isN_tup : isN (.tup xs) = false := id rfl
theorem isN_lst : isN (.lst xs) = false := id rfl
theorem isN_dct : isN .dct = false := id rfl
theorem dT_str : dTy "str" (.str s) h = True := by simp only [dTy]
theorem dT_lst : dTy "list" (.lst xs) h = True := by simp only [dTy]
theorem dT_ref (e : h a = some (.lst xs)) : dTy "list" (.ref a) h = True := by simp only [dTy, true_and, eq_iff_iff, iff_true]; exact ⟨xs, e⟩
theorem en_rt {Q : DK} {X : DX} {d : D} : (dEnd Q X).rt d h = ∃ h2, DSub h2 h ∧ Q d h2 := id rfl
theorem en_nx {Q : DK} {X : DX} {τ : DSt} : (dEnd Q X).nx τ h = ∃ h2, DSub h2 h ∧ Q .non h2 := id rfl
theorem en_ex {Q : DK} {X : DX} {τ : DSt} {C : Addr} {fs : FS} : (dEnd Q X).ex C fs τ h = ∃ h2, DSub h2 h ∧ X C fs h2 := id rfl
theorem atI_nat {α : Type} {xs : List α} {k : Nat} {x : α} (e : xs[k]? = some x) : atI xs (k : Int) = some x := by
  have hk : k < xs.length := by
    rcases Nat.lt_or_ge k xs.length with l | l
    · exact l
    · rw [List.getElem?_eq_none l] at e; cases e
  unfold atI ixN
  rw [if_pos (by omega), if_pos (by omega)]
  exact e
theorem ix_tup {Q : DK} {k : Nat} {x : D} (e : xs[k]? = some x) : dIx (.tup xs) (.int (k : Nat)) h Q = Q x h := by simp only [dIx, vw_tup, atI_nat e]
theorem ix_lst {Q : DK} {k : Nat} {x : D} (e : xs[k]? = some x) : dIx (.lst xs) (.int (k : Nat)) h Q = Q x h := by simp only [dIx, vw_lst, atI_nat e]
theorem ix_ref {Q : DK} {k : Nat} {x : D} (ea : h a = some (.lst xs)) (e : xs[k]? = some x) : dIx (.ref a) (.int (k : Nat)) h Q = Q x h := by simp only [dIx, vw_ref ea, atI_nat e]
theorem ix_tup0 {Q : DK} {x : D} : dIx (.tup (x :: xs)) (.int 0) h Q = Q x h := ix_tup (k := 0) rfl
theorem ix_lst0 {Q : DK} {x : D} : dIx (.lst (x :: xs)) (.int 0) h Q = Q x h := ix_lst (k := 0) rfl
theorem ix_ref0 {Q : DK} {x : D} (ea : h a = some (.lst (x :: xs))) : dIx (.ref a) (.int 0) h Q = Q x h := ix_ref (k := 0) ea rfl
theorem ix_ref1 {Q : DK} {x y : D} (ea : h a = some (.lst (y :: x :: xs))) : dIx (.ref a) (.int 1) h Q = Q x h := ix_ref (k := 1) ea rfl
theorem ix_ref2 {Q : DK} {x y z : D} (ea : h a = some (.lst (y :: z :: x :: xs))) : dIx (.ref a) (.int 2) h Q = Q x h := ix_ref (k := 2) ea rfl
theorem ix_str {Q : DK} {k c : Nat} (e : s.cps.toList[k]? = some c) : dIx (.str s) (.int (k : Nat)) h Q = (s.length ≤ sizeLine ∧ Q (.str ⟨#[c]⟩) h) := by simp only [dIx, vw_str, atI_nat e]
theorem ix_scr {Q : DK} {k : Nat} {i : Int} (e : ns[k]? = some i) : dIx (.scr ns) (.int (k : Nat)) h Q = Q (.int i) h := by simp only [dIx, vw_scr, atI_nat e]
theorem ix_scrE {Q : DK} : dIx (.scr ns) (.int i) h Q = (match atI ns i with | some d => Q (.int d) h | none => False) := rfl
theorem sl_from {Q : DK} {k : Nat} : dSlice (.tup xs) (some (k : Nat)) none h Q = Q (.tup (xs.drop k)) h := by simp only [dSlice, vw_tup, cutG_from]
theorem sl_to {Q : DK} {k : Nat} : dSlice (.tup xs) none (some (k : Nat)) h Q = Q (.tup (xs.take k)) h := by simp only [dSlice, vw_tup, cutG_to]
theorem sl_fromL {Q : DK} {k : Nat} : dSlice (.lst xs) (some (k : Nat)) none h Q = Q (.lst (xs.drop k)) h := by simp only [dSlice, vw_lst, cutG_from]
theorem sl_toL {Q : DK} {k : Nat} : dSlice (.lst xs) none (some (k : Nat)) h Q = Q (.lst (xs.take k)) h := by simp only [dSlice, vw_lst, cutG_to]
theorem eqv_int (i j : Int) : eqvD (.int i) (.int j) = decide (i = j) := by
  show PyData.eqv (.int i) (.int j) = _
  unfold PyData.eqv
  show (i == j) = decide (i = j)
  by_cases e : i = j
  · subst e; simp
  · simp [e]
theorem eq_int {Q : DK} {j : Int} : dEq (.int i) (.int j) h Q = Q (.bl (decide (i = j))) h := by
  simp only [dEq, vw_int, eqv_int, dn, true_and]
theorem ne_int {Q : DK} {j : Int} : dNe (.int i) (.int j) h Q = Q (.bl (!decide (i = j))) h := by
  simp only [dNe, vw_int, eqv_int, dn, true_and]
theorem eq_str {Q : DK} {t : Str} : dEq (.str s) (.str t) h Q = Q (.bl (decide (s = t))) h := id rfl
theorem ne_str {Q : DK} {t : Str} : dNe (.str s) (.str t) h Q = Q (.bl (!decide (s = t))) h := id rfl
theorem eqv_tup {ys : List D} : eqvD (.tup xs) (.tup ys) = PyData.eqvAll (pyL xs) (pyL ys) := by simp only [eqvD, py, PyData.eqv]
theorem eq_tup {Q : DK} {ys : List D} (hx : dn 12 (.tup xs) = true) (hy : dn 12 (.tup ys) = true) : dEq (.tup xs) (.tup ys) h Q = Q (.bl (eqvD (.tup xs) (.tup ys))) h := by
  show (dn 12 (.tup xs) = true ∧ dn 12 (.tup ys) = true ∧ _) = _
  rw [hx, hy]; simp only [true_and]; rfl
theorem ne_tup {Q : DK} {ys : List D} (hx : dn 12 (.tup xs) = true) (hy : dn 12 (.tup ys) = true) : dNe (.tup xs) (.tup ys) h Q = Q (.bl (!eqvD (.tup xs) (.tup ys))) h := by
  show (dn 12 (.tup xs) = true ∧ dn 12 (.tup ys) = true ∧ _) = _
  rw [hx, hy]; simp only [true_and]; rfl
theorem pow_18 {Q : DK} : dPow (.int 10) (.int 18) h Q = Q (.int (10 ^ 18)) h := by simp only [dPow]; exact propext ⟨fun z => z.2.2, fun q => ⟨by decide, by decide, q⟩⟩
theorem pow_38 {Q : DK} : dPow (.int 10) (.int 38) h Q = Q (.int (10 ^ 38)) h := by simp only [dPow]; exact propext ⟨fun z => z.2.2, fun q => ⟨by decide, by decide, q⟩⟩
theorem pow_40 {Q : DK} : dPow (.int 10) (.int 40) h Q = Q (.int (10 ^ 40)) h := by simp only [dPow]; exact propext ⟨fun z => z.2.2, fun q => ⟨by decide, by decide, q⟩⟩
theorem pow_41 {Q : DK} : dPow (.int 10) (.int 41) h Q = Q (.int (10 ^ 41)) h := by simp only [dPow]; exact propext ⟨fun z => z.2.2, fun q => ⟨by decide, by decide, q⟩⟩
theorem pow_6 {Q : DK} : dPow (.int 10) (.int 6) h Q = Q (.int (10 ^ 6)) h := by simp only [dPow]; exact propext ⟨fun z => z.2.2, fun q => ⟨by decide, by decide, q⟩⟩
theorem t_imp {p : Prop} : (True → p) = p := propext ⟨fun z => z trivial, fun z _ => z⟩
theorem f_imp {p : Prop} : (False → p) = True := propext ⟨fun _ => trivial, fun _ z => z.elim⟩
theorem tf_eq : (true = false) = False := propext ⟨fun z => (by cases z), fun z => z.elim⟩
theorem ft_eq : (false = true) = False := propext ⟨fun z => (by cases z), fun z => z.elim⟩
theorem nq_NoneType : ("NoneType" ≠ "?") = True := by decide
theorem is_NoneType_int : isiB "NoneType" "int" = false := by decide
theorem is_NoneType_bool : isiB "NoneType" "bool" = false := by decide
theorem is_NoneType_str : isiB "NoneType" "str" = false := by decide
theorem is_NoneType_tuple : isiB "NoneType" "tuple" = false := by decide
theorem is_NoneType_list : isiB "NoneType" "list" = false := by decide
theorem is_NoneType_dict : isiB "NoneType" "dict" = false := by decide
theorem nq_bool : ("bool" ≠ "?") = True := by decide
theorem is_bool_int : isiB "bool" "int" = true := by decide
theorem is_bool_bool : isiB "bool" "bool" = true := by decide
theorem is_bool_str : isiB "bool" "str" = false := by decide
theorem is_bool_tuple : isiB "bool" "tuple" = false := by decide
theorem is_bool_list : isiB "bool" "list" = false := by decide
theorem is_bool_dict : isiB "bool" "dict" = false := by decide
theorem nq_int : ("int" ≠ "?") = True := by decide
theorem is_int_int : isiB "int" "int" = true := by decide
theorem is_int_bool : isiB "int" "bool" = false := by decide
theorem is_int_str : isiB "int" "str" = false := by decide
theorem is_int_tuple : isiB "int" "tuple" = false := by decide
theorem is_int_list : isiB "int" "list" = false := by decide
theorem is_int_dict : isiB "int" "dict" = false := by decide
theorem nq_str : ("str" ≠ "?") = True := by decide
theorem is_str_int : isiB "str" "int" = false := by decide
theorem is_str_bool : isiB "str" "bool" = false := by decide
theorem is_str_str : isiB "str" "str" = true := by decide
theorem is_str_tuple : isiB "str" "tuple" = false := by decide
theorem is_str_list : isiB "str" "list" = false := by decide
theorem is_str_dict : isiB "str" "dict" = false := by decide
theorem nq_tuple : ("tuple" ≠ "?") = True := by decide
theorem is_tuple_int : isiB "tuple" "int" = false := by decide
theorem is_tuple_bool : isiB "tuple" "bool" = false := by decide
theorem is_tuple_str : isiB "tuple" "str" = false := by decide
theorem is_tuple_tuple : isiB "tuple" "tuple" = true := by decide
theorem is_tuple_list : isiB "tuple" "list" = false := by decide
theorem is_tuple_dict : isiB "tuple" "dict" = false := by decide
theorem nq_list : ("list" ≠ "?") = True := by decide
theorem is_list_int : isiB "list" "int" = false := by decide
theorem is_list_bool : isiB "list" "bool" = false := by decide
theorem is_list_str : isiB "list" "str" = false := by decide
theorem is_list_tuple : isiB "list" "tuple" = false := by decide
theorem is_list_list : isiB "list" "list" = true := by decide
theorem is_list_dict : isiB "list" "dict" = false := by decide
theorem nq_dict : ("dict" ≠ "?") = True := by decide
theorem is_dict_int : isiB "dict" "int" = false := by decide
theorem is_dict_bool : isiB "dict" "bool" = false := by decide
theorem is_dict_str : isiB "dict" "str" = false := by decide
theorem is_dict_tuple : isiB "dict" "tuple" = false := by decide
theorem is_dict_list : isiB "dict" "list" = false := by decide
theorem is_dict_dict : isiB "dict" "dict" = true := by decide
theorem op_Lt {i j : Int} {h : DH} {Q : DK} : dLt (.int i) (.int j) h Q = Q (.bl (decide (i < j))) h := id rfl
theorem op_Le {i j : Int} {h : DH} {Q : DK} : dLe (.int i) (.int j) h Q = Q (.bl (decide (i ≤ j))) h := id rfl
theorem op_Gt {i j : Int} {h : DH} {Q : DK} : dGt (.int i) (.int j) h Q = Q (.bl (decide (j < i))) h := id rfl
theorem op_Ge {i j : Int} {h : DH} {Q : DK} : dGe (.int i) (.int j) h Q = Q (.bl (decide (j ≤ i))) h := id rfl
theorem op_IsN {x : D} {h : DH} {Q : DK} : dIsN x .non h Q = Q (.bl (isN x)) h := id rfl
theorem op_IsNN {x : D} {h : DH} {Q : DK} : dIsNN x .non h Q = Q (.bl (!isN x)) h := id rfl
theorem op_Sub {i j : Int} {h : DH} {Q : DK} : dSub (.int i) (.int j) h Q = Q (.int (i - j)) h := id rfl
theorem op_Add {i j : Int} {h : DH} {Q : DK} : dAdd (.int i) (.int j) h Q = Q (.int (i + j)) h := id rfl
theorem op_AddS {a b : Str} {h : DH} {Q : DK} : dAdd (.str a) (.str b) h Q = (a.length + b.length ≤ sizeLine ∧ Q (.str (a ++ b)) h) := id rfl
theorem op_AddT {a b : List D} {h : DH} {Q : DK} : dAdd (.tup a) (.tup b) h Q = (a.length + b.length ≤ sizeLine ∧ Q (.tup (a ++ b)) h) := id rfl
theorem op_AddL {a b : List D} {h : DH} {Q : DK} : dAdd (.lst a) (.lst b) h Q = (a.length + b.length ≤ sizeLine ∧ Q (.lst (a ++ b)) h) := id rfl
theorem op_Mul {i j : Int} {h : DH} {Q : DK} : dMul (.int i) (.int j) h Q = (IntMulOk i j ∧ Q (.int (i * j)) h) := id rfl
theorem op_MulT {a : List D} {k : Int} {h : DH} {Q : DK} : dMul (.tup a) (.int k) h Q = (a ≠ [] ∧ 0 ≤ k ∧ k ≤ 1000 ∧ a.length ≤ 1000 ∧ Q (.tup (rpt k a)) h) := id rfl
theorem op_MulL {a : List D} {k : Int} {h : DH} {Q : DK} : dMul (.lst a) (.int k) h Q = (-(2 ^ 63) ≤ k ∧ k < 2 ^ 63 ∧ a.length * k.toNat ≤ sizeLine ∧ Q (.lst (rpt k a)) h) := id rfl
theorem op_Mod {i j : Int} {h : DH} {Q : DK} : dMod (.int i) (.int j) h Q = (0 < j ∧ Q (.int (i % j)) h) := id rfl
theorem op_Fdiv {i j : Int} {h : DH} {Q : DK} : dFdiv (.int i) (.int j) h Q = (0 < j ∧ j.natAbs.log2 < 9000 ∧ Q (.int (i / j)) h) := id rfl
theorem op_InS {c z : Str} {h : DH} {Q : DK} : dInS (.str c) (.str z) h Q = ∃ k, c = ⟨#[k]⟩ ∧ Q (.bl (decide (k ∈ z.cps.toList))) h := id rfl
theorem op_NotInS {c z : Str} {h : DH} {Q : DK} : dNotInS (.str c) (.str z) h Q = ∃ k, c = ⟨#[k]⟩ ∧ Q (.bl (!decide (k ∈ z.cps.toList))) h := id rfl
theorem cb_lenT {xs : List D} {h : DH} {Q : DK} : dLen [.tup xs] h Q = Q (.int (xs.length : Nat)) h := id rfl
theorem cb_lenL {xs : List D} {h : DH} {Q : DK} : dLen [.lst xs] h Q = Q (.int (xs.length : Nat)) h := id rfl
theorem cb_lenS {s : Str} {h : DH} {Q : DK} : dLen [.str s] h Q = (s.length ≤ sizeLine ∧ Q (.int (s.length : Nat)) h) := id rfl
theorem cb_lenX {ns : List Int} {h : DH} {Q : DK} : dLen [.scr ns] h Q = Q (.int (ns.length : Nat)) h := id rfl
theorem cb_all {xs : List D} {h : DH} {Q : DK} : dAll [.lst xs] h Q = (match bools xs with | some bs => Q (.bl (bs.all id)) h | none => False) := id rfl
theorem cb_any {xs : List D} {h : DH} {Q : DK} : dAny [.lst xs] h Q = (match bools xs with | some bs => Q (.bl (bs.any id)) h | none => False) := id rfl
theorem cb_tupleL {xs : List D} {h : DH} {Q : DK} : dTuple [.lst xs] h Q = Q (.tup xs) h := id rfl
theorem cb_tupleT {xs : List D} {h : DH} {Q : DK} : dTuple [.tup xs] h Q = Q (.tup xs) h := id rfl
theorem cb_max {i j : Int} {h : DH} {Q : DK} : dMax2 [.int i, .int j] h Q = Q (.int (if j > i then j else i)) h := id rfl
theorem cb_min {i j : Int} {h : DH} {Q : DK} : dMin2 [.int i, .int j] h Q = Q (.int (if j < i then j else i)) h := id rfl
theorem cb_abs {i j : Int} {h : DH} {Q : DK} : dAbs [.int i] h Q = Q (.int (if i < 0 then -i else i)) h := id rfl
theorem cb_int {i j : Int} {h : DH} {Q : DK} : dInt [.int i] h Q = Q (.int i) h := id rfl
theorem cb_intB {b : Bool} {h : DH} {Q : DK} : dInt [.bl b] h Q = Q (.int (if b then 1 else 0)) h := id rfl
theorem cb_strI {i j : Int} {h : DH} {Q : DK} : dStrI [.int i] h Q = (i.natAbs.log2 < 1920 ∧ Q (.str (toString i)) h) := id rfl
theorem me_joinL {a : Str} {xs : List D} {h : DH} {Q : DK} : dJoin (.str a) [.lst xs] h Q = (match strsOf xs with | some zs => (zs.map (·.length)).sum + zs.length * a.length ≤ 16777216 ∧ Q (.str (Txt.join a zs)) h | none => False) := id rfl
theorem me_joinT {a : Str} {xs : List D} {h : DH} {Q : DK} : dJoin (.str a) [.tup xs] h Q = (match strsOf xs with | some zs => (zs.map (·.length)).sum + zs.length * a.length ≤ 16777216 ∧ Q (.str (Txt.join a zs)) h | none => False) := id rfl
theorem me_split {a b : Str} {h : DH} {Q : DK} : dSplit (.str a) [.str b] h Q = ((b.length == 0) = false ∧ a.length + 2 ≤ sizeLine ∧ Q (.lst ((Txt.split a b).map D.str)) h) := id rfl
theorem ip_add {i j : Int} {h : DH} {Q : DK} : dIpAdd (.int i) (.int j) h Q = Q (.int (i + j)) h := id rfl
theorem ip_sub {i j : Int} {h : DH} {Q : DK} : dIpSub (.int i) (.int j) h Q = Q (.int (i - j)) h := id rfl
theorem ip_mul {i j : Int} {h : DH} {Q : DK} : dIpMul (.int i) (.int j) h Q = (IntMulOk i j ∧ Q (.int (i * j)) h) := id rfl
theorem ip_div {i j : Int} {h : DH} {Q : DK} : dIpDiv (.int i) (.int j) h Q = (0 < j ∧ j.natAbs.log2 < 9000 ∧ Q (.int (i / j)) h) := id rfl
theorem me_append {a : Addr} {xs : List D} {y : D} {h : DH} {Q : DK} (e : h a = some (.lst xs)) : dAppend (.ref a) [y] h Q = (xs.length < sizeLine ∧ Q .non (dupd h a (.lst (xs ++ [y])))) := by
  simp only [dAppend, e]
theorem me_popAt {a : Addr} {xs : List D} {h : DH} {Q : DK} (e : h a = some (.lst xs)) {i : Int} : dPopAt (.ref a) [.int i] h Q = (0 ≤ i ∧ i < 2 ^ 63 ∧ (match xs[i.toNat]? with | some d => Q d (dupd h a (.lst (xs.eraseIdx i.toNat))) | none => False)) := by
  simp only [dPopAt, e] <;> rfl
theorem me_pop0 {a : Addr} {xs : List D} {h : DH} {Q : DK} (e : h a = some (.lst xs)) : dPop0 (.ref a) [] h Q = (match xs[xs.length - 1]? with | some d => Q d (dupd h a (.lst xs.dropLast)) | none => False) := by
  simp only [dPop0, e] <;> rfl
theorem me_insert {a : Addr} {xs : List D} {y : D} {h : DH} {Q : DK} (e : h a = some (.lst xs)) {i : Int} : dInsert (.ref a) [.int i, y] h Q = (xs.length < sizeLine ∧ 0 ≤ i ∧ i < 2 ^ 63 ∧ Q .non (dupd h a (.lst (xs.take i.toNat ++ [y] ++ xs.drop i.toNat)))) := by
  simp only [dInsert, e]
theorem me_clear {a : Addr} {xs : List D} {h : DH} {Q : DK} (e : h a = some (.lst xs)) : dClear (.ref a) [] h Q = Q .non (dupd h a (.lst [])) := by
  simp only [dClear, e]
theorem me_reverse {a : Addr} {xs : List D} {h : DH} {Q : DK} (e : h a = some (.lst xs)) : dReverse (.ref a) [] h Q = Q .non (dupd h a (.lst xs.reverse)) := by
  simp only [dReverse, e]
theorem me_extend {a : Addr} {xs : List D} {y : D} {h : DH} {Q : DK} (e : h a = some (.lst xs)) {ys : List D} (e2 : view h y = .lst ys) : dExtend (.ref a) [y] h Q = (xs.length + ys.length ≤ sizeLine ∧ Q .non (dupd h a (.lst (xs ++ ys)))) := by
  simp only [dExtend, e, e2]
theorem cb_lenR {a : Addr} {xs : List D} {h : DH} {Q : DK} (e : h a = some (.lst xs)) : dLen [.ref a] h Q = Q (.int (xs.length : Nat)) h := by
  simp only [dLen, vw_ref e]
theorem cb_tupleR {a : Addr} {xs : List D} {h : DH} {Q : DK} (e : h a = some (.lst xs)) : dTuple [.ref a] h Q = Q (.tup xs) h := by
  simp only [dTuple, vw_ref e]
theorem me_joinR {a : Addr} {xs : List D} {h : DH} {Q : DK} (e : h a = some (.lst xs)) {s : Str} : dJoin (.str s) [.ref a] h Q = (match strsOf xs with | some zs => (zs.map (·.length)).sum + zs.length * s.length ≤ 16777216 ∧ Q (.str (Txt.join s zs)) h | none => False) := by
  simp only [dJoin, vw_ref e] <;> rfl
theorem le_line {n m : Nat} (h : n ≤ m) (hm : m ≤ 16777216 := by decide) : n ≤ sizeLine := Nat.le_trans h hm
end

local macro_rules | `(tactic| walk_at "ev") => `(tactic| try simp (disch := (first | assumption | exact dupd_same | (refine (dupd_ne ?_).trans ?_; (first | assumption | (apply Ne.symm; assumption)); first | assumption | exact dupd_same | (refine (dupd_ne ?_).trans ?_; (first | assumption | (apply Ne.symm; assumption)); first | assumption | exact dupd_same)))) only [v0, v1, v2, v3, v4, v5, v6, v7, v8, v9, v10, v11, v12, v13, v14, v15, v16, w0, w1, w2, w3, w4, w5, w6, w7, w8, w9, w10, w11, w12, w13, w14, w15, w16, e_dC, e_dOp, e_dUn, e_dTest, e_dAnd, e_dOr, e_dNot, e_dAndV, e_dOrV, e_dNotV, e_dIfE, e_dChain, e_dNil, e_dCons, e_dTup, e_dLst, e_dLstM, e_dCB, e_dBM, e_dFrz, e_dNoPart, e_dPart, e_dSl, e_dIsi, e_iSeqD, e_iRange1, e_iRange2, e_iEnumD, e_iZipD, e_dNext, e_dSeq, e_dAsg, e_dAsgT, e_dPar, e_dIf, e_dRet, e_dRetN, e_dDrop, e_dBrk, e_dCnt, e_dAug, e_dSetI, e_dFor, e_dWhile, e_dYes, e_dLc, e_dLcM, e_dCall, e_dCallK, e_dNeg, e_dRaise, op_Lt, op_Le, op_Gt, op_Ge, op_IsN, op_IsNN, op_Sub, op_Add, op_AddS, op_AddT, op_AddL, op_Mul, op_MulT, op_MulL, op_Mod, op_Fdiv, op_InS, op_NotInS, cb_lenT, cb_lenL, cb_lenS, cb_lenX, cb_all, cb_any, cb_tupleL, cb_tupleT, cb_max, cb_min, cb_abs, cb_int, cb_intB, cb_strI, me_joinL, me_joinT, me_split, ip_add, ip_sub, ip_mul, ip_div, ix_ref0, ix_ref1, ix_ref2, me_append, me_popAt, me_pop0, me_insert, me_clear, me_reverse, cb_lenR, cb_tupleR, me_joinR, vw_ref, dT_ref, pow_18, pow_38, pow_40, pow_41, pow_6, eq_str, ne_str, eq_int, ne_int, ix_tup0, ix_lst0, sl_from, sl_to, sl_fromL, sl_toL, vw_str, vw_int, vw_bl, vw_non, vw_dct, vw_tup, vw_lst, vw_scr, ty_str, ty_int, ty_bl, ty_non, ty_tup, ty_lst, ty_dct, it_str, it_tup, it_lst, bT_nm, isN_non, isN_str, isN_int, isN_bl, isN_tup, isN_lst, isN_dct, dT_str, dT_lst, en_rt, en_nx, en_ex, t_imp, f_imp, not_true_eq_false, not_false_eq_true, tf_eq, ft_eq, dwipe, true_and, and_true, Bool.not_true, Bool.not_false, Bool.not_eq_true', Bool.not_eq_false', decide_eq_true_eq, decide_eq_false_iff_not, nq_NoneType, is_NoneType_int, is_NoneType_bool, is_NoneType_str, is_NoneType_tuple, is_NoneType_list, is_NoneType_dict, nq_bool, is_bool_int, is_bool_bool, is_bool_str, is_bool_tuple, is_bool_list, is_bool_dict, nq_int, is_int_int, is_int_bool, is_int_str, is_int_tuple, is_int_list, is_int_dict, nq_str, is_str_int, is_str_bool, is_str_str, is_str_tuple, is_str_list, is_str_dict, nq_tuple, is_tuple_int, is_tuple_bool, is_tuple_str, is_tuple_tuple, is_tuple_list, is_tuple_dict, nq_list, is_list_int, is_list_bool, is_list_str, is_list_tuple, is_list_list, is_list_dict, nq_dict, is_dict_int, is_dict_bool, is_dict_str, is_dict_tuple, is_dict_list, is_dict_dict])
end DL

/-! D13: the end of a law. -/
namespace DL
open PySem PySem.Spec L2 PyProof.Rows PySem.W

/-- no exception in a comprehension -/
abbrev W00 : WX := fun _ _ _ _ => False
section
variable {P : Program} {w : World} {K : PySem.W.Frag} {mg mb : Str → Option Value} {k : Nat} {fa a : Addr} {fd : FuncData} {x : Str} {sp : Sp} {s₁ : Shared} {vs : List Value} {ns : List Int}
/-- what is tracked at the start: the script, if the module does not hold it -/
def HScr (K : PySem.W.Frag) (a : Addr) (vs : List Value) (ns : List Int) : Hp := fun b => if b = a ∧ K.lookup a = none then some (.frz { cls := .type "list", data := .seq vs.toArray } (.lst (ns.map V.int))) else none
theorem hscr {b : Addr} {u : HO} (e : HScr K a vs ns b = some u) : b = a ∧ K.lookup a = none ∧ u = .frz { cls := .type "list", data := .seq vs.toArray } (.lst (ns.map V.int)) := by
  unfold HScr at e
  split at e
  · rename_i z
    cases e
    exact ⟨z.1, z.2, rfl⟩
  · cases e
/-- the law's promise where no guard is held, at the heap behind the top -/
theorem law_end (KX : K.In s₁.heap) (hns : s₁.heap.Ns mainGlobals mg) (hb : s₁.heap.Ns builtinsNs mb) (hbb : ∀ x : Str, x ≠ "__name__" → mb x = bootBuiltins x) (hlim : s₁.heap.NoLimit) (hg : s₁.gens = #[])
    (ha : s₁.heap.get? a = some { cls := .type "list", data := .seq vs.toArray }) (hi : IntsAre vs ns) (hl : ns.length ≤ sizeLine) (hr : Room k callerA)
    (F : ∀ base : Heap, K.In base → base.Ns mainGlobals mg → FnG P w K mg base k fa fd [x] sp) (hbind : ∀ (s : Shared) (u : Value), BindsTo s fd ⟨[u], []⟩ [(x, u)])
    (hsp : ∀ H : Hp, (∀ b u, H b = some u → b = a ∧ u = .frz { cls := .type "list", data := .seq vs.toArray } (.lst (ns.map V.int))) → SqL K H a (ns.map V.int) → sp [.ref a] H (fun v _ => v = .bl true) fun _ _ _ => False) :
    codeAny (model P w) callerA (.call (.ref fa) ⟨[.ref a], []⟩) (fun r s' => r = .ok (.ret (.bool true)) ∧ OldK s₁.heap s'.heap ∧ s'.os = s₁.os ∧ AllBare s'.gens) s₁ := by
  have rv := vals_ints hi
  have hH : ∀ {b : Addr} {u : HO}, HScr K a vs ns b = some u → b = a ∧ K.lookup a = none ∧ u = .frz { cls := .type "list", data := .seq vs.toArray } (.lst (ns.map V.int)) := hscr
  have other : ∀ {b : Addr}, b ≠ a → HScr K a vs ns b = none := fun {b} hb => if_neg fun z => hb z.1
  have hS : SqL K (HScr K a vs ns) a (ns.map V.int) := by
    cases hk : K.lookup a with
    | none => exact .inl (.inr ⟨{ cls := .type "list", data := .seq vs.toArray }, if_pos ⟨rfl, hk⟩⟩)
    | some o =>
      have e := KX a o hk
      rw [ha] at e
      cases e
      exact .inr ⟨_, vs.toArray, _, hk, rfl, rfl, rfl, by rw [List.size_toArray, hi.length]; exact hl, by simpa using rv⟩
  have hok : HOk P w (HScr K a vs ns) s₁.heap := fun b u e => by
    obtain ⟨rfl, _, rfl⟩ := hH e
    exact ⟨ha, by rw [List.length_map]; exact hl, vs, _, rv, ha⟩
  have away : ∀ {b : Addr} {o : Obj} {es : Array DictEntry} {ep : Nat}, s₁.heap.get? b = some o → o.data = .dict es ep → b ≠ a := fun {b o es ep} e d q => by
    subst q
    rw [ha] at e
    cases e
    cases (show Data.seq vs.toArray _ = Data.dict es ep from d)
  have nsB : ∀ {b : Addr} {m : Str → Option Value}, s₁.heap.Ns b m → (hidT s₁.heap (HScr K a vs ns)).Ns b m := fun {b m} ⟨o, es, ep, e, d, r⟩ => ⟨o, es, ep, hidT_get e (other (away e d)), d, r⟩
  have inB : K.In (hidT s₁.heap (HScr K a vs ns)) := fun b o e => hidT_get (KX b o e) (by
    cases q : HScr K a vs ns b with
    | none => rfl
    | some u =>
      obtain ⟨rfl, hk, _⟩ := hH q
      rw [hk] at e
      cases e)
  have e0 : Env0 P w K mg (hidT s₁.heap (HScr K a vs ns)) callerA [] s₁ (HScr K a vs ns) :=
    ⟨rfl, ⟨inB, nsB hns, ⟨mb, nsB hb, hbb⟩, let ⟨mc, h1, h2⟩ := hlim; ⟨mc, nsB h1, h2⟩⟩, fun b o e => of_hidT e, Nat.le_of_eq (hidT_size _ _), trivial, fun b hb => absurd (show b ∈ ([] : List Addr) from hb) (by simp), hok, .of_eq hg⟩
  refine codeAny_mono ((F _ inB (nsB hns)).run callerA [] s₁ (HScr K a vs ns) ⟨[.ref a], []⟩ [.ref a] [.ref a] _ _ hr rfl e0 (hbind s₁ (.ref a)) (.cons rfl .nil) (hsp _ (fun b u e => ⟨(hH e).1, (hH e).2.2⟩) hS)) fun r s' h => ?_
  match r, h with
  | .error e, h =>
    obtain ⟨_, _, _, _, _, _, _, _, _, _, _, _, z⟩ := h
    exact z.elim
  | .ok .next, h => exact False.elim h
  | .ok .brk, h => exact False.elim h
  | .ok .cont, h => exact False.elim h
  | .ok (.ret u), h =>
    obtain ⟨v, H', os, bare, un, hok', r', q⟩ := h
    cases (show v = .bl true from q)
    cases (show u = Value.bool true from r')
    refine ⟨rfl, OldK.of_keep fun b o e => ?_, os, bare⟩
    cases q : HScr K a vs ns b with
    | none => exact un.keep b o e q (by intro z; exact absurd (show b ∈ ([] : List Addr) from z) (by simp)) (by simp)
    | some u =>
      obtain ⟨rfl, _, rfl⟩ := hH q
      have z := hok' b _ (un.frzs b _ _ q)
      rw [ha] at e
      cases e
      exact z.1
/-- from the law's promise over data -/
theorem lift_law {sp : DSp} {H : Hp} {C : List Int → Prop} (hsp : ∀ (h : DH) (Q : DK) (X : DX), C ns → (∀ h', Q (.bl true) h') → sp [.scr ns] h Q X) (hc : C ns) (hS : SqL K H a (ns.map V.int)) :
    liftSp K sp [.ref a] H (fun v _ => v = .bl true) fun _ _ _ => False :=
  ⟨[.scr ns], fun _ => none, fun _ => False, fun d _ => d = .bl true, fun _ _ _ => False, ⟨_, _, rfl, ⟨_, rfl, hS.imp (fun z => ⟨fun e => e, z⟩) fun z => z⟩, rfl⟩, ⟨fun _ _ e => (by cases e), fun _ _ e => (by cases e)⟩, hsp _ _ _ hc (fun _ => rfl),
    fun d h' N' v H' e _ _ r => by subst e; exact r, fun _ _ _ _ _ _ z => z.elim⟩
theorem walkD {l : PySem.W.OpenLaw} {n k : Nat} {q : Program} {loose : List Str} {XP : (Str → Option Value) → Heap → Prop} {YP : World → Heap → Prop} {d : DefRec} {K : Params → PySem.W.Frag} {sp : DSp} {x : Str}
    (hn : l.most = some n) (hn2 : n ≤ sizeLine) (hdf : d.params.defaults = []) (hr : Room k callerA)
    (hY : ∀ (w : World) (h : Heap), YP w h → (K w.params).In h)
    (F : ∀ (w : World) (mg : Str → Option Value) (fa : Addr) (h : Heap), (K w.params).In h → h.Ns mainGlobals mg → mg d.name = some (.ref fa) →
      ∃ fd : FuncData, (∀ (s : Shared) (u : Value), BindsTo s fd ⟨[u], []⟩ [(x, u)]) ∧
        ∀ base : Heap, (K w.params).In base → base.Ns mainGlobals mg → FnG l.prog w (K w.params) mg base k fa fd [x] (liftSp (K w.params) sp))
    (hsp : ∀ (ns : List Int) (h : DH) (Q : DK) (X : DX), (ns.length ≤ n ∧ ∀ z ∈ ns, Builtin.Int.intBits z ≤ 1048576) → (∀ h', Q (.bl true) h') → sp [.scr ns] h Q X) :
    PySem.W.WalkO q loose XP YP l.row.toRowW d [] (fun f vs => PySem.call f vs) := by
  refine Att.attach_callB hn hdf fun w s₀ s₁ mg mb fa o pm cd doc a vs ns G Y ho hd hcd hmg hobj hints hlen hbits hg => ?_
  have KX := hY w _ Y
  obtain ⟨fd, hb, hF⟩ := F w mg fa _ KX G.T.g hmg
  exact law_end KX G.T.g G.T.b G.T.builtins G.T.nolimit hg hobj hints (Nat.le_trans hlen hn2) hr hF hb fun H _ hS => lift_law (C := fun ns => ns.length ≤ n ∧ ∀ z ∈ ns, Builtin.Int.intBits z ≤ 1048576) (hsp ns) ⟨hlen, hbits⟩ hS
end
end DL

/-! D14: own classes: attributes, methods, construction, properties. -/
namespace DL
open PySem PySem.Spec L2 PyProof.Rows

def putD (f : Str) (v : D) : List (Str × D) → List (Str × D)
  | [] => [(f, v)]
  | (g, x) :: r => if g = f then (g, v) :: r else (g, x) :: putD f v r
section
variable {K : PySem.W.Frag} {H : Hp} {N : NS}
theorem frep_nil {gs : List (Str × V)} (r : FRep K H N [] gs) : gs = [] := by
  have := r.1
  cases gs with
  | nil => rfl
  | cons g gs => cases this
theorem frep_cons {f : Str} {d : D} {fs : List (Str × D)} {gs : List (Str × V)} (r : FRep K H N ((f, d) :: fs) gs) : ∃ v gs', gs = (f, v) :: gs' ∧ Rep K H N d v ∧ FRep K H N fs gs' := by
  obtain ⟨e, r2⟩ := r
  cases gs with
  | nil => cases e
  | cons g gs =>
    obtain ⟨g, v⟩ := g
    simp only [List.map_cons, List.cons.injEq] at e
    obtain ⟨rfl, e⟩ := e
    obtain ⟨x, t, e3, r3, r4⟩ := r2
    simp only [List.map_cons, List.cons.injEq] at e3
    obtain ⟨rfl, rfl⟩ := e3
    exact ⟨_, gs, rfl, r3, e, r4⟩
theorem frep_of {f : Str} {d : D} {v : V} {fs : List (Str × D)} {gs : List (Str × V)} (r : Rep K H N d v) (rs : FRep K H N fs gs) : FRep K H N ((f, d) :: fs) ((f, v) :: gs) :=
  ⟨by simp only [List.map_cons, rs.1], .cons r rs.2⟩
theorem frep_look {f : Str} {d : D} : ∀ {fs : List (Str × D)} {gs : List (Str × V)}, FRep K H N fs gs → fs.lookup f = some d → ∃ v, gs.lookup f = some v ∧ Rep K H N d v
  | [], _, _, e => by cases e
  | (g, x) :: fs, gs, r, e => by
    obtain ⟨v, gs', rfl, r1, r2⟩ := frep_cons r
    rw [List.lookup_cons] at e ⊢
    split at e
    · cases e; exact ⟨v, rfl, r1⟩
    · exact frep_look r2 e
theorem frep_none {f : Str} : ∀ {fs : List (Str × D)} {gs : List (Str × V)}, FRep K H N fs gs → fs.lookup f = none → gs.lookup f = none
  | [], gs, r, _ => by rw [frep_nil r]; rfl
  | (g, x) :: fs, gs, r, e => by
    obtain ⟨v, gs', rfl, r1, r2⟩ := frep_cons r
    rw [List.lookup_cons] at e ⊢
    split at e
    · cases e
    · exact frep_none r2 e
theorem frep_put {f : Str} {d : D} {v : V} (rv : Rep K H N d v) : ∀ {fs : List (Str × D)} {gs : List (Str × V)}, FRep K H N fs gs → FRep K H N (putD f d fs) (putF f v gs)
  | [], gs, r => by rw [frep_nil r]; exact frep_of rv ⟨rfl, rfl⟩
  | (g, x) :: fs, gs, r => by
    obtain ⟨u, gs', rfl, r1, r2⟩ := frep_cons r
    unfold putD putF
    split
    · exact frep_of rv r2
    · exact frep_of r1 (frep_put rv r2)
theorem frep_len {fs : List (Str × D)} {gs : List (Str × V)} (r : FRep K H N fs gs) : gs.length = fs.length := by
  have := congrArg List.length r.1
  rw [List.length_map, List.length_map] at this
  exact this
theorem frep_ext {H' : Hp} {h h' : DH} {N' : NS} {fs : List (Str × D)} {gs : List (Str × V)} (un : ∀ a o, h a = some o → N a) (e : Ext H h N H' h' N') (r : FRep K H N fs gs) : FRep K H' N' fs gs := ⟨r.1, RepL.ext un e _ _ r.2⟩
end
/-! ### attributes -/
def dFld (C : Addr) (f : Str) (t : DE) : DE := fun τ h Q X => t τ h (fun x h1 => ∃ a fs d, x = .ref a ∧ h1 a = some (.ins C fs) ∧ fs.lookup f = some d ∧ Q d h1) X
/-- o.f = e -/
def dSetF (C : Addr) (f : Str) (te to : DE) : DS := fun D τ h => te τ h (fun v h1 => to τ h1 (fun o h2 => ∃ a fs, o = .ref a ∧ h2 a = some (.ins C fs) ∧ fs.length < 1000 ∧ D.nx τ (dupd h2 a (.ins C (putD f v fs)))) (fun C fs h2 => D.ex C fs τ h2)) (fun C fs h1 => D.ex C fs τ h1)
section
variable {X : Cx} {W : WX} {e o : Expr} {te to : DE} {f : Str} {pos pos' : Pos} {C : Addr}
theorem d_fld (c : Cls X.K C) (n : NoAttr X.K C f) (he : DEp X W e te) (hb : attributeBase e f X.env (eval e X.env) = eval e X.env := by rfl) : DEp X W (.Attribute e f pos) (dFld C f te) :=
  PE.imp (pe_fld he hb) fun σ H Q ⟨τ, h, N, Q0, X0, S, R, z, p, ex⟩ =>
    ⟨τ, h, N, _, X0, S, R, z, fun x h1 N1 v H1 q e R1 rx => by
      obtain ⟨a, fs, d, rfl, ea, l, q⟩ := q
      cases rep_ref rx
      obtain ⟨dx, gs, eH, fr⟩ := R1.at_ a _ ea
      obtain ⟨u, lu, ru⟩ := frep_look fr l
      exact ⟨a, C, dx, gs, u, rfl, eH, c, n, lu, p _ _ _ _ _ q e R1 ru⟩, ex⟩
theorem ins_mut {K : PySem.W.Frag} {H : Hp} {h : DH} {N : NS} {a : Addr} {fs fs' : List (Str × D)} {dx : Addr} {gs' : List (Str × V)} (R : HRep K H h N) (ha : h a = some (.ins C fs)) (rs : FRep K H N fs' gs') :
    HRep K (upd H a (.ins C dx gs')) (dupd h a (.ins C fs')) N ∧ Ext H h N (upd H a (.ins C dx gs')) (dupd h a (.ins C fs')) N := by
  have e : Ext H h N (upd H a (.ins C dx gs')) (dupd h a (.ins C fs')) N := fun b u q hn => by
    have hne : b ≠ a := fun z => by subst z; rw [ha] at hn; cases hn
    exact ⟨by rw [upd_ne hne]; exact q, by rw [dupd_ne hne]; exact hn, Iff.rfl⟩
  exact R.mut ha ⟨dx, gs', upd_same, frep_ext R.un e rs⟩
theorem ds_fld (c : Cls X.K C) (n : NoAttr X.K C f) (he : DEp X W e te) (ho : DEp X W o to) (hs : swapsWith e (some (.Attribute o f pos')) pos.line X.env = pure false := by rfl) : DSp' X W (.Assign [.Attribute o f pos'] e pos) (dSetF C f te to) :=
  PS.imp (ps_fld ho he hs) fun D σ H ⟨τ, h, N, D0, S, R, z, U⟩ =>
    ⟨τ, h, N, _, _, S, R, z, fun v h1 N1 y H1 q e1 R1 rv => ⟨τ, h1, N1, _, _, S.ext R.un e1, R1, q, fun o h2 N2 x H2 q2 e2 R2 rx => by
      obtain ⟨a, fs, rfl, ea, l, q2⟩ := q2
      cases rep_ref rx
      obtain ⟨dx, gs, eH, fr⟩ := R2.at_ a _ ea
      obtain ⟨R3, e3⟩ := ins_mut (dx := dx) R2 ea (frep_put (f := f) (Rep.ext R1.un e2 _ _ rv) fr)
      exact ⟨a, C, dx, gs, rfl, eH, c, n, by rw [frep_len fr]; exact l, U.nx _ _ _ _ _ q2 ((e1.trans e2).trans e3) (S.ext R.un ((e1.trans e2).trans e3)) R3⟩,
      (U.ext e1).exc (S.ext R.un e1) R1.un⟩, U.exc S R.un⟩
end
/-! ### methods -/
def dMeth (C : Addr) (m : Str) (sp : DSp) (to : DE) (t : DA) : DE := fun τ h Q X => to τ h (fun x h1 => ∃ a fs, x = .ref a ∧ h1 a = some (.ins C fs) ∧ fs.lookup m = none ∧ t τ h1 (fun ds h2 => sp (x :: ds) h2 Q X) X) X
def dMethK (C : Addr) (m : Str) (sp : DSp) (n : Nat) (perm : List Nat) (to : DE) (tk : DA) : DE := fun τ h Q X => to τ h (fun x h1 => ∃ a fs, x = .ref a ∧ h1 a = some (.ins C fs) ∧ fs.lookup m = none ∧ tk τ h1 (fun es h2 => es.length = n ∧ sp (pick perm (x :: es)) h2 Q X) X) X
/-- C(..) -/
def dMake (C : Addr) (sp : DSp) (t : DA) : DE := fun τ h Q X => t τ h (fun ds h1 => ∀ a, h1 a = none → sp (.ref a :: ds) (dupd h1 a (.ins C [])) (fun v h2 => v = .non ∧ Q (.ref a) h2) X) X
def dMakeK (C : Addr) (sp : DSp) (n : Nat) (perm : List Nat) (tk : DA) : DE := fun τ h Q X => tk τ h (fun es h1 => es.length = n ∧ ∀ a, h1 a = none → sp (pick perm (.ref a :: es)) (dupd h1 a (.ins C [])) (fun v h2 => v = .non ∧ Q (.ref a) h2) X) X
def dProp (C : Addr) (sp : DSp) (t : DE) : DE := fun τ h Q X => t τ h (fun x h1 => ∃ a fs, x = .ref a ∧ h1 a = some (.ins C fs) ∧ sp [x] h1 Q (fun _ _ _ => False)) X
section
variable {X : Cx} {W : WX} {k : Nat} {f C : Addr} {fd : FuncData} {ps : List Str} {sp : DSp} {x m : Str} {p pos apos kpos : Pos} {e o : Expr} {es : List Expr} {kws : List Keyword} {ta te to : DE} {t tk : DA} {n : Nat} {ks : List Str} {perm : List Nat} {pl : Sem Bool}
theorem lift_meth {K : PySem.W.Frag} {σ : L2.St} {H : Hp} {Q : VK} (z : liftE K W (dMeth C m sp to t) σ H Q) :
    liftE K W to σ H fun x H1 => ∃ a dx gs, x = .ref a ∧ H1 a = some (.ins C dx gs) ∧ gs.lookup m = none ∧ liftA K W t σ H1 fun vs H2 => liftSp K sp (x :: vs) H2 Q (WE W σ) := by
  obtain ⟨τ, h, N, Q0, X0, S, R, z, p, ex⟩ := z
  refine ⟨τ, h, N, _, X0, S, R, z, fun x h1 N1 v H1 q e R1 rx => ?_, ex⟩
  obtain ⟨a, fs, rfl, ea, l, q⟩ := q
  cases rep_ref rx
  obtain ⟨dx, gs, eH, fr⟩ := R1.at_ a _ ea
  exact ⟨a, dx, gs, rfl, eH, frep_none fr l, τ, h1, N1, _, X0, S.ext R.un e, R1, q, fun ds h2 N2 vs H2 q2 e2 R2 rs => ⟨.ref a :: ds, h2, N2, Q0, X0, .cons rfl rs, R2, q2, p.ext (e.trans e2), ex.ext (e.trans e2)⟩, ex.ext e⟩
theorem d_meth (c : Cls X.K C) (hm : Meth X.K C m f) (F : FnG X.prog X.w X.K X.mg X.base k f fd ps (liftSp X.K sp)) (hr : Room k X.A) (hgd : X.A.guards = some []) (hb : Binds X.K fd ps []) (tk : L2N.Takes X W) (ho : DEp X W o to) (ha : DAp X W (e :: es) t)
    (hst : starEach (e :: es) X.env = (false, eval e X.env) :: starEach es X.env := by rfl) (hpl : (backTo pos (starEach es X.env)).any (·.1) = false := by rfl)
    (ht : eval (.Call (.Attribute o m apos) (e :: es) [] pos) X.env = (do
      let v ← eval o X.env
      standAt apos.atName
      let (g, one) ← holding [v] (getMethod v m pl)
      callWith pos g one (backTo pos (starEach (e :: es) X.env)) (backToKw pos (keywordEach [] X.env))) := by rfl) : DEp X W (.Call (.Attribute o m apos) (e :: es) [] pos) (dMeth C m sp to t) := by
  refine ⟨fun pins s σ H Q I h => ?_⟩
  refine PySem.W.methodCall_KW (pl := pl) (thn (ho.run pins s σ H _ I (lift_meth h)) fun u s1 ⟨x, H1, I1, rx, a, dx, fs, ex, ea, l, q⟩ => ?_) ht
  cases ex
  cases (show u = Value.ref a from rx)
  refine getmeth_ok I1 ea c hm l (PySem.W.callWith_K (first := [.ref a]) (h₀ := X.base) I.ok.mod.kin hm.kp (thn (ha.run pos pins s1 σ H1 _ I1 q) fun us s2 ⟨vs, H2, I2, r, q2⟩ => ⟨I2.kIn, ?_⟩) hst hpl)
  exact run_GB (us := .ref a :: us) (vs := .ref a :: vs) F hr hgd hb tk I2 (.cons rfl r) q2
theorem d_meth0 (c : Cls X.K C) (hm : Meth X.K C m f) (F : FnG X.prog X.w X.K X.mg X.base k f fd ps (liftSp X.K sp)) (hr : Room k X.A) (hgd : X.A.guards = some []) (hb : Binds X.K fd ps []) (tk : L2N.Takes X W) (ho : DEp X W o to)
    (ht : eval (.Call (.Attribute o m apos) [] [] pos) X.env = (do
      let v ← eval o X.env
      standAt apos.atName
      let (g, one) ← holding [v] (getMethod v m pl)
      callWith pos g one (backTo pos (starEach [] X.env)) (backToKw pos (keywordEach [] X.env))) := by rfl) : DEp X W (.Call (.Attribute o m apos) [] [] pos) (dMeth C m sp to dNil) := by
  refine ⟨fun pins s σ H Q I h => ?_⟩
  refine PySem.W.methodCall_KW (pl := pl) (thn (ho.run pins s σ H _ I (lift_meth h)) fun u s1 ⟨x, H1, I1, rx, a, dx, fs, ex, ea, l, q⟩ => ?_) ht
  cases ex
  cases (show u = Value.ref a from rx)
  refine getmeth_ok I1 ea c hm l (PySem.W.callWith_K0 (first := [.ref a]) I1.kIn hm.kp (run_GB (us := [.ref a]) (vs := [.ref a]) F hr hgd hb tk I1 (.cons rfl .nil) ?_))
  obtain ⟨τ, h', N, Q0, X0, S, R, z, p, ex⟩ := q
  exact p [] h' N [] H1 z (Ext.refl _ _ _) R rfl
theorem lift_methK {K : PySem.W.Frag} {σ : L2.St} {H : Hp} {Q : VK} (z : liftE K W (dMethK C m sp n perm to tk) σ H Q) :
    liftE K W to σ H fun x H1 => ∃ a dx gs, x = .ref a ∧ H1 a = some (.ins C dx gs) ∧ gs.lookup m = none ∧ liftA K W tk σ H1 fun vs H2 => vs.length = n ∧ liftSp K sp (pick perm (x :: vs)) H2 Q (WE W σ) := by
  obtain ⟨τ, h, N, Q0, X0, S, R, z, p, ex⟩ := z
  refine ⟨τ, h, N, _, X0, S, R, z, fun x h1 N1 v H1 q e R1 rx => ?_, ex⟩
  obtain ⟨a, fs, rfl, ea, l, q⟩ := q
  cases rep_ref rx
  obtain ⟨dx, gs, eH, fr⟩ := R1.at_ a _ ea
  exact ⟨a, dx, gs, rfl, eH, frep_none fr l, τ, h1, N1, _, X0, S.ext R.un e, R1, q, fun ds h2 N2 vs H2 q2 e2 R2 rs =>
    ⟨rs.length.trans q2.1, _, h2, N2, Q0, X0, RepL.pick (ds := .ref a :: ds) (vs := .ref a :: vs) (.cons rfl rs) perm, R2, q2.2, p.ext (e.trans e2), ex.ext (e.trans e2)⟩, ex.ext e⟩
theorem d_methK (c : Cls X.K C) (hm : Meth X.K C m f) (F : FnG X.prog X.w X.K X.mg X.base k f fd ps (liftSp X.K sp)) (hr : Room k X.A) (hgd : X.A.guards = some []) (hb : Bd X.K fd ps 1 ks perm) (tk' : L2N.Takes X W) (ho : DEp X W o to) (hkw : DKp X W kws tk)
    (hall : (backToKw pos (keywordEach kws X.env)).all (·.1.isSome) = true := by rfl) (hks : (backToKw pos (keywordEach kws X.env)).filterMap (·.1) = ks := by rfl)
    (hpl : ((backTo pos (starEach [] X.env)).any (·.1) || (backToKw pos (keywordEach kws X.env)).any (·.1.isNone)) = false := by rfl)
    (ht : eval (.Call (.Attribute o m apos) [] kws pos) X.env = (do
      let v ← eval o X.env
      standAt apos.atName
      let (g, one) ← holding [v] (getMethod v m pl)
      callWith pos g one (backTo pos (starEach [] X.env)) (backToKw pos (keywordEach kws X.env))) := by rfl) : DEp X W (.Call (.Attribute o m apos) [] kws pos) (dMethK C m sp ks.length perm to tk) := by
  refine ⟨fun pins s σ H Q I h => ?_⟩
  refine PySem.W.methodCall_KW (pl := pl) (thn (ho.run pins s σ H _ I (lift_methK h)) fun u s1 ⟨x, H1, I1, rx, a, dx, fs, ex, ea, l, q⟩ => ?_) ht
  cases ex
  cases (show u = Value.ref a from rx)
  refine getmeth_ok I1 ea c hm l (PySem.W.callWith_KW0 (first := [.ref a]) (h₀ := X.base) I.ok.mod.kin hm.kp hall ?_ hpl)
  refine thn (hkw.run pos pins s1 σ H1 _ I1 q) fun ws s2 ⟨zs, H2, I2, rz, l2, q2⟩ => ⟨I2.kIn, ?_⟩
  rw [hks]
  exact run_G (us := [.ref a]) (vs := [.ref a]) F hr hgd hb tk' I2 (.cons rfl .nil) rz rfl l2 q2
/-! ### construction -/
theorem run_mkG {pins : List (Addr × Obj)} {σ : L2.St} {H : Hp} {s : Shared} {Q : VK} {us ws : List Value} {vs zs : List V} {spv : Sp} (M : Mk X.K C f) (F : FnG X.prog X.w X.K X.mg X.base k f fd ps spv) (hr : Room (k + 1) X.A) (hgd : X.A.guards = some []) (tk : L2N.Takes X W)
    {bs : List V} {cs : Addr → List Value} (hb : ∀ (s' : Shared) (q : Addr), X.K.In s'.heap → BindsTo s' fd ⟨.ref q :: us, ks.zip ws⟩ (ps.zip (cs q))) (I : Inv X pins σ H s) (r : ∀ q, Vals (pick perm (.ref q :: (vs ++ zs))) (cs q))
    (h : ∀ q dx, H q = none → H dx = none → dx ≠ q → spv (pick perm (.ref q :: (vs ++ zs))) (upd (upd H dx (.own q)) q (.ins C dx [])) (fun v H2 => v = .non ∧ Q (.ref q) H2) (WE W σ)) :
    wpAny (model X.prog X.w) X.A (call (.ref C) us (ks.zip ws)) (EP X pins σ Q) X.xe s := by
  have hq := h (s.heap.objs.size + 1) s.heap.objs.size (I.hok.fresh (Nat.le_succ _)) (I.hok.fresh (Nat.le_refl _)) (Nat.ne_of_lt (Nat.lt_succ_self _))
  have J := Inv.made (C := C) I
  refine wpAny_call (make_map (f := f) I.kIn M.makes M.init (beq_iff_eq.mp M.fn) (codeAny_mono (F.run _ X.stack _ _ ⟨Value.ref (s.heap.objs.size + 1) :: us, ks.zip ws⟩ (cs (s.heap.objs.size + 1)) _ _ (WE W σ) (hr.make C us (ks.zip ws)) hgd
    (J.env0.make C us (ks.zip ws)) (hb _ _ J.kIn) (r _) hq) fun y s' hy => ?_))
  match y, hy with
  | .error e, hy => exact L2N.passAt tk σ pins _ _ e s' J hy
  | .ok (.ret u), hy =>
    obtain ⟨v, H', I3, rv, ev, q3⟩ := J.after hy
    cases ev
    exact ⟨rv, ⟨V.ref (s.heap.objs.size + 1), H', I3, rfl, q3⟩⟩
  | .ok .next, hy => exact False.elim hy
  | .ok .brk, hy => exact False.elim hy
  | .ok .cont, hy => exact False.elim hy
theorem new_ins {K : PySem.W.Frag} {H : Hp} {h : DH} {N : NS} (R : HRep K H h N) {q dx : Addr} (nq : H q = none) (nd : H dx = none) (ne : dx ≠ q) : ∃ N', HRep K (upd (upd H dx (.own q)) q (.ins C dx [])) (dupd h q (.ins C [])) N' ∧ Ext H h N (upd (upd H dx (.own q)) q (.ins C dx [])) (dupd h q (.ins C [])) N' := by
  obtain ⟨R1, e1⟩ := R.newH (o := .own q) nd
  obtain ⟨R2, e2⟩ := HRep.newM (p := q) (o := .ins C dx []) (d := .ins C []) R1 (by rw [upd_ne (fun z => ne z.symm)]; exact nq) ⟨dx, [], upd_same, rfl, rfl⟩
  exact ⟨_, R2, e1.trans e2⟩
theorem lift_mk {K : PySem.W.Frag} {σ : L2.St} {H : Hp} {Q : VK} (z : liftE K W (dMake C sp t) σ H Q) :
    liftA K W t σ H fun vs H1 => ∀ q dx, H1 q = none → H1 dx = none → dx ≠ q → liftSp K sp (.ref q :: vs) (upd (upd H1 dx (.own q)) q (.ins C dx [])) (fun v H2 => v = .non ∧ Q (.ref q) H2) (WE W σ) := by
  obtain ⟨τ, h, N, Q0, X0, S, R, z, p, ex⟩ := z
  refine ⟨τ, h, N, _, X0, S, R, z, fun ds h1 N1 vs H1 q e R1 rs a dx na nd ne => ?_, ex⟩
  obtain ⟨N2, R2, e2⟩ := new_ins (C := C) R1 na nd ne
  exact ⟨.ref a :: ds, _, N2, _, X0, .cons rfl (RepL.ext R1.un e2 _ _ rs), R2, q a (R1.none na), fun d h3 N3 v H3 q3 e3 R3 r3 => by
    obtain ⟨rfl, q3⟩ := q3
    exact ⟨rep_non r3, p _ _ _ _ _ q3 ((e.trans e2).trans e3) R3 rfl⟩, ex.ext (e.trans e2)⟩
theorem d_make (M : Mk X.K C f) (F : FnG X.prog X.w X.K X.mg X.base k f fd ps (liftSp X.K sp)) (hr : Room (k + 1) X.A) (hgd : X.A.guards = some []) (hm : X.mg x = some (.ref C)) (hb : Binds X.K fd ps []) (tk : L2N.Takes X W)
    (ha : DAp X W (e :: es) t) (hg : Gl X x := by rfl) (hdb : (x == ("__debug__" : Str)) = false := by decide) (he : starEach (e :: es) X.env = (false, eval e X.env) :: starEach es X.env := by rfl) (hpl : (backTo pos (starEach es X.env)).any (·.1) = false := by rfl) :
    DEp X W (.Call (.Name x p) (e :: es) [] pos) (dMake C sp t) := by
  refine ⟨fun pins s σ H Q I h => ?_⟩
  refine wpAny_Call_Name_kw (ld_glob I hg hm ?_ hdb)
  refine PySem.W.callWith_K (h₀ := X.base) I.ok.mod.kin M.kp (thn (ha.run pos pins s σ H _ I (lift_mk h)) fun us s1 ⟨vs, H1, I1, r, q⟩ => ⟨I1.kIn, ?_⟩) he hpl
  have q' := q (s1.heap.objs.size + 1) s1.heap.objs.size (I1.hok.fresh (Nat.le_succ _)) (I1.hok.fresh (Nat.le_refl _)) (Nat.ne_of_lt (Nat.lt_succ_self _))
  have hl : us.length + 1 = ps.length := by
    rw [← F.len _ _ _ _ q', List.length_cons, r.length]
  have e0 : ∀ l : List V, pick (List.range (l.length)) l = l := fun l => by
    unfold pick
    induction l with
    | nil => rfl
    | cons a l ih =>
      rw [List.length_cons, List.range_succ_eq_map, List.filterMap_cons, List.filterMap_map]
      show a :: _ = _
      exact congrArg _ ih
  have key := run_mkG (Q := Q) (ks := []) (ws := []) (us := us) (vs := vs) (zs := []) (perm := List.range (vs.length + 1)) (cs := fun q => .ref q :: us) (bs := []) M F hr hgd tk (fun s' q' hk => by
    have b := hb s' (.ref q' :: us) hk (by rw [List.append_nil]; exact hl)
    rw [List.append_nil] at b
    exact b) I1 (fun q' => by
      have := e0 (.ref q' :: (vs ++ []))
      rw [List.append_nil] at this ⊢
      rw [List.length_cons] at this
      rw [this]
      exact .cons rfl r) (fun q' dx n1 n2 n3 => by
      have := e0 (.ref q' :: (vs ++ []))
      rw [List.append_nil] at this ⊢
      rw [List.length_cons] at this
      rw [this]
      exact q q' dx n1 n2 n3)
  exact key
theorem lift_mkK {K : PySem.W.Frag} {σ : L2.St} {H : Hp} {Q : VK} (z : liftE K W (dMakeK C sp n perm tk) σ H Q) :
    liftA K W tk σ H fun vs H1 => vs.length = n ∧ ∀ q dx, H1 q = none → H1 dx = none → dx ≠ q → liftSp K sp (pick perm (.ref q :: vs)) (upd (upd H1 dx (.own q)) q (.ins C dx [])) (fun v H2 => v = .non ∧ Q (.ref q) H2) (WE W σ) := by
  obtain ⟨τ, h, N, Q0, X0, S, R, z, p, ex⟩ := z
  refine ⟨τ, h, N, _, X0, S, R, z, fun ds h1 N1 vs H1 q e R1 rs => ⟨rs.length.trans q.1, fun a dx na nd ne => ?_⟩, ex⟩
  obtain ⟨N2, R2, e2⟩ := new_ins (C := C) R1 na nd ne
  exact ⟨_, _, N2, _, X0, RepL.pick (ds := .ref a :: ds) (vs := .ref a :: vs) (.cons rfl (RepL.ext R1.un e2 _ _ rs)) perm, R2, q.2 a (R1.none na), fun d h3 N3 v H3 q3 e3 R3 r3 => by
    obtain ⟨rfl, q3⟩ := q3
    exact ⟨rep_non r3, p _ _ _ _ _ q3 ((e.trans e2).trans e3) R3 rfl⟩, ex.ext (e.trans e2)⟩
theorem d_makeK (M : Mk X.K C f) (F : FnG X.prog X.w X.K X.mg X.base k f fd ps (liftSp X.K sp)) (hr : Room (k + 1) X.A) (hgd : X.A.guards = some []) (hm : X.mg x = some (.ref C)) (hb : Bd X.K fd ps 1 ks perm) (tk' : L2N.Takes X W)
    (hkw : DKp X W kws tk) (hg : Gl X x := by rfl) (hall : (backToKw pos (keywordEach kws X.env)).all (·.1.isSome) = true := by rfl) (hks : (backToKw pos (keywordEach kws X.env)).filterMap (·.1) = ks := by rfl) (hdb : (x == ("__debug__" : Str)) = false := by decide)
    (hpl : ((backTo pos (starEach [] X.env)).any (·.1) || (backToKw pos (keywordEach kws X.env)).any (·.1.isNone)) = false := by rfl) :
    DEp X W (.Call (.Name x p) [] kws pos) (dMakeK C sp ks.length perm tk) := by
  refine ⟨fun pins s σ H Q I h => ?_⟩
  refine wpAny_Call_Name_kw (ld_glob I hg hm ?_ hdb)
  refine PySem.W.callWith_KW0 (h₀ := X.base) I.ok.mod.kin M.kp hall ?_ hpl
  refine thn (hkw.run pos pins s σ H _ I (lift_mkK h)) fun ws s2 ⟨zs, H2, I2, rz, l2, q2⟩ => ⟨I2.kIn, ?_⟩
  rw [hks]
  exact run_mkG (Q := Q) (us := []) (vs := []) (zs := zs) (bs := []) (cs := fun q => pick perm (.ref q :: ws)) M F hr hgd tk' (fun s' q' hk => hb.to s' [.ref q'] ws hk rfl (rz.length.symm.trans l2)) I2 (fun q' => Vals.pick (vs := .ref q' :: zs) (us := .ref q' :: ws) (.cons rfl rz) perm) q2
/-! ### properties -/
theorem d_prop {g pa : Addr} {nm : Str} (c : Cls X.K C) (hp : PropOf X.K C nm pa g) (F : FnG X.prog X.w X.K X.mg X.base k g fd ps (liftSp X.K sp)) (hr : Room (k + 1) X.A) (hgd : X.A.guards = some []) (hb : Binds X.K fd ps []) (ho : DEp X W o to)
    (hab : attributeBase o nm X.env (eval o X.env) = eval o X.env := by rfl) : DEp X W (.Attribute o nm pos) (dProp C sp to) := by
  refine ⟨fun pins s σ H Q I h => ?_⟩
  obtain ⟨τ, h0, N, Q0, X0, S, R, z, p, ex⟩ := h
  have hl : liftE X.K W to σ H fun x H1 => ∃ a dx gs, x = .ref a ∧ H1 a = some (.ins C dx gs) ∧ liftSp X.K sp [.ref a] H1 Q (fun _ _ _ => False) := by
    refine ⟨τ, h0, N, _, X0, S, R, z, fun x h1 N1 v H1 q e R1 rx => ?_, ex⟩
    obtain ⟨a, fs, rfl, ea, q⟩ := q
    cases rep_ref rx
    obtain ⟨dx, gs, eH, fr⟩ := R1.at_ a _ ea
    exact ⟨a, dx, gs, rfl, eH, [.ref a], h1, N1, Q0, _, .cons rfl .nil, R1, q, p.ext e, fun _ _ _ _ _ _ z => z.elim⟩
  refine attr_of hab (thn (ho.run pins s σ H _ I hl) fun u s1 ⟨x, H1, I1, rx, a, dx, fs, ex, ea, q⟩ => ?_)
  cases ex
  cases (show u = Value.ref a from rx)
  obtain ⟨mA, O, _, _, _, _⟩ := ins_get I1.hok ea
  obtain ⟨od, J, _⟩ := O.look
  obtain ⟨rest, hrec⟩ := hp.rec_
  have J1 := I1.tok (s1.toks + 1)
  have hl : [Value.ref a].length = ps.length := (F.len _ _ _ _ q)
  have hc : (PySem.W.clsIn X.K C).isSome = true := by
    obtain ⟨cd, hc, _⟩ := PySem.W.any_some c.hd
    rw [hc]; rfl
  have b := hb { s1 with toks := s1.toks + 1 } [.ref a] J1.kIn (by rw [List.append_nil]; exact hl)
  rw [List.append_nil] at b
  refine PySem.W.get_bind I1.kIn J (PySem.W.plainGet_of (c.get nm)).1 (PySem.W.findObj_data hc hp.at_ hp.get hp.tak) (PySem.W.plainGet_of (c.get nm)).2 (wpAny_call (PySem.W.prop_get (s := { s1 with toks := s1.toks + 1 }) I1.kIn hrec ?_))
  refine codeAny_mono (F.run X.A.in1 X.stack { s1 with toks := s1.toks + 1 } H1 ⟨[.ref a], []⟩ [.ref a] [.ref a] Q (fun _ _ _ => False) hr.in1 hgd J1.env0.in1 b (.cons rfl .nil) q) fun r s' hq => ?_
  match r, hq with
  | .error er, hq =>
    obtain ⟨_, _, _, _, _, _, _, _, _, _, _, _, z⟩ := hq
    exact z.elim
  | .ok (.ret u), hq =>
    obtain ⟨v, H', I3, rv, q3⟩ := J1.after hq
    show wpAny _ _ (handedOut u) _ _ _
    rw [PySem.W.handedOut_of (handed_of rv)]
    exact wpAny_pure ⟨v, H', I3, rv, q3⟩
  | .ok .next, hq => exact False.elim hq
  | .ok .brk, hq => exact False.elim hq
  | .ok .cont, hq => exact False.elim hq
end
end DL

/-! D15: lists that hold tracked lists, seen deep: repr and ==. -/
namespace DL
open PySem PySem.Spec L2 PyProof.Rows

def dv : Nat → DH → D → D
  | n + 1, h, .ref a => match h a with
    | some (.lst ds) => .lst (ds.map (dv n h))
    | _ => .ref a
  | n + 1, h, .lst ds => .lst (ds.map (dv n h))
  | n + 1, h, .tup ds => .tup (ds.map (dv n h))
  | _, _, d => d
section
variable {K : PySem.W.Frag} {H : Hp} {h : DH} {N : NS}
theorem dv_dp (R : HRep K H h N) : ∀ (n m : Nat) (d : D) (v : V), Rep K H N d v → dn m (dv n h d) = true → Dp K H v (py (dv n h d)) := by
  intro n
  induction n with
  | zero =>
    intro m d v r hd
    have e : dv 0 h d = d := by unfold dv; rfl
    rw [e] at hd ⊢
    exact rep_dp m d v hd r
  | succ n ih =>
    have all : ∀ (m : Nat) (xs : List D) (vs : List V), (xs.map (dv n h)).all (dn m) = true → RepL K H N xs vs → DpAll K H vs (pyL (xs.map (dv n h))) := by
      intro m xs
      induction xs with
      | nil => intro vs _ r; cases (show vs = _ from r); exact .nil
      | cons x xs ih2 =>
        intro vs hd r
        rw [List.map_cons, List.all_cons, Bool.and_eq_true] at hd
        obtain ⟨v, t, rfl, r1, r2⟩ := r
        exact .cons (ih m x v r1 hd.1) (ih2 t hd.2 r2)
    intro m d v r hd
    cases d with
    | ref a =>
      cases (show v = _ from r)
      cases e : h a with
      | none =>
        rw [show dv (n + 1) h (.ref a) = .ref a by simp only [dv, e]] at hd
        cases m <;> cases hd
      | some o =>
        cases o with
        | ins C fs =>
          rw [show dv (n + 1) h (.ref a) = .ref a by simp only [dv, e]] at hd
          cases m <;> cases hd
        | exd fs =>
          rw [show dv (n + 1) h (.ref a) = .ref a by simp only [dv, e]] at hd
          cases m <;> cases hd
        | lst ds =>
          have ev : dv (n + 1) h (.ref a) = .lst (ds.map (dv n h)) := by simp only [dv, e]
          rw [ev] at hd ⊢
          obtain ⟨xs, q, rs⟩ := R.at_ a _ e
          cases m with
          | zero => cases hd
          | succ m => exact .lst (.of q) (all m ds xs hd rs)
    | tup ds =>
      have ev : dv (n + 1) h (.tup ds) = .tup (ds.map (dv n h)) := rfl
      rw [ev] at hd ⊢
      obtain ⟨a, vs, rfl, f, r⟩ := r
      cases m with
      | zero => cases hd
      | succ m => exact .tup f.sq (all m ds vs hd r)
    | lst ds =>
      have ev : dv (n + 1) h (.lst ds) = .lst (ds.map (dv n h)) := rfl
      rw [ev] at hd ⊢
      obtain ⟨a, vs, rfl, f, r⟩ := r
      cases m with
      | zero => cases hd
      | succ m => exact .lst (.inl f.2) (all m ds vs hd r)
    | _ => exact rep_dp m _ _ hd r
theorem dv_lst (R : HRep K H h N) {n : Nat} {x : D} {v : V} {xs : List D} (r : Rep K H N x v) (e : dv n h x = .lst xs) : ∃ a, v = .ref a := by
  cases x with
  | ref a => exact ⟨a, r⟩
  | lst ds => obtain ⟨a, vs, rfl, _⟩ := r; exact ⟨a, rfl⟩
  | tup ds => obtain ⟨a, vs, rfl, _⟩ := r; exact ⟨a, rfl⟩
  | _ => cases n <;> cases e
end
/-- repr, seen deep -/
def dReprV (vs : List D) (h : DH) (Q : DK) : Prop := match vs with
  | [x] => rn 12 (dv 3 h x) = true ∧ wt (dv 3 h x) ≤ 16000000 ∧ Q (.str (shownD (dv 3 h x))) h
  | _ => False
/-- == of lists that hold lists -/
def dEqV (x y : D) (h : DH) (Q : DK) : Prop := dn 12 (dv 3 h x) = true ∧ dn 12 (dv 3 h y) = true ∧ Q (.bl (eqvD (dv 3 h x) (dv 3 h y))) h
def dNeV (x y : D) (h : DH) (Q : DK) : Prop := dn 12 (dv 3 h x) = true ∧ dn 12 (dv 3 h y) = true ∧ Q (.bl (!eqvD (dv 3 h x) (dv 3 h y))) h
section
variable {X : Cx}
theorem cd_reprV (hg : X.A.guards = some []) (hu : X.A.units + 64 < cLine) : CallD X (.builtin "repr") dReprV := by
  intro pins s σ H vs us Q I rv ⟨xs, h, N, Q0, rx, R, q, p⟩
  unfold dReprV at q
  split at q
  · rename_i x
    obtain ⟨v, rfl, r1⟩ := repl1 rfl rx
    obtain ⟨hr, hw, q⟩ := q
    have hd := rn_dn _ _ hr
    have hz : (sizeLine : Nat) = 16777216 := sizeLine_eq
    obtain ⟨s1, s2, s3⟩ := rn_show _ _ hr
    have dp := dv_dp R 3 12 x v r1 hd
    obtain ⟨u, rfl, ru⟩ : ∃ u, us = [u] ∧ RelV v u := by
      cases rv with
      | cons a b => cases b; exact ⟨_, rfl, a⟩
    obtain ⟨as, rd⟩ := Dp.reads I _ v u dp ru
    have hnd := PyData.hasDict_of_canLay _ (dn_lay _ _ hd).1
    have fin : ∀ (h' : Heap) (t : Tok) (tk : Nat), (∀ b o, s.heap.get? b = some o → h'.get? b = some o) → EP X pins σ Q (.str (shownD (dv 3 h x)) t) { s with heap := h', toks := tk } := fun h' t tk k =>
      ⟨.str (shownD (dv 3 h x)), H, I.kept k, ⟨t, rfl⟩, post_at p R q rfl⟩
    have obj : ∀ a : Addr, v = .ref a → wpAny (model X.prog X.w) X.A (call (.builtin "repr") [u]) (EP X pins σ Q) X.xe s := fun a ev => by
      subst ev
      cases ru
      refine repr_of_reads' rd s1 (fun e => by rw [hnd] at e; cases e) hg (by omega) (fun _ _ e => e) (fun h' t tk k => fin h' t tk k) ?_
      have e : (PyData.shown (py (dv 3 h x))).length ≤ wt (dv 3 h x) := s2
      omega
    cases x with
    | non => cases rep_non r1; cases ru; exact PySem.P.repr_of_none (fin s.heap _ _ fun _ _ e => e)
    | bl b => cases rep_bl r1; cases ru; exact PySem.P.repr_of_bool (fin s.heap _ _ fun _ _ e => e)
    | int i =>
      cases rep_int r1
      obtain ⟨t, rfl⟩ := ru
      exact PySem.P.repr_of_int (of_decide_eq_true hr) (fin s.heap _ _ fun _ _ e => e)
    | str z =>
      cases rep_str r1
      obtain ⟨t, rfl⟩ := ru
      have : (reprText z).length ≤ sizeLine := by
        have e : (reprText z).length ≤ wt (.str z) := s2
        have hw' : wt (.str z) ≤ 16000000 := hw
        omega
      exact PySem.P.repr_of_str (fin s.heap _ _ fun _ _ e => e) this
    | tup zs => obtain ⟨a, ws, ev, _⟩ := r1; exact obj a ev
    | lst zs => obtain ⟨a, ws, ev, _⟩ := r1; exact obj a ev
    | ref a => exact obj a r1
    | dct => exact absurd (show false = true from hr) Bool.false_ne_true
    | scr _ => exact absurd (show false = true from hr) Bool.false_ne_true
  · exact q.elim
theorem od_eqV (hu : X.A.units + 64 < cLine) : OpD X (compareOp .Eq) dEqV := by
  intro pins s σ H v u vv uu Q I rv ru ⟨x, y, h, N, Q0, rx, ry, R, ⟨hx, hy, q⟩, p⟩
  exact op_eqD hu pins s σ H v u vv uu Q I rv ru ⟨_, _, dv_dp R 3 12 x v rx hx, dv_dp R 3 12 y u ry hy, dn_shaped hx (by decide), dn_shaped hy (by decide), post_at p R q rfl⟩
theorem od_neV (hu : X.A.units + 64 < cLine) : OpD X (compareOp .NotEq) dNeV := by
  intro pins s σ H v u vv uu Q I rv ru ⟨x, y, h, N, Q0, rx, ry, R, ⟨hx, hy, q⟩, p⟩
  exact op_neD hu pins s σ H v u vv uu Q I rv ru ⟨_, _, dv_dp R 3 12 x v rx hx, dv_dp R 3 12 y u ry hy, dn_shaped hx (by decide), dn_shaped hy (by decide), post_at p R q rfl⟩
end
end DL

/-! D16: len of an own object. -/
namespace DL
open PySem PySem.Spec L2 PyProof.Rows PySem.Calls

def dLenO (C : Addr) (sp : DSp) (vs : List D) (h : DH) (Q : DK) : Prop := ∃ a fs, vs = [.ref a] ∧ h a = some (.ins C fs) ∧ sp [.ref a] h (fun d h' => ∃ n : Nat, d = .int (n : Nat) ∧ n ≤ 1000000000 ∧ Q (.int (n : Nat)) h') (fun _ _ _ => False)
section
variable {X : Cx} {k : Nat} {f C : Addr} {fd : FuncData} {ps : List Str} {sp : DSp}
theorem cd_lenO (hs : PySem.W.findIn X.K (.ref C) "__len__" = some (some (.ref f))) (hf : PySem.W.isFn X.K (.ref f) = true) (F : FnG X.prog X.w X.K X.mg X.base k f fd ps (liftSp X.K sp)) (hr : Room (k + 1) X.A) (hgd : X.A.guards = some []) (hb : Binds X.K fd ps []) :
    CallD X (.builtin "len") (dLenO C sp) := by
  intro pins s σ H vs us Q I rv ⟨xs, h, N, Q0, rx, R, q, p⟩
  obtain ⟨a, fs, rfl, ea, q⟩ := q
  obtain ⟨v, rfl, r1⟩ := repl1 rfl rx
  cases rep_ref r1
  obtain ⟨u, rfl, ru⟩ : ∃ u, us = [u] ∧ RelV (V.ref a) u := by
    cases rv with
    | cons a b => cases b; exact ⟨_, rfl, a⟩
  cases (show u = Value.ref a from ru)
  obtain ⟨dx, gs, eH, fr⟩ := R.at_ a _ ea
  obtain ⟨mA, O, _, _, _, _⟩ := ins_get I.hok eH
  obtain ⟨od, J, _⟩ := O.look
  have q' : liftSp X.K sp [.ref a] H (fun v H' => ∃ n : Nat, v = .int (n : Nat) ∧ n ≤ 1000000000 ∧ Q (.int (n : Nat)) H') (fun _ _ _ => False) :=
    ⟨[.ref a], h, N, _, _, .cons rfl .nil, R, q, fun d h' N' v H' q e R' r => by
      obtain ⟨n, rfl, hn, q⟩ := q
      exact ⟨n, rep_int r, hn, p _ _ _ _ _ q e R' rfl⟩, fun _ _ _ _ _ _ z => z.elim⟩
  have hl : [Value.ref a].length = ps.length := F.len _ _ _ _ q'
  have b := hb s [.ref a] I.kIn (by rw [List.append_nil]; exact hl)
  rw [List.append_nil] at b
  refine call_function_entry kind_len plain_len entry_len (args_len1 _) ?_
  unfold Builtin.«len»
  refine wpAny_bind (m := oneArg "len" _) (wpAny_pure ?_)
  refine wpAny_bind (m := callSpecial? (.ref a) (Str.ofString "__len__")) (PySem.W.special_fn I.kIn J hs (beq_iff_eq.mp hf) (wpAny_call ?_))
  refine codeAny_mono (F.run _ X.stack s H ⟨[.ref a], []⟩ [.ref a] [.ref a] _ (fun _ _ _ => False) hr.in1 hgd I.env0.in1 b (.cons rfl .nil) q') fun y s' hy => ?_
  match y, hy with
  | .error er, hy =>
    obtain ⟨_, _, _, _, _, _, _, _, _, _, _, _, z⟩ := hy
    exact z.elim
  | .ok .next, hy => exact False.elim hy
  | .ok .brk, hy => exact False.elim hy
  | .ok .cont, hy => exact False.elim hy
  | .ok (.ret u), hy =>
    obtain ⟨v, H', I3, rv, n, rfl, hn, q3⟩ := I.after hy
    obtain ⟨t, rfl⟩ := rv
    refine wpAny_bind (wpAny_holding (wpAny_pure ?_))
    refine wpAny_bind (wpAny_letGo ?_)
    show wpAny _ _ (if ((n : Nat) : Int) < 0 then _ else _) _ _ _
    rw [if_neg (by omega)]
    show wpAny _ _ (if ((n : Nat) : Int) ≥ 2 ^ 63 then _ else _) _ _ _
    rw [if_neg (by omega)]
    refine wpAny_bind (wpAny_mkInt (wpAny_pure ?_))
    exact ⟨_, rfl, V.int (n : Nat), H', I3.tok _, ⟨_, rfl⟩, q3⟩
end
end DL

/-! D17: starred displays; three names at once. -/
namespace DL
open PySem PySem.Spec L2 PyProof.Rows

def dStar (t : DE) (r : DA) : DA := fun τ h Q X => t τ h (fun x h1 => ∃ xs, (view h1 x = .tup xs ∨ view h1 x = .lst xs) ∧ r τ h1 (fun ys h2 => Q (xs ++ ys) h2) X) X
def dPar3 (i j l : Nat) (ta tb tc : DE) : DS := fun D τ h => ta τ h (fun x h1 => tb τ h1 (fun y h2 => tc τ h2 (fun z h3 => D.nx (((τ.set i (some x)).set j (some y)).set l (some z)) h3) (fun C fs h2 => D.ex C fs τ h2)) (fun C fs h2 => D.ex C fs τ h2)) (fun C fs h1 => D.ex C fs τ h1)
section
variable {X : Cx} {W : WX} {e : Expr} {es : List Expr} {te : DE} {t : DA} {p pos : Pos}
theorem view_seq {K : PySem.W.Frag} {H : Hp} {h : DH} {N : NS} (R : HRep K H h N) {x : D} {v : V} (r : Rep K H N x v) {xs : List D} (e : view h x = .tup xs ∨ view h x = .lst xs) : ∃ a vs, v = .ref a ∧ (SqT K H a vs ∨ SqL K H a vs) ∧ RepL K H N xs vs := by
  rcases e with e | e
  · cases view_other e (fun _ z => nomatch z) (fun _ z => nomatch z)
    obtain ⟨a, vs, rfl, f, rs⟩ := r
    exact ⟨a, vs, rfl, .inl f.sq, rs⟩
  · obtain ⟨a, vs, rfl, f, rs⟩ := view_lst R r e
    exact ⟨a, vs, rfl, .inr (.inl f), rs⟩
theorem d_star (he : DEp X W e te) (hr : DAp X W es t) (hs : starEach (.Starred e p :: es) X.env = (true, eval e X.env) :: starEach es X.env := by rfl) : DAp X W (.Starred e p :: es) (dStar te t) :=
  PA.imp (StX.pa_star he hr hs) fun σ H Q ⟨τ, h, N, Q0, X0, S, R, z, p, ex⟩ =>
    ⟨τ, h, N, _, X0, S, R, z, fun x h1 N1 v H1 q e R1 rx => by
      obtain ⟨xs, ev, q⟩ := q
      obtain ⟨a, vs, rfl, sq, rs⟩ := view_seq R1 rx ev
      exact ⟨a, vs, rfl, sq, τ, h1, N1, _, X0, S.ext R.un e, R1, q, fun ys h2 N2 ws H2 q2 e2 R2 r2 => p (xs ++ ys) h2 N2 (vs ++ ws) H2 q2 (e.trans e2) R2 ((RepL.ext R1.un e2 _ _ rs).append r2), ex.ext e⟩, ex⟩
theorem ds_par3 {i j l : Nat} {x y z : Str} {a b c : Expr} {ta tb tc : DE} {px py pz pt : Pos} {kt k2 pt2} (hc : X.calm = true) (hN : X.N.Nodup) (ha : DEp X W a ta) (hb : DEp X W b tb) (hd : DEp X W c tc) (hi : X.N[i]? = some x := by rfl) (hj : X.N[j]? = some y := by rfl) (hl : X.N[l]? = some z := by rfl)
    (hij : i ≠ j := by decide) (hil : i ≠ l := by decide) (hjl : j ≠ l := by decide)
    (hx : X.env.scope.names.lookup x = some .local := by rfl) (hy : X.env.scope.names.lookup y = some .local := by rfl) (hz : X.env.scope.names.lookup z = some .local := by rfl)
    (hs1 : starEach [a, b, c] X.env = (false, eval a X.env) :: starEach [b, c] X.env := by rfl) (hs2 : starEach [b, c] X.env = (false, eval b X.env) :: starEach [c] X.env := by rfl) (hs3 : starEach [c] X.env = (false, eval c X.env) :: starEach [] X.env := by rfl)
    (hw : swappedStores [.Tuple [.Name x px, .Name y py, .Name z pz] kt pt] (.Tuple [a, b, c] k2 pt2) X.env = pure (some [x, y, z]) := by rfl)
    (hs : swapsWithSole [.Tuple [.Name x px, .Name y py, .Name z pz] kt pt] (.Tuple [a, b, c] k2 pt2) pos.line X.env = pure false := by rfl) :
    DSp' X W (.Assign [.Tuple [.Name x px, .Name y py, .Name z pz] kt pt] (.Tuple [a, b, c] k2 pt2) pos) (dPar3 i j l ta tb tc) :=
  PS.imp (ps_par3 hc hN hi hj hl hij hil hjl hx hy hz (pa_cons ha (pa_cons hb (pa_cons hd pa_nil hs3) hs2) hs1) hw hs) fun D σ H ⟨τ, h, N, D0, S, R, z, U⟩ =>
    ⟨τ, h, N, _, _, S, R, z, fun d h1 N1 v H1 q e R1 r => ⟨τ, h1, N1, _, _, S.ext R.un e, R1, q, fun d2 h2 N2 v2 H2 q2 e2 R2 r2 => ⟨τ, h2, N2, _, _, S.ext R.un (e.trans e2), R2, q2, fun d3 h3 N3 v3 H3 q3 e3 R3 r3 =>
      ⟨v, v2, v3, rfl, U.nx _ _ _ _ _ q3 ((e.trans e2).trans e3) ((((S.ext R.un ((e.trans e2).trans e3)).set (Rep.ext R1.un (e2.trans e3) _ _ r)).set (Rep.ext R2.un e3 _ _ r2)).set r3) R3⟩,
        (U.ext (e.trans e2)).exc (S.ext R.un (e.trans e2)) R2.un⟩, (U.ext e).exc (S.ext R.un e) R1.un⟩, U.exc S R.un⟩
end
section
variable {τ : DSt} {h : DH} {Q : List D → DH → Prop} {X : DX} {DD : DEnds} {i j l : Nat} {ta tb tc te : DE} {t : DA}
theorem e_dStar : dStar te t τ h Q X = te τ h (fun x h1 => ∃ xs, (view h1 x = .tup xs ∨ view h1 x = .lst xs) ∧ t τ h1 (fun ys h2 => Q (xs ++ ys) h2) X) X := rfl
theorem e_dPar3 : dPar3 i j l ta tb tc DD τ h = ta τ h (fun x h1 => tb τ h1 (fun y h2 => tc τ h2 (fun z h3 => DD.nx (((τ.set i (some x)).set j (some y)).set l (some z)) h3) (fun C fs h2 => DD.ex C fs τ h2)) (fun C fs h2 => DD.ex C fs τ h2)) (fun C fs h1 => DD.ex C fs τ h1) := rfl
end
end DL

/-! D18: exceptions that are raised and caught. -/
namespace DL
open PySem PySem.Spec L2 PyProof.Rows

section
variable {K : PySem.W.Frag} {H : Hp} {N : NS} {τ : DSt} {σ : L2.St}
theorem SRep.setN (r : SRep K H N τ σ) (i : Nat) : SRep K H N (τ.set i none) (σ.set i none) := ⟨by rw [List.length_set, List.length_set]; exact r.len, fun j d q => by
  by_cases hj : i = j
  · subst hj
    by_cases hi : i < τ.length
    · rw [List.getElem?_set_self hi] at q; cases q
    · rw [List.getElem?_eq_none_iff.mpr (by rw [List.length_set]; omega)] at q; cases q
  · rw [List.getElem?_set_ne hj] at q
    obtain ⟨v, e, rv⟩ := r.get j d q
    exact ⟨v, by rw [List.getElem?_set_ne hj]; exact e, rv⟩⟩
end
/-- what a class says of another in an except clause -/
abbrev MX := Addr → Option Bool
/-- try: .., except H: .. -/
def dTryO (m : MX) (tb ts : DS) : DS := fun D τ h => tb { D with ex := fun C fs τ' h' => fs = [] ∧ ∃ b, m C = some b ∧ (b = true → ts { D with ex := fun _ _ _ _ => False } τ' h') ∧ (b = false → D.ex C fs τ' h') } τ h
/-- try: .., except H as e: .. -/
def dTryA (m : MX) (i : Nat) (tb : DS) (ts : Addr → Addr → DS) : DS := fun D τ h => tb { D with ex := fun C fs τ' h' => fs = [] ∧ ∃ b, m C = some b ∧
  (b = true → ∀ a, h' a = none → ts a C { nx := fun τ2 h2 => D.nx (τ2.set i none) h2, rt := D.rt, bk := fun τ2 h2 => D.bk (τ2.set i none) h2, ct := fun τ2 h2 => D.ct (τ2.set i none) h2 } (τ'.set i (some (.ref a))) h') ∧ (b = false → D.ex C fs τ' h') } τ h
/-- what the class H says in a written part -/
def mxOf (K : PySem.W.Frag) (Hc : Addr) : MX := fun C => PySem.W.exmOne K (.ref C) (.ref Hc)
def tsV (K : PySem.W.Frag) (ts : Addr → Addr → DS) : Addr → Value → Option Addr → TS := fun a cls d => match cls, d with
  | .ref C, none => liftS K (fun _ _ _ _ => False) (ts a C)
  | _, _ => fun _ _ _ => False
theorem tsV_no {K : PySem.W.Frag} {ts : Addr → Addr → DS} {X : Cx} {st : List Stmt} {a : Addr} {cls : Value} {d : Option Addr} (h : ∀ C, cls = .ref C → d = none → PSs X st (liftS K (fun _ _ _ _ => False) (ts a C))) : PSs X st (tsV K ts a cls d) := by
  unfold tsV
  split
  · exact h _ rfl rfl
  · exact PSs.imp pss_never fun _ _ _ z => z
theorem pxrep {K : PySem.W.Frag} {H : Hp} {N : NS} {d : Option Addr} (r : XRep K H N [] d) : d = none := by
  cases d with
  | none => rfl
  | some dx => exact absurd rfl r.1
abbrev HdT := Addr → Value → Option Addr → TS
/-- the ends behind a suite whose name is gone -/
def endsN (D : Ends) (i : Nat) : Ends where
  nx := fun σ H => D.nx (σ.set i none) H
  rt := D.rt
  bk := fun σ H => D.bk (σ.set i none) H
  ct := fun σ H => D.ct (σ.set i none) H
/-- what the clauses wish, in turn -/
def wHds (K : PySem.W.Frag) (out : WX) (D : Ends) : List (Value × Option Nat × HdT) → WX
  | [] => out
  | (c, none, ts) :: r => fun cls d σ H => ∃ b, PySem.W.exmOne K cls c = some b ∧ (b = true → ∀ a, H a = none → ts a cls d D σ H) ∧ (b = false → wHds K out D r cls d σ H)
  | (c, some i, ts) :: r => fun cls d σ H => ∃ b, PySem.W.exmOne K cls c = some b ∧ (b = true → ∀ a, H a = none → ts a cls d (endsN D i) (σ.set i (some (.ref a))) H) ∧ (b = false → wHds K out D r cls d σ H)
inductive HdsA (X : Cx) : List ExceptHandler → List (Value × Option Nat × HdT) → Prop
  | nil : HdsA X [] []
  | plain {x : Str} {c : Value} {ts : HdT} {b₀ : Stmt} {su : List Stmt} {np q : Pos} {more : List ExceptHandler} {l : List (Value × Option Nat × HdT)} (nm : Names X x c)
      (suite : ∀ (a : Addr) (oe : Obj) (cls : Value) (d : Option Addr) (pn : List (Addr × Obj)), L2N.Zn cls d oe → (∃ vs, oe.data = .fields vs) → PSs (X.suite a ((a, oe) :: pn)) (b₀ :: su) (ts a cls d)) (rest : HdsA X more l) :
      HdsA X (.ExceptHandler (some (.Name x np)) none (b₀ :: su) q :: more) ((c, none, ts) :: l)
  | named {x n : Str} {i : Nat} {c : Value} {ts : HdT} {b₀ : Stmt} {su : List Stmt} {np q : Pos} {more : List ExceptHandler} {l : List (Value × Option Nat × HdT)} (nd : X.N.Nodup) (at_ : X.N[i]? = some n) (loc : X.env.kindOf n = some .local) (nm : Names X x c)
      (suite : ∀ (a : Addr) (oe : Obj) (cls : Value) (d : Option Addr) (pn : List (Addr × Obj)), L2N.Zn cls d oe → (∃ vs, oe.data = .fields vs) → PSs (X.suite a ((a, oe) :: pn)) (b₀ :: su) (ts a cls d)) (rest : HdsA X more l) :
      HdsA X (.ExceptHandler (some (.Name x np)) (some n) (b₀ :: su) q :: more) ((c, some i, ts) :: l)
section
variable {X : Cx} {body : List Stmt} {c₁ : ExceptHandler} {cs : List ExceptHandler} {l : List (Value × Option Nat × HdT)} {pos : Pos} {tb : WX → TS} {out : WX}
theorem ps_try_hds (top : X.stack = X.env :: X.outer) (own : X.env.frame = some X.env.locals) (tk : L2N.Takes X out)
    (hb : ∀ (W : WX) (pn : List (Addr × Obj)) (xe : Value → Shared → Prop), L2N.Takes (X.tr pn xe) W → PassesOwn (model X.prog X.w) X.A X.env xe → PSs (X.tr pn xe) body (tb W))
    (hh : HdsA X (c₁ :: cs) l) : PS X (.Try body (c₁ :: cs) [] [] pos) (fun D σ H => tb (wHds X.K out D l) D σ H) := by
  refine ⟨fun pins s σ H D I wish => ?_⟩
  have good := I.ok
  have frames : X.A.frames = some (X.env :: X.outer) := by rw [good.frames, top]
  refine wpAny_Try_except ?_
  have run := (hb (wHds X.K out D l) (X.pn ++ pins) (fun e t₁ => wpAny (model X.prog X.w) X.A (noteFrame e X.env) (fun _ t₂ => wpAny (model X.prog X.w) X.A (setFlight e none) (fun _ t₃ => wpAny (model X.prog X.w) X.A (handleBy e X.env (c₁ :: cs)) (SP X pins D) X.xe t₃) X.xe t₂) X.xe t₁) (fun u s' caught => ?_) PassesOwn.looking).run [] s σ H D (I.toTry _) wish
  · refine wpAny_mono run (fun f s1 over => ?_) (fun _ _ z => z)
    cases f with
    | next => obtain ⟨σ1, H1, J, q⟩ := over; exact wpAny_execs_nil ⟨σ1, H1, J.ofTry good, q⟩
    | brk => obtain ⟨σ1, H1, J, q⟩ := over; exact ⟨σ1, H1, J.ofTry good, q⟩
    | cont => obtain ⟨σ1, H1, J, q⟩ := over; exact ⟨σ1, H1, J.ofTry good, q⟩
    | ret u => obtain ⟨v, σ1, H1, J, r, q⟩ := over; exact ⟨v, σ1, H1, J.ofTry good, r, q⟩
  · obtain ⟨a, B, sI, pins', σ', H', cls, d, rfl, J0, nb, up, sky, na, os, ag, w⟩ := caught
    have J : Inv X pins σ' H' sI := J0.ofTry good
    show wpAny (model X.prog X.w) X.A (noteFrame (.ref a) X.env) _ _ _
    refine L2N.Sky.land (B := B) L2N.Zn.steady frames own (by rw [← top]; exact sky) fun g fl upg => ?_
    have JG : Inv X pins σ' H' { s' with heap := g } := J.landed nb fl.1 (up.trans upg) os ag
    obtain ⟨og, vg, eg, zg, dg⟩ := fl.there
    have off : a ∉ frs (X.env :: X.outer) := fun m => by
      obtain ⟨_, o', e', no⟩ := fl.2.2.1.mem m
      rw [eg] at e'; cases e'
      exact no _ dg
    have nL : a ≠ X.env.locals := fun z => off (List.mem_filterMap.mpr ⟨X.env, by simp, by rw [own, z]⟩)
    have nF : a ∉ X.fs := fun m => by
      obtain ⟨e, he, q⟩ := List.mem_filterMap.mp m
      exact off (List.mem_filterMap.mpr ⟨e, by simp [he], q⟩)
    have SG := JG.suite eg dg na nL nF
    have look : PySem.W.Looks (model X.prog X.w) g (typeOf (.ref a)) cls := fun _ _ _ _ k q => wpAny_typeOf_ref (k _ _ eg) (by rw [zg.1]; exact q)
    have asks : ∀ {x : Str} {c : Value} {np : Pos} {Q E : Value → Shared → Prop}, Names X x c → Q c { s' with heap := g } → wpAny (model X.prog X.w) (X.A.mark (some (.ref a))) (eval (.Name x np) X.env) Q E { s' with heap := g } := fun {x c np Q E} nm q => by
      obtain ⟨hg, hd, hm | ⟨hm, hv, hn⟩⟩ := nm
      · exact ld_glob (X := X.suite a ((a, og) :: (X.pn ++ pins))) SG hg hm q hd
      · exact ld_blt (X := X.suite a ((a, og) :: (X.pn ++ pins))) SG hg hm hv q hn hd
    have go : ∀ {more : List ExceptHandler} {l' : List (Value × Option Nat × HdT)}, HdsA X more l' → wHds X.K out D l' cls d σ' H' → wpAny (model X.prog X.w) X.A (handleBy (.ref a) X.env more) (SP X pins D) X.xe { s' with heap := g } := by
      intro more l' hk
      induction hk with
      | nil =>
        intro w
        refine wpAny_handleBy_nil ?_
        obtain ⟨_, _, _, oe, vs, T, _, _, he, _, hd, h1, _⟩ := id fl
        unfold PySem.passOn
        refine wpAny_bind (wpAny_field he hd h1 ?_)
        rw [if_neg (show ¬ ((Value.ref T == Value.none) = true) by simp)]
        have fin : wpAny (model X.prog X.w) X.A (setFlight (.ref a) X.env.frame) (fun _ t => wpAny (model X.prog X.w) X.A (throw (.ref a) : Sem Flow) (SP X pins D) X.xe t) X.xe { s' with heap := g } := by
          rw [own]
          exact HandSPX.setFlight_upZ fl fun g4 hh4 up4 => wpAny_throw (tk _ _ ⟨a, B, sI, pins, σ', H', cls, d, rfl, J, nb, (up.trans upg).trans up4, .inr (.inr (by rw [top]; exact hh4)), na, os, ag, w⟩)
        first
          | exact wpAny_bind (wpAny_pure (wpAny_bind fin))
          | exact wpAny_bind fin
      | @plain x c ts b₀ su np q more l nm suite rest ih =>
        rintro ⟨b, hb1, yes, no⟩
        have LM := PySem.W.exm_one (M := model X.prog X.w) JG.kIn look hb1
        refine wpAny_handleBy_cons (codeAny_handlers_test ?_) (fun q => by cases q)
        refine asks nm (LM.here ?_)
        cases b with
        | false => exact ih (no rfl)
        | true =>
          refine codeAny_handlers_suite (HandSPX.lands_againZ fl fun g4 fl4 up4 => ?_)
          obtain ⟨o4, v4, e4, z4, d4⟩ := fl4.there
          have J4 : Inv X pins σ' H' { s' with heap := g4 } := J.landed nb fl4.1 ((up.trans upg).trans up4) os ag
          have S4 := J4.suite e4 d4 na nL nF
          refine wpAny_mono ((suite a o4 cls d (X.pn ++ pins) z4 ⟨_, d4⟩).run [] _ _ H' _ S4 (yes rfl a na)) (fun f s6 over => ?_) (fun _ _ z => z.elim)
          cases f with
          | next => obtain ⟨σ6, H6, S6, q6⟩ := over; exact ⟨_, _, S6.unsuite good, q6⟩
          | brk => obtain ⟨σ6, H6, S6, q6⟩ := over; exact ⟨_, _, S6.unsuite good, q6⟩
          | cont => obtain ⟨σ6, H6, S6, q6⟩ := over; exact ⟨_, _, S6.unsuite good, q6⟩
          | ret u => obtain ⟨v6, σ6, H6, S6, r6, q6⟩ := over; exact ⟨_, _, _, S6.unsuite good, r6, q6⟩
      | @named x n i c ts b₀ su np q more l nd at_ loc nm suite rest ih =>
        rintro ⟨b, hb1, yes, no⟩
        have LM := PySem.W.exm_one (M := model X.prog X.w) JG.kIn look hb1
        refine wpAny_handleBy_cons (codeAny_handlers_test ?_) (fun q => by cases q)
        refine asks nm (LM.here ?_)
        cases b with
        | false => exact ih (no rfl)
        | true =>
          refine codeAny_handlers_suite_as (HandSPX.lands_againZ fl fun g4 fl4 up4 => ?_)
          obtain ⟨o4, v4, e4, z4, d4⟩ := fl4.there
          have J4 : Inv X pins σ' H' { s' with heap := g4 } := J.landed nb fl4.1 ((up.trans upg).trans up4) os ag
          have S4 := J4.suite e4 d4 na nL nF
          refine store_ok (X := X.suite a ((a, o4) :: (X.pn ++ pins))) (v := .ref a) S4 nd at_ (.inl loc) rfl (fun s5 S5 => ?_) (.inr loc)
          refine wpAny_mono ((suite a o4 cls d (X.pn ++ pins) z4 ⟨_, d4⟩).run [] s5 _ H' _ S5 (yes rfl a na)) (fun f s6 over => ?_) (fun _ _ z => z.elim)
          have gone : ∀ {σ6 : L2.St} {H6 : Hp} {Q : Shared → Prop}, Inv (X.suite a ((a, o4) :: (X.pn ++ pins))) [] σ6 H6 s6 → (∀ s7, Inv X pins (σ6.set i none) H6 s7 → Q s7) → wpAny (model X.prog X.w) X.A (do bindName X.env n .none; unbindBehindTheSuite X.env n q) (fun _ s7 => Q s7) X.xe s6 :=
            fun {_ _ _} S6 z => gone_ok (S6.unsuite good) nd at_ loc z
          cases f with
          | next => obtain ⟨σ6, H6, S6, q6⟩ := over; exact gone S6 fun s7 J7 => ⟨_, _, J7, q6⟩
          | brk => obtain ⟨σ6, H6, S6, q6⟩ := over; exact gone S6 fun s7 J7 => ⟨_, _, J7, q6⟩
          | cont => obtain ⟨σ6, H6, S6, q6⟩ := over; exact gone S6 fun s7 J7 => ⟨_, _, J7, q6⟩
          | ret u => obtain ⟨v6, σ6, H6, S6, r6, q6⟩ := over; exact gone S6 fun s7 J7 => ⟨_, _, _, J7, r6, q6⟩
    exact go hh w
end
section
variable {X : Cx} {W : WX} {x n : Str} {i : Nat} {Hc : Addr} {body suite : List Stmt} {b₀ : Stmt} {np pos pos' : Pos} {tb : DS} {ts : Addr → Addr → DS} {t0 : DS}
theorem ds_tryO (hs : X.stack = X.env :: X.outer) (hf : X.env.frame = some X.env.locals) (hc : Names X x (.ref Hc)) (tk : L2N.Takes X W)
    (hb : ∀ (W' : WX) (pn : List (Addr × Obj)) (xe : Value → Shared → Prop), L2N.Takes (X.tr pn xe) W' → PassesOwn (model X.prog X.w) X.A X.env xe → DSs (X.tr pn xe) W' body tb)
    (hsu : ∀ (a : Addr) (oe : Obj) (C : Addr) (pn : List (Addr × Obj)), L2N.Zn (.ref C) none oe → (∃ vs, oe.data = .fields vs) → DSs (X.suite a ((a, oe) :: pn)) (fun _ _ _ _ => False) (b₀ :: suite) t0) :
    DSp' X W (.Try body [.ExceptHandler (some (.Name x np)) none (b₀ :: suite) pos'] [] [] pos) (dTryO (mxOf X.K Hc) tb t0) := by
  have key := ps_try_hds (l := [(.ref Hc, none, tsV X.K fun _ _ => t0)]) (tb := fun W' => liftS X.K W' tb) hs hf tk (fun W' pn xe tk' po => hb W' pn xe tk' po)
    (.plain (b₀ := b₀) (su := suite) (np := np) (q := pos') hc (fun a oe cls d pn hz hf' => tsV_no fun C e1 e2 => by subst e1; subst e2; exact hsu a oe C pn hz hf') .nil) (pos := pos)
  refine PS.imp key fun D σ H ⟨τ, h, N', D0, S, R, z, U⟩ => ⟨τ, h, N', _, S, R, z, U.nx, U.rt, U.bk, U.ct, ?_⟩
  rintro C fs τ' h' N2 σ' H' d ⟨rfl, b, hm, hy, hn⟩ e S' R' r
  cases pxrep r
  refine ⟨b, hm, fun eb a na => ?_, fun eb => U.ex C [] τ' h' N2 σ' H' none (hn eb) e S' R' rfl⟩
  exact ⟨τ', h', N2, _, S', R', hy eb, fun τ2 h2 N3 σ2 H2 q e2 S2 R2 => U.nx _ _ _ _ _ q (e.trans e2) S2 R2, fun d h2 N3 v H2 q e2 R2 r2 => U.rt _ _ _ _ _ q (e.trans e2) R2 r2, fun τ2 h2 N3 σ2 H2 q e2 S2 R2 => U.bk _ _ _ _ _ q (e.trans e2) S2 R2,
    fun τ2 h2 N3 σ2 H2 q e2 S2 R2 => U.ct _ _ _ _ _ q (e.trans e2) S2 R2, fun _ _ _ _ _ _ _ _ q => q.elim⟩
theorem ds_tryA (hs : X.stack = X.env :: X.outer) (hf : X.env.frame = some X.env.locals) (hN : X.N.Nodup) (hi : X.N[i]? = some n) (hln : X.env.kindOf n = some .local) (hc : Names X x (.ref Hc)) (tk : L2N.Takes X W)
    (hb : ∀ (W' : WX) (pn : List (Addr × Obj)) (xe : Value → Shared → Prop), L2N.Takes (X.tr pn xe) W' → PassesOwn (model X.prog X.w) X.A X.env xe → DSs (X.tr pn xe) W' body tb)
    (hsu : ∀ (a : Addr) (oe : Obj) (C : Addr) (pn : List (Addr × Obj)), L2N.Zn (.ref C) none oe → (∃ vs, oe.data = .fields vs) → DSs (X.suite a ((a, oe) :: pn)) (fun _ _ _ _ => False) (b₀ :: suite) (ts a C)) :
    DSp' X W (.Try body [.ExceptHandler (some (.Name x np)) (some n) (b₀ :: suite) pos'] [] [] pos) (dTryA (mxOf X.K Hc) i tb ts) := by
  have key := ps_try_hds (l := [(.ref Hc, some i, tsV X.K ts)]) (tb := fun W' => liftS X.K W' tb) hs hf tk (fun W' pn xe tk' po => hb W' pn xe tk' po)
    (.named (b₀ := b₀) (su := suite) (np := np) (q := pos') hN hi hln hc (fun a oe cls d pn hz hf' => tsV_no fun C e1 e2 => by subst e1; subst e2; exact hsu a oe C pn hz hf') .nil) (pos := pos)
  refine PS.imp key fun D σ H ⟨τ, h, N', D0, S, R, z, U⟩ => ⟨τ, h, N', _, S, R, z, U.nx, U.rt, U.bk, U.ct, ?_⟩
  rintro C fs τ' h' N2 σ' H' d ⟨rfl, b, hm, hy, hn⟩ e S' R' r
  cases pxrep r
  refine ⟨b, hm, fun eb a na => ?_, fun eb => U.ex C [] τ' h' N2 σ' H' none (hn eb) e S' R' rfl⟩
  exact ⟨τ'.set i (some (.ref a)), h', N2, _, S'.set rfl, R', hy eb a (R'.none na), fun τ2 h2 N3 σ2 H2 q e2 S2 R2 => U.nx _ _ _ _ _ q (e.trans e2) (S2.setN i) R2, fun d h2 N3 v H2 q e2 R2 r2 => U.rt _ _ _ _ _ q (e.trans e2) R2 r2,
    fun τ2 h2 N3 σ2 H2 q e2 S2 R2 => U.bk _ _ _ _ _ q (e.trans e2) (S2.setN i) R2, fun τ2 h2 N3 σ2 H2 q e2 S2 R2 => U.ct _ _ _ _ _ q (e.trans e2) (S2.setN i) R2, fun _ _ _ _ _ _ _ _ q => q.elim⟩
end
/-- an own class of errors, raised with a text -/
structure Rz (K : PySem.W.Frag) (mg : Str → Option Value) (C : Addr) (nm : Str) : Prop where
  q : PySem.W.excIn K C [.type "ValueError", .type "Exception", .type "BaseException", .type "object"] "ValueError.__new__" = true
  sub : PySem.W.subIn K (.ref C) (.type "BaseException") = some true
  ty : PySem.W.typeIn K (.ref C) = some (.type "type")
  kp : PySem.W.keepIn K (.ref C) = true
  gl : mg nm = some (.ref C)
theorem ds_raiseO {X : Cx} {W : WX} {C : Addr} {x m : Str} {j : Nat} {p p2 pos pos' : Pos} (r : Rz X.K X.mg C x) (hc : X.calm = true) (tk : L2N.Takes X W) (hg : Gl X x := by rfl) (hdb : (x == ("__debug__" : Str)) = false := by decide) :
    DSp' X W (.Raise (some (.Call (.Name x p) [.Constant (.str m) j p2] [] pos)) none pos') (dRaise C) :=
  ds_raise hc tk (L2N.pmk_own (B := "ValueError") (newId := "ValueError.__new__") (initId := "ValueError.__init__") PySem.F.excBase_ValueError r.q r.gl r.kp (raises_own r.sub r.ty) hg hdb)
end DL

/-! D19: {}, list(range(n)), sorted of ints, int of a text. -/
namespace DL
open PySem PySem.Spec L2 PyProof.Rows

section
variable {X : Cx} {W : WX} {e : Expr} {te : DE} {pos p p2 pos2 : Pos}
/-- {}, that never changes -/
def dDct : DE := fun _ h Q _ => Q .dct h
theorem d_dct : DEp X W (.Dict [] [] pos) dDct := PE.imp pe_dnewK fun σ H Q ⟨τ, h, N, Q0, X0, S, R, z, p, ex⟩ a n => by
  obtain ⟨R1, e1⟩ := R.new (o := .dK []) n
  exact p .dct h _ _ _ z e1 R1 ⟨a, rfl, fun z => z.2 rfl, .inl upd_same⟩
def upto (n : Nat) : List D := (List.range n).map fun i => .int (i : Nat)
def dLstRg (te : DE) : DE := fun τ h Q X => te τ h (fun x h1 => match x with | .int n => 0 ≤ n ∧ n ≤ 16777216 ∧ Q (.lst (upto n.toNat)) h1 | _ => False) X
def dLstRgM (te : DE) : DE := fun τ h Q X => te τ h (fun x h1 => match x with | .int n => 0 ≤ n ∧ n ≤ 16777216 ∧ ∀ p, h1 p = none → Q (.ref p) (dupd h1 p (.lst (upto n.toNat))) | _ => False) X
theorem rg_ints (n : Int) : rgV 0 n = ((List.range n.toNat).map fun i : Nat => (i : Int)).map V.int ∧ upto n.toNat = ((List.range n.toNat).map fun i : Nat => (i : Int)).map D.int := by
  refine ⟨?_, ?_⟩
  · unfold rgV
    rw [List.map_map, Int.sub_zero]
    refine List.map_congr_left fun i _ => ?_
    show V.int (0 + (i : Int)) = V.int (i : Int)
    rw [Int.zero_add]
  · unfold upto
    rw [List.map_map]
    rfl
theorem d_lstRg (hc : X.calm = true) (hm : X.mg "list" = none) (hm2 : X.mg "range" = none) (he : DEp X W e te) (hg : Gl X "list" := by rfl) (hg2 : Gl X "range" := by rfl)
    (na : starEach [e] X.env = (false, eval e X.env) :: starEach [] X.env := by rfl) (na2 : starEach [.Call (.Name "range" p2) [e] [] pos2] X.env = (false, eval (.Call (.Name "range" p2) [e] [] pos2) X.env) :: starEach [] X.env := by rfl) :
    DEp X W (.Call (.Name "list" p) [.Call (.Name "range" p2) [e] [] pos2] [] pos) (dLstRg te) :=
  PE.imp (pe_listRg hc hg hm (prg_1 hg2 hm2 he na) na2) fun σ H Q ⟨τ, h, N, Q0, X0, S, R, z, p, ex⟩ => ⟨τ, h, N, _, X0, S, R, z, fun x h1 N1 v H1 q e1 R1 rx => by
    cases x with
    | int n =>
      cases rep_int rx
      obtain ⟨n0, n1, q⟩ := q
      refine ⟨n, rfl, .of_le (Int.le_refl _) n1 (by decide) n0, fun a na => ?_⟩
      rw [(rg_ints n).1]
      rw [(rg_ints n).2] at q
      obtain ⟨R2, e2, r2⟩ := lst_new (xs := ((List.range n.toNat).map fun i : Nat => (i : Int)).map D.int) R1 na (RepL.of_ints _)
      exact p _ _ _ _ _ q (e1.trans e2) R2 r2
    | _ => exact q.elim, ex⟩
theorem d_lstRgM (hc : X.calm = true) (hm : X.mg "list" = none) (hm2 : X.mg "range" = none) (he : DEp X W e te) (hg : Gl X "list" := by rfl) (hg2 : Gl X "range" := by rfl)
    (na : starEach [e] X.env = (false, eval e X.env) :: starEach [] X.env := by rfl) (na2 : starEach [.Call (.Name "range" p2) [e] [] pos2] X.env = (false, eval (.Call (.Name "range" p2) [e] [] pos2) X.env) :: starEach [] X.env := by rfl) :
    DEp X W (.Call (.Name "list" p) [.Call (.Name "range" p2) [e] [] pos2] [] pos) (dLstRgM te) :=
  PE.imp (pe_listRg hc hg hm (prg_1 hg2 hm2 he na) na2) fun σ H Q ⟨τ, h, N, Q0, X0, S, R, z, p, ex⟩ => ⟨τ, h, N, _, X0, S, R, z, fun x h1 N1 v H1 q e1 R1 rx => by
    cases x with
    | int n =>
      cases rep_int rx
      obtain ⟨n0, n1, q⟩ := q
      refine ⟨n, rfl, .of_le (Int.le_refl _) n1 (by decide) n0, fun a na => ?_⟩
      rw [(rg_ints n).1]
      rw [(rg_ints n).2] at q
      obtain ⟨R2, e2⟩ := lst_newM (xs := ((List.range n.toNat).map fun i : Nat => (i : Int)).map D.int) R1 na (RepL.of_ints _)
      exact p (.ref a) _ _ _ _ (q a (R1.none na)) (e1.trans e2) R2 rfl
    | _ => exact q.elim, ex⟩
end
/-! ### int of a text -/
def dIntS (vs : List D) (h : DH) (Q : DK) : Prop := match vs with
  | [.str a] => a.length ≤ 640 ∧ ∃ n, PySem.intText? a = some n ∧ Q (.int n) h
  | _ => False
section
variable {X : Cx}
theorem cd_intS : CallD X (.type "int") dIntS := by
  intro pins s σ H vs us Q I rv ⟨xs, h, N, Q0, rx, R, q, p⟩
  unfold dIntS at q
  split at q
  · obtain ⟨v, rfl, r1⟩ := repl1 rfl rx
    cases rep_str r1
    obtain ⟨hl, n, hn, q⟩ := q
    exact call_int_str pins s σ H _ us Q I rv ⟨_, n, rfl, hn, hl, post_at p R q rfl⟩
  · exact q.elim
end
/-! ### sorted, ints -/
section
variable {prog : Program} {w : World} {A : Around} {E : Value → Shared → Prop} {s : Shared}
/-- what lies in a tuple, gathered -/
theorem gather_tup {l : Addr} {vs : List Value} {Q : List Value → Shared → Prop} (hl : IsTup s.heap l vs.toArray) (hsz : vs.length ≤ sizeLine)
    (q : Q vs { s with heap := (s.heap.push (seqObj "list" #[] 0)).update s.heap.objs.size (Obj.mapSeq (· ++ vs.toArray)) }) : wpAny (model prog w) A (collect (.ref l)) Q E s := by
  obtain ⟨o, ho, hcl, n, hdat⟩ := id hl
  have old : (s.heap.push (seqObj "list" #[] 0)).get? l = some o := Heap.get?_push_of_some _ ho
  have new : (s.heap.push (seqObj "list" #[] 0)).get? s.heap.objs.size = some (seqObj "list" #[] 0) := Heap.get?_push_size _ rfl
  unfold collect
  refine wpAny_bind (wpAny_runValue (codeAny_builtin entry_proto_collect' ?_))
  show wpAny _ _ (do again (.builtin "list.__iadd__" ⟨[← newList [], .ref l], []⟩)) _ _ s
  refine wpAny_bind (wpAny_newList (wpAny_pure ⟨Code.quiet_builtin _ (by decide +kernel), codeAny_builtin entry_list_iadd' ?_⟩))
  show wpAny _ _ (Builtin.List.listExtendWith (.ref s.heap.objs.size) (.ref l) (.ref s.heap.objs.size)) _ _ _
  unfold Builtin.List.listExtendWith
  refine wpAny_bind (wpAny_typeOf (T := "tuple") ⟨o, old, hcl⟩ ?_)
  have yes : (Value.type "tuple" == Value.type "list" || Value.type "tuple" == Value.type "tuple") = true := by rfl
  rw [if_pos (by first | exact yes | simp)]
  refine wpAny_bind (listItems_at old hdat ?_)
  refine wpAny_bind (listItems_at (xs := #[]) (n := 0) new rfl ?_)
  rw [if_neg (by simp)]
  refine wpAny_bind (listUpdate_at (xs := #[]) (n := 0) new rfl ?_ (Nat.zero_le _) (by simp only [Array.size_append, List.size_toArray]; show 0 + vs.length ≤ sizeLine + 1; omega))
  refine wpAny_pure ?_
  refine wpAny_bind (wpAny_load (get?_update_seq new _) ?_)
  have e : ((#[] : Array Value) ++ vs.toArray).toList = vs := by simp
  show wpAny _ _ (pure ((#[] : Array Value) ++ vs.toArray).toList) Q E _
  rw [e]
  exact wpAny_pure q
end
def dSortI (vs : List D) (h : DH) (Q : DK) : Prop := match vs with
  | [x] => ∃ ns : List Int, (view h x = .lst (ns.map D.int) ∨ x = .tup (ns.map D.int)) ∧ ∀ ns' : List Int, ns'.Perm ns → ns'.Pairwise (· ≤ ·) → Q (.lst (ns'.map D.int)) h
  | _ => False
section
open SrtO Srt
variable {prog : Program} {w : World} {A : Around} {E : Value → Shared → Prop} {s : Shared}
/-- sorted of a tuple -/
theorem sorted_tupl {l : Addr} {vs : List Value} {lt : Value → Value → Bool} {Q : Value → Shared → Prop} (O : Swo lt) (tup : IsTup s.heap l vs.toArray) (few : vs.length ≤ sizeLine)
    (srt : 2 ≤ vs.length → ∀ (h₁ : Heap) (a : Addr), SortableO prog w A.in1.in1 { s with heap := h₁ } a vs lt)
    (fin : ∀ out : List Value, Srtd lt out → Stb lt out vs → Q (.ref (s.heap.objs.size + 1)) { s with heap := sortedAll s.heap vs out.toArray }) : wpAny (model prog w) A (call (.builtin "sorted") [.ref l]) Q E s := by
  obtain ⟨hp, ehp⟩ : ∃ hp : Heap, hp = (s.heap.push (seqObj "list" #[] 0)).update s.heap.objs.size (Obj.mapSeq (· ++ vs.toArray)) := ⟨_, rfl⟩
  have size : hp.objs.size = s.heap.objs.size + 1 := by rw [ehp, Heap.size_update, size_push']
  refine Calls.call_function_entry kind_sorted plain_sorted entry_sorted (args_sorted1 _) ?_
  unfold Builtin.«sorted»
  refine wpAny_bind (m := checkCount "sorted" 1 1 _) (wpAny_pure ?_)
  refine wpAny_bind (gather_tup tup few ?_)
  refine wpAny_bind (wpAny_newList ?_ few)
  rw [← ehp]
  have there : (hp.push (seqObj "list" vs.toArray 0)).get? (s.heap.objs.size + 1) = some (seqObj "list" vs.toArray 0) := by rw [← size]; exact Heap.get?_push_size _ rfl
  show wpAny _ _ _ _ _ { s with heap := hp.push (seqObj "list" vs.toArray 0) }
  rw [size]
  refine wpAny_bind (wpAny_holding (wpAny_call_entry slot_list_sort ⟨_, there, rfl⟩ entry_list_sort (list_sort_ord O there few (fun h2 => srt h2 _ _) fun out a b => ⟨_, rfl, ?_⟩) (args_list_sort _)))
  rw [ehp]
  exact wpAny_pure ⟨_, rfl, fin out a b⟩
end
section
variable {X : Cx}
theorem cd_sortI : CallD X (.builtin "sorted") dSortI := by
  intro pins s σ H vs us Q I rv ⟨xs, h, N, Q0, rx, R, q, p⟩
  unfold dSortI at q
  split at q
  · rename_i x
    obtain ⟨v, rfl, r1⟩ := repl1 rfl rx
    obtain ⟨ns, hx, q⟩ := q
    rcases hx with ex | ex
    · obtain ⟨a, ws, rfl, f, rs⟩ := view_lst R r1 ex
      have ew := rs.ints
      subst ew
      refine cr_sortedI pins s σ H _ us Q I rv ⟨a, ns, rfl, .inl f, fun ns' b pe so nb => ?_⟩
      obtain ⟨R2, e2, r2⟩ := lst_new (xs := ns'.map D.int) R nb (RepL.of_ints _)
      exact p _ _ _ _ _ (q ns' pe so) e2 R2 r2
    · subst ex
      obtain ⟨a, ws, rfl, f, rs⟩ := r1
      have ew := rs.ints
      subst ew
      obtain ⟨its, ri, ht, hz⟩ := I.tuple f.sq
      rw [Vals.ref1 rv]
      have hi := ri.ints
      refine sorted_tupl SrtO.swo_int ht (by rw [← ri.length]; exact hz) (fun h2 _ _ => SrtO.ints_sortable hi h2) fun out h1 h2 => ?_
      obtain ⟨k1, k2, k3⟩ := SrtO.ints_out hi h1 h2
      obtain ⟨ep, he⟩ := PyProof.Rows.sortedAll_at s.heap its out.toArray
      have few : ((out.map SrtO.iv).map V.int).length ≤ sizeLine := by
        rw [List.length_map, k2.length_eq]
        rw [List.length_map] at hz
        exact hz
      have nb := I.hok.fresh (Nat.le_succ s.heap.objs.size)
      obtain ⟨R2, e2, r2⟩ := lst_new (xs := (out.map SrtO.iv).map D.int) (vs := (out.map SrtO.iv).map V.int) R nb (RepL.of_ints _)
      exact ⟨.ref _, _, I.laid (t' := s.toks) (fun _ _ => PyProof.Rows.sortedAll_old) (Nat.le_succ _) (o := .lst ((out.map SrtO.iv).map V.int)) ⟨few, out, ep, vals_of_ints k1, he⟩, rfl, p _ _ _ _ _ (q _ k2 k3) e2 R2 r2⟩
  · exact q.elim
end
end DL

/-! D20: a try with clauses of which some name the exception. -/
namespace DL
open PySem PySem.Spec L2 PyProof.Rows

/-- try: .., except H as e: .., except H2: .. -/
def dTryAO (m m2 : MX) (i : Nat) (tb : DS) (ts : Addr → Addr → DS) (ts2 : DS) : DS := fun D τ h => tb { D with ex := fun C fs τ' h' => fs = [] ∧ ∃ b, m C = some b ∧
  (b = true → ∀ a, h' a = none → ts a C { nx := fun τ2 h2 => D.nx (τ2.set i none) h2, rt := D.rt, bk := fun τ2 h2 => D.bk (τ2.set i none) h2, ct := fun τ2 h2 => D.ct (τ2.set i none) h2 } (τ'.set i (some (.ref a))) h') ∧
  (b = false → ∃ b2, m2 C = some b2 ∧ (b2 = true → ts2 { D with ex := fun _ _ _ _ => False } τ' h') ∧ (b2 = false → D.ex C fs τ' h')) } τ h
section
variable {X : Cx} {W : WX} {x n x2 : Str} {i : Nat} {Hc Hc2 : Addr} {body suite suite2 : List Stmt} {b₀ b2 : Stmt} {np pos pos' np2 pos2 : Pos} {tb : DS} {ts : Addr → Addr → DS} {t0 : DS}
theorem ds_tryAO (hs : X.stack = X.env :: X.outer) (hf : X.env.frame = some X.env.locals) (hN : X.N.Nodup) (hi : X.N[i]? = some n) (hln : X.env.kindOf n = some .local) (hc : Names X x (.ref Hc)) (hc2 : Names X x2 (.ref Hc2)) (tk : L2N.Takes X W)
    (hb : ∀ (W' : WX) (pn : List (Addr × Obj)) (xe : Value → Shared → Prop), L2N.Takes (X.tr pn xe) W' → PassesOwn (model X.prog X.w) X.A X.env xe → DSs (X.tr pn xe) W' body tb)
    (hsu : ∀ (a : Addr) (oe : Obj) (C : Addr) (pn : List (Addr × Obj)), L2N.Zn (.ref C) none oe → (∃ vs, oe.data = .fields vs) → DSs (X.suite a ((a, oe) :: pn)) (fun _ _ _ _ => False) (b₀ :: suite) (ts a C))
    (hsu2 : ∀ (a : Addr) (oe : Obj) (C : Addr) (pn : List (Addr × Obj)), L2N.Zn (.ref C) none oe → (∃ vs, oe.data = .fields vs) → DSs (X.suite a ((a, oe) :: pn)) (fun _ _ _ _ => False) (b2 :: suite2) t0) :
    DSp' X W (.Try body [.ExceptHandler (some (.Name x np)) (some n) (b₀ :: suite) pos', .ExceptHandler (some (.Name x2 np2)) none (b2 :: suite2) pos2] [] [] pos) (dTryAO (mxOf X.K Hc) (mxOf X.K Hc2) i tb ts t0) := by
  have key := ps_try_hds (l := [(.ref Hc, some i, tsV X.K ts), (.ref Hc2, none, tsV X.K fun _ _ => t0)]) (tb := fun W' => liftS X.K W' tb) hs hf tk (fun W' pn xe tk' po => hb W' pn xe tk' po)
    (.named (np := np) (q := pos') hN hi hln hc (fun a oe cls d pn hz hf' => tsV_no fun C e1 e2 => by subst e1; subst e2; exact hsu a oe C pn hz hf')
      (.plain (np := np2) (q := pos2) hc2 (fun a oe cls d pn hz hf' => tsV_no fun C e1 e2 => by subst e1; subst e2; exact hsu2 a oe C pn hz hf') .nil)) (pos := pos)
  refine PS.imp key fun D σ H ⟨τ, h, N', D0, S, R, z, U⟩ => ⟨τ, h, N', _, S, R, z, U.nx, U.rt, U.bk, U.ct, ?_⟩
  rintro C fs τ' h' N2 σ' H' d ⟨rfl, b, hm, hy, hn⟩ e S' R' r
  cases pxrep r
  refine ⟨b, hm, fun eb a na => ?_, fun eb => ?_⟩
  · exact ⟨τ'.set i (some (.ref a)), h', N2, _, S'.set rfl, R', hy eb a (R'.none na), fun τ2 h2 N3 σ2 H2 q e2 S2 R2 => U.nx _ _ _ _ _ q (e.trans e2) (S2.setN i) R2, fun d h2 N3 v H2 q e2 R2 r2 => U.rt _ _ _ _ _ q (e.trans e2) R2 r2,
      fun τ2 h2 N3 σ2 H2 q e2 S2 R2 => U.bk _ _ _ _ _ q (e.trans e2) (S2.setN i) R2, fun τ2 h2 N3 σ2 H2 q e2 S2 R2 => U.ct _ _ _ _ _ q (e.trans e2) (S2.setN i) R2, fun _ _ _ _ _ _ _ _ q => q.elim⟩
  · obtain ⟨c, hm2, hy2, hn2⟩ := hn eb
    refine ⟨c, hm2, fun ec a na => ?_, fun ec => U.ex C [] τ' h' N2 σ' H' none (hn2 ec) e S' R' rfl⟩
    exact ⟨τ', h', N2, _, S', R', hy2 ec, fun τ2 h2 N3 σ2 H2 q e2 S2 R2 => U.nx _ _ _ _ _ q (e.trans e2) S2 R2, fun d h2 N3 v H2 q e2 R2 r2 => U.rt _ _ _ _ _ q (e.trans e2) R2 r2, fun τ2 h2 N3 σ2 H2 q e2 S2 R2 => U.bk _ _ _ _ _ q (e.trans e2) S2 R2,
      fun τ2 h2 N3 σ2 H2 q e2 S2 R2 => U.ct _ _ _ _ _ q (e.trans e2) S2 R2, fun _ _ _ _ _ _ _ _ q => q.elim⟩
end
/-! ### isinstance(e, T) of the exception that a suite holds -/
/-- what a written part says of the class C and a built-in type -/
def kxOf (K : PySem.W.Frag) (t : Value) : MX := fun C => PySem.W.kitOne K (.ref C) t
/-- .. for the classes of a list -/
def Xcs (K : PySem.W.Frag) (l : List Addr) : Prop := ∀ C ∈ l, ExcC K C
def dIsX (l : List Addr) (k : MX) (a C : Addr) (t : DE) : DE := fun τ h Q X => C ∈ l ∧ t τ h (fun x h1 => x = .ref a ∧ ∃ b, k C = some b ∧ Q (.bl b) h1) X
theorem d_isE {X : Cx} {a C : Addr} {oe : Obj} {pn : List (Addr × Obj)} {l : List Addr} {T : String} {y : Str} {e : Expr} {W : WX} {t : DE} {p p2 pos : Pos} (hx : Xcs X.K l) (hz : L2N.Zn (.ref C) none oe) (hv : ∃ vs, oe.data = .fields vs)
    (hg : Gl (X.suite a ((a, oe) :: pn)) "isinstance") (hm : X.mg "isinstance" = none) (hgT : Gl (X.suite a ((a, oe) :: pn)) y) (hmT : X.mg y = none) (hvT : bootBuiltins y = some (.type T)) (he : DEp (X.suite a ((a, oe) :: pn)) W e t) (hn : y ≠ "__name__" := by decide) (hdb : (y == ("__debug__" : Str)) = false := by decide)
    (hs1 : starEach [e, .Name y p2] X.env = (false, eval e X.env) :: starEach [.Name y p2] X.env := by rfl) (hs2 : starEach [.Name y p2] X.env = (false, eval (.Name y p2) X.env) :: starEach [] X.env := by rfl) (hpl : (backTo pos (starEach [.Name y p2] X.env)).any (·.1) = false := by rfl) :
    DEp (X.suite a ((a, oe) :: pn)) W (.Call (.Name "isinstance" p) [e, .Name y p2] [] pos) (dIsX l (kxOf X.K (.type T)) a C t) := ⟨fun pins s σ H Q I z => by
  obtain ⟨τ, h, N, Q0, X0, S, R, ⟨hl, z⟩, post, ex⟩ := z
  have key := pe_callB (p := p) (pos := pos) (call_isE (pn := pn) (hx C hl) hz.zc hv) hg hm (by decide +kernel) (pa_cons he (pa_cons (pe_bltn (pos := p2) (v := .ty T) hgT hmT hvT rfl hn hdb) pa_nil hs2) hs1) (by decide) (by decide) hs1 hpl
  refine key.run pins s σ H Q I ⟨τ, h, N, _, X0, S, R, z, fun d h1 N1 v H1 q e1 R1 rx => ?_, ex⟩
  obtain ⟨rfl, b, hk, q⟩ := q
  cases rep_ref rx
  exact ⟨.ty T, .type T, b, rfl, fun u r => r, hk, post _ _ _ _ _ q e1 R1 rfl⟩⟩
theorem bt_ValueError : bootBuiltins "ValueError" = some (.type "ValueError") := by decide +kernel
end DL

/-! D21: a text times a number. -/
namespace DL
open PySem PySem.Spec L2 PyProof.Rows

def repS (x : Str) (n : Nat) : Str := ⟨(List.replicate n x.cps).foldl (· ++ ·) #[]⟩
def dMulS : D → D → DH → DK → Prop
  | .str x, .int k, h, Q => 2 ≤ k ∧ k ≤ 1000 ∧ 1 ≤ x.length ∧ x.length ≤ 1000 ∧ (repS x k.toNat).length ≤ 1000000 ∧ Q (.str (repS x k.toNat)) h
  | _, _, _, _ => False
section
variable {X : Cx}
theorem od_mulS : OpD X (binaryOp .Mult) dMulS := by
  intro pins s σ H v u vv uu Q I rv ru ⟨x, y, h, N, Q0, rx, ry, R, q, p⟩
  cases x <;> cases y <;> first | exact q.elim | skip
  rename_i x k
  cases rep_str rx; cases rep_int ry
  obtain ⟨t, rfl⟩ := rv
  obtain ⟨t', rfl⟩ := ru
  obtain ⟨k2, k3, l1, l2, l3, q⟩ := q
  have hz : (sizeLine : Nat) = 16777216 := sizeLine_eq
  have big : ((2 ^ 63 - 1 : Int)) / k ≥ 1000 := by
    refine Int.le_ediv_of_mul_le (by omega) ?_
    have : (1000 : Int) * k ≤ 1000 * 1000 := Int.mul_le_mul_of_nonneg_left k3 (by decide)
    omega
  have n1 : ¬ k < 1 := by omega
  have n2 : (k == 1 || x.length == 0) = false := by
    rw [Bool.or_eq_false_iff]
    exact ⟨by simpa using (show k ≠ 1 by omega), by simpa using (show x.length ≠ 0 by omega)⟩
  refine PySem.P.mul_str (by rw [decide_eq_false (by omega), decide_eq_false (by omega)]; rfl) (fun _ _ => by omega) (fun _ _ => ?_) ?_
  · have : x.length * k.toNat ≤ 1000 * 1000 := Nat.mul_le_mul l2 (by omega)
    have e : ∀ n, n ≤ 1000000 → Builtin.Str.tooLong n = false := fun n hn => by
      unfold Builtin.Str.tooLong
      exact decide_eq_false (by show ¬ n > sizeLine; omega)
    exact e _ this
  · rw [if_neg n1, n2, if_neg Bool.false_ne_true]
    exact ⟨by show (repS x k.toNat).length ≤ sizeLine; omega, ⟨.str (repS x k.toNat), H, I.kept fun _ _ z => z, ⟨_, rfl⟩, post_at p R q rfl⟩⟩
end
end DL

/-! D22: own == of two objects of one class. -/
namespace DL
open PySem PySem.Spec L2 PyProof.Rows
def dEqO (C : Addr) (sp : DSp) (x y : D) (h : DH) (Q : DK) : Prop := ∃ a b fs gs, x = .ref a ∧ y = .ref b ∧ h a = some (.ins C fs) ∧ h b = some (.ins C gs) ∧ sp [.ref a, .ref b] h (fun d h' => ∃ r, d = .bl r ∧ Q (.bl r) h') (fun _ _ _ => False)
section
variable {X : Cx} {k : Nat} {f C : Addr} {fd : FuncData} {ps : List Str} {sp : DSp}
theorem od_eqO (hs : PySem.W.findIn X.K (.ref C) "__eq__" = some (some (.ref f))) (hf : PySem.W.isFn X.K (.ref f) = true) (F : FnG X.prog X.w X.K X.mg X.base k f fd ps (liftSp X.K sp)) (hr : Room k X.A) (hgd : X.A.guards = some []) (hb : Binds X.K fd ps []) :
    OpD X (compareOp .Eq) (dEqO C sp) := by
  intro pins s σ H v1 v2 vv uu Q I rv ru ⟨x, y, h, N, Q0, rx, ry, R, q, p⟩
  obtain ⟨a, b, fs, gs, rfl, rfl, ea, eb, q⟩ := q
  cases rep_ref rx
  cases rep_ref ry
  cases (show vv = Value.ref a from rv)
  cases (show uu = Value.ref b from ru)
  obtain ⟨dx, fs', eH, _⟩ := R.at_ a _ ea
  obtain ⟨dy, gs', eH', _⟩ := R.at_ b _ eb
  obtain ⟨mA, J, _⟩ := ins_get I.hok eH
  obtain ⟨mB, J', _⟩ := ins_get I.hok eH'
  obtain ⟨od, J, _⟩ := J.look
  obtain ⟨od', J', _⟩ := J'.look
  obtain ⟨m, hF⟩ := I.fr
  show wpAny (model X.prog X.w) X.A (richCompare .Eq (.ref a) (.ref b)) (EP X pins σ Q) X.xe s
  refine PySem.W.cmp_K (op := .Eq) (tb := .ref C) hr.units0 hF I.ok.mod.kin J J'.type (by simp [PySem.W.notFirst]) hs hf ?_
  have q' : liftSp X.K sp [.ref a, .ref b] H (fun v H' => ∃ r, v = .bl r ∧ Q (.bl r) H') (fun _ _ _ => False) :=
    ⟨[.ref a, .ref b], h, N, _, _, .cons rfl (.cons rfl .nil), R, q, fun d h' N' v H' q e R' r => by
      obtain ⟨b', rfl, q⟩ := q
      exact ⟨b', rep_bl r, p _ _ _ _ _ q e R' rfl⟩, fun _ _ _ _ _ _ z => z.elim⟩
  have hl : [Value.ref a, Value.ref b].length = ps.length := F.len _ _ _ _ q'
  have bd := hb s [.ref a, .ref b] I.kIn (by rw [List.append_nil]; exact hl)
  rw [List.append_nil] at bd
  refine wpAny_call (codeAny_mono (F.run _ X.stack s H ⟨[.ref a, .ref b], []⟩ [.ref a, .ref b] [.ref a, .ref b] _ (fun _ _ _ => False) hr hgd I.env0 bd (.cons rfl (.cons rfl .nil)) q') fun y s' hy => ?_)
  match y, hy with
  | .error er, hy =>
    obtain ⟨_, _, _, _, _, _, _, _, _, _, _, _, z⟩ := hy
    exact z.elim
  | .ok .next, hy => exact False.elim hy
  | .ok .brk, hy => exact False.elim hy
  | .ok .cont, hy => exact False.elim hy
  | .ok (.ret u), hy =>
    obtain ⟨v, H', I3, rv, r, rfl, q3⟩ := I.after hy
    cases rv
    exact ⟨.bl r, H', I3, rfl, q3⟩
end
/-! ### o.f, p.g = e -/
def gFld (K : PySem.W.Frag) (to : TE) (f : Str) : TG := fun v σ H Q => to σ H fun x H1 => ∃ a C dx fs, x = .ref a ∧ H1 a = some (.ins C dx fs) ∧ Cls K C ∧ NoAttr K C f ∧ fs.length < 1000 ∧ Q σ (upd H1 a (.ins C dx (putF f v fs)))
def dSetF2 (C : Addr) (f g : Str) (te to tp : DE) : DS := fun D τ h => te τ h (fun d h1 => ∃ v w, d = .tup [v, w] ∧ to τ h1 (fun o h2 => ∃ a fs, o = .ref a ∧ h2 a = some (.ins C fs) ∧ fs.length < 1000 ∧
  tp τ (dupd h2 a (.ins C (putD f v fs))) (fun o2 h3 => ∃ a2 fs2, o2 = .ref a2 ∧ h3 a2 = some (.ins C fs2) ∧ fs2.length < 1000 ∧ D.nx τ (dupd h3 a2 (.ins C (putD g w fs2)))) (fun C fs h2 => D.ex C fs τ h2)) (fun C fs h2 => D.ex C fs τ h2)) (fun C fs h2 => D.ex C fs τ h2)
section
variable {X : Cx} {W : WX} {e o p : Expr} {te to tp : DE} {f g : Str} {pos p1 p2 p3 : Pos} {kt : Nat} {C : Addr}
theorem pg_fld {to : TE} (ho : PE X o to) : PG X (.Attribute o f p1) (gFld X.K to f) := by
  refine ⟨fun pins s σ H v u Q I r h => ?_⟩
  rw [arm_assign_Attribute]
  refine wpAny_bind (wpAny_holding (thn (ho.run pins s σ H _ I h) fun ov s1 ⟨x, H1, I1, r1, a, C, dx, fs, ex, ea, c, n, l, q⟩ => ?_))
  subst ex
  obtain rfl : ov = Value.ref a := r1
  refine wpAny_bind (wpAny_standAt (wpAny_bind (wpAny_holding (setattr_ok I1 ea c n l r fun s3 I3 => ?_))))
  exact wpAny_release ⟨σ, _, I3, q⟩
theorem ds_fld2 (c : Cls X.K C) (n : NoAttr X.K C f) (n2 : NoAttr X.K C g) (hc : X.calm = true) (he : DEp X W e te) (ho : DEp X W o to) (hp : DEp X W p tp) (hs : swapsWithSole [.Tuple [.Attribute o f p1, .Attribute p g p2] kt p3] e pos.line X.env = pure false := by rfl)
    (hw : swappedStores [.Tuple [.Attribute o f p1, .Attribute p g p2] kt p3] e X.env = pure none := by rfl) :
    DSp' X W (.Assign [.Tuple [.Attribute o f p1, .Attribute p g p2] kt p3] e pos) (dSetF2 C f g te to tp) :=
  PS.imp (ps_asg he (pg_tup hc (pgs_cons (pg_fld ho) (pgs_cons (pg_fld hp) pgs_nil))) hs hw) fun D σ H ⟨τ, h, N, D0, S, R, z, U⟩ =>
    ⟨τ, h, N, _, _, S, R, z, fun d h1 N1 v H1 q e1 R1 r => by
      obtain ⟨x, y, rfl, q⟩ := q
      obtain ⟨t, xs, rfl, fz, rl⟩ := r
      obtain ⟨vx, vy, rfl, rx, ry⟩ := repl2 rfl rl
      refine ⟨t, [vx, vy], rfl, fz.sq, rfl, vx, [vy], rfl, τ, h1, N1, _, _, S.ext R.un e1, R1, q, fun o1 h2 N2 xo H2 q2 e2 R2 ro => ?_, (U.ext e1).exc (S.ext R.un e1) R1.un⟩
      obtain ⟨a, fs, rfl, ea, l, q2⟩ := q2
      cases rep_ref ro
      obtain ⟨dx, gs, eH, fr⟩ := R2.at_ a _ ea
      obtain ⟨R3, e3⟩ := ins_mut (dx := dx) R2 ea (frep_put (f := f) (Rep.ext R1.un e2 _ _ rx) fr)
      have e23 := e2.trans e3
      have e123 := e1.trans e23
      refine ⟨a, C, dx, gs, rfl, eH, c, n, by rw [frep_len fr]; exact l, vy, [], rfl, τ, _, N2, _, _, S.ext R.un e123, R3, q2, fun o2 h4 N4 xo2 H4 q4 e4 R4 ro2 => ?_, (U.ext e123).exc (S.ext R.un e123) R3.un⟩
      obtain ⟨a2, fs2, rfl, ea2, l2, q4⟩ := q4
      cases rep_ref ro2
      obtain ⟨dx2, gs2, eH2, fr2⟩ := R4.at_ a2 _ ea2
      obtain ⟨R5, e5⟩ := ins_mut (dx := dx2) R4 ea2 (frep_put (f := g) (Rep.ext R1.un (e23.trans e4) _ _ ry) fr2)
      exact ⟨a2, C, dx2, gs2, rfl, eH2, c, n2, by rw [frep_len fr2]; exact l2, rfl, U.nx _ _ _ _ _ q4 ((e123.trans e4).trans e5) (S.ext R.un ((e123.trans e4).trans e5)) R5⟩, U.exc S R.un⟩
end
/-! ### isinstance(e, C), C an own class -/
def dIsO (C : Addr) (t : DE) : DE := fun τ h Q X => t τ h (fun x h1 => ((∃ a fs, x = .ref a ∧ h1 a = some (.ins C fs)) ∧ Q (.bl true) h1) ∨ (tyN (view h1 x) ≠ "?" ∧ Q (.bl false) h1)) X
structure IsO (K : PySem.W.Frag) (C : Addr) : Prop where
  cl : Cls K C
  ha : PySem.W.findIn K (.ref C) "__class__" = some (some (.builtin "object.__class__"))
  hn : PySem.W.specialIn K (.builtin "object.__class__") "__get__" = some (some (.builtin "getset_descriptor.__get__"))
  ht : PySem.W.takesIn K (.builtin "object.__class__") = some true
  hm : PySem.W.mroIn K C (.type "object") = some true
  ty : ∀ T ∈ ["NoneType", "bool", "int", "str", "tuple", "list", "dict"], PySem.W.kitOne K (.type T) (.ref C) = some false
theorem tyN_all {d : D} (h : tyN d ≠ "?") : tyN d ∈ ["NoneType", "bool", "int", "str", "tuple", "list", "dict"] := by
  cases d <;> first | exact (h rfl).elim | (simp [tyN])
section
variable {X : Cx} {W : WX} {C : Addr} {y : Str} {e : Expr} {t : DE} {p p2 pos : Pos}
theorem d_isO (k : IsO X.K C) (hg : Gl X "isinstance") (hm : X.mg "isinstance" = none) (hgT : Gl X y) (hmT : X.mg y = some (.ref C)) (he : DEp X W e t) (hdb : (y == ("__debug__" : Str)) = false := by decide)
    (hs1 : starEach [e, .Name y p2] X.env = (false, eval e X.env) :: starEach [.Name y p2] X.env := by rfl) (hs2 : starEach [.Name y p2] X.env = (false, eval (.Name y p2) X.env) :: starEach [] X.env := by rfl) (hpl : (backTo pos (starEach [.Name y p2] X.env)).any (·.1) = false := by rfl) :
    DEp X W (.Call (.Name "isinstance" p) [e, .Name y p2] [] pos) (dIsO C t) := by
  refine PE.imp (pe_callB call_isi hg hm (by decide +kernel) (pa_cons he (pa_cons (pe_glob (v := V.ref C) hgT hmT rfl hdb) pa_nil hs2) hs1) (by decide) (by decide) hs1 hpl) fun σ H Q ⟨τ, h, N, Q0, X0, S, R, z, p, ex⟩ => ?_
  refine ⟨τ, h, N, _, X0, S, R, z, fun d h1 N1 v H1 q e R1 rx => ?_, ex⟩
  rcases q with ⟨⟨a, fs, rfl, ea⟩, q⟩ | ⟨ht, q⟩
  · cases rep_ref rx
    obtain ⟨dx, gs, eH, fr⟩ := R1.at_ a _ ea
    exact ⟨.ref a, .ref C, .ref C, .ref C, true, rfl, .own C, .base (.ins eH k.cl k.ha k.hn k.ht k.hm), by simp [PySem.W.kitOne], p _ _ _ _ _ q e R1 rfl⟩
  · exact ⟨v, .ref C, _, .ref C, false, rfl, .own C, tyx R1 rx ht, k.ty _ (tyN_all ht), p _ _ _ _ _ q e R1 rfl⟩
end
end DL

/-! D23: sorted rows of texts. -/
namespace DL
open PySem PySem.Spec L2 PyProof.Rows

/-- a tuple of texts, not empty -/
def IsRow (h : Heap) (v : Value) : Prop := ∃ (a : Addr) (o : Obj) (f : Value) (xs : List Value) (n : Nat), v = .ref a ∧ h.get? a = some o ∧ o.cls = .type "tuple" ∧ o.data = .seq (f :: xs).toArray n ∧ ∀ x ∈ f :: xs, ∃ (y : Str) (t : Tok), x = .str y t
theorem IsRow.keeps {h h' : Heap} {v : Value} (p : IsRow h v) (k : ∀ b o, h.get? b = some o → o.cls = .type "tuple" → h'.get? b = some o) : IsRow h' v := by
  obtain ⟨a, o, f, xs, n, e, ho, hc, r⟩ := p
  exact ⟨a, o, f, xs, n, e, k _ _ ho hc, hc, r⟩
section
open SrtO Srt
variable {prog : Program} {w : World} {A : Around} {E : Value → Shared → Prop} {s : Shared}
theorem oneLt_strs (c : Bool) {p q : Str} {t u : Tok} {Q : Bool → Shared → Prop} (h : Q (decide (p.cps.toList < q.cps.toList)) s) : wpAny (model prog w) A (oneLt' c (.str p t) (.str q u)) Q E s := by
  cases c with
  | true => exact oneLt_str h
  | false => exact PySem.W.kat_one _ _ (PyProof.Rows.lt_str (Q := PySem.W.BoolBack Q) h)
theorem row_lex (fin b : Bool) : ∀ (l : List (Value × Value)) (i : Nat), (∀ q ∈ l, (∃ y t, q.1 = Value.str y t) ∧ ∃ y t, q.2 = Value.str y t) → ∃ r : Bool, PySem.W.KatLex prog w A b fin (fun x s' => s' = s ∧ x = r) l i s
  | [], i, _ => ⟨fin, PySem.W.kat_nil ⟨rfl, rfl⟩⟩
  | (p, q) :: l, i, h => by
    obtain ⟨⟨y, t, e1⟩, y', t', e2⟩ := h (p, q) List.mem_cons_self
    dsimp only at e1 e2
    subst e1; subst e2
    obtain ⟨r, hr⟩ := row_lex fin b l (i + 1) fun z hz => h z (List.mem_cons_of_mem _ hz)
    by_cases e : (y == y') = true
    · refine ⟨r, PySem.W.kat_cons (SeqAt.EqAt.str_str y t y' t' prog w _ _ ?_)⟩
      rw [e]
      exact PySem.W.kat_yes hr
    · refine ⟨decide (y.cps.toList < y'.cps.toList), PySem.W.kat_cons (SeqAt.EqAt.str_str y t y' t' prog w _ _ ?_)⟩
      rw [Bool.not_eq_true] at e
      rw [e]
      exact PySem.W.kat_no (oneLt_strs _ ⟨rfl, rfl⟩)
theorem row_tot {vs : List Value} (hp : ∀ v ∈ vs, IsRow s.heap v) : Tot prog w A s (tuples' true) (fun p => p.1 ∈ vs) := by
  intro p q hm hm'
  obtain ⟨a, o, f, xs, n, e, ho, hc, hd, hx⟩ := hp _ hm
  obtain ⟨a', o', f', xs', n', e', ho', hc', hd', hx'⟩ := hp _ hm'
  rw [e, e']
  obtain ⟨r, hr⟩ := row_lex (prog := prog) (w := w) (A := A) (s := s) (decide ((f :: xs).toArray.size < (f' :: xs').toArray.size)) true ((f :: xs).toArray.toList.zip (f' :: xs').toArray.toList) 0 fun z hz => by
    obtain ⟨h1, h2⟩ := List.of_mem_zip hz
    exact ⟨hx _ (by simpa using h1), hx' _ (by simpa using h2)⟩
  exact ⟨r, PySem.W.kat_lt ho hd ho' hd' hr⟩
theorem row_firsts {h : Heap} : ∀ {vs : List Value}, (∀ v ∈ vs, IsRow h v) → ∃ fs : List Value, PySem.W.KatTups h vs fs ∧ fs.length = vs.length ∧ ∀ f ∈ fs, ∃ y t, f = Value.str y t
  | [], _ => ⟨[], PySem.W.KatTups.nil, rfl, fun _ hm => by simp at hm⟩
  | v :: vs, hp => by
    obtain ⟨fs, h1, h2, h3⟩ := row_firsts (vs := vs) fun v' hm => hp v' (List.mem_cons_of_mem _ hm)
    obtain ⟨a, o, f, xs, n, e, ho, hc, hd, hx⟩ := hp v List.mem_cons_self
    subst e
    obtain ⟨y, t, rfl⟩ := hx f List.mem_cons_self
    refine ⟨.str y t :: fs, PySem.W.KatTups.cons ho hc hd rfl h1, by rw [List.length_cons, List.length_cons, h2], fun g hm => ?_⟩
    rcases List.mem_cons.mp hm with rfl | hm
    · exact ⟨y, t, rfl⟩
    · exact h3 g hm
theorem rows_sortable {a : Addr} {vs : List Value} (h0 : 0 < vs.length) (hp : ∀ v ∈ vs, IsRow s.heap v) (ha : ∀ o, s.heap.get? a = some o → o.cls ≠ .type "tuple") : Sortable prog w A s a vs := by
  intro h' keep
  have hp' : ∀ v ∈ vs, IsRow h' v := fun v hm => (hp v hm).keeps fun b o e c => keep b o (fun z => by subst z; exact ha o e c) e
  obtain ⟨fs, h1, h2, h3⟩ := row_firsts hp'
  refine ⟨tuples' true, fun Q E hq => ?_, row_tot hp'⟩
  refine PySem.W.kat_kind (T := .type "str") h1 (by omega) (fun f hm => ?_) (by rfl) ?_
  · obtain ⟨x, t, rfl⟩ := h3 f hm
    exact PySem.W.Looks.now
  · have e : (Value.type "str" != Value.type "tuple") = true := by first | decide +kernel | rfl | decide
    rw [e]
    exact hq
theorem sorted_rows {l : Addr} {vs : List Value} {Q : Value → Shared → Prop} (hl : s.heap.IsList l vs.toArray) (hz : vs.length ≤ sizeLine) (hp : ∀ v ∈ vs, IsRow s.heap v)
    (h : ∀ (h' : Heap) (d : Addr) (out : List Value), out.Perm vs → (∀ b o, s.heap.get? b = some o → h'.get? b = some o) → s.heap.objs.size ≤ d → (∃ n, h'.get? d = some (seqObj "list" out.toArray n)) → Q (.ref d) { s with heap := h' }) :
    wpAny (model prog w) A (call (.builtin "sorted") [.ref l]) Q E s := by
  refine sorted_any hl hz (fun h2 h₁ a ha k => ?_) fun out ho => ?_
  · refine rows_sortable (s := { s with heap := h₁ }) (by omega) (fun v hm => (hp v hm).keeps fun b o e _ => (k b o e).2) fun o e => ?_
    have e' : some o = some (seqObj "list" vs.toArray 0) := e.symm.trans ha
    cases e'
    intro c
    exact absurd (Value.type.inj c) (by decide)
  · exact h _ _ out ho (fun b o e => sortedAll_old e) (Nat.le_succ _) (sortedAll_at s.heap vs out.toArray)
end
def txD (r : List Str) : D := .tup (r.map D.str)
/-- sorted(rows), rows of texts, to a list that will change -/
def dSortRM (vs : List D) (h : DH) (Q : DK) : Prop := match vs with
  | [x] => ∃ ts : List (List Str), view h x = .lst (ts.map txD) ∧ (∀ r ∈ ts, r ≠ []) ∧ ∀ (ts' : List (List Str)) (p : Addr), ts'.Perm ts → h p = none → Q (.ref p) (dupd h p (.lst (ts'.map txD)))
  | _ => False
section
variable {K : PySem.W.Frag} {H : Hp} {N : NS}
theorem strs_vals : ∀ {ys : List Str} {us : List Value}, Vals (ys.map V.str) us → ∀ u ∈ us, ∃ (y : Str) (t : Tok), u = .str y t
  | [], _, .nil, u, h => by simp at h
  | y :: ys, _, .cons r t, u, h => by
    rcases List.mem_cons.mp h with rfl | h
    · obtain ⟨t, rfl⟩ := r
      exact ⟨y, t, rfl⟩
    · exact strs_vals t u h
theorem RepL.perm {vs ws : List V} (p : ws.Perm vs) : ∀ {ts : List (List Str)}, RepL K H N (ts.map txD) vs → ∃ ts2 : List (List Str), ts2.Perm ts ∧ RepL K H N (ts2.map txD) ws := by
  induction p.symm with
  | nil => intro ts r; exact ⟨ts, .refl _, r⟩
  | cons x q ih =>
    intro ts r
    cases ts with
    | nil => exact absurd (show _ = [] from r) (by simp)
    | cons t ts =>
      obtain ⟨v, vs', e, r1, r2⟩ := r
      cases e
      obtain ⟨ts', p', r'⟩ := ih q.symm r2
      exact ⟨t :: ts', .cons _ p', .cons r1 r'⟩
  | swap x y l =>
    intro ts r
    match ts, r with
    | [], r => exact absurd (show _ = [] from r) (by simp)
    | [t], r =>
      obtain ⟨v, vs', e, r1, r2⟩ := r
      cases e
      exact absurd (show _ = [] from r2) (by simp)
    | t :: t2 :: ts, r =>
      obtain ⟨v, vs', e, r1, v2, vs2, e2, r2, r3⟩ := r
      cases e
      cases e2
      exact ⟨t2 :: t :: ts, .swap _ _ _, .cons r2 (.cons r1 r3)⟩
  | trans q1 q2 ih1 ih2 =>
    intro ts r
    obtain ⟨t1, p1, r1⟩ := ih1 q1.symm r
    obtain ⟨t2, p2, r2⟩ := ih2 q2.symm r1
    exact ⟨t2, p2.trans p1, r2⟩
end
section
variable {X : Cx}
theorem rowsV_of {pins : List (Addr × Obj)} {s : Shared} {σ : L2.St} {H : Hp} {N : NS} (I : Inv X pins σ H s) : ∀ {ts : List (List Str)} {vs : List V} {its : List Value}, RepL X.K H N (ts.map txD) vs → (∀ r ∈ ts, r ≠ []) → Vals vs its → (∀ x ∈ vs, ∃ a, x = V.ref a) ∧ ∀ v ∈ its, IsRow s.heap v
  | [], vs, its, r, _, rv => by
    cases (show vs = [] from r)
    cases rv
    exact ⟨fun _ h => by simp at h, fun _ h => by simp at h⟩
  | t :: ts, vs, its, r, hn, rv => by
    obtain ⟨v, vs', rfl, r1, r2⟩ := r
    cases rv with
    | cons ra rb =>
      obtain ⟨h1, h2⟩ := rowsV_of I r2 (fun r h => hn r (List.mem_cons_of_mem _ h)) rb
      obtain ⟨a, ws, rfl, f, rs⟩ := r1
      have ew := rs.strs
      subst ew
      obtain ⟨us, ru, ht, hz⟩ := I.tuple f.sq
      refine ⟨fun x hx => ?_, fun x hx => ?_⟩
      · rcases List.mem_cons.mp hx with rfl | hx
        · exact ⟨a, rfl⟩
        · exact h1 x hx
      · rcases List.mem_cons.mp hx with rfl | hx
        · cases ra
          obtain ⟨o, ho, hc, n, hd⟩ := ht
          have hu := strs_vals ru
          cases us with
          | nil =>
            cases t with
            | nil => exact absurd rfl (hn [] List.mem_cons_self)
            | cons y t => cases ru
          | cons u us => exact ⟨a, o, u, us, n, rfl, ho, hc, hd, hu⟩
        · exact h2 x hx
theorem cd_sortRM : CallD X (.builtin "sorted") dSortRM := by
  intro pins s σ H vs us Q I rv ⟨xs, h, N, Q0, rx, R, q, p⟩
  unfold dSortRM at q
  split at q
  · rename_i x
    obtain ⟨v, rfl, r1⟩ := repl1 rfl rx
    obtain ⟨ts, ex, hn, q⟩ := q
    obtain ⟨a, ws, rfl, f, rs⟩ := view_lst R r1 ex
    obtain ⟨its, rv2, hl, hz⟩ := I.list (.inl f)
    rw [Vals.ref1 rv]
    obtain ⟨hr, hw⟩ := rowsV_of I rs hn rv2
    obtain ⟨e1, e2⟩ := refs_back rv2 hr
    refine sorted_rows hl.isList (by rw [← rv2.length]; exact hz) hw fun h' d out ho kp hd hn' => ?_
    have h3 : ∀ u ∈ out, ∃ a, u = Value.ref a := fun u hu => e2 u (ho.mem_iff.mp hu)
    obtain ⟨n, hn'⟩ := hn'
    have pe : (out.map backV).Perm ws := by rw [e1]; exact ho.map _
    obtain ⟨ts', pt, rs'⟩ := RepL.perm pe rs
    have nb : H d = none := I.hok.fresh hd
    obtain ⟨R2, e2'⟩ := lst_newM (xs := ts'.map txD) (vs := out.map backV) R nb rs'
    refine ⟨.ref d, upd H d (.lst (out.map backV)), I.laid (t' := s.toks) kp hd ⟨?_, out, n, vals_back h3, hn'⟩, rfl, p _ _ _ _ _ (q ts' d pt (R.none nb)) e2' R2 rfl⟩
    rw [pe.length_eq]
    exact hz
  · exact q.elim
end
end DL

/-! D25: != of an own object whose class has an own ==; own objects beside other values. -/
namespace DL
open PySem PySem.Spec PySem.W L2 PyProof.Rows
section
variable {prog : Program} {w : World} {A : Around} {E : Value → Shared → Prop} {s : Shared} {K : Frag} {x C f : Addr} {ox : Obj} {od : Option Obj} {b : Value}
theorem ifBound_B {M : Model} {name : Str} {id : String} {args : List Value} {Q : Option Value → Shared → Prop} (X : K.In s.heap) (I : InstAt s.heap x ox C od) (hs : findIn K (.ref C) name = some (some (.builtin id))) (hb : ∀ self, bindSpecial (.builtin id) self = pure (.builtin id, [self]))
    (h : wpAny M A (call (.builtin id) (.ref x :: args)) (fun v => Q (some v)) E s) : wpAny M A (callSpecialIfBound? (.ref x) name args) Q E s := by
  simp only [callSpecialIfBound?, bindSpecialIfBound?]
  refine wpAny_holding (wpAny_bind (wpAny_bind (wpAny_bind (I.type.here ((looks_findIn X hs).here ?_)))))
  simp only [hb]
  refine wpAny_bind (wpAny_askSetting (wpAny_ite ?_))
  have fin : wpAny M A (call (.builtin id) ([.ref x] ++ args) >>= fun v => pure (some v)) Q E s := wpAny_bind (wpAny_mono h (fun v s' h' => wpAny_pure h') fun _ _ h' => h')
  split
  · exact wpAny_bind (wpAny_pure (wpAny_pure fin))
  · exact wpAny_tryCatch (wpAny_bind (wpAny_pure (wpAny_pure fin)))
theorem objNe_body (hu : A.units < cLine) (X : K.In s.heap) (I : InstAt s.heap x ox C od) (he : findIn K (.ref C) "__eq__" = some (some (.ref f))) (hf : isFn K (.ref f) = true) {Q : Fin → Shared → Prop}
    (hcall : wpAny (model prog w) A (call (.ref f) [.ref x, b]) (fun v s' => ∃ r, v = .bool r ∧ Q (.done (.ret (.bool (!r)))) s') E s) :
    wpAny (model prog w) A (Builtin.«object.__ne__» ⟨[.ref x, b], []⟩) Q E s := by
  unfold Builtin.«object.__ne__»
  repeat (first
    | with_reducible refine wpAny_cRoomFor hu ?_
    | (refine wpAny_bind (m := callSpecialIfBound? (.ref x) (Str.ofString "__eq__") [b]) (ifBound_K X I he hf (wpAny_mono hcall (fun r s' hr => by
          obtain ⟨b, rfl, hq⟩ := hr
          repeat (first | exact hq | exact wpAny_pure hq | exact wpAny_truthy_bool hq | (refine wpAny_bind (m := truthy (.bool _)) (wpAny_truthy_bool ?_)) | wp_step)) fun _ _ e => e)))
    | wp_step)
theorem check_inst {M : Model} {id owner n : String} {rest : List Value} {Q : Unit → Shared → Prop} (hk : builtinKind id = some .slot) (hs : splitId id = some (owner, n)) (ha : argsOk id ⟨.ref x :: rest, []⟩) (X : K.In s.heap) (I : InstAt s.heap x ox C od)
    (hsub : subIn K (.ref C) (.type owner) = some true) (hq : Q () s) : wpAny M A (checkBuiltinCall id ⟨.ref x :: rest, []⟩) Q E s := by
  simp only [checkBuiltinCall, hk, hs]
  refine wpAny_bind ?_
  unfold isInstance
  refine wpAny_bind (I.type.here ((looks_subIn X hsub).here ?_))
  cases hsig : Manifest.signature? id with
  | none => exact wpAny_pure hq
  | some sig =>
    simp only [argsOk, hsig] at ha
    have h2 : Bind.checkArgs id sig ⟨.ref x :: rest, []⟩ = pure () := ha
    show wpAny M A (Bind.checkArgs id sig ⟨.ref x :: rest, []⟩) Q E _
    rw [h2]; exact wpAny_pure hq
theorem ne_K {Q : Value → Shared → Prop} {h₀ : Heap} {L : Addr} {m : Str → Option Value} {tb : Value} (hu : A.units + 1 < cLine) (F : Fr h₀ L s.heap m) (X₀ : K.In h₀) (I : InstAt s.heap x ox C od) (hb : Looks (model prog w) s.heap (typeOf b) tb) (hn : notFirst K C tb = true)
    (hs : findIn K (.ref C) "__ne__" = some (some (.builtin "object.__ne__"))) (hsub : subIn K (.ref C) (.type "object") = some true) (he : findIn K (.ref C) "__eq__" = some (some (.ref f))) (hf : isFn K (.ref f) = true)
    (h : wpAny (model prog w) A.in1 (call (.ref f) [.ref x, b]) (fun v s' => ∃ r, v = .bool r ∧ Q (.bool (!r)) s') E s) : wpAny (model prog w) A (richCompare .NotEq (.ref x) b) Q E s := by
  have X := X₀.keeps F.keep
  have one : wpAny (model prog w) A (tryCompare (.ref x) (cmpInfo .NotEq).2.1 b) (fun r s' => ∃ v, r = some v ∧ Q v s') E s := by
    unfold tryCompare
    refine wpAny_bind (ifBound_B X I hs PySem.F.cmp_object.ne.bind (wpAny_call (codeAny_call_builtin PySem.F.cmp_object.ne.plain PySem.F.cmpEntry_ne (check_inst PySem.F.cmpKind_ne PySem.F.cmpSplit_ne (PySem.F.cmpArgs_ne _ _) X I hsub
      (objNe_body (by show A.in1.units < _; exact hu) X I he hf (wpAny_mono h (fun v s' hv => ?_) fun _ _ e => e))))))
    obtain ⟨r, rfl, hq⟩ := hv
    refine ⟨r, rfl, ?_⟩
    first
    | exact wpAny_pure ⟨_, rfl, hq⟩
    | exact ⟨_, rfl, hq⟩
    | exact wpAny_pure (wpAny_pure ⟨_, rfl, hq⟩)
  unfold richCompare
  simp only [oneThing_ref]
  refine wpAny_holding (wpAny_bind (wpAny_cRoomFor (Nat.lt_of_succ_lt hu) ?_))
  refine wpAny_bind (I.type.here (wpAny_bind (hb.here ?_)))
  split
  · rename_i q
    have e : subIn K tb (.ref C) = some false := by
      rcases Bool.or_eq_true_iff.mp hn with e | e
      · rw [beq_iff_eq.mp e] at q; simp at q
      · exact beq_iff_eq.mp e
    refine wpAny_bind ((looks_subIn X e).here ?_)
    simp only [Bool.false_eq_true, if_false]
    refine wpAny_bind (wpAny_mono one (fun r s' z => ?_) fun _ _ e => e)
    obtain ⟨v, rfl, hq⟩ := z
    exact wpAny_pure hq
  · refine wpAny_bind (wpAny_pure ?_)
    simp only [Bool.false_eq_true, if_false]
    refine wpAny_bind (wpAny_mono one (fun r s' z => ?_) fun _ _ e => e)
    obtain ⟨v, rfl, hq⟩ := z
    exact wpAny_pure hq
end
end DL

/-! D26: a value of a built-in kind == an own object. -/
namespace PySem.SeqAt
open AutoSeq1 (wpAny_loadPart')
open MeetsSeq PySem.W
theorem int_eq_declines_ins (b : Int) (u : Tok) (l C dx : Addr) :
    Meets (Builtin.«int.__eq__» ⟨[.int b u, .ref l], []⟩) (fun _ R s => s.heap.get? l = some (instObj C dx) ∧ R (.ok (.ret .notImplemented)) s) :=
  .of_wp fun prog w A R s h => by obtain ⟨hp, g, d, tk, os⟩ := s; obtain ⟨hl, h⟩ := h; wp_walk using wpAny_loadPart' hl, wpAny_load hl; exact ⟨_, rfl, h⟩
theorem int_eq_declines_insB (b : Bool) (l C dx : Addr) :
    Meets (Builtin.«int.__eq__» ⟨[.bool b, .ref l], []⟩) (fun _ R s => s.heap.get? l = some (instObj C dx) ∧ R (.ok (.ret .notImplemented)) s) :=
  .of_wp fun prog w A R s h => by obtain ⟨hp, g, d, tk, os⟩ := s; obtain ⟨hl, h⟩ := h; wp_walk using wpAny_loadPart' hl, wpAny_load hl; exact ⟨_, rfl, h⟩
theorem str_eq_declines_ins (b : Str) (u : Tok) (l C dx : Addr) :
    Meets (Builtin.«str.__eq__» ⟨[.str b u, .ref l], []⟩) (fun _ R s => s.heap.get? l = some (instObj C dx) ∧ R (.ok (.ret .notImplemented)) s) :=
  .of_wp fun prog w A R s h => by obtain ⟨hp, g, d, tk, os⟩ := s; obtain ⟨hl, h⟩ := h; wp_walk using wpAny_loadPart' hl, wpAny_load hl; exact ⟨_, rfl, h⟩
theorem list_eq_declines_ins {K : Frag} {C : Addr} (e : subIn K (.ref C) (.type "list") = some false) (l x dx : Addr) (items : Array Value) (n : Nat) (dd : Option Addr) (sl : Array (Option Value)) :
    Meets (Builtin.«list.__eq__» ⟨[.ref l, .ref x], []⟩) (fun _ R s => K.In s.heap ∧ s.heap.get? l = some { cls := .type "list", dict := dd, data := .seq items n, slots := sl } ∧ s.heap.get? x = some (instObj C dx) ∧ R (.ok (.ret .notImplemented)) s) :=
  .of_wp fun prog w A R s h => by
    obtain ⟨hp, g, d, tk, os⟩ := s
    obtain ⟨X, hl, hx, h⟩ := h
    wp_walk using wpAny_loadPart' hl, wpAny_loadPart' hx, (looks_subIn X e).here
    exact ⟨_, rfl, h⟩
theorem tuple_eq_declines_ins {K : Frag} {C : Addr} (e : subIn K (.ref C) (.type "tuple") = some false) (l x dx : Addr) (items : Array Value) (n : Nat) (dd : Option Addr) (sl : Array (Option Value)) :
    Meets (Builtin.«tuple.__eq__» ⟨[.ref l, .ref x], []⟩) (fun _ R s => K.In s.heap ∧ s.heap.get? l = some { cls := .type "tuple", dict := dd, data := .seq items n, slots := sl } ∧ s.heap.get? x = some (instObj C dx) ∧ R (.ok (.ret .notImplemented)) s) :=
  .of_wp fun prog w A R s h => by
    obtain ⟨hp, g, d, tk, os⟩ := s
    obtain ⟨X, hl, hx, h⟩ := h
    wp_walk using wpAny_loadPart' hl, wpAny_loadPart' hx, (looks_subIn X e).here
    exact ⟨_, rfl, h⟩
theorem dict_eq_declines_ins {K : Frag} {C : Addr} (e : subIn K (.ref C) (.type "dict") = some false) (l x dx : Addr) (o : Obj) (es : Array DictEntry) (ep : Nat) (hc : o.cls = .type "dict") (hd : o.data = .dict es ep) :
    Meets (Builtin.«dict.__eq__» ⟨[.ref l, .ref x], []⟩) (fun _ R s => K.In s.heap ∧ s.heap.get? l = some o ∧ s.heap.get? x = some (instObj C dx) ∧ R (.ok (.ret .notImplemented)) s) :=
  .of_wp fun prog w A R s h => by
    obtain ⟨hp, g, d, tk, os⟩ := s
    obtain ⟨X, hl, hx, h⟩ := h
    obtain ⟨cls, dd, dt, sl⟩ := o
    simp only at hc hd
    subst hc hd
    wp_walk using wpAny_loadPart' hl, wpAny_loadPart' hx, (looks_subIn X e).here
    exact ⟨_, rfl, h⟩
end PySem.SeqAt

/-! D27: own objects compared with anything. -/
namespace DL
open PySem PySem.Spec PySem.W L2 PyProof.Rows
def kindsD : List String := ["NoneType", "bool", "int", "str", "tuple", "list", "dict"]
structure EqS (K : PySem.W.Frag) (C f : Addr) : Prop where
  eq : PySem.W.findIn K (.ref C) "__eq__" = some (some (.ref f))
  fn : PySem.W.isFn K (.ref f) = true
  ne : PySem.W.findIn K (.ref C) "__ne__" = some (some (.builtin "object.__ne__"))
  ob : PySem.W.subIn K (.ref C) (.type "object") = some true
  up : ∀ T ∈ kindsD, PySem.W.subIn K (.ref C) (.type T) = some false
  dn : ∀ T ∈ kindsD, PySem.W.subIn K (.type T) (.ref C) = some false
/-- a value that an own object may be compared with -/
def AnyD (C : Addr) (h : DH) (y : D) : Prop := (∃ b gs, y = .ref b ∧ h b = some (.ins C gs)) ∨ tyN (view h y) ≠ "?"
def dEqX (C : Addr) (sp : DSp) (x y : D) (h : DH) (Q : DK) : Prop := ∃ a fs, x = .ref a ∧ h a = some (.ins C fs) ∧ AnyD C h y ∧ sp [.ref a, y] h (fun d h' => ∃ r, d = .bl r ∧ Q (.bl r) h') (fun _ _ _ => False)
def dNeX (C : Addr) (sp : DSp) (x y : D) (h : DH) (Q : DK) : Prop := ∃ a fs, x = .ref a ∧ h a = some (.ins C fs) ∧ AnyD C h y ∧ sp [.ref a, y] h (fun d h' => ∃ r, d = .bl r ∧ Q (.bl (!r)) h') (fun _ _ _ => False)
def dEqXl (C : Addr) (sp : DSp) (x y : D) (h : DH) (Q : DK) : Prop := ∃ a fs, y = .ref a ∧ h a = some (.ins C fs) ∧ tyN (view h x) ≠ "?" ∧ sp [.ref a, x] h (fun d h' => ∃ r, d = .bl r ∧ Q (.bl r) h') (fun _ _ _ => False)
section
variable {X : Cx} {k : Nat} {f C : Addr} {fd : FuncData} {ps : List Str} {sp : DSp}
theorem rd_typeIs {pins : List (Addr × Obj)} {σ : L2.St} {H : Hp} {s : Shared} {h : DH} {N : NS} {d : D} {v : V} {u : Value} (I : Inv X pins σ H s) (R : HRep X.K H h N) (r : Rep X.K H N d v) (ru : RelV v u) (hd : tyN (view h d) ≠ "?") :
    s.TypeIs u (tyN (view h d)) ∧ tyN (view h d) ∈ kindsD := by
  refine ⟨?_, tyN_all hd⟩
  cases ex : view h d with
  | non => cases view_other ex (fun _ z => nomatch z) (fun _ z => nomatch z); cases rep_non r; cases ru; rfl
  | bl b => cases view_other ex (fun _ z => nomatch z) (fun _ z => nomatch z); cases rep_bl r; cases ru; rfl
  | int i => cases view_other ex (fun _ z => nomatch z) (fun _ z => nomatch z); cases rep_int r; obtain ⟨t, rfl⟩ := ru; rfl
  | str z => cases view_other ex (fun _ z => nomatch z) (fun _ z => nomatch z); cases rep_str r; obtain ⟨t, rfl⟩ := ru; rfl
  | tup zs =>
    cases view_other ex (fun _ z => nomatch z) (fun _ z => nomatch z)
    obtain ⟨a, ws, rfl, fz, rs⟩ := r
    cases ru
    obtain ⟨its, _, ⟨o, ho, hc, _⟩, _⟩ := I.tuple fz.sq
    exact ⟨o, ho, hc⟩
  | lst zs =>
    obtain ⟨a, ws, rfl, fz, rs⟩ := view_lst R r ex
    cases ru
    obtain ⟨its, _, ⟨o, n, ho, hc, _⟩, _⟩ := I.list (.inl fz)
    exact ⟨o, ho, hc⟩
  | dct =>
    cases view_other ex (fun _ z => nomatch z) (fun _ z => nomatch z)
    obtain ⟨a, rfl, _, fz⟩ := r
    cases ru
    obtain ⟨_, _, vs, _, o, _, _, ho, hx, _⟩ := fz.ok I.hok
    exact ⟨o, ho, hx.1⟩
  | scr ns =>
    cases view_other ex (fun _ z => nomatch z) (fun _ z => nomatch z)
    obtain ⟨a, rfl, fz⟩ := r
    cases ru
    obtain ⟨its, _, ⟨o, n, ho, hc, _⟩, _⟩ := I.list fz.sq
    exact ⟨o, ho, hc⟩
  | ref a => rw [ex] at hd; exact absurd rfl hd
theorem any_looks {pins : List (Addr × Obj)} {σ : L2.St} {H : Hp} {s : Shared} {h : DH} {N : NS} {d : D} {v : V} {u : Value} (E : EqS X.K C f) (I : Inv X pins σ H s) (R : HRep X.K H h N) (r : Rep X.K H N d v) (ru : RelV v u) (hd : AnyD C h d) :
    ∃ tb, PySem.W.Looks (model X.prog X.w) s.heap (typeOf u) tb ∧ PySem.W.notFirst X.K C tb = true := by
  rcases hd with ⟨b, gs, rfl, eb⟩ | hd
  · cases rep_ref r
    cases (show u = Value.ref b from ru)
    obtain ⟨dy, gs', eH', _⟩ := R.at_ b _ eb
    obtain ⟨mB, J', _⟩ := ins_get I.hok eH'
    obtain ⟨od', J', _⟩ := J'.look
    exact ⟨.ref C, J'.type, by simp [PySem.W.notFirst]⟩
  · obtain ⟨h1, h2⟩ := rd_typeIs I R r ru hd
    refine ⟨.type (tyN (view h d)), ?_, ?_⟩
    · cases u with
      | ref a =>
        obtain ⟨o, ho, hc⟩ := h1
        exact fun A Q E' s' kp q => wpAny_typeOf_ref (kp _ _ ho) (by rw [hc]; exact q)
      | _ => exact fun A Q E' s' kp q => wpAny_typeOf (s := s') h1 q
    · show (_ || _) = true
      rw [E.dn _ h2]; simp
theorem eq_left {prog : Program} {w : World} {A : Around} {E : Value → Shared → Prop} {s : Shared} {K : Frag} {x C f : Addr} {ox : Obj} {od : Option Obj} {b : Value} {T id : String} {Q : Value → Shared → Prop} (hu : A.units < cLine) (X : K.In s.heap) (I : InstAt s.heap x ox C od) (hT : s.TypeIs b T)
    (hsub : subIn K (.ref C) (.type T) = some false) (S : Slot T (cmpInfo .Eq).2.1 id) (hd : ∀ Q' : Value → Shared → Prop, Q' .notImplemented s → wpAny (model prog w) A (call (.builtin id) [b, .ref x]) Q' E s) (hs : findIn K (.ref C) "__eq__" = some (some (.ref f))) (hf : isFn K (.ref f) = true)
    (h : wpAny (model prog w) A (call (.ref f) [.ref x, b]) (PySem.W.CmpBack Q) E s) : wpAny (model prog w) A (richCompare .Eq b (.ref x)) Q E s := by
  have one : wpAny (model prog w) A (tryCompare (.ref x) "__eq__" b) (fun r s' => ∃ v, r = some v ∧ Q v s') E s := by
    unfold tryCompare
    refine wpAny_bind (ifBound_K X I hs hf (wpAny_mono h (fun v s' hv => ?_) fun _ _ e => e))
    cases v <;> first | exact hv.elim | exact wpAny_pure ⟨_, rfl, hv⟩
  have S' : Slot T "__eq__" id := S
  have hne : (Value.type T != Value.ref C) = true := rfl
  simp only [richCompare, cmpInfo, hT.oneThing_none]
  refine wpAny_holding (wpAny_bind (wpAny_cRoomFor hu ?_))
  refine wpAny_bind (wpAny_typeOf hT (wpAny_bind (I.type.here ?_)))
  simp only [hne, if_true]
  refine wpAny_bind ((looks_subIn X hsub).here ?_)
  simp only [Bool.false_eq_true, if_false, Bool.not_false, if_true]
  refine wpAny_bind (m := tryCompare b _ (.ref x)) (wpAny_tryCompare_declines hT S' (hd _ ⟨rfl, ?_⟩))
  refine wpAny_bind (m := tryCompare (.ref x) _ b) (wpAny_mono one (fun r s' z => ?_) fun _ _ e => e)
  obtain ⟨v, rfl, hq⟩ := z
  exact wpAny_pure hq
/-- what a built-in kind's own == says of an own object -/
theorem declines {pins : List (Addr × Obj)} {σ : L2.St} {H : Hp} {s : Shared} {h : DH} {N : NS} {d : D} {v : V} {u : Value} {a : Addr} {E : Value → Shared → Prop} {dx : Addr} (k : EqS X.K C f) (I : Inv X pins σ H s) (R : HRep X.K H h N) (r : Rep X.K H N d v) (ru : RelV v u) (hd : tyN (view h d) ≠ "?")
    (ha : s.heap.get? a = some (PySem.W.instObj C dx)) : ∃ id, Slot (tyN (view h d)) (cmpInfo .Eq).2.1 id ∧ ∀ Q' : Value → Shared → Prop, Q' .notImplemented s → wpAny (model X.prog X.w) X.A (call (.builtin id) [u, .ref a]) Q' E s := by
  obtain ⟨hT, hk⟩ := rd_typeIs I R r ru hd
  cases ex : view h d with
  | non =>
    rw [ex] at hT hk
    cases view_other ex (fun _ z => nomatch z) (fun _ z => nomatch z); cases rep_non r; cases ru
    exact ⟨_, PySem.F.slot_NoneType_eq, fun Q' q => call_gives PySem.F.slot_NoneType_eq hT PySem.F.entry_NoneType_eq (PySem.F.args_NoneType_eq_2 _ _) (SeqAt.NoneType___eq___none_ref_0 a) q⟩
  | bl b =>
    rw [ex] at hT hk
    cases view_other ex (fun _ z => nomatch z) (fun _ z => nomatch z); cases rep_bl r; cases ru
    exact ⟨_, PySem.F.slot_bool_eq, fun Q' q => call_meets PySem.F.slot_bool_eq hT PySem.F.entry_int_eq (PySem.F.args_int_eq_2 _ _) (SeqAt.int_eq_declines_insB b a C dx) ⟨ha, q⟩⟩
  | int i =>
    rw [ex] at hT hk
    cases view_other ex (fun _ z => nomatch z) (fun _ z => nomatch z); cases rep_int r; obtain ⟨t, rfl⟩ := ru
    exact ⟨_, PySem.F.slot_int_eq, fun Q' q => call_meets PySem.F.slot_int_eq hT PySem.F.entry_int_eq (PySem.F.args_int_eq_2 _ _) (SeqAt.int_eq_declines_ins i t a C dx) ⟨ha, q⟩⟩
  | str z =>
    rw [ex] at hT hk
    cases view_other ex (fun _ z => nomatch z) (fun _ z => nomatch z); cases rep_str r; obtain ⟨t, rfl⟩ := ru
    exact ⟨_, PySem.F.slot_str_eq, fun Q' q => call_meets PySem.F.slot_str_eq hT PySem.F.entry_str_eq (PySem.F.args_str_eq_2 _ _) (SeqAt.str_eq_declines_ins z t a C dx) ⟨ha, q⟩⟩
  | tup zs =>
    rw [ex] at hT hk
    cases view_other ex (fun _ z => nomatch z) (fun _ z => nomatch z)
    obtain ⟨b, ws, rfl, fz, rs⟩ := r
    cases ru
    obtain ⟨its, _, ⟨⟨cls, dd, dt, sl⟩, ho, hc, n, hdd⟩, _⟩ := I.tuple fz.sq
    simp only at hc hdd
    subst hc hdd
    exact ⟨_, PySem.F.slot_tuple_eq, fun Q' q => call_meets PySem.F.slot_tuple_eq hT PySem.F.entry_tuple_eq (PySem.F.args_tuple_eq_2 _ _) (SeqAt.tuple_eq_declines_ins (k.up _ hk) b a dx _ n dd sl) ⟨I.kIn, ho, ha, q⟩⟩
  | lst zs =>
    rw [ex] at hT hk
    obtain ⟨b, ws, rfl, fz, rs⟩ := view_lst R r ex
    cases ru
    obtain ⟨its, _, ⟨⟨cls, dd, dt, sl⟩, n, ho, hc, hdn, hdd⟩, _⟩ := I.list (.inl fz)
    simp only at hc hdd
    subst hc hdd
    exact ⟨_, PySem.F.slot_list_eq, fun Q' q => call_meets PySem.F.slot_list_eq hT PySem.F.entry_list_eq (PySem.F.args_list_eq_2 _ _) (SeqAt.list_eq_declines_ins (k.up _ hk) b a dx _ n dd sl) ⟨I.kIn, ho, ha, q⟩⟩
  | dct =>
    rw [ex] at hT hk
    cases view_other ex (fun _ z => nomatch z) (fun _ z => nomatch z)
    obtain ⟨b, rfl, _, fz⟩ := r
    cases ru
    obtain ⟨_, _, vs, _, o, es, ep, ho, hx, hdd, _⟩ := fz.ok I.hok
    exact ⟨_, PySem.F.slot_dict_eq, fun Q' q => call_meets PySem.F.slot_dict_eq hT PySem.F.entry_dict_eq (PySem.F.args_dict_eq_2 _ _) (SeqAt.dict_eq_declines_ins (k.up _ hk) b a dx o es ep hx.1 hdd) ⟨I.kIn, ho, ha, q⟩⟩
  | scr ns =>
    rw [ex] at hT hk
    cases view_other ex (fun _ z => nomatch z) (fun _ z => nomatch z)
    obtain ⟨b, rfl, fz⟩ := r
    cases ru
    obtain ⟨its, _, ⟨⟨cls, dd, dt, sl⟩, n, ho, hc, hdn, hdd⟩, _⟩ := I.list fz.sq
    simp only at hc hdd
    subst hc hdd
    exact ⟨_, PySem.F.slot_list_eq, fun Q' q => call_meets PySem.F.slot_list_eq hT PySem.F.entry_list_eq (PySem.F.args_list_eq_2 _ _) (SeqAt.list_eq_declines_ins (k.up _ hk) b a dx _ n dd sl) ⟨I.kIn, ho, ha, q⟩⟩
  | ref b => rw [ex] at hd; exact absurd rfl hd
theorem od_eqX (E : EqS X.K C f) (F : FnG X.prog X.w X.K X.mg X.base k f fd ps (liftSp X.K sp)) (hr : Room k X.A) (hgd : X.A.guards = some []) (hb : Binds X.K fd ps []) : OpD X (compareOp .Eq) (dEqX C sp) := by
  intro pins s σ H v1 v2 vv uu Q I rv ru ⟨x, y, h, N, Q0, rx, ry, R, q, p⟩
  obtain ⟨a, fs, rfl, ea, hy, q⟩ := q
  cases rep_ref rx
  cases (show vv = Value.ref a from rv)
  obtain ⟨dx, fs', eH, _⟩ := R.at_ a _ ea
  obtain ⟨mA, J, _⟩ := ins_get I.hok eH
  obtain ⟨od, J, _⟩ := J.look
  obtain ⟨m, hF⟩ := I.fr
  obtain ⟨tb, L, hn⟩ := any_looks E I R ry ru hy
  show wpAny (model X.prog X.w) X.A (richCompare .Eq (.ref a) uu) (EP X pins σ Q) X.xe s
  refine PySem.W.cmp_K (op := .Eq) (tb := tb) hr.units0 hF I.ok.mod.kin J L hn E.eq E.fn ?_
  have q' : liftSp X.K sp [.ref a, v2] H (fun v H' => ∃ r, v = .bl r ∧ Q (.bl r) H') (fun _ _ _ => False) :=
    ⟨[.ref a, y], h, N, _, _, .cons rfl (.cons ry rfl), R, q, fun d h' N' v H' q e R' r => by
      obtain ⟨b', rfl, q⟩ := q
      exact ⟨b', rep_bl r, p _ _ _ _ _ q e R' rfl⟩, fun _ _ _ _ _ _ z => z.elim⟩
  have hl : [Value.ref a, uu].length = ps.length := F.len _ _ _ _ q'
  have bd := hb s [.ref a, uu] I.kIn (by rw [List.append_nil]; exact hl)
  rw [List.append_nil] at bd
  refine wpAny_call (codeAny_mono (F.run _ X.stack s H ⟨[.ref a, uu], []⟩ [.ref a, uu] [.ref a, v2] _ (fun _ _ _ => False) hr hgd I.env0 bd (.cons rfl (.cons ru .nil)) q') fun y s' hy => ?_)
  match y, hy with
  | .error er, hy =>
    obtain ⟨_, _, _, _, _, _, _, _, _, _, _, _, z⟩ := hy
    exact z.elim
  | .ok .next, hy => exact False.elim hy
  | .ok .brk, hy => exact False.elim hy
  | .ok .cont, hy => exact False.elim hy
  | .ok (.ret u), hy =>
    obtain ⟨v, H', I3, rv, r, rfl, q3⟩ := I.after hy
    cases rv
    exact ⟨.bl r, H', I3, rfl, q3⟩
theorem od_eqXl (E : EqS X.K C f) (F : FnG X.prog X.w X.K X.mg X.base k f fd ps (liftSp X.K sp)) (hr : Room k X.A) (hgd : X.A.guards = some []) (hb : Binds X.K fd ps []) : OpD X (compareOp .Eq) (dEqXl C sp) := by
  intro pins s σ H v1 v2 vv uu Q I rv ru ⟨x, y, h, N, Q0, rx, ry, R, q, p⟩
  obtain ⟨a, fs, rfl, ea, hx, q⟩ := q
  cases rep_ref ry
  cases (show uu = Value.ref a from ru)
  obtain ⟨dx, fs', eH, _⟩ := R.at_ a _ ea
  obtain ⟨mA, J0, _⟩ := ins_get I.hok eH
  obtain ⟨od, J, _⟩ := J0.look
  obtain ⟨hT, hk⟩ := rd_typeIs I R rx rv hx
  obtain ⟨id, S, hd⟩ := declines (E := X.xe) E I R rx rv hx J.at_
  show wpAny (model X.prog X.w) X.A (richCompare .Eq vv (.ref a)) (EP X pins σ Q) X.xe s
  refine eq_left hr.units0 I.kIn J hT (E.up _ hk) S hd E.eq E.fn ?_
  have q' : liftSp X.K sp [.ref a, v1] H (fun v H' => ∃ r, v = .bl r ∧ Q (.bl r) H') (fun _ _ _ => False) :=
    ⟨[.ref a, x], h, N, _, _, .cons rfl (.cons rx rfl), R, q, fun d h' N' v H' q e R' r => by
      obtain ⟨b', rfl, q⟩ := q
      exact ⟨b', rep_bl r, p _ _ _ _ _ q e R' rfl⟩, fun _ _ _ _ _ _ z => z.elim⟩
  have hl : [Value.ref a, vv].length = ps.length := F.len _ _ _ _ q'
  have bd := hb s [.ref a, vv] I.kIn (by rw [List.append_nil]; exact hl)
  rw [List.append_nil] at bd
  refine wpAny_call (codeAny_mono (F.run _ X.stack s H ⟨[.ref a, vv], []⟩ [.ref a, vv] [.ref a, v1] _ (fun _ _ _ => False) hr hgd I.env0 bd (.cons rfl (.cons rv .nil)) q') fun y s' hy => ?_)
  match y, hy with
  | .error er, hy =>
    obtain ⟨_, _, _, _, _, _, _, _, _, _, _, _, z⟩ := hy
    exact z.elim
  | .ok .next, hy => exact False.elim hy
  | .ok .brk, hy => exact False.elim hy
  | .ok .cont, hy => exact False.elim hy
  | .ok (.ret u), hy =>
    obtain ⟨v, H', I3, rv, r, rfl, q3⟩ := I.after hy
    cases rv
    exact ⟨.bl r, H', I3, rfl, q3⟩
theorem od_neX (E : EqS X.K C f) (F : FnG X.prog X.w X.K X.mg X.base k f fd ps (liftSp X.K sp)) (hr : Room (k + 1) X.A) (hgd : X.A.guards = some []) (hb : Binds X.K fd ps []) : OpD X (compareOp .NotEq) (dNeX C sp) := by
  intro pins s σ H v1 v2 vv uu Q I rv ru ⟨x, y, h, N, Q0, rx, ry, R, q, p⟩
  obtain ⟨a, fs, rfl, ea, hy, q⟩ := q
  cases rep_ref rx
  cases (show vv = Value.ref a from rv)
  obtain ⟨dx, fs', eH, _⟩ := R.at_ a _ ea
  obtain ⟨mA, J, _⟩ := ins_get I.hok eH
  obtain ⟨od, J, _⟩ := J.look
  obtain ⟨m, hF⟩ := I.fr
  obtain ⟨tb, L, hn⟩ := any_looks E I R ry ru hy
  show wpAny (model X.prog X.w) X.A (richCompare .NotEq (.ref a) uu) (EP X pins σ Q) X.xe s
  refine ne_K (tb := tb) (by have := hr.un; omega) hF I.ok.mod.kin J L hn E.ne E.ob E.eq E.fn ?_
  have q' : liftSp X.K sp [.ref a, v2] H (fun v H' => ∃ r, v = .bl r ∧ Q (.bl (!r)) H') (fun _ _ _ => False) :=
    ⟨[.ref a, y], h, N, _, _, .cons rfl (.cons ry rfl), R, q, fun d h' N' v H' q e R' r => by
      obtain ⟨b', rfl, q⟩ := q
      exact ⟨b', rep_bl r, p _ _ _ _ _ q e R' rfl⟩, fun _ _ _ _ _ _ z => z.elim⟩
  have hl : [Value.ref a, uu].length = ps.length := F.len _ _ _ _ q'
  have bd := hb s [.ref a, uu] I.kIn (by rw [List.append_nil]; exact hl)
  rw [List.append_nil] at bd
  refine wpAny_call (codeAny_mono (F.run X.A.in1 X.stack s H ⟨[.ref a, uu], []⟩ [.ref a, uu] [.ref a, v2] _ (fun _ _ _ => False) hr.in1 hgd I.env0.in1 bd (.cons rfl (.cons ru .nil)) q') fun y s' hy => ?_)
  match y, hy with
  | .error er, hy =>
    obtain ⟨_, _, _, _, _, _, _, _, _, _, _, _, z⟩ := hy
    exact z.elim
  | .ok .next, hy => exact False.elim hy
  | .ok .brk, hy => exact False.elim hy
  | .ok .cont, hy => exact False.elim hy
  | .ok (.ret u), hy =>
    obtain ⟨v, H', I3, rv, r, rfl, q3⟩ := I.after hy
    cases rv
    exact ⟨r, rfl, .bl (!r), H', I3, rfl, q3⟩
end
end DL

/-! D28: comprehensions where an exception is handled. -/
namespace DL
open PySem PySem.Spec L2 PyProof.Rows
theorem takes0N {X : Cx} : L2N.Takes X (fun _ _ _ _ => False) := fun _ _ x => by
  obtain ⟨_, _, _, _, _, _, _, _, _, _, _, _, _, _, _, _, z⟩ := x
  exact z.elim
/-- the handled exception is pinned -/
def HotP (X : Cx) (pins : List (Addr × Obj)) : Prop := ∃ p : Addr × Obj, L2H.Hot1 X.A p ∧ p ∈ X.pn ++ pins
theorem HotP.at {X : Cx} {pins : List (Addr × Obj)} {σ : L2.St} {H : Hp} {s : Shared} (c : HotP X pins) (I : Inv X pins σ H s) : ∃ y, HotX.HotAt X.A y s.heap := by
  obtain ⟨p, ⟨e, v, d, k⟩, m⟩ := c
  exact ⟨p.1, e, p.2, v, (I.pin p m).1, d, k⟩
section
variable {prog : Program} {w : World} {A : Around} {E : Value → Shared → Prop} {s : Shared}
/-- a list's iterator is at its end -/
theorem next_list_done {it l y : Addr} {i : Nat} {items : Array Value} {Q : Option Value → Shared → Prop} (hot : HotX.HotAt A y s.heap) (hit : s.heap.IsListIter it l i) (hl : s.heap.IsList l items) (hx : items[i]? = none)
    (hQ : ∀ g, (∀ b o, b ≠ it → s.heap.get? b = some o → g.get? b = some o) → Q none { s with heap := g }) : wpAny (model prog w) A (pyNext (.ref it)) Q E s := by
  obtain ⟨oi, gi, ci, di⟩ := id hit
  obtain ⟨ol, gl, _, nl, dl⟩ := hl
  obtain ⟨eh, oy, vy, gy, dy, cy⟩ := hot
  have ny : y ≠ it := fun e => by
    subst e
    rw [gi] at gy
    cases gy
    rw [di] at dy
    cases dy
    cases cy
  unfold pyNext
  refine wpAny_bind (wpAny_attempt
    (wpAny_callSpecial?_slot (name := Str.ofString "__next__") hit.typeIs slot_listiter_next
      (wpAny_call_entry slot_listiter_next hit.typeIs entry_listiter_next ?_
        (args_listiter_next _))))
  show wpAny _ _ (field (.ref it) 0 >>= _) _ _ s
  refine wpAny_bind (wpAny_field gi di (x := .ref l) rfl ?_)
  show wpAny _ _ (if (Value.ref l == Value.none) = true then _ else _) _ _ s
  rw [if_neg (show ¬ ((Value.ref l == Value.none) = true) from fun e => Bool.noConfusion (show false = true from e))]
  show wpAny _ _ (field (.ref it) 1 >>= _) _ _ s
  refine wpAny_bind (wpAny_field gi di (x := .int i 0) rfl ?_)
  show wpAny _ _ (seqItems? (.ref l) >>= _) _ _ s
  refine wpAny_bind (wpAny_seqItems gl dl ?_)
  simp only [Int.toNat_natCast, hx]
  refine wpAny_bind (wpAny_rule (wpAny_bind (wpAny_setField gi di (by simp) ?_)))
  show wpAny _ _ (newExc (.type "StopIteration") [] >>= _) _ _ _
  refine wpAny_bind ?_
  simp only [newExc, newTuple]
  refine wpAny_bind (wpAny_newObj_type ?_ (by size_fits))
  refine wpAny_bind (m := firstArgMember _ _) (wpAny_of_eq (a := Value.none)
    (by first | rfl | (simp only [firstArgMember]; rfl)) ?_)
  refine wpAny_newObj_type ?_ (by size_fits)
  have gy2 := (Heap.get?_update_other s.heap (Obj.mapFields (·.setIfInBounds 0 Value.none)) (Ne.symm ny)).trans gy
  refine HotX.raiseNew_hot ⟨eh, oy, vy, Heap.get?_push_of_some _ (Heap.get?_push_of_some _ gy2), dy, cy⟩ (Nat.ne_of_lt (Heap.lt_size (Heap.get?_push_of_some _ gy2)))
    (Heap.get?_push_size _ rfl) rfl (by first | (simp; done) | (simp; omega) | (simp only [Array.size_append]; simp; omega)) ?_
  refine wpAny_bind (wpAny_isInstance (T := "StopIteration") (b := true) ⟨_, Heap.get?_update_self _ (Heap.get?_push_size _ rfl) rfl, rfl⟩ isSubtype_stop ?_)
  refine wpAny_pure (hQ _ fun b o nb e => ?_)
  have e2 := (Heap.get?_update_other s.heap (Obj.mapFields (·.setIfInBounds 0 Value.none)) (Ne.symm nb)).trans e
  rw [Heap.get?_update_other _ _ (Nat.ne_of_gt (Heap.lt_size (Heap.get?_push_of_some _ e2)))]
  exact Heap.get?_push_of_some _ (Heap.get?_push_of_some _ e2)
end
end DL

/-! D29: an own class of errors that keeps a field: raised, caught, the field told. -/
namespace DL
open PySem PySem.Spec L2 PyProof.Rows

/-- raise C(v) where v is a name's value | raise C() -/
def dRaiseF (C : Addr) (f : Str) : Option Nat → DS
  | none => fun D τ h => D.ex C [(f, .non)] τ h
  | some j => fun D τ h => match τ[j]? with
    | some (some d) => D.ex C [(f, d)] τ h
    | _ => False
/-- what __init__(self, f=None): self.f = f does -/

abbrev pI (f : Str) : List Str := ["self", f]
def spI (C : Addr) (f : Str) : Sp := fun vs H Q _ => ∃ (a : Addr) (y : V), vs = [.ref a, y] ∧ H a = some (exo a C none) ∧ ∀ dx, H dx = none → dx ≠ a → Q .non (upd (upd H dx (exd dx [(f, y)])) a (exo a C (some dx)))
/-- the class at C, its __init__ at fI -/
structure Xi (K : PySem.W.Frag) (mg : Str → Option Value) (C fI : Addr) (fd : FuncData) (qual nm f : Str) (st : Stmt) : Prop where
  T : OexC K C
  iC : PySem.W.findIn K (.ref C) "__init__" = some (some (.ref fI))
  tI : PySem.W.typeIn K (.ref fI) = some (.type "function")
  no : PySem.W.findIn K (.ref C) f = some none
  F : FunD K "__init__" qual (defArgs st) (defBody st) (defScope st) [V.non] [] fI fd
  gl : mg nm = some (.ref C)
  b2 : Binds K fd (pI f) []
  b1 : ∃ ds, Vals [V.non] ds ∧ Binds K fd (pI f) ds
theorem ok_init {P : Program} {w : World} {K : PySem.W.Frag} {mg : Str → Option Value} {base : Heap} {C fI : Addr} {fd : FuncData} {qual nm f : Str} {st : Stmt} (x : Xi K mg C fI fd qual nm f st)
    (S : FnScope (pI f) (pI f) (defScope st))
    (body : ∀ (cdv : Value) (A : Around) (outer : List Env) (s : Shared) (H : Hp) (E : XK), PSs (cxOf (L2N.CX P w) P w K mg base (pI f) qual (defScope st) fI cdv A outer s H E) (defBody st) (tOst K f (tVar 0) (tVar 1))) : FnOk P w K mg base (L2N.CX P w) 1 fI fd (pI f) (spI C f) := by
  refine x.F.ok S (fun vs H Q E ⟨a, y, e, _⟩ => by rw [e]; rfl) fun cdv A outer s H vs Q E hr ⟨a, y, e, ea, q⟩ => ?_
  subst e
  refine ⟨_, body cdv A outer s H E, ?_⟩
  refine ⟨y, by rfl, .ref a, by rfl, a, C, rfl, x.T, x.no, .inl ⟨ea, fun dx n ne => q dx n ne⟩⟩
section
variable {X : Cx} {C fI : Addr} {fd : FuncData} {qual nm f : Str} {st : Stmt} {p pos : Pos}
/-- the class called -/
theorem mk_call (x : Xi X.K X.mg C fI fd qual nm f st) (F1 : FnOk X.prog X.w X.K X.mg X.base (L2N.CX X.prog X.w) 1 fI fd (pI f) (spI C f)) (hr : Room 2 X.A) {pins : List (Addr × Obj)} {σ : L2.St} {H : Hp} {s : Shared} {Q : XK} {us ds : List Value} {vs dvs : List V}
    (I : Inv X pins σ H s) (r : Vals vs us) (rd : Vals dvs ds) (hb : Binds X.K fd (pI f) ds) {y : V} (ey : vs ++ dvs = [y]) (q : ∀ dx, H dx = none → Q (.ref C) (some dx) (upd H dx (.xd [(f, y)]))) :
    wpAny (model X.prog X.w) X.A (call (.ref C) us) (L2N.MkP X pins σ Q) X.xe s := by
  obtain ⟨nm', q', N, bs, bm, sn, sub, ab, col, dd, k0, k1, k2, k3, k5, hC, hbm⟩ := x.T.cls
  obtain ⟨hp, g, dr, tk, os⟩ := s
  have fresh : hp.objs.size ≤ hp.objs.size + 1 := Nat.le_succ _
  have na : H (hp.objs.size + 1) = none := I.hok.fresh fresh
  have keeps : ∀ b o, hp.get? b = some o → ((hp.push (PySem.W.kdv_tup us)).push (PySem.HandSPX.excO C hp.objs.size)).get? b = some o := fun b o e => Heap.get?_push_of_some _ (Heap.get?_push_of_some _ e)
  have at_ : ((hp.push (PySem.W.kdv_tup us)).push (PySem.HandSPX.excO C hp.objs.size)).get? (hp.objs.size + 1) = some (PySem.HandSPX.excO C hp.objs.size) := by heap_get
  have I2 := I.laid (t' := tk) (a := hp.objs.size + 1) (o := exo (hp.objs.size + 1) C none) keeps fresh (exo_ok at_)
  have hlen : us.length + ds.length = 1 := by
    have e := congrArg List.length ey
    rw [List.length_append, r.length, rd.length] at e
    exact e
  have ru : Vals (V.ref (hp.objs.size + 1) :: (vs ++ dvs)) (Value.ref (hp.objs.size + 1) :: (us ++ ds)) := .cons rfl (r.append rd)
  have want : spI C f (V.ref (hp.objs.size + 1) :: (vs ++ dvs)) (upd H (hp.objs.size + 1) (exo (hp.objs.size + 1) C none))
      (fun v H2 => v = .non ∧ ∃ dx, H2 (hp.objs.size + 1) = some (exo (hp.objs.size + 1) C (some dx)) ∧ H2 dx = some (exd dx [(f, y)]) ∧ H dx = none ∧ upd (L2.del H2 (hp.objs.size + 1)) dx (.xd [(f, y)]) = upd H dx (.xd [(f, y)])) (fun _ _ _ => False) := by
    refine ⟨_, y, by rw [ey], upd_same, fun dx n ne => ⟨rfl, dx, upd_same, by rw [upd_ne ne, upd_same], ?_, ?_⟩⟩
    · rw [upd_ne ne] at n; exact n
    · funext b
      by_cases hb : b = dx
      · subst hb; rw [upd_same, upd_same]
      · rw [upd_ne hb, upd_ne hb]
        by_cases ha : b = hp.objs.size + 1
        · subst ha; rw [del_same, na]
        · rw [del_ne ha, upd_ne ha, upd_ne hb, upd_ne ha]
  have hus : us.length ≤ sizeLine := by rw [sizeLine_eq]; omega
  refine wpAny_call (PySem.HandSPX.call_own F.excBase_ValueError (fun Y => PySem.HandSPX.refsVE_contains Y bm hbm) (I.kIn _ _ hC) (PySem.W.looks_findIn I.kIn x.iC) (fun self => PySem.W.bind_fn I.kIn self x.tI) hus
    (codeAny_mono (F1.run _ X.stack _ _ ⟨Value.ref (hp.objs.size + 1) :: us, []⟩ (Value.ref (hp.objs.size + 1) :: (us ++ ds)) _ _ (fun _ _ _ => False) (hr.make C us []) (I2.env0.make C us []) (hb _ (Value.ref (hp.objs.size + 1) :: us) I2.kIn (by show ((us ++ ds).length + 1 = 2); rw [List.length_append]; omega)) ru want) fun r s' hq => ?_))
  cases r with
  | error er => obtain ⟨_, _, _, _, _, _, _, _, _, _, _, _, z⟩ := hq; exact z.elim
  | ok fl =>
    cases fl with
    | ret u =>
      obtain ⟨v, H2, os2, bare2, un2, hok2, rv, ev, dx, ea, ed, nd, eH⟩ := hq
      subst ev
      obtain ⟨h2, g2, d2, t2, os'⟩ := s'
      obtain ⟨t0, G, J, kG, ge, hoe, nz⟩ := mk_end0 (d2 := d2) (t2 := t2) I fresh keeps un2 hok2 os2 bare2 ea ed nd
      rw [eH] at J nz
      exact ⟨rv, hp.objs.size + 1, _, _, ⟨G, g2, d2, t2, os'⟩, _, .ref C, some dx, rfl, J, kG, ge, hoe, ⟨rfl, rfl, fun vs e => by cases e; rfl⟩, rfl, rfl, nz, rfl, bare2, raises_own x.T.exC x.T.tyC, q dx nd⟩
    | next => exact False.elim hq
    | brk => exact False.elim hq
    | cont => exact False.elim hq
theorem pmk_f1 {j : Nat} {n : Str} {p2 : Pos} (x : Xi X.K X.mg C fI fd qual nm f st) (F1 : FnOk X.prog X.w X.K X.mg X.base (L2N.CX X.prog X.w) 1 fI fd (pI f) (spI C f)) (hr : Room 2 X.A) (he0 : PE X (.Name n p2) (tVar j)) (hg : Gl X nm) (hdb : (nm == ("__debug__" : Str)) = false := by decide)
    (he : starEach [.Name n p2] X.env = (false, eval (.Name n p2) X.env) :: starEach [] X.env := by rfl) (hpl : (backTo pos (starEach [] X.env)).any (·.1) = false := by rfl) :
    L2N.PMk X (.Call (.Name nm p) [.Name n p2] [] pos) (fun σ H Q => tVar j σ H fun y H1 => ∀ dx, H1 dx = none → Q (.ref C) (some dx) (upd H1 dx (.xd [(f, y)]))) := by
  intro pins s σ H Q I ⟨v, ev, q⟩
  refine wpAny_Call_Name_kw (ld_glob I hg x.gl ?_ hdb)
  have ha : PA X [.Name n p2] (tCons (tVar j) tNil) := pa_cons he0 pa_nil he
  have key : tCons (tVar j) tNil σ H (fun vs H1 => vs = [v] ∧ ∀ dx, H1 dx = none → Q (.ref C) (some dx) (upd H1 dx (.xd [(f, v)]))) := ⟨v, ev, rfl, q⟩
  refine PySem.W.callWith_K (h₀ := X.base) I.ok.mod.kin x.T.kC (thn (ha.run pos pins s σ H _ I key) fun us s1 ⟨vs, H1, I1, r1, e1, q1⟩ => ⟨I1.kIn, ?_⟩) he hpl
  exact mk_call x F1 hr I1 r1 .nil x.b2 (by rw [e1]; rfl) q1
theorem pmk_f0 (x : Xi X.K X.mg C fI fd qual nm f st) (F1 : FnOk X.prog X.w X.K X.mg X.base (L2N.CX X.prog X.w) 1 fI fd (pI f) (spI C f)) (hr : Room 2 X.A) (hg : Gl X nm) (hdb : (nm == ("__debug__" : Str)) = false := by decide)
    (hall : (backToKw pos (keywordEach [] X.env)).all (·.1.isSome) = true := by rfl) (hpl : ((backTo pos (starEach [] X.env)).any (·.1) || (backToKw pos (keywordEach [] X.env)).any (·.1.isNone)) = false := by rfl) :
    L2N.PMk X (.Call (.Name nm p) [] [] pos) (fun σ H Q => ∀ dx, H dx = none → Q (.ref C) (some dx) (upd H dx (.xd [(f, .non)]))) := by
  intro pins s σ H Q I q
  obtain ⟨ds, rd, hb⟩ := x.b1
  refine wpAny_Call_Name_kw (ld_glob I hg x.gl ?_ hdb)
  refine PySem.W.callWith_KW0 (h₀ := X.base) I.ok.mod.kin x.T.kC hall ?_ hpl
  show wpAny _ _ (evalAll []) _ _ _
  refine wpAny_pure ⟨I.kIn, ?_⟩
  exact mk_call x F1 hr I .nil rd hb rfl q
variable {W : WX} {pos' : Pos}
theorem ds_raiseF1 {j : Nat} {n : Str} {p2 : Pos} (x : Xi X.K X.mg C fI fd qual nm f st) (F1 : FnOk X.prog X.w X.K X.mg X.base (L2N.CX X.prog X.w) 1 fI fd (pI f) (spI C f)) (hr : Room 2 X.A) (hc : X.calm = true) (tk : L2N.Takes X W) (he0 : PE X (.Name n p2) (tVar j)) (hg : Gl X nm) (hdb : (nm == ("__debug__" : Str)) = false := by decide)
    (he : starEach [.Name n p2] X.env = (false, eval (.Name n p2) X.env) :: starEach [] X.env := by rfl) (hpl : (backTo pos (starEach [] X.env)).any (·.1) = false := by rfl) :
    DSp' X W (.Raise (some (.Call (.Name nm p) [.Name n p2] [] pos)) none pos') (dRaiseF C f (some j)) := PS.imp (L2N.ps_raise hc tk (pmk_f1 x F1 hr he0 hg hdb he hpl)) fun D σ H ⟨τ, h, N, D0, S, R, z, U⟩ => by
  dsimp only [dRaiseF] at z
  split at z
  · rename_i d ed
    obtain ⟨v, ev, rv⟩ := S.get j d ed
    refine ⟨v, ev, fun dx n => ?_⟩
    obtain ⟨R', e'⟩ := R.new (o := .xd [(f, v)]) n
    exact U.ex C [(f, d)] τ h _ σ _ (some dx) z e' (S.ext R.un e') R' ⟨by simp, _, upd_same, rfl, RepL.cons (Rep.ext R.un e' _ _ rv) RepL.nil⟩
  · exact z.elim
theorem ds_raiseF0 (x : Xi X.K X.mg C fI fd qual nm f st) (F1 : FnOk X.prog X.w X.K X.mg X.base (L2N.CX X.prog X.w) 1 fI fd (pI f) (spI C f)) (hr : Room 2 X.A) (hc : X.calm = true) (tk : L2N.Takes X W) (hg : Gl X nm) (hdb : (nm == ("__debug__" : Str)) = false := by decide)
    (hall : (backToKw pos (keywordEach [] X.env)).all (·.1.isSome) = true := by rfl) (hpl : ((backTo pos (starEach [] X.env)).any (·.1) || (backToKw pos (keywordEach [] X.env)).any (·.1.isNone)) = false := by rfl) :
    DSp' X W (.Raise (some (.Call (.Name nm p) [] [] pos)) none pos') (dRaiseF C f none) := PS.imp (L2N.ps_raise hc tk (pmk_f0 x F1 hr hg hdb hall hpl)) fun D σ H ⟨τ, h, N, D0, S, R, z, U⟩ => by
  intro dx n
  obtain ⟨R', e'⟩ := R.new (o := .xd [(f, .non)]) n
  exact U.ex C [(f, .non)] τ h _ σ _ (some dx) z e' (S.ext R.un e') R' ⟨by simp, _, upd_same, rfl, RepL.cons rfl RepL.nil⟩
end
/-! ### caught: except C as e: return [e.f] -/
def dTryF (Ci : Addr) (f : Str) (i : Nat) (tb : DS) : DS := fun D τ h => tb { D with ex := fun C fs τ' h' => C = Ci ∧ i < τ'.length ∧ ∃ d, fs.lookup f = some d ∧ D.rt (.lst [d]) h' } τ h
def tsF (Ci : Addr) (i : Nat) (f : Str) : HdT := fun a cls d => tRet (tLst (tCons (tXf a cls d Ci f (tVar i)) tNil))
section
variable {X : Cx} {W : WX} {x n x2 f : Str} {i : Nat} {Hc Hc2 Ci : Addr} {body suite2 : List Stmt} {b2 : Stmt} {np pos pos' np2 pos2 ep ap lp rp : Pos} {tb : DS}
theorem ds_tryF (hs : X.stack = X.env :: X.outer) (hf : X.env.frame = some X.env.locals) (hN : X.N.Nodup) (hi : X.N[i]? = some n) (hln : X.env.kindOf n = some .local) (hv : Vis X.env.scope n) (hc : Names X x (.ref Hc)) (hc2 : Names X x2 (.ref Hc2)) (tk : L2N.Takes X W)
    (T : XfC X.K Ci) (hno : PySem.W.findIn X.K (.ref Ci) f = some none) (hm : PySem.W.exmOne X.K (.ref Ci) (.ref Hc) = some true)
    (hb : ∀ (W' : WX) (pn : List (Addr × Obj)) (xe : Value → Shared → Prop), L2N.Takes (X.tr pn xe) W' → PassesOwn (model X.prog X.w) X.A X.env xe → DSs (X.tr pn xe) W' body tb) 
    (hat : attributeBase (.Name n ep) f X.env (eval (.Name n ep) X.env) = eval (.Name n ep) X.env := by rfl) (hd : (n == ("__debug__" : Str)) = false := by decide) (hcd : (n == ("__classdict__" : Str)) = false := by decide)
    (hst : starEach [.Attribute (.Name n ep) f ap] X.env = (false, eval (.Attribute (.Name n ep) f ap) X.env) :: starEach [] X.env := by rfl) :
    DSp' X W (.Try body [.ExceptHandler (some (.Name x np)) (some n) [.Return (some (.List [.Attribute (.Name n ep) f ap] lp)) rp] pos', .ExceptHandler (some (.Name x2 np2)) none (b2 :: suite2) pos2] [] [] pos) (dTryF Ci f i tb) := by
  have key := ps_try_hds (l := [(.ref Hc, some i, tsF Ci i f), (.ref Hc2, none, fun _ _ _ => fun _ _ _ => False)]) (tb := fun W' => liftS X.K W' tb) hs hf tk (fun W' pn xe tk' po => hb W' pn xe tk' po)
    (.named (b₀ := .Return (some (.List [.Attribute (.Name n ep) f ap] lp)) rp) (su := []) (np := np) (q := pos') hN hi hln hc (fun a oe cls d pn hz hf' => pss_one (ps_ret (pe_lst (pa_cons (pe_xf (pos := ap) T hno hz.zc hf' (pe_var (X := X.suite a ((a, oe) :: pn)) hi hv hd hcd) hat) pa_nil hst)))) (.plain (b₀ := b2) (su := suite2) (np := np2) (q := pos2) hc2 (fun a oe cls d pn hz hf' => pss_never) .nil)) (pos := pos)
  refine PS.imp key fun D σ H ⟨τ, h, N', D0, S, R, z, U⟩ => ⟨τ, h, N', _, S, R, z, U.nx, U.rt, U.bk, U.ct, ?_⟩
  rintro C fs τ' h' N2 σ' H' d ⟨rfl, hi2, dv, hl, q⟩ e S' R' r
  refine ⟨true, hm, fun _ a na => ?_, fun z => (by cases z)⟩
  cases d with
  | none =>
    cases (show fs = [] from r)
    cases hl
  | some dx =>
    obtain ⟨_, gs, eg, fr⟩ := r
    obtain ⟨v, ev, rv⟩ := frep_look fr hl
    refine ⟨.ref a, by rw [List.getElem?_set_self (by rw [← S'.len] at *; omega)], rfl, rfl, dx, gs, v, rfl, eg, ev, by rw [sizeLine_eq]; simp, fun p np => ?_⟩
    obtain ⟨R2, e2⟩ := R'.new (o := .lst [v]) np
    exact U.rt (.lst [dv]) h' _ (.ref p) _ q (e.trans e2) R2 ⟨p, [v], rfl, ⟨fun z => z.2 rfl, .inl upd_same⟩, RepL.cons (Rep.ext R'.un e2 _ _ rv) RepL.nil⟩
end
end DL

/-! D30: a comprehension over a list that is still changed behind it. -/
namespace DL
open PySem PySem.Spec L2 PyProof.Rows

def dLcK (i : Nat) (tg : Tgt) (tt : DT) (te : DE) (vs : List Nat) : DE := fun τ h Q _ => match τ[i]? with
  | some (some (.ref a)) => (match h a with
    | some (.lst ds) => ds.length ≤ 10000000 ∧ lcGo tg tt te (dwipe τ vs) ds (ddel h a) (fun ys h2 => Q (.lst ys) (dupd h2 a (.lst ds)))
    | _ => False)
  | _ => False
theorem lift_lcK {K : PySem.W.Frag} {W W0 : WX} {i : Nat} {tg : Tgt} {tt : DT} {te : DE} {vs : List Nat} {σ : L2.St} {H : Hp} {Q : VK} (hv : ∀ i ∈ slots tg, i ∈ vs) (z : liftE K W (dLcK i tg tt te vs) σ H Q) : tLc (iList K (tVar i)) (gT K tg) (liftT K W0 tt) (liftE K W0 te) vs σ H Q := by
  obtain ⟨τ, h, N, Q0, X0, S, R, z, p, ex⟩ := z
  unfold dLcK at z
  split at z
  · rename_i a ei
    split at z
    · rename_i ds ea
      obtain ⟨hz, q⟩ := z
      obtain ⟨v, ev, rv⟩ := S.get i _ ei
      cases rep_ref rv
      obtain ⟨xs, ha, rs⟩ := R.at_ a _ ea
      have R' : HRep K H (ddel h a) N := ⟨fun b o e => by
        have hb : b ≠ a := fun y => by rw [y, ddel_same] at e; cases e
        rw [ddel_ne hb] at e
        have zo := R.at_ b o e
        cases o with
        | lst ds => exact zo
        | ins C fs => exact zo
        | exd fs => exact zo, fun b o e => by
        have hb : b ≠ a := fun y => by rw [y, ddel_same] at e; cases e
        rw [ddel_ne hb] at e
        exact R.un b o e⟩
      have st : ∀ H' h' N', Ext H (ddel h a) N H' h' N' → SqL K H' a xs ∧ RepL K H' N' ds xs := fun H' h' N' e => by
        obtain ⟨e1, _, _⟩ := e a _ ha ddel_same
        exact ⟨.inl (.inl e1), RepL.ext R'.un e _ _ rs⟩
      have jr : JRep K (Itl K a) ds H (ddel h a) N := by
        refine jrep_of (fun H' h' N' e' R2 j hj => ?_) fun H' h' N' e' R2 => ?_
        · obtain ⟨f', rs'⟩ := st H' h' N' e'
          have hj' : j < xs.length := by rw [rs'.length]; exact hj
          refine ⟨⟨xs, xs[j], f', List.getElem?_eq_getElem hj'⟩, fun x H2 y => ⟨y.1, ?_⟩⟩
          exact rs'.get (y.2 xs f')
        · obtain ⟨f', rs'⟩ := st H' h' N' e'
          exact ⟨xs, f', by rw [rs'.length]; exact Nat.le_refl _⟩
      refine ⟨.ref a, ev, a, rfl, ⟨xs, .inl (.inl ha)⟩, lc_turns S R' jr hv hz q fun Dl ys vys h' N' H' nD q hD hD0 hND rs2 R2 e' => ?_⟩
      have na : a ≠ Dl := fun y => by rw [y, nD] at ha; cases ha
      obtain ⟨a1, a2, a3⟩ := e' a _ ha ddel_same
      have rl : ∀ ds vs, RepL K H' N' ds vs → RepL K H' (fun a => N' a ∧ a ≠ Dl) ds vs := RepL.tr fun a u na r => ⟨fun y => na y.1, r⟩
      refine p (.lst ys) _ (fun b => N' b ∧ b ≠ Dl) _ H' q (fun b u qb hn => ?_) ⟨fun b o qo => ?_, fun b o qo => ?_⟩ ⟨Dl, vys, rfl, ⟨fun z => z.2 rfl, .inl hD⟩, rl _ _ rs2⟩
      · have hb : b ≠ a := fun y => by rw [y, ea] at hn; cases hn
        obtain ⟨x1, x2, x3⟩ := e' b u qb (by rw [ddel_ne hb]; exact hn)
        exact ⟨x1, by rw [dupd_ne hb]; exact x2, fun z => x3.mp z.1, fun z => ⟨x3.mpr z, ne_of_none qb nD⟩⟩
      · by_cases hb : b = a
        · subst hb
          rw [dupd_same] at qo
          cases qo
          exact ⟨xs, a1, rl _ _ (RepL.ext R'.un e' _ _ rs)⟩
        · rw [dupd_ne hb] at qo
          have zo := R2.at_ b o qo
          cases o with
          | lst ds => obtain ⟨xs, e1, r⟩ := zo; exact ⟨xs, e1, rl _ _ r⟩
          | ins C fs => obtain ⟨dx, gs, e1, r⟩ := zo; exact ⟨dx, gs, e1, r.1, rl _ _ r.2⟩
          | exd fs => obtain ⟨gs, e1, r⟩ := zo; exact ⟨gs, e1, r.1, rl _ _ r.2⟩
      · by_cases hb : b = a
        · subst hb
          exact ⟨a3.mpr (R.un _ _ ea), na⟩
        · rw [dupd_ne hb] at qo
          exact ⟨R2.un b o qo, fun y => by rw [y, hD0] at qo; cases qo⟩
    · exact z.elim
  · exact z.elim
section
variable {X : Cx} {W W0 : WX} {elt tge : Expr} {n : Str} {npos pos : Pos} {i : Nat} {ifs : List Expr} {scope : Scope} {own : List (Str × Nat)} {tg : Tgt} {tt : DT} {te : DE}
theorem d_lcK (hc : X.calm = true) (hN : X.N.Nodup) (hi : PE X (.Name n npos) (tVar i)) (ok : BlkOk X.N X.env.scope scope own) (hv : ∀ i ∈ slots tg, i ∈ own.map (·.2))
    (hg : ∀ (s : Shared) (H : Hp) (C : Addr) (cl : List (Str × Addr)) (fp : List Addr), PG (X.blk s H scope (compEnvC scope cl C X.env) fp) tge (gT X.K tg)) (ht : ∀ (s : Shared) (H : Hp) (C : Addr) (cl : List (Str × Addr)) (fp : List Addr), DTs' (X.blk s H scope (compEnvC scope cl C X.env) fp) W0 ifs tt)
    (he : ∀ (s : Shared) (H : Hp) (C : Addr) (cl : List (Str × Addr)) (fp : List Addr), DEp (X.blk s H scope (compEnvC scope cl C X.env) fp) W0 elt te) (hs : ∀ x, foldedSetIterable (.Name n npos) X.env x = pure x := by intro _; rfl) :
    DEp X W (.ListComp elt [⟨tge, .Name n npos, ifs, 0⟩] scope pos) (dLcK i tg tt te (own.map (·.2))) := PE.imp (pe_lc hc hN (pi_list hi) ok hg ht he hs) fun _ _ _ z => lift_lcK hv z
end
end DL

namespace DL
open PySem L2
local macro_rules | `(tactic| walk_at "ev") => `(tactic| try simp (disch := (first | assumption | exact dupd_same | (refine (dupd_ne ?_).trans ?_; (first | assumption | (apply Ne.symm; assumption)); first | assumption | exact dupd_same | (refine (dupd_ne ?_).trans ?_; (first | assumption | (apply Ne.symm; assumption)); first | assumption | exact dupd_same)))) only [v0, v1, v2, v3, v4, v5, v6, v7, v8, v9, v10, v11, v12, v13, v14, v15, v16, w0, w1, w2, w3, w4, w5, w6, w7, w8, w9, w10, w11, w12, w13, w14, w15, w16, e_dC, e_dOp, e_dUn, e_dTest, e_dAnd, e_dOr, e_dNot, e_dAndV, e_dOrV, e_dNotV, e_dIfE, e_dChain, e_dNil, e_dCons, e_dTup, e_dLst, e_dLstM, e_dCB, e_dBM, e_dFrz, e_dNoPart, e_dPart, e_dSl, e_dIsi, e_iSeqD, e_iRange1, e_iRange2, e_iEnumD, e_iZipD, e_dNext, e_dSeq, e_dAsg, e_dAsgT, e_dPar, e_dIf, e_dRet, e_dRetN, e_dDrop, e_dBrk, e_dCnt, e_dAug, e_dSetI, e_dFor, e_dWhile, e_dYes, e_dLc, e_dLcM, e_dCall, e_dCallK, e_dNeg, e_dRaise, op_Lt, op_Le, op_Gt, op_Ge, op_IsN, op_IsNN, op_Sub, op_Add, op_AddS, op_AddT, op_AddL, op_Mul, op_MulT, op_MulL, op_Mod, op_Fdiv, op_InS, op_NotInS, cb_lenT, cb_lenL, cb_lenS, cb_lenX, cb_all, cb_any, cb_tupleL, cb_tupleT, cb_max, cb_min, cb_abs, cb_int, cb_intB, cb_strI, me_joinL, me_joinT, me_split, ip_add, ip_sub, ip_mul, ip_div, ix_ref0, ix_ref1, ix_ref2, me_append, me_popAt, me_pop0, me_insert, me_clear, me_reverse, cb_lenR, cb_tupleR, me_joinR, vw_ref, dT_ref, pow_18, pow_38, pow_40, pow_41, pow_6, eq_str, ne_str, eq_int, ne_int, ix_tup0, ix_lst0, sl_from, sl_to, sl_fromL, sl_toL, vw_str, vw_int, vw_bl, vw_non, vw_dct, vw_tup, vw_lst, vw_scr, ty_str, ty_int, ty_bl, ty_non, ty_tup, ty_lst, ty_dct, it_str, it_tup, it_lst, bT_nm, isN_non, isN_str, isN_int, isN_bl, isN_tup, isN_lst, isN_dct, dT_str, dT_lst, en_rt, en_nx, en_ex, t_imp, f_imp, tf_eq, ft_eq, dwipe, true_and, and_true, Bool.not_true, Bool.not_false, Bool.not_eq_true', Bool.not_eq_false', decide_eq_true_eq, decide_eq_false_iff_not, nq_NoneType, is_NoneType_int, is_NoneType_bool, is_NoneType_str, is_NoneType_tuple, is_NoneType_list, is_NoneType_dict, nq_bool, is_bool_int, is_bool_bool, is_bool_str, is_bool_tuple, is_bool_list, is_bool_dict, nq_int, is_int_int, is_int_bool, is_int_str, is_int_tuple, is_int_list, is_int_dict, nq_str, is_str_int, is_str_bool, is_str_str, is_str_tuple, is_str_list, is_str_dict, nq_tuple, is_tuple_int, is_tuple_bool, is_tuple_str, is_tuple_tuple, is_tuple_list, is_tuple_dict, nq_list, is_list_int, is_list_bool, is_list_str, is_list_tuple, is_list_list, is_list_dict, nq_dict, is_dict_int, is_dict_bool, is_dict_str, is_dict_tuple, is_dict_list, is_dict_dict])
/-! R1: forms — cells and printed rows -/
mutual
def nr : D → Bool
  | .ref _ => false
  | .scr _ => false
  | .str s => decide (s.length ≤ 16000000)
  | .tup xs => decide (xs.length ≤ 16000000) && nrL xs
  | .lst xs => decide (xs.length ≤ 16000000) && nrL xs
  | _ => true
def nrL : List D → Bool
  | [] => true
  | x :: xs => nr x && nrL xs
end
theorem nrL_mem : ∀ {xs : List D}, nrL xs = true → ∀ x ∈ xs, nr x = true
  | x :: xs, h, y, hy => by
    simp only [nrL, Bool.and_eq_true] at h
    rcases List.mem_cons.mp hy with rfl | hy
    · exact h.1
    · exact nrL_mem h.2 y hy
theorem nrL_of : ∀ {xs : List D}, (∀ x ∈ xs, nr x = true) → nrL xs = true
  | [], _ => rfl
  | x :: xs, h => by
    simp only [nrL, Bool.and_eq_true]
    exact ⟨h x (by simp), nrL_of fun y hy => h y (by simp [hy])⟩
theorem nr_tup {xs : List D} (h : nr (.tup xs) = true) : xs.length ≤ 16000000 ∧ ∀ x ∈ xs, nr x = true := by
  simp only [nr, Bool.and_eq_true, decide_eq_true_eq] at h
  exact ⟨h.1, nrL_mem h.2⟩
theorem nr_lst {xs : List D} (h : nr (.lst xs) = true) : xs.length ≤ 16000000 ∧ ∀ x ∈ xs, nr x = true := by
  simp only [nr, Bool.and_eq_true, decide_eq_true_eq] at h
  exact ⟨h.1, nrL_mem h.2⟩
theorem nr_str {s : Str} (h : nr (.str s) = true) : s.length ≤ 16000000 := by
  simp only [nr, decide_eq_true_eq] at h
  exact h
theorem bT1 {h : DH} {Q : D → DH → Prop} {X : DX} {d : D} (q : Q d h) : (dEnd Q X).rt d h := dend0 q

def signsT : Str := "abcdefghijklmnopqrstuvwxyz0123456789"
def okSign (c : Nat) : Bool := decide (c ∈ signsT.cps.toList)
def okCell (s : Str) : Bool := decide (1 ≤ s.length ∧ s.length ≤ 8) && s.cps.toList.all okSign
def isCellD : D → Bool
  | .str s => okCell s
  | _ => false
def sp_is_cell : DSp := fun ds h Q _ => match ds with
  | [d] => nr d = true ∧ Q (.bl (isCellD d)) h
  | _ => False
def t_is_cell : DS :=
(dRet (dAndV (dIsi "str" (dVar 0)) (dAndV (dChain dLe dLe (dC (.int 1)) (dCB dLen (dCons (dVar 0) dNil)) (dC (.int 8))) (dCB dAll (dCons (dLc (iSeqD (dVar 0)) (.nm 1) dYes (dOp dInS (dVar 1) (dC (.str "abcdefghijklmnopqrstuvwxyz0123456789"))) [1]) dNil)))))
theorem rd_is_cell (ds : List D) (h : DH) (Q : DK) (X : DX) (z : sp_is_cell ds h Q X) : t_is_cell (dEnd Q X) (dstart ["value", "sign"] ds) h := by
  match ds, z with
  | [d], ⟨hv, q⟩ =>
    show t_is_cell (dEnd Q X) [some d, none] h
    unfold t_is_cell
    cases d with
    | str s =>
      have hl := nr_str hv
      walk_at "ev"
      refine ⟨Nat.le_trans hl (by decide), fun e1 => ⟨fun e2 => ⟨?_, ?_⟩, fun e2 => ?_⟩, fun e1 => ?_⟩
      · rw [List.length_map, Array.length_toList]; exact Nat.le_trans (show s.length ≤ 8 by omega) (by decide)
      · refine lc_map (fun c => D.str ⟨#[c]⟩) (fun c => .bl (okSign c)) s.cps.toList (fun c _ Q' q' => ?_) ?_
        · walk_at "ev"
          exact ⟨c, rfl, q'⟩
        · rw [show List.map (fun c => D.bl (okSign c)) s.cps.toList = (s.cps.toList.map okSign).map D.bl by rw [List.map_map]; rfl, bools_map]
          refine dend0 ?_
          have : (s.cps.toList.map okSign).all id = okCell s := by
            unfold okCell
            rw [List.all_map, decide_eq_true (by omega), Bool.true_and]
            rfl
          rw [this]
          exact q
      · refine dend0 ?_
        have : false = okCell s := by
          unfold okCell
          rw [decide_eq_false (by omega), Bool.false_and]
        rw [this]
        exact q
      · refine dend0 ?_
        have : false = okCell s := by
          unfold okCell
          rw [decide_eq_false (by omega), Bool.false_and]
        rw [this]
        exact q
    | ref a => cases hv
    | scr a => cases hv
    | _ => walk_at "ev"; exact dend0 q
/-- how many cells ahead are blank -/
def lead : List D → Nat
  | [] => 0
  | x :: xs => if isN x then lead xs + 1 else 0
theorem lead_le : ∀ xs : List D, lead xs ≤ xs.length
  | [] => Nat.le_refl 0
  | x :: xs => by
    unfold lead
    split
    · have := lead_le xs; simp only [List.length_cons]; omega
    · simp only [List.length_cons]; omega
/-- go on at k -/
theorem lead_at : ∀ (xs : List D) (k : Nat), k < lead xs → ∃ x, xs[k]? = some x ∧ isN x = true
  | x :: xs, k, h => by
    unfold lead at h
    split at h
    · cases k with
      | zero => exact ⟨x, rfl, by assumption⟩
      | succ k => exact lead_at xs k (by omega)
    · omega
theorem lead_stop : ∀ (xs : List D), lead xs < xs.length → ∃ x, xs[lead xs]? = some x ∧ isN x = false
  | x :: xs, h => by
    unfold lead at h ⊢
    split at h
    · rename_i hx
      rw [if_pos hx]
      exact lead_stop xs (by simp only [List.length_cons] at h; omega)
    · rename_i hx
      rw [if_neg hx]
      exact ⟨x, rfl, by simpa using hx⟩
def t_blanks_in : DS :=
(dSeq (dAsg (dC (.int 0)) 1)
  (dSeq (dWhile (dAnd (dTest (dOp dLt (dVar 1) (dCB dLen (dCons (dVar 0) dNil)))) (dTest (dOp dIsN (dOp dIx (dVar 0) (dVar 1)) (dC .non)))) (dAsg (dOp dAdd (dVar 1) (dC (.int 1))) 1))
  (dRet (dVar 1))))
/-- of a tuple or list -/
def sp_blanks_in : DSp := fun ds h Q _ => match ds with
  | [.tup xs] => Q (.int (lead xs : Nat)) h
  | [.lst xs] => Q (.int (lead xs : Nat)) h
  | _ => False
theorem rd_blanks_in (ds : List D) (h : DH) (Q : DK) (X : DX) (z : sp_blanks_in ds h Q X) : t_blanks_in (dEnd Q X) (dstart ["cells", "found"] ds) h := by
  have key : ∀ (d : D) (xs : List D), (d = .tup xs ∨ d = .lst xs) → Q (.int (lead xs : Nat)) h → t_blanks_in (dEnd Q X) [some d, none] h := by
    intro d xs hd q
    unfold t_blanks_in
    walk_at "ev"
    refine while_ind (fun τ h' => h' = h ∧ ∃ k : Nat, τ = [some d, some (.int k)] ∧ k ≤ lead xs) (fun τ _ => match τ with | [_, some (.int k)] => lead xs - k.toNat | _ => 0) ⟨rfl, 0, rfl, Nat.zero_le _⟩ ?_
    rintro τ h' ⟨rfl, k, rfl, hk⟩ D' T
    have hl := lead_le xs
    have stop : k = lead xs → ∃ h2, DSub h2 h' ∧ Q (.int (k : Nat)) h2 := fun e => by subst e; exact dend0 q
    have go : ∀ f : D → DH → DK → Prop, (∀ x (Q2 : DK), xs[k]? = some x → f (.int (k : Nat)) h' Q2 = Q2 x h') → ((k : Int) < xs.length → f (.int (k : Nat)) h' fun x h1 => (isN x = true → D'.nx [some d, some (D.int (↑k + 1))] h1) ∧ (isN x = false → ∃ h2, DSub h2 h1 ∧ Q (D.int ↑k) h2)) ∧ (¬ (k : Int) < xs.length → ∃ h2, DSub h2 h' ∧ Q (D.int ↑k) h2) := by
      intro f hf
      refine ⟨fun e1 => ?_, fun e1 => stop (by omega)⟩
      by_cases hk2 : k < lead xs
      · obtain ⟨x, ex, nx⟩ := lead_at xs k hk2
        rw [hf x _ ex]
        refine ⟨fun _ => T.nx _ _ ⟨⟨rfl, k + 1, rfl, hk2⟩, ?_⟩, fun z => (by rw [nx] at z; cases z)⟩
        show lead xs - ((k : Int) + 1).toNat < lead xs - (k : Int).toNat
        omega
      · have ek : k = lead xs := by omega
        obtain ⟨x, ex, nx⟩ := lead_stop xs (by omega)
        rw [← ek] at ex
        rw [hf x _ ex]
        exact ⟨fun z => (by rw [nx] at z; cases z), fun _ => stop ek⟩
    rcases hd with rfl | rfl <;> walk_at "ev"
    · exact go (dIx (.tup xs)) fun x Q2 e => ix_tup e
    · exact go (dIx (.lst xs)) fun x Q2 e => ix_lst e
  match ds, z with
  | [.tup xs], q => exact key _ xs (.inl rfl) q
  | [.lst xs], q => exact key _ xs (.inr rfl) q

/-! rows -/
def isRowD : D → Bool
  | .tup xs => decide (1 ≤ xs.length ∧ xs.length ≤ 6) && (xs.drop (lead xs)).all isCellD
  | _ => false
def sp_is_printed_row : DSp := fun ds h Q _ => match ds with
  | [d] => nr d = true ∧ Q (.bl (isRowD d)) h
  | _ => False
def t_is_printed_row : DS :=
(dSeq (dIf (dOr (dNot (dTest (dIsi "tuple" (dVar 0)))) (dNot (dTest (dChain dLe dLe (dC (.int 1)) (dCB dLen (dCons (dVar 0) dNil)) (dC (.int 6)))))) (dRet (dC (.bl false))) dNext)
  (dRet (dCB dAll (dCons (dLc (iSeqD (dSl dSlice (dVar 0) (dPart (dCall sp_blanks_in (dCons (dVar 0) dNil))) dNoPart)) (.nm 1) dYes (dCall sp_is_cell (dCons (dVar 1) dNil)) [1]) dNil))))
theorem rd_is_printed_row (ds : List D) (h : DH) (Q : DK) (X : DX) (z : sp_is_printed_row ds h Q X) : t_is_printed_row (dEnd Q X) (dstart ["value", "cell"] ds) h := by
  match ds, z with
  | [d], ⟨hv, q⟩ =>
    show t_is_printed_row (dEnd Q X) [some d, none] h
    unfold t_is_printed_row
    cases d with
    | tup xs =>
      obtain ⟨hl, hn⟩ := nr_tup hv
      walk_at "ev"
      have no : ¬ (1 ≤ xs.length ∧ xs.length ≤ 6) → ∃ h2, DSub h2 h ∧ Q (.bl false) h2 := fun hno => dend0 (by
        have : false = isRowD (.tup xs) := by
          show false = (decide _ && _)
          rw [decide_eq_false hno, Bool.false_and]
        rw [this]
        exact q)
      refine ⟨fun e1 => ⟨fun e2 => no (by omega), fun e2 => ?_⟩, fun e1 => no (by omega)⟩
      unfold sp_blanks_in
      walk_at "ev"
      refine ⟨?_, ?_⟩
      · rw [List.length_drop]; omega
      · have := lc_map (i := 1) (te := dCall sp_is_cell (dCons (dVar 1) dNil)) (τ := [some (.tup xs), none]) (h := h) (Q := fun ys h2 => match bools ys with | some bs => ∃ h2_1, DSub h2_1 h2 ∧ Q (.bl (bs.all id)) h2_1 | none => False) (fun d => d) (fun d => .bl (isCellD d)) (xs.drop (lead xs)) (fun d hd Q' q' => ?_) ?_
        · rw [List.map_id'] at this
          exact this
        · walk_at "ev"
          exact ⟨hn d (List.mem_of_mem_drop hd), q'⟩
        · rw [show List.map (fun d => D.bl (isCellD d)) (xs.drop (lead xs)) = ((xs.drop (lead xs)).map isCellD).map D.bl by rw [List.map_map]; rfl, bools_map]
          refine dend0 ?_
          have : ((xs.drop (lead xs)).map isCellD).all id = isRowD (.tup xs) := by
            show _ = (decide _ && _)
            rw [List.all_map, decide_eq_true (by omega), Bool.true_and]
            rfl
          rw [this]
          exact q
    | ref a => cases hv
    | scr a => cases hv
    | _ => walk_at "ev"; exact dend0 q
def lenD : D → Nat
  | .tup xs => xs.length
  | _ => 0
def wideAs (w : Nat) (d : D) : Bool := decide (lenD d = w)
def isRowsD : D → Bool
  | .tup xs => decide (1 ≤ xs.length ∧ xs.length ≤ 60) && (xs.all isRowD && xs.all (wideAs (match xs with | x :: _ => lenD x | [] => 0)))
  | _ => false
def sp_are_printed_rows : DSp := fun ds h Q _ => match ds with
  | [d] => nr d = true ∧ Q (.bl (isRowsD d)) h
  | _ => False
def t_are_printed_rows : DS :=
(dSeq (dIf (dOr (dNot (dTest (dIsi "tuple" (dVar 0)))) (dNot (dTest (dChain dLe dLe (dC (.int 1)) (dCB dLen (dCons (dVar 0) dNil)) (dC (.int 60)))))) (dRet (dC (.bl false))) dNext)
  (dRet (dAndV (dCB dAll (dCons (dLc (iSeqD (dVar 0)) (.nm 1) dYes (dCall sp_is_printed_row (dCons (dVar 1) dNil)) [1]) dNil)) (dCB dAll (dCons (dLc (iSeqD (dVar 0)) (.nm 1) dYes (dOp dEq (dCB dLen (dCons (dVar 1) dNil)) (dCB dLen (dCons (dOp dIx (dVar 0) (dC (.int 0))) dNil))) [1]) dNil)))))
theorem isRow_tup {d : D} (h : isRowD d = true) : ∃ xs, d = .tup xs ∧ 1 ≤ xs.length ∧ xs.length ≤ 6 := by
  cases d with
  | tup xs =>
    refine ⟨xs, rfl, ?_⟩
    simp only [isRowD, Bool.and_eq_true, decide_eq_true_eq] at h
    exact h.1
  | _ => cases h
theorem lc_mapI {i : Nat} {te : DE} {τ : DSt} {h : DH} {Q : List D → DH → Prop} (f : D → D) (xs : List D) (hx : ∀ x ∈ xs, ∀ Q' : DK, Q' (f x) h → te (τ.set i (some x)) h Q' noX) (q : Q (xs.map f) h) : lcGo (.nm i) dYes te τ xs h Q := by
  have := lc_map (i := i) (te := te) (τ := τ) (h := h) (Q := Q) (fun d => d) f xs hx q
  rw [List.map_id'] at this
  exact this
theorem bools_mapf (f : D → Bool) (xs : List D) : bools (xs.map fun d => .bl (f d)) = some (xs.map f) := by
  rw [show List.map (fun d => D.bl (f d)) xs = (xs.map f).map D.bl by rw [List.map_map]; rfl, bools_map]
theorem all_mapid (f : D → Bool) (xs : List D) : (xs.map f).all id = xs.all f := by rw [List.all_map]; rfl
theorem rd_are_printed_rows (ds : List D) (h : DH) (Q : DK) (X : DX) (z : sp_are_printed_rows ds h Q X) : t_are_printed_rows (dEnd Q X) (dstart ["value", "row"] ds) h := by
  match ds, z with
  | [d], ⟨hv, q⟩ =>
    show t_are_printed_rows (dEnd Q X) [some d, none] h
    unfold t_are_printed_rows
    cases d with
    | tup xs =>
      obtain ⟨hl, hn⟩ := nr_tup hv
      walk_at "ev"
      have no : ¬ (1 ≤ xs.length ∧ xs.length ≤ 60) → ∃ h2, DSub h2 h ∧ Q (.bl false) h2 := fun hno => dend0 (by
        have : false = isRowsD (.tup xs) := by
          show false = (decide _ && _)
          rw [decide_eq_false hno, Bool.false_and]
        rw [this]
        exact q)
      refine ⟨fun e1 => ⟨fun e2 => no (by omega), fun e2 => ⟨by omega, ?_⟩⟩, fun e1 => no (by omega)⟩
      refine lc_mapI (fun d => .bl (isRowD d)) xs (fun d hd Q' q' => ?_) ?_
      · walk_at "ev"
        exact ⟨hn d hd, q'⟩
      · simp only [bools_mapf, all_mapid]
        refine ⟨fun e3 => ⟨by omega, ?_⟩, fun e3 => dend0 ?_⟩
        · cases xs with
          | nil => exact absurd e1 (by simp)
          | cons x0 xr =>
            have hlen : ∀ d, d ∈ x0 :: xr → ∃ ys, d = .tup ys := fun d hd => by
              obtain ⟨ys, e, _⟩ := isRow_tup (List.all_eq_true.mp e3 d hd)
              exact ⟨ys, e⟩
            obtain ⟨y0, rfl⟩ := hlen x0 (by simp)
            refine lc_mapI (fun d => .bl (wideAs y0.length d)) _ (fun d hd Q' q' => ?_) ?_
            · obtain ⟨ys, rfl⟩ := hlen d hd
              walk_at "ev"
              have : decide ((ys.length : Int) = y0.length) = wideAs y0.length (.tup ys) := decide_eq_decide.mpr (by show _ ↔ ys.length = y0.length; omega)
              rw [this]
              exact q'
            · simp only [bools_mapf, all_mapid]
              refine dend0 ?_
              have : (D.tup y0 :: xr).all (wideAs y0.length) = isRowsD (.tup (.tup y0 :: xr)) := by
                show _ = (decide _ && (_ && _))
                rw [e3, decide_eq_true (by omega), Bool.true_and, Bool.true_and]
                rfl
              rw [this]
              exact q
        · have : false = isRowsD (.tup xs) := by
            show false = (decide _ && (_ && _))
            rw [e3, Bool.false_and, Bool.and_false]
          rw [this]
          exact q
    | ref a => cases hv
    | scr a => cases hv
    | _ => walk_at "ev"; exact dend0 q

end DL

namespace DL
open PySem L2
local macro_rules | `(tactic| walk_at "ev") => `(tactic| try simp (disch := (first | assumption | exact dupd_same | (refine (dupd_ne ?_).trans ?_; (first | assumption | (apply Ne.symm; assumption)); first | assumption | exact dupd_same | (refine (dupd_ne ?_).trans ?_; (first | assumption | (apply Ne.symm; assumption)); first | assumption | exact dupd_same)))) only [v0, v1, v2, v3, v4, v5, v6, v7, v8, v9, v10, v11, v12, v13, v14, v15, v16, w0, w1, w2, w3, w4, w5, w6, w7, w8, w9, w10, w11, w12, w13, w14, w15, w16, e_dC, e_dOp, e_dUn, e_dTest, e_dAnd, e_dOr, e_dNot, e_dAndV, e_dOrV, e_dNotV, e_dIfE, e_dChain, e_dNil, e_dCons, e_dTup, e_dLst, e_dLstM, e_dCB, e_dBM, e_dFrz, e_dNoPart, e_dPart, e_dSl, e_dIsi, e_iSeqD, e_iRange1, e_iRange2, e_iEnumD, e_iZipD, e_dNext, e_dSeq, e_dAsg, e_dAsgT, e_dPar, e_dIf, e_dRet, e_dRetN, e_dDrop, e_dBrk, e_dCnt, e_dAug, e_dSetI, e_dFor, e_dWhile, e_dYes, e_dLc, e_dLcM, e_dCall, e_dCallK, e_dNeg, e_dRaise, op_Lt, op_Le, op_Gt, op_Ge, op_IsN, op_IsNN, op_Sub, op_Add, op_AddS, op_AddT, op_AddL, op_Mul, op_MulT, op_MulL, op_Mod, op_Fdiv, op_InS, op_NotInS, cb_lenT, cb_lenL, cb_lenS, cb_lenX, cb_all, cb_any, cb_tupleL, cb_tupleT, cb_max, cb_min, cb_abs, cb_int, cb_intB, cb_strI, me_joinL, me_joinT, me_split, ip_add, ip_sub, ip_mul, ip_div, ix_ref0, ix_ref1, ix_ref2, me_append, me_popAt, me_pop0, me_insert, me_clear, me_reverse, cb_lenR, cb_tupleR, me_joinR, vw_ref, dT_ref, pow_18, pow_38, pow_40, pow_41, pow_6, eq_str, ne_str, eq_int, ne_int, ix_tup0, ix_lst0, sl_from, sl_to, sl_fromL, sl_toL, vw_str, vw_int, vw_bl, vw_non, vw_dct, vw_tup, vw_lst, vw_scr, ty_str, ty_int, ty_bl, ty_non, ty_tup, ty_lst, ty_dct, it_str, it_tup, it_lst, bT_nm, isN_non, isN_str, isN_int, isN_bl, isN_tup, isN_lst, isN_dct, dT_str, dT_lst, en_rt, en_nx, en_ex, t_imp, f_imp, tf_eq, ft_eq, dwipe, true_and, and_true, Bool.not_true, Bool.not_false, Bool.not_eq_true', Bool.not_eq_false', decide_eq_true_eq, decide_eq_false_iff_not, nq_NoneType, is_NoneType_int, is_NoneType_bool, is_NoneType_str, is_NoneType_tuple, is_NoneType_list, is_NoneType_dict, nq_bool, is_bool_int, is_bool_bool, is_bool_str, is_bool_tuple, is_bool_list, is_bool_dict, nq_int, is_int_int, is_int_bool, is_int_str, is_int_tuple, is_int_list, is_int_dict, nq_str, is_str_int, is_str_bool, is_str_str, is_str_tuple, is_str_list, is_str_dict, nq_tuple, is_tuple_int, is_tuple_bool, is_tuple_str, is_tuple_tuple, is_tuple_list, is_tuple_dict, nq_list, is_list_int, is_list_bool, is_list_str, is_list_tuple, is_list_list, is_list_dict, nq_dict, is_dict_int, is_dict_bool, is_dict_str, is_dict_tuple, is_dict_list, is_dict_dict])
/-! R2: the law's urn and draws -/
theorem decT (p : Prop) [d : Decidable p] (h : p) : decide p = true := decide_eq_true h
def big : Int := 10 ^ 38 + 133
/-- what an urn holds behind at most n draws -/
def UrnO (o : DO) (n : Nat) : Prop := ∃ x y t : Int, o = .lst [.int x, .int y, .int t] ∧ 0 ≤ x ∧ Builtin.Int.intBits x ≤ 1048577 ∧ 0 ≤ y ∧ y < big ∧ 0 ≤ t ∧ t ≤ n
theorem UrnO.mono {o : DO} {m n : Nat} (h : UrnO o m) (l : m ≤ n) : UrnO o n := by
  obtain ⟨x, y, t, e, a, b, c, d, f, g⟩ := h
  exact ⟨x, y, t, e, a, b, c, d, f, by omega⟩
/-- at a lies an urn -/
def Urn (h : DH) (a : Addr) (n : Nat) : Prop := ∃ o, h a = some o ∧ UrnO o n
theorem Urn.mono {h : DH} {a : Addr} {m n : Nat} (u : Urn h a m) (l : m ≤ n) : Urn h a n := by
  obtain ⟨o, e, u⟩ := u
  exact ⟨o, e, u.mono l⟩
theorem Urn.upd {h : DH} {a : Addr} {o : DO} {n : Nat} (u : UrnO o n) : Urn (dupd h a o) a n := ⟨o, dupd_same, u⟩
def LIM : Nat := 1000000000000
def sp_law_draw : DSp := fun ds h Q _ => match ds with
  | [.ref a, .int many] => ∃ n, Urn h a n ∧ n < LIM ∧ 0 < many ∧ many < 2 ^ 40 ∧ ∀ d o, 0 ≤ d → d < many → UrnO o (n + 1) → Q (.int d) (dupd h a o)
  | _ => False
def t_law_draw : DS :=
(dSeq (dIf (dTest (dOp dGt (dOp dIx (dVar 0) (dC (.int 0))) (dC (.int 0)))) (dSeq (dAsg (dOp dMod (dOp dIx (dVar 0) (dC (.int 0))) (dVar 1)) 2)
  (dSeq (dSetI (dOp dFdiv (dOp dIx (dVar 0) (dC (.int 0))) (dVar 1)) (dVar 0) (dC (.int 0)))
  (dRet (dVar 2)))) dNext)
  (dSeq (dSetI (dOp dAdd (dOp dIx (dVar 0) (dC (.int 2))) (dC (.int 1))) (dVar 0) (dC (.int 2)))
  (dSeq (dAsg (dOp dMod (dOp dPow (dOp dAdd (dOp dIx (dVar 0) (dC (.int 1))) (dOp dMul (dC (.int 694847539)) (dOp dIx (dVar 0) (dC (.int 2))))) (dC (.int 3))) (dOp dAdd (dOp dPow (dC (.int 10)) (dC (.int 41))) (dC (.int 37)))) 3)
  (dSeq (dAsg (dOp dMod (dOp dPow (dOp dAdd (dVar 3) (dOp dMul (dC (.int 179424691)) (dOp dIx (dVar 0) (dC (.int 2))))) (dC (.int 2))) (dOp dAdd (dOp dPow (dC (.int 10)) (dC (.int 40))) (dC (.int 121)))) 3)
  (dRet (dOp dMod (dOp dFdiv (dVar 3) (dOp dPow (dC (.int 10)) (dC (.int 6)))) (dVar 1)))))))
theorem log2_lt {i : Int} {m : Nat} (hi : i.natAbs < 2 ^ m) (hm : m ≤ 9000) (h0 : 0 < i) : i.natAbs.log2 < 9000 := by
  have : i.natAbs.log2 < m := (Nat.log2_lt (by omega)).mpr hi
  omega
theorem bits_abs {i : Int} {m : Nat} (h : i.natAbs < 2 ^ m) : Builtin.Int.intBits i ≤ m := PySem.intBits_le_iff.mpr h
theorem bits_div {i j : Int} {m : Nat} (h0 : 0 ≤ i) (hj : 0 < j) (h : Builtin.Int.intBits i ≤ m) : Builtin.Int.intBits (i / j) ≤ m := by
  have h2 := PySem.intBits_le_iff.mp h
  refine bits_abs (Nat.lt_of_le_of_lt ?_ h2)
  have a1 : 0 ≤ i / j := Int.ediv_nonneg h0 (by omega)
  have a2 : i / j ≤ i := Int.ediv_le_self _ h0
  omega
theorem pow_ok {Q : DK} {h : DH} {i : Int} {j : Nat} (hb : Builtin.Int.intBits i ≤ 1000) (hj : j ≤ 1000) : dPow (.int i) (.int (j : Nat)) h Q = Q (.int (i ^ j)) h := by
  simp only [dPow]
  refine propext ⟨fun z => z.2.2, fun q => ⟨by omega, ?_, q⟩⟩
  have : Builtin.Int.intBits i * j ≤ 1000 * 1000 := Nat.mul_le_mul hb hj
  have : ((Builtin.Int.intBits i * j : Nat) : Int) ≤ 2 ^ 27 := by omega
  rw [Int.natCast_mul] at this
  exact this
theorem rd_law_draw (ds : List D) (h : DH) (Q : DK) (X : DX) (z : sp_law_draw ds h Q X) : t_law_draw (dEnd Q X) (dstart ["urn", "many", "digit", "mixed"] ds) h := by
  match ds, z with
  | [.ref a, .int many], ⟨n, ⟨o, ea, x, y, t, eo, x0, xb, y0, yb, t0, tn⟩, hn, m0, mb, q⟩ =>
    subst eo
    show t_law_draw (dEnd Q X) [some (.ref a), some (.int many), none, none] h
    unfold t_law_draw
    walk_at "ev"
    refine ⟨fun e => ⟨m0, m0, log2_lt (m := 40) (by omega) (by decide) m0, ?_⟩, fun e => ?_⟩
    · simp only [ea]
      refine ⟨by decide, by show (0 : Int) < 3; decide, dend0 (q _ _ (Int.emod_nonneg _ (by omega)) (Int.emod_lt_of_pos _ m0) ⟨x / many, y, t, rfl, Int.ediv_nonneg x0 (by omega), bits_div x0 m0 xb, y0, yb, t0, by omega⟩)⟩
    · simp only [ea]
      refine ⟨by decide, by show (2 : Int) < 3; decide, ?_⟩
      have ea2 : dupd h a (.lst ([D.int x, D.int y, D.int t].set (2 : Int).toNat (.int (t + 1)))) a = some (.lst [.int x, .int y, .int (t + 1)]) := dupd_same
      have bt : Builtin.Int.intBits t ≤ 64 := bits_abs (by unfold LIM at hn; omega)
      have bt1 : Builtin.Int.intBits (t + 1) ≤ 64 := bits_abs (by unfold LIM at hn; omega)
      simp only [ix_ref1 ea2, ix_ref2 ea2, op_Mul, op_Add]
      refine ⟨IntMulOk.of_right bt1, ?_⟩
      rw [show (D.int 3) = D.int ((3 : Nat) : Int) from rfl, pow_ok (bits_abs (m := 1000) (by unfold LIM at hn; unfold big at yb; omega)) (by decide)]
      simp only [op_Mod]
      refine ⟨by decide, ?_⟩
      simp only [ix_ref2 ea2, op_Mul, op_Add]
      refine ⟨IntMulOk.of_right bt1, ?_⟩
      have p41 : (0 : Int) < 10 ^ 41 + 37 := by decide
      have u0 := Int.emod_nonneg ((y + 694847539 * (t + 1)) ^ 3) (b := 10 ^ 41 + 37) (by decide)
      have u1 := Int.emod_lt_of_pos ((y + 694847539 * (t + 1)) ^ 3) p41
      rw [show (D.int 2) = D.int ((2 : Nat) : Int) from rfl, pow_ok (bits_abs (m := 1000) (by unfold LIM at hn; omega)) (by decide)]
      simp only [op_Mod, op_Fdiv]
      refine ⟨by decide, by decide, by decide, m0, dend0 ?_⟩
      exact q _ _ (Int.emod_nonneg _ (by omega)) (Int.emod_lt_of_pos _ m0) ⟨x, y, t + 1, rfl, x0, xb, y0, yb, by omega, by omega⟩

end DL

namespace DL
open PySem L2
local macro_rules | `(tactic| walk_at "ev") => `(tactic| try simp (disch := (first | assumption | exact dupd_same | (refine (dupd_ne ?_).trans ?_; (first | assumption | (apply Ne.symm; assumption)); first | assumption | exact dupd_same | (refine (dupd_ne ?_).trans ?_; (first | assumption | (apply Ne.symm; assumption)); first | assumption | exact dupd_same)))) only [v0, v1, v2, v3, v4, v5, v6, v7, v8, v9, v10, v11, v12, v13, v14, v15, v16, w0, w1, w2, w3, w4, w5, w6, w7, w8, w9, w10, w11, w12, w13, w14, w15, w16, e_dC, e_dOp, e_dUn, e_dTest, e_dAnd, e_dOr, e_dNot, e_dAndV, e_dOrV, e_dNotV, e_dIfE, e_dChain, e_dNil, e_dCons, e_dTup, e_dLst, e_dLstM, e_dCB, e_dBM, e_dFrz, e_dNoPart, e_dPart, e_dSl, e_dIsi, e_iSeqD, e_iRange1, e_iRange2, e_iEnumD, e_iZipD, e_dNext, e_dSeq, e_dAsg, e_dAsgT, e_dPar, e_dIf, e_dRet, e_dRetN, e_dDrop, e_dBrk, e_dCnt, e_dAug, e_dSetI, e_dFor, e_dWhile, e_dYes, e_dLc, e_dLcM, e_dCall, e_dCallK, e_dNeg, e_dRaise, op_Lt, op_Le, op_Gt, op_Ge, op_IsN, op_IsNN, op_Sub, op_Add, op_AddS, op_AddT, op_AddL, op_Mul, op_MulT, op_MulL, op_Mod, op_Fdiv, op_InS, op_NotInS, cb_lenT, cb_lenL, cb_lenS, cb_lenX, cb_all, cb_any, cb_tupleL, cb_tupleT, cb_max, cb_min, cb_abs, cb_int, cb_intB, cb_strI, me_joinL, me_joinT, me_split, ip_add, ip_sub, ip_mul, ip_div, ix_ref0, ix_ref1, ix_ref2, me_append, me_popAt, me_pop0, me_insert, me_clear, me_reverse, cb_lenR, cb_tupleR, me_joinR, vw_ref, dT_ref, pow_18, pow_38, pow_40, pow_41, pow_6, eq_str, ne_str, eq_int, ne_int, ix_tup0, ix_lst0, sl_from, sl_to, sl_fromL, sl_toL, vw_str, vw_int, vw_bl, vw_non, vw_dct, vw_tup, vw_lst, vw_scr, ty_str, ty_int, ty_bl, ty_non, ty_tup, ty_lst, ty_dct, it_str, it_tup, it_lst, bT_nm, isN_non, isN_str, isN_int, isN_bl, isN_tup, isN_lst, isN_dct, dT_str, dT_lst, en_rt, en_nx, en_ex, t_imp, f_imp, tf_eq, ft_eq, dwipe, true_and, and_true, Bool.not_true, Bool.not_false, Bool.not_eq_true', Bool.not_eq_false', decide_eq_true_eq, decide_eq_false_iff_not, nq_NoneType, is_NoneType_int, is_NoneType_bool, is_NoneType_str, is_NoneType_tuple, is_NoneType_list, is_NoneType_dict, nq_bool, is_bool_int, is_bool_bool, is_bool_str, is_bool_tuple, is_bool_list, is_bool_dict, nq_int, is_int_int, is_int_bool, is_int_str, is_int_tuple, is_int_list, is_int_dict, nq_str, is_str_int, is_str_bool, is_str_str, is_str_tuple, is_str_list, is_str_dict, nq_tuple, is_tuple_int, is_tuple_bool, is_tuple_str, is_tuple_tuple, is_tuple_list, is_tuple_dict, nq_list, is_list_int, is_list_bool, is_list_str, is_list_tuple, is_list_list, is_list_dict, nq_dict, is_dict_int, is_dict_bool, is_dict_str, is_dict_tuple, is_dict_list, is_dict_dict])
/-! R3: rows and pages that are drawn -/
abbrev Row := List (Option Str)
def cD : Option Str → D
  | none => .non
  | some s => .str s
def rowD (r : Row) : D := .tup (r.map cD)
def tabD (t : List Row) : D := .tup (t.map rowD)
def okC : Option Str → Bool
  | none => false
  | some s => okCell s
/-- no blank -/
def full (r : Row) : Prop := ∀ c ∈ r, okC c = true
def blanks : Row → Nat
  | none :: r => blanks r + 1
  | _ => 0
/-- blanks only ahead -/
def pr (r : Row) : Prop := full (r.drop (blanks r))
theorem isN_cD (c : Option Str) : isN (cD c) = c.isNone := by cases c <;> rfl
theorem lead_row : ∀ r : Row, lead (r.map cD) = blanks r
  | [] => rfl
  | none :: r => by
    show (if true = true then lead (r.map cD) + 1 else 0) = blanks r + 1
    rw [if_pos rfl, lead_row r]
  | some s :: r => rfl
theorem isCell_cD (c : Option Str) : isCellD (cD c) = okC c := by cases c <;> rfl
theorem okCell_len {s : Str} (h : okCell s = true) : 1 ≤ s.length ∧ s.length ≤ 8 := by
  simp only [okCell, Bool.and_eq_true, decide_eq_true_eq] at h
  exact h.1
theorem okCell_sign {s : Str} (h : okCell s = true) : ∀ c ∈ s.cps.toList, okSign c = true := by
  simp only [okCell, Bool.and_eq_true, List.all_eq_true] at h
  exact h.2
theorem okSign_lt {c : Nat} (h : okSign c = true) : 48 ≤ c ∧ c ≤ 122 := by
  have : ∀ x ∈ signsT.cps.toList, 48 ≤ x ∧ x ≤ 122 := by decide +kernel
  exact this c (of_decide_eq_true h)
theorem strOk_of {s : Str} (h : ∀ c ∈ s.cps.toList, c < 1114112) : PyData.strOk s = true := by
  show s.cps.all (fun c => decide (c < 0x110000)) = true
  rw [← Array.all_toList, List.all_eq_true]
  exact fun c hc => decide_eq_true (h c hc)
theorem okCell_strOk {s : Str} (h : okCell s = true) : PyData.strOk s = true := strOk_of fun c hc => by
  have := okSign_lt (okCell_sign h c hc)
  omega
def strOkC : Option Str → Bool
  | none => true
  | some s => PyData.strOk s
theorem okC_strOk {c : Option Str} (h : okC c = true) : strOkC c = true := by
  cases c with
  | none => rfl
  | some s => exact okCell_strOk h
theorem eqv_str {a b : Str} : eqvD (.str a) (.str b) = decide (a = b) := by
  show PyData.eqv (.str a) (.str b) = _
  unfold PyData.eqv
  show (a == b) = decide (a = b)
  by_cases e : a = b
  · subst e; simp
  · simp [e]
theorem eqv_cD (a b : Option Str) : eqvD (cD a) (cD b) = decide (a = b) := by
  cases a <;> cases b
  · rfl
  · rfl
  · rfl
  · simp only [cD, eqv_str, Option.some.injEq]
theorem dn_cD {c : Option Str} (n : Nat) (h : strOkC c = true) : dn n (cD c) = true := by
  cases c with
  | none => cases n <;> rfl
  | some s => cases n <;> exact h
theorem ne_cD {a b : Option Str} {h : DH} {Q : DK} (ha : strOkC a = true) (hb : strOkC b = true) : dNe (cD a) (cD b) h Q = Q (.bl (!decide (a = b))) h := by
  have key : dNe (cD a) (cD b) h Q = (dn 12 (cD a) = true ∧ dn 12 (cD b) = true ∧ Q (.bl (!eqvD (cD a) (cD b))) h) ∨ ∃ s t, a = some s ∧ b = some t := by
    cases a <;> cases b
    · exact .inl rfl
    · exact .inl rfl
    · exact .inl rfl
    · exact .inr ⟨_, _, rfl, rfl⟩
  rcases key with e | ⟨s, t, rfl, rfl⟩
  · rw [e, dn_cD 12 ha, dn_cD 12 hb, eqv_cD]; simp only [true_and]
  · show Q _ h = _
    simp only [Option.some.injEq]
theorem eq_cD {a b : Option Str} {h : DH} {Q : DK} (ha : strOkC a = true) (hb : strOkC b = true) : dEq (cD a) (cD b) h Q = Q (.bl (decide (a = b))) h := by
  have key : dEq (cD a) (cD b) h Q = (dn 12 (cD a) = true ∧ dn 12 (cD b) = true ∧ Q (.bl (eqvD (cD a) (cD b))) h) ∨ ∃ s t, a = some s ∧ b = some t := by
    cases a <;> cases b
    · exact .inl rfl
    · exact .inl rfl
    · exact .inl rfl
    · exact .inr ⟨_, _, rfl, rfl⟩
  rcases key with e | ⟨s, t, rfl, rfl⟩
  · rw [e, dn_cD 12 ha, dn_cD 12 hb, eqv_cD]; simp only [true_and]
  · show Q _ h = _
    simp only [Option.some.injEq]
theorem full_drop {r : Row} (h : full r) (k : Nat) : full (r.drop k) := fun c hc => h c (List.mem_of_mem_drop hc)
theorem full_take {r : Row} (h : full r) (k : Nat) : full (r.take k) := fun c hc => h c (List.mem_of_mem_take hc)
theorem full_app {r q : Row} (h : full r) (h2 : full q) : full (r ++ q) := fun c hc => (List.mem_append.mp hc).elim (h c) (h2 c)
theorem blanks_full : ∀ {r : Row}, full r → blanks r = 0
  | [], _ => rfl
  | none :: r, h => by cases h none (by simp)
  | some s :: r, _ => rfl
theorem blanks_rep (k : Nat) {r : Row} (h : full r) : blanks (List.replicate k none ++ r) = k := by
  induction k with
  | zero => exact blanks_full h
  | succ k ih => show blanks (none :: (List.replicate k none ++ r)) = _; show blanks _ + 1 = _; rw [ih]
theorem pr_rep (k : Nat) {r : Row} (h : full r) : pr (List.replicate k none ++ r) := by
  unfold pr
  rw [blanks_rep k h, List.drop_append, List.length_replicate, Nat.sub_self, List.drop_eq_nil_of_le (by simp)]
  exact h
theorem pr_full {r : Row} (h : full r) : pr r := by
  unfold pr
  rw [blanks_full h]
  exact h
/-- nothing but these was changed -/
def Fra (h h' : DH) (l : List Addr) : Prop := ∀ b, b ∉ l → h' b = h b
theorem Fra.upd {h h' : DH} {l : List Addr} {a : Addr} {o : DO} (f : Fra h h' l) (m : a ∈ l) : Fra h (dupd h' a o) l := fun b hb => by
  rw [dupd_ne (fun e => hb (by subst e; exact m))]
  exact f b hb
theorem Fra.refl (h : DH) (l : List Addr) : Fra h h l := fun _ _ => rfl
theorem Fra.new {h h' : DH} {a p : Addr} {o : DO} (f : Fra h h' [a, p]) (ea : h' a = some o) (n : h p = none) : DSub (dupd h a o) h' := fun b u e => by
  by_cases hb : b = a
  · subst hb; rw [dupd_same] at e; rw [ea]; exact e
  · rw [dupd_ne hb] at e
    rw [f b (fun m => by rcases List.mem_cons.mp m with z | z; exact hb z; rw [List.mem_singleton.mp z, n] at e; cases e)]
    exact e
theorem dupd2 {h : DH} {a : Addr} {o u : DO} : dupd (dupd h a o) a u = dupd h a u := dupd_dupd
theorem lenT (ys : List D) : lenD (.tup ys) = ys.length := rfl
/-- a comprehension whose elements change the heap -/
theorem lc_ind {tg : Tgt} {te : DE} {τ : DSt} {Q : List D → DH → Prop} (I : List D → DH → Prop) (ds : List D) {h : DH} (h0 : I [] h)
    (step : ∀ d ∈ ds, ∃ τ', bindT tg d τ = some τ' ∧ ∀ acc h, acc.length < ds.length → I acc h → ∀ Q' : DK, (∀ y h2, I (acc ++ [y]) h2 → Q' y h2) → te τ' h Q' noX) (fin : ∀ ys h2, I ys h2 → ys.length = ds.length → Q ys h2) : lcGo tg dYes te τ ds h Q := by
  have go : ∀ (rest : List D) (h : DH) (acc : List D), acc.length + rest.length = ds.length → (∀ d ∈ rest, d ∈ ds) → I acc h → ∀ Q2 : List D → DH → Prop, (∀ ys h2, I (acc ++ ys) h2 → ys.length = rest.length → Q2 ys h2) → lcGo tg dYes te τ rest h Q2 := by
    intro rest
    induction rest with
    | nil => intro h acc _ _ i Q2 q; exact q [] h (by rw [List.append_nil]; exact i) rfl
    | cons d rest ih =>
      intro h acc hl hm i Q2 q
      obtain ⟨τ', e, t⟩ := step d (hm d (by simp))
      unfold lcGo
      simp only [e, dYes]
      refine ⟨fun _ => t acc h (by simp only [List.length_cons] at hl; omega) i _ fun y h2 i2 => ?_, fun z => by cases z⟩
      exact ih h2 (acc ++ [y]) (by rw [List.length_append, List.length_singleton]; simp only [List.length_cons] at hl; omega) (fun d hd => hm d (by simp [hd])) i2 _ fun ys h3 i3 hl3 => q (y :: ys) h3 (by rw [List.append_assoc] at i3; exact i3) (by rw [List.length_cons, List.length_cons, hl3])
  exact go ds h [] (by simp) (fun _ z => z) h0 Q fun ys h2 i hl => fin ys h2 i hl
/-! the urn -/
def sp_law_urn : DSp := fun ds h Q _ => match ds with
  | [.scr ns, .int k] => 0 ≤ k ∧ k < 1000 ∧ (∀ n ∈ ns, Builtin.Int.intBits n ≤ 1048576) ∧ ∀ p o, h p = none → UrnO o 0 → Q (.ref p) (dupd h p o)
  | _ => False
def t_law_urn : DS :=
(dSeq (dAsg (dIfE (dTest (dOp dLt (dVar 1) (dCB dLen (dCons (dVar 0) dNil)))) (dOp dIx (dVar 0) (dVar 1)) (dC (.int 0))) 2)
  (dRet (dLstM (dCons (dCB dMax2 (dCons (dC (.int 0)) (dCons (dOp dSub (dCB dAbs (dCons (dVar 2) dNil)) (dOp dPow (dC (.int 10)) (dC (.int 18)))) dNil))) (dCons (dOp dMod (dOp dAdd (dOp dAdd (dOp dMul (dVar 2) (dC (.int 101))) (dOp dMul (dC (.int 37)) (dVar 1))) (dC (.int 19))) (dOp dAdd (dOp dPow (dC (.int 10)) (dC (.int 38))) (dC (.int 133)))) (dCons (dC (.int 0)) dNil))))))
def n_law_urn : List Str := ["cells_here", "k", "cell"]
/- 0=cells_here 1=k 2=cell -/
theorem urn_num (c k : Int) (hb : Builtin.Int.intBits c ≤ 1048576) : UrnO (.lst [.int (if (if c < 0 then -c else c) - 10 ^ 18 > 0 then (if c < 0 then -c else c) - 10 ^ 18 else 0), .int ((c * 101 + 37 * k + 19) % (10 ^ 38 + 133)), .int 0]) 0 := by
  refine ⟨_, _, _, rfl, ?_, ?_, ?_, ?_, by decide, by decide⟩
  · split <;> omega
  · have b2 := intBits_le_iff.mp hb
    refine bits_abs ?_
    have : (2 : Nat) ^ 1048577 = 2 * 2 ^ 1048576 := by rw [Nat.pow_succ]; omega
    split <;> split <;> omega
  · exact Int.emod_nonneg _ (by decide)
  · exact Int.emod_lt_of_pos _ (by decide)
theorem urn_of (c k : Int) (h : DH) (Q : DK) (hb : Builtin.Int.intBits c ≤ 1048576) (k0 : 0 ≤ k) (k1 : k < 1000) (q : ∀ p o, h p = none → UrnO o 0 → Q (.ref p) (dupd h p o)) (X : DX) (ns : List Int) :
    (dRet (dLstM (dCons (dCB dMax2 (dCons (dC (.int 0)) (dCons (dOp dSub (dCB dAbs (dCons (dVar 2) dNil)) (dOp dPow (dC (.int 10)) (dC (.int 18)))) dNil))) (dCons (dOp dMod (dOp dAdd (dOp dAdd (dOp dMul (dVar 2) (dC (.int 101))) (dOp dMul (dC (.int 37)) (dVar 1))) (dC (.int 19))) (dOp dAdd (dOp dPow (dC (.int 10)) (dC (.int 38))) (dC (.int 133)))) (dCons (dC (.int 0)) dNil))))) (dEnd Q X) [some (.scr ns), some (.int k), some (.int c)] h := by
  walk_at "ev"
  exact ⟨.of_right (bits_abs (by decide)), .of_right (bits_abs (by omega)), by decide, le_line (m := 3) (Nat.le_refl _), fun p hp => dend0 (q p _ hp (urn_num c k hb))⟩
theorem rd_law_urn (ds : List D) (h : DH) (Q : DK) (X : DX) (z : sp_law_urn ds h Q X) : t_law_urn (dEnd Q X) (dstart n_law_urn ds) h := by
  match ds, z with
  | [.scr ns, .int k], ⟨k0, k1, hb, q⟩ =>
    show t_law_urn (dEnd Q X) [some (.scr ns), some (.int k), none] h
    unfold t_law_urn
    simp only [e_dSeq, e_dAsg, e_dIfE, e_dTest, e_dOp, v0, v1, v2, w2, e_dCB, e_dCons, e_dNil, cb_lenX, op_Lt, e_dC, decide_eq_true_eq, decide_eq_false_iff_not]
    refine ⟨fun e => ?_, fun e => urn_of 0 k h Q (bits_abs (Nat.two_pow_pos _)) k0 k1 q X ns⟩
    have hk : k.toNat < ns.length := by omega
    have e2 : ns[k.toNat]? = some ns[k.toNat] := List.getElem?_eq_getElem hk
    have ek : k = (k.toNat : Int) := by omega
    rw [ek, ix_scr e2, ← ek]
    exact urn_of _ k h Q (hb _ (List.getElem_mem hk)) k0 k1 q X ns
/-! an item -/
theorem join_signs : ∀ cs : List Nat, Txt.join "" (cs.map fun c => (⟨#[c]⟩ : Str)) = ⟨cs.toArray⟩ := by
  intro cs
  rw [Txt.join, StrLaws.glued_eq_join]
  induction cs with
  | nil => rfl
  | cons c cs ih =>
    cases cs with
    | nil => rfl
    | cons d cs =>
      show (⟨#[c]⟩ : Str) ++ "" ++ Str.join "" (((d :: cs).map fun c => (⟨#[c]⟩ : Str))) = _
      rw [ih]
      refine Str.ext' ?_
      show (#[c] ++ #[] ++ (d :: cs).toArray : Array Nat) = _
      simp
theorem i_law_draw {a : Addr} {many : Int} {h : DH} {Q : DK} {X : DX} (n : Nat) (u : Urn h a n) (hn : n < LIM) (m0 : 0 < many) (mb : many < 2 ^ 40) (q : ∀ d o, 0 ≤ d → d < many → UrnO o (n + 1) → Q (.int d) (dupd h a o)) :
    sp_law_draw [.ref a, .int many] h Q X := ⟨n, u, hn, m0, mb, q⟩
def sp_law_item : DSp := fun ds h Q _ => match ds with
  | [.ref a] => ∃ n, Urn h a n ∧ n + 20 ≤ LIM ∧ ∀ s o, okCell s = true → UrnO o (n + 20) → Q (.str s) (dupd h a o)
  | _ => False
def t_law_item : DS :=
(dSeq (dIf (dTest (dOp dEq (dCall sp_law_draw (dCons (dVar 0) (dCons (dC (.int 9)) dNil))) (dC (.int 0)))) (dSeq (dAsg (dC (.str "abcdefghijklmnopqrstuvwxyz0123456789")) 1)
  (dRet (dBM "str" dJoin (dC (.str "")) (dCons (dLc (iRange1 (dOp dAdd (dC (.int 1)) (dCall sp_law_draw (dCons (dVar 0) (dCons (dC (.int 8)) dNil))))) (.nm 2) dYes (dOp dIx (dVar 1) (dCall sp_law_draw (dCons (dVar 0) (dCons (dC (.int 36)) dNil)))) [2]) dNil)))) dNext)
  (dRet (dOp dIx (dLst (dCons (dC (.str "a")) (dCons (dC (.str "b")) (dCons (dC (.str "x")) (dCons (dC (.str "1")) (dCons (dC (.str "10")) (dCons (dC (.str "none")) dNil))))))) (dCall sp_law_draw (dCons (dVar 0) (dCons (dOp dIx (dLst (dCons (dC (.int 2)) (dCons (dC (.int 3)) (dCons (dC (.int 6)) dNil)))) (dCall sp_law_draw (dCons (dVar 0) (dCons (dC (.int 3)) dNil)))) dNil))))))
def n_law_item : List Str := ["urn", "signs", "turn"]
/- 0=urn 1=signs 2=turn -/
theorem rd_law_item (ds : List D) (h : DH) (Q : DK) (X : DX) (z : sp_law_item ds h Q X) : t_law_item (dEnd Q X) (dstart n_law_item ds) h := by
  match ds, z with
  | [.ref a], ⟨n, u, hn, q⟩ =>
    show t_law_item (dEnd Q X) [some (.ref a), none, none] h
    unfold t_law_item
    walk_at "ev"
    refine i_law_draw n u (by omega) (by decide) (by decide) fun d o d0 d9 uo => ?_
    walk_at "ev"
    refine ⟨fun e => ?_, fun e => ?_⟩
    · refine i_law_draw (n + 1) (Urn.upd uo) (by omega) (by decide) (by decide) fun d2 o2 d20 d28 uo2 => ?_
      simp only [dupd2, op_Add]
      refine ⟨by omega, by omega, ?_, ?_⟩
      · rw [List.length_map, List.length_range]; omega
      refine lc_ind (fun acc h' => ∃ o' cs, h' = dupd h a o' ∧ UrnO o' (n + 2 + acc.length) ∧ acc = (cs.map fun c => (⟨#[c]⟩ : Str)).map D.str ∧ ∀ c ∈ cs, okSign c = true) _ ⟨o2, [], rfl, uo2, rfl, fun _ z => nomatch z⟩ ?_ ?_
      · intro x hx
        refine ⟨_, rfl, ?_⟩
        rintro acc h' ha ⟨o', cs, rfl, uo', ea, hc⟩ Q' q'
        have hN : acc.length < 8 := by simp only [List.length_map, List.length_range] at ha; omega
        obtain ⟨i, hi, rfl⟩ := List.mem_map.mp hx
        walk_at "ev"
        refine i_law_draw _ (Urn.upd uo') (by omega) (by decide) (by decide) fun d3 o3 d30 d36 uo3 => ?_
        simp only [dupd2]
        have h36 : signsT.cps.toList.length = 36 := by decide +kernel
        have hk : d3.toNat < signsT.cps.toList.length := by omega
        have e3 : signsT.cps.toList[d3.toNat]? = some signsT.cps.toList[d3.toNat] := List.getElem?_eq_getElem hk
        rw [show d3 = (d3.toNat : Int) by omega, show Str.ofString "abcdefghijklmnopqrstuvwxyz0123456789" = signsT from rfl, ix_str e3]
        refine ⟨le_line (m := 36) (by decide +kernel), q' _ _ ⟨o3, cs ++ [signsT.cps.toList[d3.toNat]], rfl, ?_, ?_, ?_⟩⟩
        · rw [List.length_append, List.length_singleton]; exact uo3
        · rw [ea, List.map_append, List.map_append]; rfl
        · intro c hc2
          rcases List.mem_append.mp hc2 with z | z
          · exact hc c z
          · rw [List.mem_singleton.mp z]
            exact decide_eq_true (List.getElem_mem hk)
      · rintro ys h2 ⟨o', cs, rfl, uo', rfl, hc⟩ hl
        have hl2 : cs.length = (1 + d2).toNat := by simp only [List.length_map, List.length_range] at hl; exact hl
        have hl3 : ((cs.map fun c => (⟨#[c]⟩ : Str)).map D.str).length = cs.length := by rw [List.length_map, List.length_map]
        simp only [strsOf_map]
        rw [show Str.ofString "" = "" from rfl, join_signs]
        have hok : okCell ⟨cs.toArray⟩ = true := by
          have l1 : (⟨cs.toArray⟩ : Str).length = cs.length := by show cs.toArray.size = _; simp
          simp only [okCell, Bool.and_eq_true, decide_eq_true_eq, l1, List.all_eq_true]
          exact ⟨by omega, fun c h => hc c (by simpa using h)⟩
        refine ⟨?_, dend0 (q _ _ hok (uo'.mono (by omega)))⟩
        have : ((cs.map fun c => (⟨#[c]⟩ : Str)).map (·.length)).sum = cs.length := by
          rw [List.map_map]
          clear hl hl2 hl3 hok uo' hc
          induction cs with
          | nil => rfl
          | cons c cs ih => simp only [List.map_cons, List.sum_cons, ih, List.length_cons, Function.comp]; show 1 + cs.length = _; omega
        rw [this, List.length_map]
        show cs.length + cs.length * 0 ≤ _
        omega
    · refine ⟨le_line (m := 6) (Nat.le_refl _), le_line (m := 3) (Nat.le_refl _), ?_⟩
      refine i_law_draw (n + 1) (Urn.upd uo) (by omega) (by decide) (by decide) fun d2 o2 d20 d23 uo2 => ?_
      simp only [dupd2]
      have e2 : d2 = 0 ∨ d2 = 1 ∨ d2 = 2 := by omega
      obtain ⟨m, em, m0, m6⟩ : ∃ m : Int, [D.int 2, D.int 3, D.int 6][d2.toNat]? = some (.int m) ∧ 0 < m ∧ m ≤ 6 := by
        rcases e2 with rfl | rfl | rfl
        · exact ⟨2, rfl, by decide, by decide⟩
        · exact ⟨3, rfl, by decide, by decide⟩
        · exact ⟨6, rfl, by decide, by decide⟩
      rw [show d2 = (d2.toNat : Int) by omega, ix_lst em]
      refine i_law_draw (n + 2) (Urn.upd uo2) (by omega) (by omega) (by omega) fun d3 o3 d30 d36 uo3 => ?_
      simp only [dupd2]
      have e3 : d3 = 0 ∨ d3 = 1 ∨ d3 = 2 ∨ d3 = 3 ∨ d3 = 4 ∨ d3 = 5 := by omega
      obtain ⟨s, es, ok⟩ : ∃ s : Str, [D.str "a", D.str "b", D.str "x", D.str "1", D.str "10", D.str "none"][d3.toNat]? = some (.str s) ∧ okCell s = true := by
        rcases e3 with rfl | rfl | rfl | rfl | rfl | rfl
        · exact ⟨"a", rfl, by decide +kernel⟩
        · exact ⟨"b", rfl, by decide +kernel⟩
        · exact ⟨"x", rfl, by decide +kernel⟩
        · exact ⟨"1", rfl, by decide +kernel⟩
        · exact ⟨"10", rfl, by decide +kernel⟩
        · exact ⟨"none", rfl, by decide +kernel⟩
      rw [show d3 = (d3.toNat : Int) by omega]
      refine (ix_lst es).mpr ?_
      exact dend0 (q _ _ ok (uo3.mono (by omega)))

end DL

namespace DL
open PySem L2
local macro_rules | `(tactic| walk_at "ev") => `(tactic| try simp (disch := (first | assumption | exact dupd_same | (refine (dupd_ne ?_).trans ?_; (first | assumption | (apply Ne.symm; assumption)); first | assumption | exact dupd_same | (refine (dupd_ne ?_).trans ?_; (first | assumption | (apply Ne.symm; assumption)); first | assumption | exact dupd_same)))) only [v0, v1, v2, v3, v4, v5, v6, v7, v8, v9, v10, v11, v12, v13, v14, v15, v16, w0, w1, w2, w3, w4, w5, w6, w7, w8, w9, w10, w11, w12, w13, w14, w15, w16, e_dC, e_dOp, e_dUn, e_dTest, e_dAnd, e_dOr, e_dNot, e_dAndV, e_dOrV, e_dNotV, e_dIfE, e_dChain, e_dNil, e_dCons, e_dTup, e_dLst, e_dLstM, e_dCB, e_dBM, e_dFrz, e_dNoPart, e_dPart, e_dSl, e_dIsi, e_iSeqD, e_iRange1, e_iRange2, e_iEnumD, e_iZipD, e_dNext, e_dSeq, e_dAsg, e_dAsgT, e_dPar, e_dIf, e_dRet, e_dRetN, e_dDrop, e_dBrk, e_dCnt, e_dAug, e_dSetI, e_dFor, e_dWhile, e_dYes, e_dLc, e_dLcM, e_dCall, e_dCallK, e_dNeg, e_dRaise, op_Lt, op_Le, op_Gt, op_Ge, op_IsN, op_IsNN, op_Sub, op_Add, op_AddS, op_AddT, op_AddL, op_Mul, op_MulT, op_MulL, op_Mod, op_Fdiv, op_InS, op_NotInS, cb_lenT, cb_lenL, cb_lenS, cb_lenX, cb_all, cb_any, cb_tupleL, cb_tupleT, cb_max, cb_min, cb_abs, cb_int, cb_intB, cb_strI, me_joinL, me_joinT, me_split, ip_add, ip_sub, ip_mul, ip_div, ix_ref0, ix_ref1, ix_ref2, me_append, me_popAt, me_pop0, me_insert, me_clear, me_reverse, cb_lenR, cb_tupleR, me_joinR, vw_ref, dT_ref, pow_18, pow_38, pow_40, pow_41, pow_6, eq_str, ne_str, eq_int, ne_int, ix_tup0, ix_lst0, sl_from, sl_to, sl_fromL, sl_toL, vw_str, vw_int, vw_bl, vw_non, vw_dct, vw_tup, vw_lst, vw_scr, ty_str, ty_int, ty_bl, ty_non, ty_tup, ty_lst, ty_dct, it_str, it_tup, it_lst, bT_nm, isN_non, isN_str, isN_int, isN_bl, isN_tup, isN_lst, isN_dct, dT_str, dT_lst, en_rt, en_nx, en_ex, t_imp, f_imp, tf_eq, ft_eq, dwipe, true_and, and_true, Bool.not_true, Bool.not_false, Bool.not_eq_true', Bool.not_eq_false', decide_eq_true_eq, decide_eq_false_iff_not, nq_NoneType, is_NoneType_int, is_NoneType_bool, is_NoneType_str, is_NoneType_tuple, is_NoneType_list, is_NoneType_dict, nq_bool, is_bool_int, is_bool_bool, is_bool_str, is_bool_tuple, is_bool_list, is_bool_dict, nq_int, is_int_int, is_int_bool, is_int_str, is_int_tuple, is_int_list, is_int_dict, nq_str, is_str_int, is_str_bool, is_str_str, is_str_tuple, is_str_list, is_str_dict, nq_tuple, is_tuple_int, is_tuple_bool, is_tuple_str, is_tuple_tuple, is_tuple_list, is_tuple_dict, nq_list, is_list_int, is_list_bool, is_list_str, is_list_tuple, is_list_list, is_list_dict, nq_dict, is_dict_int, is_dict_bool, is_dict_str, is_dict_tuple, is_dict_list, is_dict_dict])
/-! R4: rows and pages that are drawn -/
theorem i_law_item {a : Addr} {h : DH} {Q : DK} {X : DX} (n : Nat) (u : Urn h a n) (hn : n + 20 ≤ LIM) (q : ∀ s o, okCell s = true → UrnO o (n + 20) → Q (.str s) (dupd h a o)) : sp_law_item [.ref a] h Q X := ⟨n, u, hn, q⟩
def aboveD : Option Row → D
  | none => .non
  | some r => rowD r
def sp_law_row : DSp := fun ds h Q _ => match ds with
  | [.ref a, .int wide, d] => ∃ n above, Urn h a n ∧ n + 200 ≤ LIM ∧ 1 ≤ wide ∧ wide ≤ 6 ∧ d = aboveD above ∧ (∀ r, above = some r → full r ∧ r.length = wide.toNat) ∧ ∀ r o, full r → r.length = wide.toNat → UrnO o (n + 200) → Q (rowD r) (dupd h a o)
  | _ => False
theorem i_law_row {a : Addr} {wide : Int} {h : DH} {Q : DK} {X : DX} (n : Nat) (above : Option Row) (u : Urn h a n) (hn : n + 200 ≤ LIM) (w1 : 1 ≤ wide) (w6 : wide ≤ 6) (ha : ∀ r, above = some r → full r ∧ r.length = wide.toNat) (q : ∀ r o, full r → r.length = wide.toNat → UrnO o (n + 200) → Q (rowD r) (dupd h a o)) :
    sp_law_row [.ref a, .int wide, aboveD above] h Q X := ⟨n, above, u, hn, w1, w6, rfl, ha, q⟩
def t_law_row : DS :=
(dSeq (dAsg (dCB dTuple (dCons (dLc (iRange1 (dVar 1)) (.nm 5) dYes (dCall sp_law_item (dCons (dVar 0) dNil)) [5]) dNil)) 3)
  (dSeq (dIf (dTest (dOp dIsN (dVar 2) (dC .non))) (dRet (dVar 3)) dNext)
  (dSeq (dAsg (dCall sp_law_draw (dCons (dVar 0) (dCons (dOp dAdd (dVar 1) (dC (.int 1))) dNil))) 4)
  (dRet (dOp dAdd (dSl dSlice (dVar 2) dNoPart (dPart (dVar 4))) (dSl dSlice (dVar 3) (dPart (dVar 4)) dNoPart))))))
def n_law_row : List Str := ["urn", "wide", "above", "fresh", "kept", "turn"]
/- 0=urn 1=wide 2=above 3=fresh 4=kept 5=turn -/
theorem rd_law_row (ds : List D) (h : DH) (Q : DK) (X : DX) (z : sp_law_row ds h Q X) : t_law_row (dEnd Q X) (dstart n_law_row ds) h := by
  match ds, z with
  | [.ref a, .int wide, _], ⟨n, above, u, hn, w1, w6, rfl, ha, q⟩ =>
    show t_law_row (dEnd Q X) [some (.ref a), some (.int wide), some (aboveD above), none, none, none] h
    unfold t_law_row
    walk_at "ev"
    refine ⟨by omega, by omega, by rw [List.length_map, List.length_range]; omega, ?_⟩
    obtain ⟨o0, ea0, uo0⟩ := u
    refine lc_ind (fun acc h' => ∃ o' r, h' = dupd h a o' ∧ UrnO o' (n + 20 * acc.length) ∧ acc = r.map cD ∧ full r) _ ⟨o0, [], by funext b; unfold dupd; split; (rename_i e; rw [e, ea0]); rfl, uo0, rfl, fun _ z => nomatch z⟩ ?_ ?_
    · intro x hx
      refine ⟨_, rfl, ?_⟩
      rintro acc h' hl ⟨o', r, rfl, uo', ea, hf⟩ Q' q'
      have hN : acc.length < 6 := by simp only [List.length_map, List.length_range] at hl; omega
      obtain ⟨i, hi, rfl⟩ := List.mem_map.mp hx
      walk_at "ev"
      refine i_law_item _ (Urn.upd uo') (by omega) fun s o3 ok uo3 => ?_
      simp only [dupd2]
      refine q' _ _ ⟨o3, r ++ [some s], rfl, ?_, ?_, ?_⟩
      · rw [List.length_append, List.length_singleton]; exact uo3.mono (by omega)
      · rw [ea, List.map_append]; rfl
      · exact full_app hf fun c hc => by rw [List.mem_singleton.mp hc]; exact ok
    · rintro ys h2 ⟨o', r, rfl, uo', rfl, hf⟩ hl
      have hl2 : r.length = wide.toNat := by simp only [List.length_map, List.length_range] at hl; exact hl
      have uo2 := uo'.mono (show n + 20 * (r.map cD).length ≤ n + 120 by rw [List.length_map]; omega)
      cases above with
      | none =>
        rw [show aboveD none = D.non from rfl]
        walk_at "ev"
        exact dend0 (q r o' hf hl2 (uo2.mono (by omega)))
      | some ab =>
        obtain ⟨hfa, hla⟩ := ha ab rfl
        rw [show aboveD (some ab) = D.tup (ab.map cD) from rfl]
        walk_at "ev"
        refine i_law_draw _ (Urn.upd uo2) (by omega) (by omega) (by omega) fun d o3 d0 d3 uo3 => ?_
        rw [show d = (d.toNat : Int) by omega]
        walk_at "ev"
        refine ⟨?_, dend0 ?_⟩
        · refine le_line (m := 12) ?_
          simp only [List.length_take, List.length_drop, List.length_map]
          omega
        · rw [← List.map_take, ← List.map_drop, ← List.map_append, dupd2]
          refine q _ _ (full_app (full_take hfa _) (full_drop hf _)) ?_ (uo3.mono (by omega))
          rw [List.length_append, List.length_take, List.length_drop]
          omega
/-- how many they share ahead -/
def shared : Row → Row → Nat
  | x :: xs, y :: ys => if x = y then shared xs ys + 1 else 0
  | _, _ => 0
theorem shared_le : ∀ (r q : Row), shared r q ≤ r.length
  | [], _ => Nat.zero_le _
  | _ :: _, [] => Nat.zero_le _
  | x :: xs, y :: ys => by
    unfold shared
    have := shared_le xs ys
    split <;> simp only [List.length_cons] <;> omega
theorem shared_le2 : ∀ (r q : Row), shared r q ≤ q.length
  | [], _ => Nat.zero_le _
  | _ :: _, [] => Nat.zero_le _
  | x :: xs, y :: ys => by
    unfold shared
    have := shared_le2 xs ys
    split <;> simp only [List.length_cons] <;> omega
def strOkR (r : Row) : Prop := ∀ c ∈ r, strOkC c = true
theorem full_strOk {r : Row} (h : full r) : strOkR r := fun c hc => okC_strOk (h c hc)
def sp_law_shared : DSp := fun ds h Q _ => match ds with
  | [d, e] => ∃ r q, d = rowD r ∧ e = rowD q ∧ strOkR r ∧ strOkR q ∧ Q (.int (shared r q : Nat)) h
  | _ => False
theorem i_law_shared {r q : Row} {h : DH} {Q : DK} {X : DX} (hr : strOkR r) (hq : strOkR q) (z : Q (.int (shared r q : Nat)) h) : sp_law_shared [rowD r, rowD q] h Q X := ⟨r, q, rfl, rfl, hr, hq, z⟩
def t_law_shared : DS :=
(dSeq (dAsg (dC (.int 0)) 2)
  (dSeq (dFor (iZipD (dVar 0) (dVar 1)) (.tp [(.nm 3), (.nm 4)]) (dSeq (dIf (dTest (dOp dNe (dVar 3) (dVar 4))) (dRet (dVar 2)) dNext)
  (dAsg (dOp dAdd (dVar 2) (dC (.int 1))) 2)))
  (dRet (dVar 2))))
def n_law_shared : List Str := ["one", "two", "many", "here", "there"]
/- 0=one 1=two 2=many 3=here 4=there -/
theorem zip_rows (r q : Row) : zipD (r.map cD) (q.map cD) = (r.zip q).map fun p => .tup [cD p.1, cD p.2] := by
  unfold zipD
  rw [List.zip_map, List.map_map]
  rfl
theorem shared_go : ∀ (r q : Row) (k : Nat) (d1 d2 : D) (v3 v4 : Option D) (h : DH) (Q : DK) (X : DX) (tb : DS) (E : DEnds), strOkR r → strOkR q →
    (∀ (k : Nat) (x y : Option Str) (E2 : DEnds), strOkC x = true → strOkC y = true → (x ≠ y → E2.rt (.int (k : Nat)) h) → (x = y → E2.nx [some d1, some d2, some (.int ((k + 1 : Nat) : Int)), some (cD x), some (cD y)] h) → tb E2 [some d1, some d2, some (.int (k : Nat)), some (cD x), some (cD y)] h) →
    (∀ v3 v4, E.nx [some d1, some d2, some (.int ((k + shared r q : Nat) : Int)), v3, v4] h) → E.rt (.int ((k + shared r q : Nat) : Int)) h →
    forGo (.tp [.nm 3, .nm 4]) tb ((r.zip q).map fun p => .tup [cD p.1, cD p.2]) E [some d1, some d2, some (.int (k : Nat)), v3, v4] h
  | [], q, k, d1, d2, v3, v4, h, Q, X, tb, E, _, _, _, nx, _ => nx v3 v4
  | _ :: _, [], k, d1, d2, v3, v4, h, Q, X, tb, E, _, _, _, nx, _ => nx v3 v4
  | x :: xs, y :: ys, k, d1, d2, v3, v4, h, Q, X, tb, E, hr, hq, ht, nx, rt => by
    show tb _ [some d1, some d2, some (.int (k : Nat)), some (cD x), some (cD y)] h
    refine ht k x y _ (hr x (by simp)) (hq y (by simp)) (fun e => ?_) (fun e => ?_)
    · have : shared (x :: xs) (y :: ys) = 0 := by unfold shared; rw [if_neg e]
      rw [this] at rt
      exact rt
    · have es : k + shared (x :: xs) (y :: ys) = (k + 1) + shared xs ys := by
        rw [show shared (x :: xs) (y :: ys) = shared xs ys + 1 by rw [shared.eq_1, if_pos e]]; omega
      rw [es] at nx rt
      exact shared_go xs ys (k + 1) d1 d2 _ _ h Q X tb E (fun c hc => hr c (by simp [hc])) (fun c hc => hq c (by simp [hc])) ht nx rt
theorem rd_law_shared (ds : List D) (h : DH) (Q : DK) (X : DX) (z : sp_law_shared ds h Q X) : t_law_shared (dEnd Q X) (dstart n_law_shared ds) h := by
  match ds, z with
  | [_, _], ⟨r, q, rfl, rfl, hr, hq, z⟩ =>
    show t_law_shared (dEnd Q X) [some (.tup (r.map cD)), some (.tup (q.map cD)), none, none, none] h
    unfold t_law_shared
    walk_at "ev"
    rw [zip_rows]
    refine shared_go r q 0 _ _ _ _ h Q X _ _ hr hq ?_ ?_ ?_
    · intro k x y E2 hx hy n1 n2
      walk_at "ev"
      rw [ne_cD hx hy]
      walk_at "ev"
      exact ⟨fun e => n1 (by simpa using e), fun e => n2 (by simpa using e)⟩
    · intro v3 v4
      walk_at "ev"
      rw [Nat.zero_add]
      exact dend0 z
    · rw [Nat.zero_add]
      exact dend0 z

end DL

namespace DL
open PySem L2
local macro_rules | `(tactic| walk_at "ev") => `(tactic| try simp (disch := (first | assumption | exact dupd_same | (refine (dupd_ne ?_).trans ?_; (first | assumption | (apply Ne.symm; assumption)); first | assumption | exact dupd_same | (refine (dupd_ne ?_).trans ?_; (first | assumption | (apply Ne.symm; assumption)); first | assumption | exact dupd_same)))) only [v0, v1, v2, v3, v4, v5, v6, v7, v8, v9, v10, v11, v12, v13, v14, v15, v16, w0, w1, w2, w3, w4, w5, w6, w7, w8, w9, w10, w11, w12, w13, w14, w15, w16, e_dC, e_dOp, e_dUn, e_dTest, e_dAnd, e_dOr, e_dNot, e_dAndV, e_dOrV, e_dNotV, e_dIfE, e_dChain, e_dNil, e_dCons, e_dTup, e_dLst, e_dLstM, e_dCB, e_dBM, e_dFrz, e_dNoPart, e_dPart, e_dSl, e_dIsi, e_iSeqD, e_iRange1, e_iRange2, e_iEnumD, e_iZipD, e_dNext, e_dSeq, e_dAsg, e_dAsgT, e_dPar, e_dIf, e_dRet, e_dRetN, e_dDrop, e_dBrk, e_dCnt, e_dAug, e_dSetI, e_dFor, e_dWhile, e_dYes, e_dLc, e_dLcM, e_dCall, e_dCallK, e_dNeg, e_dRaise, op_Lt, op_Le, op_Gt, op_Ge, op_IsN, op_IsNN, op_Sub, op_Add, op_AddS, op_AddT, op_AddL, op_Mul, op_MulT, op_MulL, op_Mod, op_Fdiv, op_InS, op_NotInS, cb_lenT, cb_lenL, cb_lenS, cb_lenX, cb_all, cb_any, cb_tupleL, cb_tupleT, cb_max, cb_min, cb_abs, cb_int, cb_intB, cb_strI, me_joinL, me_joinT, me_split, ip_add, ip_sub, ip_mul, ip_div, ix_ref0, ix_ref1, ix_ref2, me_append, me_popAt, me_pop0, me_insert, me_clear, me_reverse, cb_lenR, cb_tupleR, me_joinR, vw_ref, dT_ref, pow_18, pow_38, pow_40, pow_41, pow_6, eq_str, ne_str, eq_int, ne_int, ix_tup0, ix_lst0, sl_from, sl_to, sl_fromL, sl_toL, vw_str, vw_int, vw_bl, vw_non, vw_dct, vw_tup, vw_lst, vw_scr, ty_str, ty_int, ty_bl, ty_non, ty_tup, ty_lst, ty_dct, it_str, it_tup, it_lst, bT_nm, isN_non, isN_str, isN_int, isN_bl, isN_tup, isN_lst, isN_dct, dT_str, dT_lst, en_rt, en_nx, en_ex, t_imp, f_imp, tf_eq, ft_eq, dwipe, true_and, and_true, Bool.not_true, Bool.not_false, Bool.not_eq_true', Bool.not_eq_false', decide_eq_true_eq, decide_eq_false_iff_not, nq_NoneType, is_NoneType_int, is_NoneType_bool, is_NoneType_str, is_NoneType_tuple, is_NoneType_list, is_NoneType_dict, nq_bool, is_bool_int, is_bool_bool, is_bool_str, is_bool_tuple, is_bool_list, is_bool_dict, nq_int, is_int_int, is_int_bool, is_int_str, is_int_tuple, is_int_list, is_int_dict, nq_str, is_str_int, is_str_bool, is_str_str, is_str_tuple, is_str_list, is_str_dict, nq_tuple, is_tuple_int, is_tuple_bool, is_tuple_str, is_tuple_tuple, is_tuple_list, is_tuple_dict, nq_list, is_list_int, is_list_bool, is_list_str, is_list_tuple, is_list_list, is_list_dict, nq_dict, is_dict_int, is_dict_bool, is_dict_str, is_dict_tuple, is_dict_list, is_dict_dict])
/-! R5: pages that are drawn -/
/-- printed rows of one width, the first one full -/
structure PageP (t : List Row) : Prop where
  ne : 1 ≤ t.length
  le : t.length ≤ 60
  w : ∃ w, 1 ≤ w ∧ w ≤ 6 ∧ ∀ r ∈ t, r.length = w ∧ pr r
  first : ∀ r, t[0]? = some r → full r
def sp_law_page : DSp := fun ds h Q _ => match ds with
  | [.ref a, .int most] => ∃ n, Urn h a n ∧ n + 20000 ≤ LIM ∧ 1 ≤ most ∧ most ≤ 60 ∧ ∀ t o, PageP t → t.length ≤ most.toNat → UrnO o (n + 20000) → Q (tabD t) (dupd h a o)
  | _ => False
theorem i_law_page {a : Addr} {most : Int} {h : DH} {Q : DK} {X : DX} (n : Nat) (u : Urn h a n) (hn : n + 20000 ≤ LIM) (m1 : 1 ≤ most) (m60 : most ≤ 60) (q : ∀ t o, PageP t → t.length ≤ most.toNat → UrnO o (n + 20000) → Q (tabD t) (dupd h a o)) :
    sp_law_page [.ref a, .int most] h Q X := ⟨n, u, hn, m1, m60, q⟩
def t_law_page : DS :=
(dSeq (dPar 2 3 (dOp dAdd (dC (.int 1)) (dCall sp_law_draw (dCons (dVar 0) (dCons (dOp dIx (dLst (dCons (dC (.int 3)) (dCons (dC (.int 6)) dNil))) (dCall sp_law_draw (dCons (dVar 0) (dCons (dC (.int 2)) dNil)))) dNil)))) (dOp dIx (dLst (dCons (dOp dAdd (dC (.int 1)) (dCall sp_law_draw (dCons (dVar 0) (dCons (dVar 1) dNil)))) (dCons (dVar 1) dNil))) (dCall sp_law_draw (dCons (dVar 0) (dCons (dC (.int 2)) dNil)))))
  (dSeq (dPar 4 5 (dLstM dNil) (dC .non))
  (dSeq (dFor (iRange1 (dVar 3)) (.nm 6) (dSeq (dAsg (dCall sp_law_row (dCons (dVar 0) (dCons (dVar 2) (dCons (dVar 5) dNil)))) 7)
  (dSeq (dAsg (dIfE (dTest (dOp dIsN (dVar 5) (dC .non))) (dC (.int 0)) (dCall sp_law_shared (dCons (dVar 7) (dCons (dVar 5) dNil)))) 8)
  (dSeq (dAsg (dOp dIx (dLst (dCons (dVar 8) (dCons (dCall sp_law_draw (dCons (dVar 0) (dCons (dOp dAdd (dVar 8) (dC (.int 1))) dNil))) dNil))) (dCall sp_law_draw (dCons (dVar 0) (dCons (dC (.int 2)) dNil)))) 8)
  (dSeq (dDrop (dBM "list" dAppend (dVar 4) (dCons (dOp dAdd (dOp dMul (dTup (dCons (dC .non) dNil)) (dVar 8)) (dSl dSlice (dVar 7) (dPart (dVar 8)) dNoPart)) dNil)))
  (dAsg (dVar 7) 5))))))
  (dRet (dCB dTuple (dCons (dVar 4) dNil))))))
def n_law_page : List Str := ["urn", "most", "wide", "many", "found", "above", "turn", "own", "few"]
/- 0=urn 1=most 2=wide 3=many 4=found 5=above 6=turn 7=own 8=few -/
theorem rpt_non (k : Nat) : rpt (k : Int) [D.non] = List.replicate k D.non := by
  unfold rpt
  rw [Int.toNat_natCast]
  induction k with
  | zero => rfl
  | succ k ih => rw [List.replicate_succ, List.flatten_cons, ih]; rfl
theorem rep_none (k : Nat) : List.replicate k D.non = (List.replicate k (none : Option Str)).map cD := by rw [List.map_replicate]; rfl
theorem Urn.fra {h' : DH} {a : Addr} {o : DO} {n : Nat} (u : UrnO o n) (e : h' a = some o) : Urn h' a n := ⟨o, e, u⟩
theorem rd_law_page (ds : List D) (h : DH) (Q : DK) (X : DX) (z : sp_law_page ds h Q X) : t_law_page (dEnd Q X) (dstart n_law_page ds) h := by
  match ds, z with
  | [.ref a, .int most], ⟨n, u, hn, m1, m60, q⟩ =>
    show t_law_page (dEnd Q X) [some (.ref a), some (.int most), none, none, none, none, none, none, none] h
    unfold t_law_page
    walk_at "ev"
    refine ⟨le_line (m := 2) (Nat.le_refl _), ?_⟩
    refine i_law_draw n u (by omega) (by decide) (by decide) fun d o d0 d2 uo => ?_
    obtain ⟨w0, ew, w0p, w06⟩ : ∃ m : Int, [D.int 3, D.int 6][d.toNat]? = some (.int m) ∧ 0 < m ∧ m ≤ 6 := by
      have : d = 0 ∨ d = 1 := by omega
      rcases this with rfl | rfl
      · exact ⟨3, rfl, by decide, by decide⟩
      · exact ⟨6, rfl, by decide, by decide⟩
    rw [show d = (d.toNat : Int) by omega, ix_lst ew]
    refine i_law_draw (n + 1) (Urn.upd uo) (by omega) (by omega) (by omega) fun d1 o1 d10 d16 uo1 => ?_
    walk_at "ev"
    refine i_law_draw (n + 2) (Urn.upd uo1) (by omega) (by omega) (by omega) fun d2 o2 d20 d26 uo2 => ?_
    refine ⟨le_line (m := 2) (Nat.le_refl _), ?_⟩
    refine i_law_draw (n + 3) (Urn.upd uo2) (by omega) (by omega) (by omega) fun d3 o3 d30 d36 uo3 => ?_
    obtain ⟨m, em, mp, mq⟩ : ∃ m : Int, [D.int (1 + d2), D.int most][d3.toNat]? = some (.int m) ∧ 1 ≤ m ∧ m ≤ most := by
      have : d3 = 0 ∨ d3 = 1 := by omega
      rcases this with rfl | rfl
      · exact ⟨_, rfl, by omega, by omega⟩
      · exact ⟨_, rfl, by omega, by omega⟩
    rw [show d3 = (d3.toNat : Int) by omega, ix_lst em]
    simp only [dupd2]
    walk_at "ev"
    refine ⟨Nat.zero_le _, fun p hp => ⟨by omega, by omega, ?_⟩⟩
    have hpa : p ≠ a := fun e => by subst e; rw [dupd_same] at hp; cases hp
    have hp0 : h p = none := by rw [dupd_ne hpa] at hp; exact hp
    generalize hw : (1 + d1 : Int) = wide
    have hw1 : 1 ≤ wide := by omega
    have hw6 : wide ≤ 6 := by omega
    refine for_indG (fun i : Nat => D.int i) (fun pre τ h' => ∃ o found ab x6 x7 x8, τ = [some (.ref a), some (.int most), some (.int wide), some (.int m), some (.ref p), some (aboveD ab), x6, x7, x8] ∧ h' p = some (.lst (found.map rowD)) ∧ h' a = some o ∧ UrnO o (n + 4 + 300 * pre.length) ∧ Fra h h' [a, p] ∧
        found.length = pre.length ∧ (∀ r ∈ found, r.length = wide.toNat ∧ pr r) ∧ (∀ r, found[0]? = some r → full r) ∧ (∀ r, ab = some r → full r ∧ r.length = wide.toNat) ∧ (ab = none ↔ found = [])) (List.range m.toNat) ?_ ?_ ?_
    · exact ⟨o3, [], none, none, none, none, rfl, dupd_same, (dupd_ne (Ne.symm hpa)).trans dupd_same, uo3, ((Fra.refl h _).upd (by simp)).upd (by simp), rfl, (fun _ z => nomatch z), (fun _ z => nomatch z), (fun _ z => nomatch z), by simp⟩
    · rintro pre i post τ h' eq ⟨o, found, ab, x6, x7, x8, rfl, ep, ea, uo, fr, hl, hr, hf, hab, hn0⟩ D' T
      refine ⟨_, rfl, ?_⟩
      have hlen : pre.length < 60 := by
        have := congrArg List.length eq
        simp only [List.length_range, List.length_append, List.length_cons] at this
        omega
      walk_at "ev"
      refine i_law_row _ ab (Urn.fra uo ea) (by omega) hw1 hw6 hab fun r o4 hfr hlr uo4 => ?_
      walk_at "ev"
      have step : ∀ (few : Nat) (o5 : DO), few ≤ r.length → (found = [] → few = 0) → UrnO o5 (n + 4 + 300 * pre.length + 202) →
          (found.map rowD).length < sizeLine ∧ D'.nx [some (.ref a), some (.int most), some (.int wide), some (.int m), some (.ref p), some (rowD r), some (.int i), some (rowD r), some (.int few)] (dupd (dupd h' a o5) p (.lst (found.map rowD ++ [.tup (List.replicate few D.non ++ (r.map cD).drop few)]))) := by
        intro few o5 hk hz uo5
        have hrow : (D.tup (List.replicate few D.non ++ (r.map cD).drop few)) = rowD (List.replicate few none ++ r.drop few) := by
          rw [rep_none, ← List.map_drop, ← List.map_append]; rfl
        refine ⟨by rw [List.length_map]; exact Nat.lt_of_lt_of_le (show found.length < 60 by omega) (by decide), T.nx _ _ ⟨o5, found ++ [List.replicate few none ++ r.drop few], some r, _, _, _, rfl, ?_, ?_, ?_, ?_, ?_, ?_, ?_, ?_, ?_⟩⟩
        · rw [hrow, List.map_append]; exact dupd_same
        · exact (dupd_ne (Ne.symm hpa)).trans dupd_same
        · rw [List.length_append, List.length_singleton]; exact uo5.mono (by omega)
        · exact (fr.upd (by simp)).upd (by simp)
        · rw [List.length_append, List.length_append, hl]; rfl
        · intro r2 hr2
          rcases List.mem_append.mp hr2 with z | z
          · exact hr r2 z
          · rw [List.mem_singleton.mp z]
            exact ⟨by rw [List.length_append, List.length_replicate, List.length_drop]; omega, pr_rep few (full_drop hfr few)⟩
        · intro r2 hr2
          cases found with
          | nil =>
            rw [hz rfl] at hr2
            cases hr2
            exact hfr
          | cons f fs => exact hf r2 hr2
        · intro r2 hr2; cases hr2; exact ⟨hfr, hlr⟩
        · simp
      have mid : ∀ (X1 X2 : DX) (few : Nat), few ≤ r.length → (found = [] → few = 0) → sp_law_draw [D.ref a, D.int ((few : Int) + 1)] (dupd h' a o4)
        (fun x h1 => [D.int few, x].length ≤ sizeLine ∧ sp_law_draw [D.ref a, D.int 2] h1 (fun y h2 => dIx (D.lst [D.int few, x]) y h2 fun d h1 => dTy "list" (D.ref p) h1 ∧ [D.non].length ≤ sizeLine ∧ dMul (D.tup [D.non]) d h1 fun x h1 =>
                        match d with
                        | D.int i_1 =>
                          dSlice (rowD r) (some i_1) none h1 fun y h2 =>
                            dAdd x y h2 fun x h1 =>
                              dAppend (D.ref p) [x] h1 fun x h1 =>
                                D'.nx [some (D.ref a), some (D.int most), some (D.int wide), some (D.int m), some (D.ref p), some (rowD r), some (D.int ↑i), some (rowD r), some d] h1
                        | x => False) X1) X2 := by
        intro X1 X2 few hk hz
        refine i_law_draw _ (Urn.upd uo4) (by omega) (by omega) (by omega) fun e o5 e0 e1 uo5 => ?_
        refine ⟨le_line (m := 2) (Nat.le_refl _), ?_⟩
        refine i_law_draw _ (Urn.upd uo5) (by omega) (by omega) (by omega) fun g o6 g0 g1 uo6 => ?_
        simp only [dupd2]
        obtain ⟨k, ek, kk, kz⟩ : ∃ k : Nat, [D.int few, D.int e][g.toNat]? = some (.int k) ∧ k ≤ few ∧ (found = [] → k = 0) := by
          have : g = 0 ∨ g = 1 := by omega
          rcases this with rfl | rfl
          · exact ⟨few, rfl, Nat.le_refl _, hz⟩
          · exact ⟨e.toNat, by show some (D.int e) = _; rw [show e = (e.toNat : Int) by omega]; rfl, by omega, fun z => by have := hz z; omega⟩
        rw [show g = (g.toNat : Int) by omega, ix_lst ek]
        have ep6 : dupd h' a o6 p = some (.lst (found.map rowD)) := (dupd_ne hpa).trans ep
        walk_at "ev"
        refine ⟨le_line (m := 1) (Nat.le_refl _), by simp, by omega, by omega, by simp, ?_⟩
        rw [rpt_non, show rowD r = .tup (r.map cD) from rfl]
        walk_at "ev"
        refine ⟨?_, ?_⟩
        · refine le_line (m := 12) ?_
          rw [List.length_replicate, List.length_drop, List.length_map]
          omega
        exact step k o6 (by omega) kz (uo6.mono (by omega))
      cases ab with
      | none =>
        have hz := hn0.mp rfl
        refine ⟨fun _ => mid noX noX 0 (Nat.zero_le _) (fun _ => rfl), fun z => (by cases z)⟩
      | some ab =>
        refine ⟨fun z => (by cases z), fun _ => ?_⟩
        refine i_law_shared (full_strOk hfr) (full_strOk (hab ab rfl).1) ?_
        exact mid noX noX (shared r ab) (shared_le _ _) (fun z => by have := hn0.mpr z; cases this)
    · rintro τ h' ⟨o, found, ab, x6, x7, x8, rfl, ep, ea, uo, fr, hl, hr, hf, hab, hn0⟩
      walk_at "ev"
      rw [List.length_range] at hl
      refine ⟨dupd h a o, fr.new ea hp0, q found o ⟨by omega, by omega, ⟨wide.toNat, by omega, by omega, hr⟩, hf⟩ (by omega) (uo.mono (by rw [List.length_range]; omega))⟩

end DL

namespace DL
open PySem L2
local macro_rules | `(tactic| walk_at "ev") => `(tactic| try simp (disch := (first | assumption | exact dupd_same | (refine (dupd_ne ?_).trans ?_; (first | assumption | (apply Ne.symm; assumption)); first | assumption | exact dupd_same | (refine (dupd_ne ?_).trans ?_; (first | assumption | (apply Ne.symm; assumption)); first | assumption | exact dupd_same)))) only [v0, v1, v2, v3, v4, v5, v6, v7, v8, v9, v10, v11, v12, v13, v14, v15, v16, w0, w1, w2, w3, w4, w5, w6, w7, w8, w9, w10, w11, w12, w13, w14, w15, w16, e_dC, e_dOp, e_dUn, e_dTest, e_dAnd, e_dOr, e_dNot, e_dAndV, e_dOrV, e_dNotV, e_dIfE, e_dChain, e_dNil, e_dCons, e_dTup, e_dLst, e_dLstM, e_dCB, e_dBM, e_dFrz, e_dNoPart, e_dPart, e_dSl, e_dIsi, e_iSeqD, e_iRange1, e_iRange2, e_iEnumD, e_iZipD, e_dNext, e_dSeq, e_dAsg, e_dAsgT, e_dPar, e_dIf, e_dRet, e_dRetN, e_dDrop, e_dBrk, e_dCnt, e_dAug, e_dSetI, e_dFor, e_dWhile, e_dYes, e_dLc, e_dLcM, e_dCall, e_dCallK, e_dNeg, e_dRaise, op_Lt, op_Le, op_Gt, op_Ge, op_IsN, op_IsNN, op_Sub, op_Add, op_AddS, op_AddT, op_AddL, op_Mul, op_MulT, op_MulL, op_Mod, op_Fdiv, op_InS, op_NotInS, cb_lenT, cb_lenL, cb_lenS, cb_lenX, cb_all, cb_any, cb_tupleL, cb_tupleT, cb_max, cb_min, cb_abs, cb_int, cb_intB, cb_strI, me_joinL, me_joinT, me_split, ip_add, ip_sub, ip_mul, ip_div, ix_ref0, ix_ref1, ix_ref2, me_append, me_popAt, me_pop0, me_insert, me_clear, me_reverse, cb_lenR, cb_tupleR, me_joinR, vw_ref, dT_ref, pow_18, pow_38, pow_40, pow_41, pow_6, eq_str, ne_str, eq_int, ne_int, ix_tup0, ix_lst0, sl_from, sl_to, sl_fromL, sl_toL, vw_str, vw_int, vw_bl, vw_non, vw_dct, vw_tup, vw_lst, vw_scr, ty_str, ty_int, ty_bl, ty_non, ty_tup, ty_lst, ty_dct, it_str, it_tup, it_lst, bT_nm, isN_non, isN_str, isN_int, isN_bl, isN_tup, isN_lst, isN_dct, dT_str, dT_lst, en_rt, en_nx, en_ex, t_imp, f_imp, not_true_eq_false, not_false_eq_true, tf_eq, ft_eq, dwipe, true_and, and_true, Bool.not_true, Bool.not_false, Bool.not_eq_true', Bool.not_eq_false', decide_eq_true_eq, decide_eq_false_iff_not, nq_NoneType, is_NoneType_int, is_NoneType_bool, is_NoneType_str, is_NoneType_tuple, is_NoneType_list, is_NoneType_dict, nq_bool, is_bool_int, is_bool_bool, is_bool_str, is_bool_tuple, is_bool_list, is_bool_dict, nq_int, is_int_int, is_int_bool, is_int_str, is_int_tuple, is_int_list, is_int_dict, nq_str, is_str_int, is_str_bool, is_str_str, is_str_tuple, is_str_list, is_str_dict, nq_tuple, is_tuple_int, is_tuple_bool, is_tuple_str, is_tuple_tuple, is_tuple_list, is_tuple_dict, nq_list, is_list_int, is_list_bool, is_list_str, is_list_tuple, is_list_list, is_list_dict, nq_dict, is_dict_int, is_dict_bool, is_dict_str, is_dict_tuple, is_dict_list, is_dict_dict])
/-! R6: texts of rows -/
/-- what raising a class asks: of the value it is made with, the wishes, the heap -/
structure Er where
  er : D → DX → DH → Prop
  tr : Option Nat → DS
  ok : ∀ (i : Option Nat) (D : DEnds) (τ : DSt) (h : DH), (match i with | none => er .non (fun C fs h2 => D.ex C fs τ h2) h | some j => ∃ d, τ[j]? = some (some d) ∧ er d (fun C fs h2 => D.ex C fs τ h2) h) → tr i D τ h
  mono : ∀ d (X Y : DX) h h', (∀ C fs, X C fs h → Y C fs h') → er d X h → er d Y h'
def Er.never : Er := ⟨fun _ _ _ => False, fun _ => dNever, fun i _ _ _ z => match i, z with | none, z => z | some _, ⟨_, _, z⟩ => z, fun _ _ _ _ _ _ z => z⟩
def Er.raise (C : Addr) : Er := ⟨fun _ X h => X C [] h, fun _ => dRaise C, fun i _ _ _ z => match i, z with | none, z => z | some _, ⟨_, _, z⟩ => z, fun _ _ _ _ _ m z => m _ _ z⟩
/-! a loose page: printed rows -/
structure RowsP (t : List Row) : Prop where
  ne : 1 ≤ t.length
  le : t.length ≤ 60
  w : ∃ w, 1 ≤ w ∧ w ≤ 6 ∧ ∀ r ∈ t, r.length = w ∧ pr r
theorem PageP.rows {t : List Row} (p : PageP t) : RowsP t := ⟨p.ne, p.le, p.w⟩
def sp_law_loose : DSp := fun ds h Q _ => match ds with
  | [.ref a, .int most] => ∃ n, Urn h a n ∧ n + 30000 ≤ LIM ∧ 1 ≤ most ∧ most ≤ 60 ∧ ∀ t o, RowsP t → UrnO o (n + 30000) → Q (tabD t) (dupd h a o)
  | _ => False
theorem i_law_loose {a : Addr} {most : Int} {h : DH} {Q : DK} {X : DX} (n : Nat) (u : Urn h a n) (hn : n + 30000 ≤ LIM) (m1 : 1 ≤ most) (m60 : most ≤ 60) (q : ∀ t o, RowsP t → UrnO o (n + 30000) → Q (tabD t) (dupd h a o)) :
    sp_law_loose [.ref a, .int most] h Q X := ⟨n, u, hn, m1, m60, q⟩
def t_law_loose : DS :=
(dSeq (dAsg (dCall sp_law_page (dCons (dVar 0) (dCons (dVar 1) dNil))) 2)
  (dSeq (dAsg (dOp dMul (dCall sp_law_draw (dCons (dVar 0) (dCons (dCB dLen (dCons (dVar 2) dNil)) dNil))) (dCall sp_law_draw (dCons (dVar 0) (dCons (dC (.int 2)) dNil)))) 3)
  (dSeq (dAsg (dCall sp_law_draw (dCons (dVar 0) (dCons (dOp dAdd (dCB dLen (dCons (dOp dIx (dVar 2) (dC (.int 0))) dNil)) (dC (.int 1))) dNil))) 4)
  (dRet (dOp dIx (dLst (dCons (dSl dSlice (dVar 2) (dPart (dVar 3)) dNoPart) (dCons (dOp dAdd (dTup (dCons (dOp dAdd (dOp dMul (dTup (dCons (dC .non) dNil)) (dVar 4)) (dSl dSlice (dOp dIx (dVar 2) (dC (.int 0))) (dPart (dVar 4)) dNoPart)) dNil)) (dSl dSlice (dVar 2) (dPart (dC (.int 1))) dNoPart)) dNil))) (dCall sp_law_draw (dCons (dVar 0) (dCons (dC (.int 2)) dNil))))))))
def n_law_loose : List Str := ["urn", "most", "some", "cut", "few"]
/- 0=urn 1=most 2=some 3=cut 4=few -/
theorem ix_tabD {t : List Row} {k : Nat} {r : Row} {h : DH} {Q : DK} (e : t[k]? = some r) : dIx (tabD t) (.int (k : Nat)) h Q = Q (rowD r) h := ix_tup (by rw [List.getElem?_map, e]; rfl)
theorem rd_law_loose (ds : List D) (h : DH) (Q : DK) (X : DX) (z : sp_law_loose ds h Q X) : t_law_loose (dEnd Q X) (dstart n_law_loose ds) h := by
  match ds, z with
  | [.ref a, .int most], ⟨n, u, hn, m1, m60, q⟩ =>
    show t_law_loose (dEnd Q X) [some (.ref a), some (.int most), none, none, none] h
    unfold t_law_loose
    walk_at "ev"
    refine i_law_page n u (by omega) m1 m60 fun t o pt hl uo => ?_
    obtain ⟨w, w1, w6, hw⟩ := pt.w
    have p1 := pt.ne
    have p60 := pt.le
    rw [show tabD t = .tup (t.map rowD) from rfl]
    walk_at "ev"
    refine i_law_draw _ (Urn.upd uo) (by omega) (by rw [List.length_map]; omega) (by rw [List.length_map]; omega) fun d o1 d0 d1 uo1 => ?_
    rw [List.length_map] at d1
    refine i_law_draw _ (Urn.upd uo1) (by omega) (by decide) (by decide) fun d2 o2 d20 d22 uo2 => ?_
    walk_at "ev"
    obtain ⟨cut, ec, hc⟩ : ∃ k : Nat, d * d2 = (k : Int) ∧ k < t.length := by
      have : d2 = 0 ∨ d2 = 1 := by omega
      rcases this with rfl | rfl
      · exact ⟨0, by simp, by omega⟩
      · exact ⟨d.toNat, by rw [Int.mul_one]; omega, by omega⟩
    obtain ⟨r0, rs, rfl⟩ : ∃ r0 rs, t = r0 :: rs := by
      cases t with
      | nil => exact absurd p1 (by simp)
      | cons r0 rs => exact ⟨r0, rs, rfl⟩
    have h0 := hw r0 (by simp)
    have f0 := pt.first r0 rfl
    refine ⟨.of_right (bits_abs (by omega)), ?_⟩
    rw [ec]
    simp only [List.map_cons, rowD]
    walk_at "ev"
    simp only [dupd2]
    refine i_law_draw _ (Urn.upd uo2) (by omega) (by omega) (by rw [List.length_map]; omega) fun d3 o3 d30 d33 uo3 => ?_
    rw [List.length_map] at d33
    rw [show d3 = (d3.toNat : Int) by omega]
    walk_at "ev"
    refine ⟨le_line (m := 1) (Nat.le_refl _), by simp, by omega, by omega, by simp, ?_⟩
    rw [rpt_non, rep_none]
    walk_at "ev"
    refine ⟨?_, ?_⟩
    · refine le_line (m := 12) ?_
      simp only [List.length_map, List.length_replicate, List.length_drop]
      omega
    refine ⟨le_line (m := 1) (Nat.le_refl _), ?_⟩
    rw [show (some (1 : Int)) = some ((1 : Nat) : Int) from rfl, sl_from]
    walk_at "ev"
    refine ⟨le_line (m := 61) (by simp only [List.length_append, List.length_cons, List.length_nil, List.length_drop, List.length_map]; simp only [List.length_cons] at p60; omega), le_line (m := 2) (Nat.le_refl _), ?_⟩
    simp only [dupd2]
    refine i_law_draw _ (Urn.upd uo3) (by omega) (by decide) (by decide) fun d4 o4 d40 d42 uo4 => ?_
    simp only [dupd2]
    have e1 : D.tup (List.drop cut (D.tup (List.map cD r0) :: List.map rowD rs)) = tabD ((r0 :: rs).drop cut) := by
      unfold tabD; rw [List.map_drop]; rfl
    have e2 : D.tup ([D.tup (List.map cD (List.replicate d3.toNat none) ++ List.drop d3.toNat (List.map cD r0))] ++ List.drop 1 (D.tup (List.map cD r0) :: List.map rowD rs)) = tabD ((List.replicate d3.toNat none ++ r0.drop d3.toNat) :: rs) := by
      unfold tabD; rw [List.map_cons]; unfold rowD; rw [List.map_append, List.map_drop]; rfl
    rw [e1, e2]
    have go : ∀ t2 : List Row, RowsP t2 → ∃ h2, DSub h2 (dupd h a o4) ∧ Q (tabD t2) h2 := fun t2 r2 => dend0 (q t2 o4 r2 (uo4.mono (by omega)))
    have : d4 = 0 ∨ d4 = 1 := by omega
    rcases this with rfl | rfl
    · rw [ix_lst0]
      refine go _ ⟨?_, ?_, w, w1, w6, fun r hr => hw r (List.mem_of_mem_drop hr)⟩
      · rw [List.length_drop]; omega
      · rw [List.length_drop]; omega
    · rw [show (D.int 1) = .int ((1 : Nat) : Int) from rfl]
      refine (ix_lst (x := tabD ((List.replicate d3.toNat none ++ r0.drop d3.toNat) :: rs)) rfl).mpr ?_
      refine go _ ⟨by simp, p60, w, w1, w6, fun r hr => ?_⟩
      rcases List.mem_cons.mp hr with z | z
      · rw [z]
        exact ⟨by rw [List.length_append, List.length_replicate, List.length_drop]; omega, pr_rep _ (full_drop f0 _)⟩
      · exact hw r (by simp [z])
/-! texts -/
def cellT (b : Str) : Option Str → Str
  | none => b
  | some s => s
def lineB (b : Str) (r : Row) : Str := Txt.join "," (r.map (cellT b))
def textT (t : List Row) : Str := Txt.join "\n" (t.map (lineB ""))
/-- short cells -/
def shortR (r : Row) : Prop := ∀ c ∈ r, ∀ s, c = some s → s.length ≤ 8
theorem sum_le (B : Nat) : ∀ l : List Nat, (∀ x ∈ l, x ≤ B) → l.sum ≤ l.length * B
  | [], _ => by simp
  | x :: l, h => by
    have := sum_le B l fun y hy => h y (by simp [hy])
    have := h x (by simp)
    simp only [List.sum_cons, List.length_cons]
    rw [Nat.add_mul]
    omega
theorem join_len (a : Str) (zs : List Str) : (Txt.join a zs).length ≤ (zs.map (·.length)).sum + zs.length * a.length := by
  rw [Txt.join, StrLaws.glued_eq_join]
  exact StrLaws.join_length_le a zs
theorem lineB_len {b : Str} {r : Row} (hb : b.length ≤ 8) (hr : shortR r) (hl : r.length ≤ 6) : (lineB b r).length ≤ 54 ∧ ((r.map (cellT b)).map (·.length)).sum + (r.map (cellT b)).length * (Str.ofString ",").length ≤ 54 := by
  have h1 := sum_le 8 ((r.map (cellT b)).map (·.length)) (fun x hx => by
    rw [List.map_map] at hx
    obtain ⟨c, hc, rfl⟩ := List.mem_map.mp hx
    cases c with
    | none => exact hb
    | some s => exact hr _ hc s rfl)
  have h2 : ((r.map (cellT b)).map (·.length)).sum + (r.map (cellT b)).length * (Str.ofString ",").length ≤ 54 := by
    rw [List.length_map, List.length_map] at h1
    rw [List.length_map, show (Str.ofString ",").length = 1 from rfl]
    omega
  exact ⟨Nat.le_trans (join_len _ _) h2, h2⟩
def sp_line_of : DSp := fun ds h Q _ => match ds with
  | [d, .str b] => ∃ r, d = rowD r ∧ shortR r ∧ r.length ≤ 6 ∧ b.length ≤ 8 ∧ Q (.str (lineB b r)) h
  | _ => False
theorem i_line_of {r : Row} {b : Str} {h : DH} {Q : DK} {X : DX} (hr : shortR r) (hl : r.length ≤ 6) (hb : b.length ≤ 8) (z : Q (.str (lineB b r)) h) : sp_line_of [rowD r, .str b] h Q X := ⟨r, rfl, hr, hl, hb, z⟩
def t_line_of : DS :=
(dRet (dBM "str" dJoin (dC (.str ",")) (dCons (dLc (iSeqD (dVar 0)) (.nm 2) dYes (dIfE (dTest (dOp dIsN (dVar 2) (dC .non))) (dVar 1) (dVar 2)) [2]) dNil)))
def n_line_of : List Str := ["row", "blank", "cell"]
/- 0=row 1=blank 2=cell -/
theorem rd_line_of (ds : List D) (h : DH) (Q : DK) (X : DX) (z : sp_line_of ds h Q X) : t_line_of (dEnd Q X) (dstart n_line_of ds) h := by
  match ds, z with
  | [_, .str b], ⟨r, rfl, hr, hl, hb, z⟩ =>
    show t_line_of (dEnd Q X) [some (rowD r), some (.str b), none] h
    unfold t_line_of
    rw [show rowD r = .tup (r.map cD) from rfl]
    walk_at "ev"
    refine ⟨by rw [List.length_map]; omega, ?_⟩
    refine lc_map cD (fun c => .str (cellT b c)) r (fun c _ Q' q' => ?_) ?_
    · walk_at "ev"
      cases c with
      | none => exact ⟨fun _ => q', fun z => (by cases z)⟩
      | some s => exact ⟨fun z => (by cases z), fun _ => q'⟩
    · rw [show (r.map fun c => D.str (cellT b c)) = (r.map (cellT b)).map D.str by rw [List.map_map]; rfl, strsOf_map]
      exact ⟨Nat.le_trans (lineB_len hb hr hl).2 (by decide), dend0 z⟩
/-- a line is read -/
def splitR (s : Str) : Row := (Txt.split s ",").map fun p : Str => if p = ("" : Str) then none else some p
def rowIn (s : Str) : Option Row := if isRowD (rowD (splitR s)) then some (splitR s) else none
def sp_row_in : DSp := fun ds h Q _ => match ds with
  | [.str s] => s.length ≤ 1000000 ∧ Q (aboveD (rowIn s)) h
  | _ => False
theorem i_row_in {s : Str} {h : DH} {Q : DK} {X : DX} (hs : s.length ≤ 1000000) (z : Q (aboveD (rowIn s)) h) : sp_row_in [.str s] h Q X := ⟨hs, z⟩
theorem split_len (x y : Str) : (Txt.split x y).length ≤ x.length + 2 := PyProof.Rows.split_le x y
theorem part_len (x : Str) (c : Nat) : ∀ p ∈ Txt.split x ⟨#[c]⟩, p.length ≤ x.length := by
  intro p hp
  have := StrLaws.join_split x ⟨#[c]⟩
  have key : ∀ (l : List Str), p ∈ l → p.length ≤ (Str.join ⟨#[c]⟩ l).length := by
    intro l
    induction l with
    | nil => intro h; cases h
    | cons a l ih =>
      intro h
      cases l with
      | nil =>
        rw [List.mem_singleton.mp h]
        exact Nat.le_refl _
      | cons b l =>
        show p.length ≤ (a ++ ⟨#[c]⟩ ++ Str.join ⟨#[c]⟩ (b :: l)).length
        rw [Str.length_append, Str.length_append]
        rcases List.mem_cons.mp h with z | z
        · rw [z]; omega
        · have := ih z; omega
  rw [← this]
  exact key _ hp
def t_row_in : DS :=
(dSeq (dAsg (dCB dTuple (dCons (dLc (iSeqD (dBM "str" dSplit (dVar 0) (dCons (dC (.str ",")) dNil))) (.nm 2) dYes (dIfE (dTest (dOp dNe (dVar 2) (dC (.str "")))) (dVar 2) (dC .non)) [2]) dNil)) 1)
  (dRet (dIfE (dTest (dCall sp_is_printed_row (dCons (dVar 1) dNil))) (dVar 1) (dC .non))))
def n_row_in : List Str := ["line", "found", "cell"]
/- 0=line 1=found 2=cell -/
theorem rd_row_in (ds : List D) (h : DH) (Q : DK) (X : DX) (z : sp_row_in ds h Q X) : t_row_in (dEnd Q X) (dstart n_row_in ds) h := by
  match ds, z with
  | [.str s], ⟨hs, z⟩ =>
    show t_row_in (dEnd Q X) [some (.str s), none, none] h
    unfold t_row_in
    walk_at "ev"
    have hl := split_len s ","
    refine ⟨by decide, le_line (m := 1000002) (by omega), by rw [List.length_map]; omega, ?_⟩
    refine lc_map D.str (fun p : Str => cD (if p = ("" : Str) then none else some p)) _ (fun c _ Q' q' => ?_) ?_
    · walk_at "ev"
      refine ⟨fun e => ?_, fun e => ?_⟩
      · rw [if_neg (by simpa using e)] at q'; exact q'
      · rw [if_pos (by simpa using e)] at q'; exact q'
    · rw [show ((Txt.split s (Str.ofString ",")).map fun p : Str => cD (if p = ("" : Str) then none else some p)) = (splitR s).map cD by unfold splitR; rw [List.map_map]; rfl]
      have hn : nr (.tup ((splitR s).map cD)) = true := by
        simp only [nr, Bool.and_eq_true, decide_eq_true_eq]
        refine ⟨by unfold splitR; rw [List.length_map, List.length_map]; exact Nat.le_trans hl (by omega), nrL_of fun x hx => ?_⟩
        obtain ⟨c, hc, rfl⟩ := List.mem_map.mp hx
        obtain ⟨p, hp, rfl⟩ := List.mem_map.mp hc
        split
        · rfl
        · show decide (p.length ≤ 16000000) = true
          have := part_len s 44 p hp
          exact decide_eq_true (by omega)
      unfold sp_is_printed_row
      walk_at "ev"
      refine ⟨hn, fun e => dend0 ?_, fun e => dend0 ?_⟩
      · have : rowIn s = some (splitR s) := if_pos e
        rw [this] at z
        exact z
      · have : rowIn s = none := if_neg (by rw [show isRowD (rowD (splitR s)) = false from e]; decide)
        rw [this] at z
        exact z

end DL

namespace DL
open PySem L2
local macro_rules | `(tactic| walk_at "ev") => `(tactic| try simp (disch := (first | assumption | exact dupd_same | (refine (dupd_ne ?_).trans ?_; (first | assumption | (apply Ne.symm; assumption)); first | assumption | exact dupd_same | (refine (dupd_ne ?_).trans ?_; (first | assumption | (apply Ne.symm; assumption)); first | assumption | exact dupd_same)))) only [v0, v1, v2, v3, v4, v5, v6, v7, v8, v9, v10, v11, v12, v13, v14, v15, v16, w0, w1, w2, w3, w4, w5, w6, w7, w8, w9, w10, w11, w12, w13, w14, w15, w16, e_dC, e_dOp, e_dUn, e_dTest, e_dAnd, e_dOr, e_dNot, e_dAndV, e_dOrV, e_dNotV, e_dIfE, e_dChain, e_dNil, e_dCons, e_dTup, e_dLst, e_dLstM, e_dCB, e_dBM, e_dFrz, e_dNoPart, e_dPart, e_dSl, e_dIsi, e_iSeqD, e_iRange1, e_iRange2, e_iEnumD, e_iZipD, e_dNext, e_dSeq, e_dAsg, e_dAsgT, e_dPar, e_dIf, e_dRet, e_dRetN, e_dDrop, e_dBrk, e_dCnt, e_dAug, e_dSetI, e_dFor, e_dWhile, e_dYes, e_dLc, e_dLcM, e_dCall, e_dCallK, e_dNeg, e_dRaise, op_Lt, op_Le, op_Gt, op_Ge, op_IsN, op_IsNN, op_Sub, op_Add, op_AddS, op_AddT, op_AddL, op_Mul, op_MulT, op_MulL, op_Mod, op_Fdiv, op_InS, op_NotInS, cb_lenT, cb_lenL, cb_lenS, cb_lenX, cb_all, cb_any, cb_tupleL, cb_tupleT, cb_max, cb_min, cb_abs, cb_int, cb_intB, cb_strI, me_joinL, me_joinT, me_split, ip_add, ip_sub, ip_mul, ip_div, ix_ref0, ix_ref1, ix_ref2, me_append, me_popAt, me_pop0, me_insert, me_clear, me_reverse, cb_lenR, cb_tupleR, me_joinR, vw_ref, dT_ref, pow_18, pow_38, pow_40, pow_41, pow_6, eq_str, ne_str, eq_int, ne_int, ix_tup0, ix_lst0, sl_from, sl_to, sl_fromL, sl_toL, vw_str, vw_int, vw_bl, vw_non, vw_dct, vw_tup, vw_lst, vw_scr, ty_str, ty_int, ty_bl, ty_non, ty_tup, ty_lst, ty_dct, it_str, it_tup, it_lst, bT_nm, isN_non, isN_str, isN_int, isN_bl, isN_tup, isN_lst, isN_dct, dT_str, dT_lst, en_rt, en_nx, en_ex, t_imp, f_imp, tf_eq, ft_eq, dwipe, true_and, and_true, Bool.not_true, Bool.not_false, Bool.not_eq_true', Bool.not_eq_false', decide_eq_true_eq, decide_eq_false_iff_not, nq_NoneType, is_NoneType_int, is_NoneType_bool, is_NoneType_str, is_NoneType_tuple, is_NoneType_list, is_NoneType_dict, nq_bool, is_bool_int, is_bool_bool, is_bool_str, is_bool_tuple, is_bool_list, is_bool_dict, nq_int, is_int_int, is_int_bool, is_int_str, is_int_tuple, is_int_list, is_int_dict, nq_str, is_str_int, is_str_bool, is_str_str, is_str_tuple, is_str_list, is_str_dict, nq_tuple, is_tuple_int, is_tuple_bool, is_tuple_str, is_tuple_tuple, is_tuple_list, is_tuple_dict, nq_list, is_list_int, is_list_bool, is_list_str, is_list_tuple, is_list_list, is_list_dict, nq_dict, is_dict_int, is_dict_bool, is_dict_str, is_dict_tuple, is_dict_list, is_dict_dict])
/-! R7: rows as a text -/
theorem take_blanks : ∀ (r : Row), ∀ c ∈ r.take (blanks r), c = none
  | none :: r, c, h => by
    rcases List.mem_cons.mp h with z | z
    · exact z
    · exact take_blanks r c z
  | [], c, h => by cases h
  | some s :: r, c, h => by cases h
theorem pr_mem {r : Row} (h : pr r) : ∀ c ∈ r, c = none ∨ okC c = true := by
  intro c hc
  rw [← List.take_append_drop (blanks r) r] at hc
  rcases List.mem_append.mp hc with z | z
  · exact .inl (take_blanks r c z)
  · exact .inr (h c z)
theorem pr_short {r : Row} (h : pr r) : shortR r := fun c hc s e => by
  rcases pr_mem h c hc with z | z
  · rw [z] at e; cases e
  · rw [e] at z; exact (okCell_len z).2
theorem pr_strOk {r : Row} (h : pr r) : strOkR r := fun c hc => by
  rcases pr_mem h c hc with z | z
  · rw [z]; rfl
  · exact okC_strOk z
theorem isRow_rowD (r : Row) : isRowD (rowD r) = (decide (1 ≤ r.length ∧ r.length ≤ 6) && (r.drop (blanks r)).all okC) := by
  show (decide _ && _) = _
  rw [lead_row, List.length_map, ← List.map_drop, List.all_map]
  congr 1
  refine congrArg (fun f => List.all _ f) ?_
  funext c
  exact isCell_cD c
theorem isRow_of {r : Row} (h1 : 1 ≤ r.length) (h6 : r.length ≤ 6) (p : pr r) : isRowD (rowD r) = true := by
  rw [isRow_rowD, decide_eq_true ⟨h1, h6⟩, Bool.true_and, List.all_eq_true]
  exact p
theorem row_of_is {r : Row} (h : isRowD (rowD r) = true) : 1 ≤ r.length ∧ r.length ≤ 6 ∧ pr r := by
  rw [isRow_rowD, Bool.and_eq_true, decide_eq_true_eq, List.all_eq_true] at h
  exact ⟨h.1.1, h.1.2, h.2⟩
theorem cells_of : ∀ (xs : List D), (xs.drop (lead xs)).all isCellD = true → ∃ r : Row, xs = r.map cD
  | [], _ => ⟨[], rfl⟩
  | x :: xs, h => by
    by_cases hx : isN x = true
    · have e : lead (x :: xs) = lead xs + 1 := by show (if isN x = true then _ else _) = _; rw [if_pos hx]
      rw [e] at h
      obtain ⟨r, rfl⟩ := cells_of xs h
      cases x with
      | non => exact ⟨none :: r, rfl⟩
      | _ => cases hx
    · have e : lead (x :: xs) = 0 := by show (if isN x = true then _ else _) = _; rw [if_neg hx]
      rw [e, List.drop_zero] at h
      have key : ∀ l : List D, l.all isCellD = true → ∃ r : Row, l = r.map cD := by
        intro l
        induction l with
        | nil => intro _; exact ⟨[], rfl⟩
        | cons y l ih =>
          intro h
          simp only [List.all_cons, Bool.and_eq_true] at h
          obtain ⟨r, rfl⟩ := ih h.2
          cases y with
          | str s => exact ⟨some s :: r, rfl⟩
          | _ => cases h.1
      exact key _ h
theorem row_of {d : D} (h : isRowD d = true) : ∃ r, d = rowD r ∧ 1 ≤ r.length ∧ r.length ≤ 6 ∧ pr r := by
  cases d with
  | tup xs =>
    have h2 := h
    simp only [isRowD, Bool.and_eq_true] at h2
    obtain ⟨r, rfl⟩ := cells_of xs h2.2
    exact ⟨r, rfl, row_of_is h⟩
  | _ => cases h
theorem rows_list : ∀ {xs : List D}, xs.all isRowD = true → ∃ t : List Row, xs = t.map rowD ∧ ∀ r ∈ t, 1 ≤ r.length ∧ r.length ≤ 6 ∧ pr r
  | [], _ => ⟨[], rfl, fun _ z => nomatch z⟩
  | x :: xs, h => by
    simp only [List.all_cons, Bool.and_eq_true] at h
    obtain ⟨r, rfl, hr⟩ := row_of h.1
    obtain ⟨t, rfl, ht⟩ := rows_list h.2
    exact ⟨r :: t, rfl, fun q hq => by rcases List.mem_cons.mp hq with z | z; rw [z]; exact hr; exact ht q z⟩
theorem lenD_row (r : Row) : lenD (rowD r) = r.length := by show (r.map cD).length = _; rw [List.length_map]
theorem rows_of {d : D} (h : isRowsD d = true) : ∃ t, d = tabD t ∧ RowsP t := by
  cases d with
  | tup xs =>
    simp only [isRowsD, Bool.and_eq_true, decide_eq_true_eq] at h
    obtain ⟨⟨h1, h60⟩, hr, hw⟩ := h
    obtain ⟨t, rfl, ht⟩ := rows_list hr
    rw [List.length_map] at h1 h60
    cases t with
    | nil => exact absurd h1 (by simp)
    | cons r0 rs =>
      refine ⟨r0 :: rs, rfl, h1, h60, r0.length, (ht r0 (by simp)).1, (ht r0 (by simp)).2.1, fun r hr => ⟨?_, (ht r hr).2.2⟩⟩
      have := List.all_eq_true.mp hw (rowD r) (List.mem_map_of_mem hr)
      have := of_decide_eq_true this
      rw [lenD_row] at this
      rw [this]
      exact lenD_row r0
  | _ => cases h
theorem isRows_of {t : List Row} (p : RowsP t) : isRowsD (tabD t) = true := by
  obtain ⟨w, w1, w6, hw⟩ := p.w
  have ht : (t.map rowD).all isRowD = true := by
    rw [List.all_eq_true]
    intro x hx
    obtain ⟨r, hr, rfl⟩ := List.mem_map.mp hx
    exact isRow_of (by rw [(hw r hr).1]; exact w1) (by rw [(hw r hr).1]; exact w6) (hw r hr).2
  show (decide _ && (_ && _)) = true
  rw [ht, Bool.true_and, Bool.and_eq_true, List.length_map]
  refine ⟨decide_eq_true ⟨p.ne, p.le⟩, ?_⟩
  cases t with
  | nil => rfl
  | cons r0 rs =>
    rw [List.all_eq_true]
    intro x hx
    obtain ⟨r, hr, rfl⟩ := List.mem_map.mp hx
    show decide (lenD (rowD r) = lenD (rowD r0)) = true
    rw [lenD_row, lenD_row, (hw r hr).1, (hw r0 (by simp)).1]
    exact decide_eq_true rfl
theorem nr_cD {c : Option Str} (h : ∀ s, c = some s → s.length ≤ 16000000) : nr (cD c) = true := by
  cases c with
  | none => rfl
  | some s => exact decide_eq_true (h s rfl)
theorem nr_row {r : Row} (hl : r.length ≤ 16000000) (h : shortR r) : nr (rowD r) = true := by
  simp only [rowD, nr, Bool.and_eq_true, decide_eq_true_eq, List.length_map]
  refine ⟨hl, nrL_of fun x hx => ?_⟩
  obtain ⟨c, hc, rfl⟩ := List.mem_map.mp hx
  exact nr_cD fun s e => Nat.le_trans (h c hc s e) (by decide)
theorem nr_tab {t : List Row} (p : RowsP t) : nr (tabD t) = true := by
  obtain ⟨w, w1, w6, hw⟩ := p.w
  simp only [tabD, nr, Bool.and_eq_true, decide_eq_true_eq, List.length_map]
  refine ⟨Nat.le_trans p.le (by decide), nrL_of fun x hx => ?_⟩
  obtain ⟨r, hr, rfl⟩ := List.mem_map.mp hx
  exact nr_row (by rw [(hw r hr).1]; omega) (pr_short (hw r hr).2)
def sp_format_rows (E : Er) : DSp := fun ds h Q X => match ds with
  | [d] => nr d = true ∧ (∀ t, d = tabD t → RowsP t → Q (.str (textT t)) h) ∧ (isRowsD d = false → E.er .non X h)
  | _ => False
theorem i_format_rows {E : Er} {t : List Row} {h : DH} {Q : DK} {X : DX} (p : RowsP t) (z : Q (.str (textT t)) h) : sp_format_rows E [tabD t] h Q X :=
  ⟨nr_tab p, fun t2 e _ => by
    have inj : ∀ a b : List Row, tabD a = tabD b → a = b := by
      intro a b e
      simp only [tabD, D.tup.injEq] at e
      refine List.map_inj_right (fun x y e2 => ?_) |>.mp e
      simp only [rowD, D.tup.injEq] at e2
      refine List.map_inj_right (fun x y e3 => ?_) |>.mp e2
      cases x <;> cases y <;> first | rfl | cases e3 | skip
      rfl
    rw [← inj _ _ e]
    exact z, fun e => by rw [isRows_of p] at e; cases e⟩
def t_format_rows (E_InvalidRows : Er) : DS :=
(dSeq (dIf (dNot (dTest (dCall sp_are_printed_rows (dCons (dVar 0) dNil)))) (E_InvalidRows.tr none) dNext)
  (dRet (dBM "str" dJoin (dC (.str "\n")) (dCons (dLc (iSeqD (dVar 0)) (.nm 1) dYes (dCall sp_line_of (dCons (dVar 1) (dCons (dC (.str "")) dNil))) [1]) dNil))))
def n_format_rows : List Str := ["rows", "row"]
/- 0=rows 1=row -/
theorem text_len {t : List Row} (p : RowsP t) : ((t.map (lineB "")).map (·.length)).sum + (t.map (lineB "")).length * 1 ≤ 3300 := by
  obtain ⟨w, w1, w6, hw⟩ := p.w
  have h1 := sum_le 54 ((t.map (lineB "")).map (·.length)) (fun x hx => by
    rw [List.map_map] at hx
    obtain ⟨r, hr, rfl⟩ := List.mem_map.mp hx
    exact (lineB_len (b := "") (by decide) (pr_short (hw r hr).2) (by rw [(hw r hr).1]; exact w6)).1)
  have := p.le
  rw [List.length_map, List.length_map] at h1
  rw [List.length_map]
  omega
theorem rd_format_rows (E : Er) (ds : List D) (h : DH) (Q : DK) (X : DX) (z : sp_format_rows E ds h Q X) : t_format_rows E (dEnd Q X) (dstart n_format_rows ds) h := by
  match ds, z with
  | [d], ⟨hn, z, zx⟩ =>
    show t_format_rows E (dEnd Q X) [some d, none] h
    unfold t_format_rows
    unfold sp_are_printed_rows
    walk_at "ev"
    refine ⟨hn, fun e => E.ok _ _ _ _ (E.mono _ _ _ _ _ (fun C fs xe => ⟨h, DSub.refl h, xe⟩) (zx e)), fun e => ?_⟩
    obtain ⟨t, rfl, p⟩ := rows_of e
    have z := z t rfl p
    obtain ⟨w, w1, w6, hw⟩ := p.w
    rw [show tabD t = .tup (t.map rowD) from rfl]
    walk_at "ev"
    have h60 := p.le
    refine ⟨by rw [List.length_map]; omega, ?_⟩
    have key := lc_fil (tg := .nm 1) (tt := dYes) (te := dCall sp_line_of (dCons (dVar 1) (dCons (dC (.str "")) dNil))) (τ := [some (.tup (t.map rowD)), none]) (h := h) (Q := fun ys h2 => match strsOf ys with
        | some zs => (List.map (fun x => x.length) zs).sum + zs.length * (Str.ofString "\n").length ≤ 16777216 ∧ ∃ h2_1, DSub h2_1 h2 ∧ Q (D.str (Txt.join (Str.ofString "\n") zs)) h2_1
        | none => False) rowD (fun r => .str (lineB "" r)) (fun _ => true) t (fun r hr => ⟨_, rfl, fun Q' q => q, fun _ Q' q' => ?_⟩) ?_
    · exact key
    · walk_at "ev"
      exact i_line_of (pr_short (hw r hr).2) (by rw [(hw r hr).1]; exact w6) (by decide) q'
    · rw [List.filter_eq_self.mpr (fun _ _ => rfl), show (t.map fun r => D.str (lineB "" r)) = (t.map (lineB "")).map D.str by rw [List.map_map]; rfl, strsOf_map]
      exact ⟨Nat.le_trans (text_len p) (by decide), dend0 z⟩

end DL

namespace DL
open PySem L2
local macro_rules | `(tactic| walk_at "ev") => `(tactic| try simp (disch := (first | assumption | exact dupd_same | (refine (dupd_ne ?_).trans ?_; (first | assumption | (apply Ne.symm; assumption)); first | assumption | exact dupd_same | (refine (dupd_ne ?_).trans ?_; (first | assumption | (apply Ne.symm; assumption)); first | assumption | exact dupd_same)))) only [v0, v1, v2, v3, v4, v5, v6, v7, v8, v9, v10, v11, v12, v13, v14, v15, v16, w0, w1, w2, w3, w4, w5, w6, w7, w8, w9, w10, w11, w12, w13, w14, w15, w16, e_dC, e_dOp, e_dUn, e_dTest, e_dAnd, e_dOr, e_dNot, e_dAndV, e_dOrV, e_dNotV, e_dIfE, e_dChain, e_dNil, e_dCons, e_dTup, e_dLst, e_dLstM, e_dCB, e_dBM, e_dFrz, e_dNoPart, e_dPart, e_dSl, e_dIsi, e_iSeqD, e_iRange1, e_iRange2, e_iEnumD, e_iZipD, e_dNext, e_dSeq, e_dAsg, e_dAsgT, e_dPar, e_dIf, e_dRet, e_dRetN, e_dDrop, e_dBrk, e_dCnt, e_dAug, e_dSetI, e_dFor, e_dWhile, e_dYes, e_dLc, e_dLcM, e_dCall, e_dCallK, e_dNeg, e_dRaise, op_Lt, op_Le, op_Gt, op_Ge, op_IsN, op_IsNN, op_Sub, op_Add, op_AddS, op_AddT, op_AddL, op_Mul, op_MulT, op_MulL, op_Mod, op_Fdiv, op_InS, op_NotInS, cb_lenT, cb_lenL, cb_lenS, cb_lenX, cb_all, cb_any, cb_tupleL, cb_tupleT, cb_max, cb_min, cb_abs, cb_int, cb_intB, cb_strI, me_joinL, me_joinT, me_split, ip_add, ip_sub, ip_mul, ip_div, ix_ref0, ix_ref1, ix_ref2, me_append, me_popAt, me_pop0, me_insert, me_clear, me_reverse, cb_lenR, cb_tupleR, me_joinR, vw_ref, dT_ref, pow_18, pow_38, pow_40, pow_41, pow_6, eq_str, ne_str, eq_int, ne_int, ix_tup0, ix_lst0, sl_from, sl_to, sl_fromL, sl_toL, vw_str, vw_int, vw_bl, vw_non, vw_dct, vw_tup, vw_lst, vw_scr, ty_str, ty_int, ty_bl, ty_non, ty_tup, ty_lst, ty_dct, it_str, it_tup, it_lst, bT_nm, isN_non, isN_str, isN_int, isN_bl, isN_tup, isN_lst, isN_dct, dT_str, dT_lst, en_rt, en_nx, en_ex, t_imp, f_imp, not_true_eq_false, not_false_eq_true, tf_eq, ft_eq, dwipe, true_and, and_true, Bool.not_true, Bool.not_false, Bool.not_eq_true', Bool.not_eq_false', decide_eq_true_eq, decide_eq_false_iff_not, nq_NoneType, is_NoneType_int, is_NoneType_bool, is_NoneType_str, is_NoneType_tuple, is_NoneType_list, is_NoneType_dict, nq_bool, is_bool_int, is_bool_bool, is_bool_str, is_bool_tuple, is_bool_list, is_bool_dict, nq_int, is_int_int, is_int_bool, is_int_str, is_int_tuple, is_int_list, is_int_dict, nq_str, is_str_int, is_str_bool, is_str_str, is_str_tuple, is_str_list, is_str_dict, nq_tuple, is_tuple_int, is_tuple_bool, is_tuple_str, is_tuple_tuple, is_tuple_list, is_tuple_dict, nq_list, is_list_int, is_list_bool, is_list_str, is_list_tuple, is_list_list, is_list_dict, nq_dict, is_dict_int, is_dict_bool, is_dict_str, is_dict_tuple, is_dict_list, is_dict_dict])
/-! R8: a text read as rows -/
def rowAt (found : List Row) (i : Nat) (line : Str) : Option Row := match rowIn line with
  | none => none
  | some r => if (found ≠ [] ∧ r.length ≠ (found.headD []).length) ∨ i = 60 then none else some r
def parseGo : Nat → List Row → List Str → Except Nat (List Row)
  | _, found, [] => .ok found
  | i, found, l :: ls => match rowAt found i l with
    | none => .error i
    | some r => parseGo (i + 1) (found ++ [r]) ls
def parseT (s : Str) : Except Nat (List Row) := parseGo 0 [] (Txt.split s "\n")
def sp_parse_rows (E : Er) : DSp := fun ds h Q X => match ds with
  | [d] => nr d = true ∧ (∀ s, d = .str s → s.length ≤ 1000000 ∧ (∀ t, parseT s = .ok t → Q (tabD t) h) ∧ (∀ i, parseT s = .error i → E.er (.int (i : Nat)) X h)) ∧ ((∀ s, d ≠ .str s) → E.er .non X h)
  | _ => False
theorem i_parse_rows {E : Er} {s : Str} {t : List Row} {h : DH} {Q : DK} {X : DX} (hs : s.length ≤ 1000000) (e : parseT s = .ok t) (z : Q (tabD t) h) : sp_parse_rows E [.str s] h Q X :=
  ⟨decide_eq_true (by omega), fun s2 e2 => by cases e2; exact ⟨hs, fun t2 e2 => by rw [e] at e2; cases e2; exact z, fun i e2 => by rw [e] at e2; cases e2⟩, fun n => (n s rfl).elim⟩
def t_parse_rows (E_InvalidLines : Er) : DS :=
(dSeq (dIf (dNot (dTest (dIsi "str" (dVar 0)))) (E_InvalidLines.tr none) dNext)
  (dSeq (dAsg (dLstM dNil) 1)
  (dSeq (dFor (iEnumD (dBM "str" dSplit (dVar 0) (dCons (dC (.str "\n")) dNil))) (.tp [(.nm 2), (.nm 3)]) (dSeq (dAsg (dCall sp_row_in (dCons (dVar 3) dNil)) 4)
  (dSeq (dIf (dOr (dTest (dOp dIsN (dVar 4) (dC .non))) (dOr (dAnd (dTest (dOp dNe (dVar 1) (dLst dNil))) (dTest (dOp dNe (dCB dLen (dCons (dVar 4) dNil)) (dCB dLen (dCons (dOp dIx (dVar 1) (dC (.int 0))) dNil))))) (dTest (dOp dEq (dVar 2) (dC (.int 60)))))) (E_InvalidLines.tr (some 2)) dNext)
  (dDrop (dBM "list" dAppend (dVar 1) (dCons (dVar 4) dNil))))))
  (dRet (dCB dTuple (dCons (dVar 1) dNil))))))
def n_parse_rows : List Str := ["text", "found", "index", "line", "row"]
/- 0=text 1=found 2=index 3=line 4=row -/
theorem enum_eq (ls : List Str) : enumD (ls.map D.str) = ((List.range ls.length).zip ls).map fun p => .tup [.int (p.1 : Nat), .str p.2] := by
  unfold enumD
  rw [List.length_map, List.zip_map_right, List.map_map]
  rfl
theorem dn_row {r : Row} (h : strOkR r) (n : Nat) : dn (n + 1) (rowD r) = true := by
  show (r.map cD).all (dn n) = true
  rw [List.all_eq_true]
  intro x hx
  obtain ⟨c, hc, rfl⟩ := List.mem_map.mp hx
  exact dn_cD n (h c hc)
theorem rowIn_pr {s : Str} {r : Row} (h : rowIn s = some r) : 1 ≤ r.length ∧ r.length ≤ 6 ∧ pr r := by
  unfold rowIn at h
  split at h
  · rename_i e
    cases h
    exact row_of_is e
  · cases h
theorem eqv_nil {xs : List D} : eqvD (.lst xs) (.lst []) = decide (xs = []) := by
  cases xs with
  | nil => rfl
  | cons x xs => rfl
theorem rd_parse_rows (E : Er) (ds : List D) (h : DH) (Q : DK) (X : DX) (z : sp_parse_rows E ds h Q X) : t_parse_rows E (dEnd Q X) (dstart n_parse_rows ds) h := by
  match ds, z with
  | [d], ⟨hn, z, zx⟩ =>
    show t_parse_rows E (dEnd Q X) [some d, none, none, none, none] h
    unfold t_parse_rows
    cases d with
    | str s =>
      obtain ⟨hs, zo, ze⟩ := z s rfl
      walk_at "ev"
      have hl := split_len s "\n"
      refine ⟨Nat.zero_le _, fun p hp => ⟨by decide, le_line (m := 1000002) (by omega), ?_⟩⟩
      rw [show Str.ofString "\n" = "\n" from rfl, enum_eq]
      refine for_indG (fun p : Nat × Str => D.tup [.int (p.1 : Nat), .str p.2]) (fun pre τ h' => ∃ found x2 x3 x4, τ = [some (.str s), some (.ref p), x2, x3, x4] ∧ h' = dupd h p (.lst (found.map rowD)) ∧ found.length = pre.length ∧
          (∀ r ∈ found, pr r) ∧ parseT s = parseGo pre.length found ((Txt.split s "\n").drop pre.length)) _ ⟨[], none, none, none, rfl, rfl, rfl, (fun _ z => nomatch z), rfl⟩ ?_ ?_
      · rintro pre ⟨i, line⟩ post τ h' eq ⟨found, x2, x3, x4, rfl, rfl, hfl, hfp, hpa⟩ D' T
        refine ⟨_, rfl, ?_⟩
        have hi : ((List.range (Txt.split s "\n").length).zip (Txt.split s "\n"))[pre.length]? = some (i, line) := by rw [eq]; simp
        rw [List.getElem?_zip_eq_some] at hi
        obtain ⟨h1, h2⟩ := hi
        have hlen : pre.length < (Txt.split s "\n").length := by
          rcases Nat.lt_or_ge pre.length (Txt.split s "\n").length with l | l
          · exact l
          · rw [List.getElem?_eq_none l] at h2; cases h2
        have e1 : i = pre.length := by
          rw [List.getElem?_range hlen] at h1
          exact (Option.some.inj h1).symm
        subst e1
        have e2 : (Txt.split s "\n").drop pre.length = line :: (Txt.split s "\n").drop (pre.length + 1) := by
          rw [List.drop_eq_getElem_cons hlen]
          rw [List.getElem?_eq_getElem hlen] at h2
          rw [Option.some.inj h2]
        have hlm : line.length ≤ s.length := part_len s 10 line (List.mem_of_getElem? h2)
        rw [e2] at hpa
        simp only [parseGo] at hpa
        walk_at "ev"
        refine i_row_in (by omega) ?_
        have err : rowAt found pre.length line = none → ∀ (D2 : DEnds) (x : Option D), D2.ex = D'.ex → E.tr (some 2) D2 [some (.str s), some (.ref p), some (.int (pre.length : Nat)), some (.str line), x] (dupd h p (.lst (found.map rowD))) := by
          intro e D2 x eD
          rw [e] at hpa
          have := ze _ hpa
          refine E.ok _ _ _ _ ⟨_, rfl, E.mono _ _ _ _ _ (fun C fs xe => ?_) this⟩
          rw [eD]
          refine T.ex _ _ _ _ ⟨h, ?_, xe⟩
          exact DSub.new (DSub.refl h) hp
        cases hr : rowIn line with
        | none =>
          have e3 : rowAt found pre.length line = none := by unfold rowAt; rw [hr]
          rw [show aboveD none = D.non from rfl]
          walk_at "ev"
          exact err e3 _ _ rfl
        | some r =>
          obtain ⟨r1, r6, rp⟩ := rowIn_pr hr
          rw [show aboveD (some r) = .tup (r.map cD) from rfl]
          walk_at "ev"
          have hd : dn 12 (.lst (found.map rowD)) = true := by
            show (found.map rowD).all (dn 11) = true
            rw [List.all_eq_true]
            intro x hx
            obtain ⟨q, hq, rfl⟩ := List.mem_map.mp hx
            exact dn_row (pr_strOk (hfp q hq)) 10
          have last : (found = [] ∨ r.length = (found.headD []).length) → ((pre.length : Int) = 60 → E.tr (some 2) { D' with nx := dDrop (dBM "list" dAppend (dVar 1) (dCons (dVar 4) dNil)) D' } [some (.str s), some (.ref p), some (.int (pre.length : Nat)), some (.str line), some (D.tup (List.map cD r))] (dupd h p (.lst (found.map rowD)))) ∧
              (¬ (pre.length : Int) = 60 → (found.map rowD).length < sizeLine ∧ D'.nx [some (.str s), some (.ref p), some (.int (pre.length : Nat)), some (.str line), some (D.tup (List.map cD r))] (dupd (dupd h p (.lst (found.map rowD))) p (.lst (found.map rowD ++ [.tup (r.map cD)])))) := by
            intro hc
            refine ⟨fun e => err ?_ _ _ rfl, fun e => ?_⟩
            · unfold rowAt; rw [hr]; exact if_pos (.inr (by omega))
            · have e3 : rowAt found pre.length line = some r := by
                unfold rowAt; rw [hr]
                refine if_neg fun q => ?_
                rcases q with ⟨q1, q2⟩ | q
                · rcases hc with z | z
                  · exact q1 z
                  · exact q2 z
                · exact e (by omega)
              rw [e3] at hpa
              refine ⟨by rw [List.length_map]; exact Nat.lt_of_lt_of_le (show found.length < 1000002 by omega) (by decide), T.nx _ _ ⟨found ++ [r], _, _, _, rfl, ?_, ?_, ?_, ?_⟩⟩
              · rw [dupd2, List.map_append]; rfl
              · rw [List.length_append, List.length_append, hfl]; rfl
              · intro q hq
                rcases List.mem_append.mp hq with z | z
                · exact hfp q z
                · rw [List.mem_singleton.mp z]; exact rp
              · rw [List.length_append]; exact hpa
          refine ⟨Nat.zero_le _, ?_⟩
          show dn 12 (view _ (.ref p)) = true ∧ dn 12 (.lst []) = true ∧ _
          rw [vw_ref dupd_same]
          refine ⟨hd, rfl, ?_⟩
          rw [show (view (dupd h p (.lst (found.map rowD))) (D.lst [])) = .lst [] from rfl, eqv_nil]
          cases found with
          | nil =>
            walk_at "ev"
            exact ⟨fun z => (by simp at z), fun _ => last (.inl rfl)⟩
          | cons f fs =>
            refine ⟨fun _ => ?_, fun z => (by simp at z)⟩
            have e0 : dupd h p (.lst ((f :: fs).map rowD)) p = some (.lst (D.tup (f.map cD) :: fs.map rowD)) := dupd_same
            walk_at "ev"
            simp only [List.length_map]
            refine ⟨fun e => err ?_ _ _ rfl, fun e => ?_⟩
            · unfold rowAt; rw [hr]; refine if_pos (.inl ⟨by simp, fun e2 => ?_⟩)
              have e2 : r.length = f.length := e2
              omega
            · refine last (.inr ?_)
              show r.length = f.length
              omega
      · rintro τ h' ⟨found, x2, x3, x4, rfl, rfl, hfl, hfp, hpa⟩
        have e : parseT s = .ok found := by
          rw [hpa, List.length_zip, List.length_range, Nat.min_self, List.drop_length]; rfl
        walk_at "ev"
        exact ⟨h, DSub.new (DSub.refl h) hp, zo _ e⟩
    | ref a => cases hn
    | scr a => cases hn
    | _ =>
      walk_at "ev"
      exact E.ok _ _ _ _ (E.mono _ _ _ _ _ (fun C fs xe => ⟨h, DSub.refl h, xe⟩) (zx fun s e => by cases e))

end DL

namespace DL
open PySem L2
local macro_rules | `(tactic| walk_at "ev") => `(tactic| try simp (disch := (first | assumption | exact dupd_same | (refine (dupd_ne ?_).trans ?_; (first | assumption | (apply Ne.symm; assumption)); first | assumption | exact dupd_same | (refine (dupd_ne ?_).trans ?_; (first | assumption | (apply Ne.symm; assumption)); first | assumption | exact dupd_same)))) only [v0, v1, v2, v3, v4, v5, v6, v7, v8, v9, v10, v11, v12, v13, v14, v15, v16, w0, w1, w2, w3, w4, w5, w6, w7, w8, w9, w10, w11, w12, w13, w14, w15, w16, e_dC, e_dOp, e_dUn, e_dTest, e_dAnd, e_dOr, e_dNot, e_dAndV, e_dOrV, e_dNotV, e_dIfE, e_dChain, e_dNil, e_dCons, e_dTup, e_dLst, e_dLstM, e_dCB, e_dBM, e_dFrz, e_dNoPart, e_dPart, e_dSl, e_dIsi, e_iSeqD, e_iRange1, e_iRange2, e_iEnumD, e_iZipD, e_dNext, e_dSeq, e_dAsg, e_dAsgT, e_dPar, e_dIf, e_dRet, e_dRetN, e_dDrop, e_dBrk, e_dCnt, e_dAug, e_dSetI, e_dFor, e_dWhile, e_dYes, e_dLc, e_dLcM, e_dCall, e_dCallK, e_dNeg, e_dRaise, op_Lt, op_Le, op_Gt, op_Ge, op_IsN, op_IsNN, op_Sub, op_Add, op_AddS, op_AddT, op_AddL, op_Mul, op_MulT, op_MulL, op_Mod, op_Fdiv, op_InS, op_NotInS, cb_lenT, cb_lenL, cb_lenS, cb_lenX, cb_all, cb_any, cb_tupleL, cb_tupleT, cb_max, cb_min, cb_abs, cb_int, cb_intB, cb_strI, me_joinL, me_joinT, me_split, ip_add, ip_sub, ip_mul, ip_div, ix_ref0, ix_ref1, ix_ref2, me_append, me_popAt, me_pop0, me_insert, me_clear, me_reverse, cb_lenR, cb_tupleR, me_joinR, vw_ref, dT_ref, pow_18, pow_38, pow_40, pow_41, pow_6, eq_str, ne_str, eq_int, ne_int, ix_tup0, ix_lst0, sl_from, sl_to, sl_fromL, sl_toL, vw_str, vw_int, vw_bl, vw_non, vw_dct, vw_tup, vw_lst, vw_scr, ty_str, ty_int, ty_bl, ty_non, ty_tup, ty_lst, ty_dct, it_str, it_tup, it_lst, bT_nm, isN_non, isN_str, isN_int, isN_bl, isN_tup, isN_lst, isN_dct, dT_str, dT_lst, en_rt, en_nx, en_ex, t_imp, f_imp, tf_eq, ft_eq, dwipe, true_and, and_true, Bool.not_true, Bool.not_false, Bool.not_eq_true', Bool.not_eq_false', decide_eq_true_eq, decide_eq_false_iff_not, nq_NoneType, is_NoneType_int, is_NoneType_bool, is_NoneType_str, is_NoneType_tuple, is_NoneType_list, is_NoneType_dict, nq_bool, is_bool_int, is_bool_bool, is_bool_str, is_bool_tuple, is_bool_list, is_bool_dict, nq_int, is_int_int, is_int_bool, is_int_str, is_int_tuple, is_int_list, is_int_dict, nq_str, is_str_int, is_str_bool, is_str_str, is_str_tuple, is_str_list, is_str_dict, nq_tuple, is_tuple_int, is_tuple_bool, is_tuple_str, is_tuple_tuple, is_tuple_list, is_tuple_dict, nq_list, is_list_int, is_list_bool, is_list_str, is_list_tuple, is_list_list, is_list_dict, nq_dict, is_dict_int, is_dict_bool, is_dict_str, is_dict_tuple, is_dict_list, is_dict_dict])
/-! R9: there and back -/
theorem join_inj (c : Nat) : ∀ (a b : List Str), a ≠ [] → b ≠ [] → (∀ p ∈ a, c ∉ p.cps.toList) → (∀ p ∈ b, c ∉ p.cps.toList) → Str.join ⟨#[c]⟩ a = Str.join ⟨#[c]⟩ b → a = b := by
  have cut : ∀ (x y r q : List Nat), c ∉ x → c ∉ y → x ++ c :: r = y ++ c :: q → x = y ∧ r = q := by
    intro x
    induction x with
    | nil =>
      intro y r q hx hy e
      cases y with
      | nil => exact ⟨rfl, (List.cons.inj e).2⟩
      | cons z y => exact absurd (List.cons.inj e).1 fun w => hy (by rw [w]; simp)
    | cons z x ih =>
      intro y r q hx hy e
      cases y with
      | nil => exact absurd (List.cons.inj e).1 fun w => hx (by rw [← w]; simp)
      | cons w y =>
        obtain ⟨e1, e2⟩ := List.cons.inj e
        obtain ⟨e3, e4⟩ := ih y r q (fun m => hx (by simp [m])) (fun m => hy (by simp [m])) e2
        exact ⟨by rw [e1, e3], e4⟩
  have tl : ∀ (x : Str) (y : Str) (l : List Str), (Str.join ⟨#[c]⟩ (x :: y :: l)).cps.toList = x.cps.toList ++ c :: (Str.join ⟨#[c]⟩ (y :: l)).cps.toList := by
    intro x y l
    show (x ++ ⟨#[c]⟩ ++ Str.join ⟨#[c]⟩ (y :: l)).cps.toList = _
    simp only [Str.cps_append, Array.toList_append, List.append_assoc]
    rfl
  intro a
  induction a with
  | nil => intro b h; exact absurd rfl h
  | cons x a ih =>
    intro b _ hb ha hb2 e
    cases b with
    | nil => exact absurd rfl hb
    | cons y b =>
      cases a with
      | nil =>
        cases b with
        | nil => rw [show x = y from e]
        | cons z b =>
          have e2 : x.cps.toList = y.cps.toList ++ c :: (Str.join ⟨#[c]⟩ (z :: b)).cps.toList := by rw [← tl, ← e]; rfl
          exact absurd (ha x (by simp)) fun n => n (by rw [e2]; simp)
      | cons w a =>
        cases b with
        | nil =>
          have e2 : y.cps.toList = x.cps.toList ++ c :: (Str.join ⟨#[c]⟩ (w :: a)).cps.toList := by rw [← tl, e]; rfl
          exact absurd (hb2 y (by simp)) fun n => n (by rw [e2]; simp)
        | cons z b =>
          have e2 := congrArg (fun s : Str => s.cps.toList) e
          simp only [tl] at e2
          obtain ⟨e3, e4⟩ := cut _ _ _ _ (ha x (by simp)) (hb2 y (by simp)) e2
          have e5 : x = y := Str.ext' (Array.toList_inj.mp e3)
          have e6 := ih (z :: b) (by simp) (by simp) (fun p hp => ha p (by simp only [List.mem_cons] at hp ⊢; exact .inr hp)) (fun p hp => hb2 p (by simp only [List.mem_cons] at hp ⊢; exact .inr hp)) (Str.ext' (Array.toList_inj.mp e4))
          rw [e5, e6]
theorem split_ne (x y : Str) : Txt.split x y ≠ [] := fun e => by
  have := PyProof.Rows.split_pos x y
  rw [e] at this
  exact absurd this (by decide)
theorem split_join (c : Nat) {a : List Str} (h0 : a ≠ []) (h : ∀ p ∈ a, c ∉ p.cps.toList) : Txt.split (Txt.join ⟨#[c]⟩ a) ⟨#[c]⟩ = a := by
  refine join_inj c _ _ (split_ne _ _) h0 (StrLaws.split_free _ c) h ?_
  rw [StrLaws.join_split, Txt.join, StrLaws.glued_eq_join]
theorem cell_free {c : Option Str} (h : c = none ∨ okC c = true) (k : Nat) (hk : k < 48) : k ∉ (cellT "" c).cps.toList := by
  rcases h with z | z
  · rw [z]; show k ∉ []; simp
  · cases c with
    | none => cases z
    | some s =>
      intro m
      have := okSign_lt (okCell_sign z k m)
      omega
theorem splitR_line {r : Row} (p : pr r) (h1 : 1 ≤ r.length) : splitR (lineB "" r) = r := by
  unfold splitR lineB
  have hne : r.map (cellT "") ≠ [] := by
    intro e
    rw [List.map_eq_nil_iff] at e
    rw [e] at h1
    exact absurd h1 (by decide)
  rw [show ("," : Str) = ⟨#[44]⟩ from rfl, split_join 44 hne (fun q hq => by
    obtain ⟨c, hc, rfl⟩ := List.mem_map.mp hq
    exact cell_free (pr_mem p c hc) 44 (by decide)), List.map_map]
  have : ∀ c ∈ r, (if cellT "" c = ("" : Str) then none else some (cellT "" c)) = c := by
    intro c hc
    cases c with
    | none => exact if_pos rfl
    | some s =>
      rcases pr_mem p _ hc with z | z
      · cases z
      · refine if_neg fun e => ?_
        have := (okCell_len z).1
        rw [show s = ("" : Str) from e] at this
        exact absurd this (by decide)
  exact (List.map_congr_left this).trans (List.map_id r)
theorem rowIn_line {r : Row} (p : pr r) (h1 : 1 ≤ r.length) (h6 : r.length ≤ 6) : rowIn (lineB "" r) = some r := by
  unfold rowIn
  rw [splitR_line p h1, if_pos (isRow_of h1 h6 p)]
theorem join_mem (k : Nat) (sep : Str) (hs : k ∉ sep.cps.toList) : ∀ (l : List Str), (∀ p ∈ l, k ∉ p.cps.toList) → k ∉ (Txt.join sep l).cps.toList := by
  intro l
  rw [Txt.join, StrLaws.glued_eq_join]
  induction l with
  | nil => intro _; show k ∉ []; simp
  | cons x l ih =>
    intro h
    cases l with
    | nil => exact h x (by simp)
    | cons y l =>
      show k ∉ (x ++ sep ++ Str.join sep (y :: l)).cps.toList
      simp only [Str.cps_append, Array.toList_append, List.mem_append, not_or]
      exact ⟨⟨h x (by simp), hs⟩, ih fun p hp => h p (by simp only [List.mem_cons] at hp ⊢; exact .inr hp)⟩
theorem line_free {r : Row} (p : pr r) : 10 ∉ (lineB "" r).cps.toList := join_mem 10 "," (by decide +kernel) _ fun q hq => by
  obtain ⟨c, hc, rfl⟩ := List.mem_map.mp hq
  exact cell_free (pr_mem p c hc) 10 (by decide)
theorem parse_go (w : Nat) (w1 : 1 ≤ w) (w6 : w ≤ 6) : ∀ (t found : List Row) (i : Nat), i = found.length → i + t.length ≤ 60 → (∀ r ∈ found, r.length = w) → (∀ r ∈ t, r.length = w ∧ pr r) → parseGo i found (t.map (lineB "")) = .ok (found ++ t)
  | [], found, i, _, _, _, _ => by simp [parseGo]
  | r :: t, found, i, hi, hl, hf, ht => by
    obtain ⟨hr, hp⟩ := ht r (by simp)
    have e : rowAt found i (lineB "" r) = some r := by
      unfold rowAt
      rw [rowIn_line hp (by omega) (by omega)]
      refine if_neg fun q => ?_
      rcases q with ⟨q1, q2⟩ | q
      · cases found with
        | nil => exact q1 rfl
        | cons f fs => exact q2 (by rw [hr]; exact (hf f (by simp)).symm)
      · simp only [List.length_cons] at hl; omega
    simp only [List.map_cons, parseGo, e]
    rw [parse_go w w1 w6 t (found ++ [r]) (i + 1) (by rw [List.length_append]; simp [hi]) (by simp only [List.length_cons] at hl; omega) (fun q hq => by
      rcases List.mem_append.mp hq with z | z
      · exact hf q z
      · rw [List.mem_singleton.mp z]; exact hr) (fun q hq => ht q (by simp [hq])), List.append_assoc]
    rfl
theorem parse_text {t : List Row} (p : RowsP t) : parseT (textT t) = .ok t := by
  obtain ⟨w, w1, w6, hw⟩ := p.w
  unfold parseT textT
  have hne : t.map (lineB "") ≠ [] := by
    intro e
    rw [List.map_eq_nil_iff] at e
    have := p.ne
    rw [e] at this
    exact absurd this (by decide)
  rw [show ("\n" : Str) = ⟨#[10]⟩ from rfl, split_join 10 hne (fun q hq => by
    obtain ⟨r, hr, rfl⟩ := List.mem_map.mp hq
    exact line_free (hw r hr).2)]
  exact parse_go w w1 w6 t [] 0 rfl (by have := p.le; omega) (fun _ z => nomatch z) hw
theorem textT_len {t : List Row} (p : RowsP t) : (textT t).length ≤ 3300 := Nat.le_trans (join_len _ _) (text_len p)
theorem text_inj {t u : List Row} (p : RowsP t) (q : RowsP u) : textT t = textT u ↔ t = u := ⟨fun e => by
  have := parse_text p
  rw [e, parse_text q] at this
  cases this; rfl, fun e => by rw [e]⟩
theorem cD_inj {a b : Option Str} (h : cD a = cD b) : a = b := by
  cases a <;> cases b <;> first | rfl | cases h | skip
  rfl
theorem rowD_inj {a b : Row} (h : rowD a = rowD b) : a = b := by
  simp only [rowD, D.tup.injEq] at h
  exact (List.map_inj_right fun x y e => cD_inj e).mp h
theorem tabD_inj {a b : List Row} (h : tabD a = tabD b) : a = b := by
  simp only [tabD, D.tup.injEq] at h
  exact (List.map_inj_right fun x y e => rowD_inj e).mp h
theorem eqvAll_map {α : Type} [DecidableEq α] (g : α → D) (hg : ∀ a b, PyData.eqv (py (g a)) (py (g b)) = decide (a = b)) : ∀ a b : List α, PyData.eqvAll (pyL (a.map g)) (pyL (b.map g)) = decide (a = b)
  | [], [] => rfl
  | [], _ :: _ => rfl
  | _ :: _, [] => rfl
  | x :: a, y :: b => by
    show (PyData.eqv (py (g x)) (py (g y)) && PyData.eqvAll (pyL (a.map g)) (pyL (b.map g))) = _
    rw [hg, eqvAll_map g hg a b]
    by_cases h1 : x = y <;> by_cases h2 : a = b <;> simp [h1, h2]
theorem eqv_row (a b : Row) : eqvD (rowD a) (rowD b) = decide (a = b) := by
  unfold rowD
  rw [eqv_tup]
  exact eqvAll_map cD (fun a b => eqv_cD a b) a b
theorem eqv_tab (a b : List Row) : eqvD (tabD a) (tabD b) = decide (a = b) := by
  unfold tabD
  rw [eqv_tup]
  exact eqvAll_map rowD (fun a b => eqv_row a b) a b
theorem dn_tab {t : List Row} (h : ∀ r ∈ t, strOkR r) (n : Nat) : dn (n + 2) (tabD t) = true := by
  show (t.map rowD).all (dn (n + 1)) = true
  rw [List.all_eq_true]
  intro x hx
  obtain ⟨r, hr, rfl⟩ := List.mem_map.mp hx
  exact dn_row (h r hr) n
theorem rows_strOk {t : List Row} (p : RowsP t) : ∀ r ∈ t, strOkR r := by
  obtain ⟨w, w1, w6, hw⟩ := p.w
  exact fun r hr => pr_strOk (hw r hr).2

end DL

namespace DL
open PySem L2
local macro_rules | `(tactic| walk_at "ev") => `(tactic| try simp (disch := (first | assumption | exact dupd_same | (refine (dupd_ne ?_).trans ?_; (first | assumption | (apply Ne.symm; assumption)); first | assumption | exact dupd_same | (refine (dupd_ne ?_).trans ?_; (first | assumption | (apply Ne.symm; assumption)); first | assumption | exact dupd_same)))) only [v0, v1, v2, v3, v4, v5, v6, v7, v8, v9, v10, v11, v12, v13, v14, v15, v16, w0, w1, w2, w3, w4, w5, w6, w7, w8, w9, w10, w11, w12, w13, w14, w15, w16, e_dC, e_dOp, e_dUn, e_dTest, e_dAnd, e_dOr, e_dNot, e_dAndV, e_dOrV, e_dNotV, e_dIfE, e_dChain, e_dNil, e_dCons, e_dTup, e_dLst, e_dLstM, e_dCB, e_dBM, e_dFrz, e_dNoPart, e_dPart, e_dSl, e_dIsi, e_iSeqD, e_iRange1, e_iRange2, e_iEnumD, e_iZipD, e_dNext, e_dSeq, e_dAsg, e_dAsgT, e_dPar, e_dIf, e_dRet, e_dRetN, e_dDrop, e_dBrk, e_dCnt, e_dAug, e_dSetI, e_dFor, e_dWhile, e_dYes, e_dLc, e_dLcM, e_dCall, e_dCallK, e_dNeg, e_dRaise, op_Lt, op_Le, op_Gt, op_Ge, op_IsN, op_IsNN, op_Sub, op_Add, op_AddS, op_AddT, op_AddL, op_Mul, op_MulT, op_MulL, op_Mod, op_Fdiv, op_InS, op_NotInS, cb_lenT, cb_lenL, cb_lenS, cb_lenX, cb_all, cb_any, cb_tupleL, cb_tupleT, cb_max, cb_min, cb_abs, cb_int, cb_intB, cb_strI, me_joinL, me_joinT, me_split, ip_add, ip_sub, ip_mul, ip_div, ix_ref0, ix_ref1, ix_ref2, me_append, me_popAt, me_pop0, me_insert, me_clear, me_reverse, cb_lenR, cb_tupleR, me_joinR, vw_ref, dT_ref, pow_18, pow_38, pow_40, pow_41, pow_6, eq_str, ne_str, eq_int, ne_int, ix_tup0, ix_lst0, sl_from, sl_to, sl_fromL, sl_toL, vw_str, vw_int, vw_bl, vw_non, vw_dct, vw_tup, vw_lst, vw_scr, ty_str, ty_int, ty_bl, ty_non, ty_tup, ty_lst, ty_dct, it_str, it_tup, it_lst, bT_nm, isN_non, isN_str, isN_int, isN_bl, isN_tup, isN_lst, isN_dct, dT_str, dT_lst, en_rt, en_nx, en_ex, t_imp, f_imp, tf_eq, ft_eq, dwipe, true_and, and_true, Bool.not_true, Bool.not_false, Bool.not_eq_true', Bool.not_eq_false', decide_eq_true_eq, decide_eq_false_iff_not, nq_NoneType, is_NoneType_int, is_NoneType_bool, is_NoneType_str, is_NoneType_tuple, is_NoneType_list, is_NoneType_dict, nq_bool, is_bool_int, is_bool_bool, is_bool_str, is_bool_tuple, is_bool_list, is_bool_dict, nq_int, is_int_int, is_int_bool, is_int_str, is_int_tuple, is_int_list, is_int_dict, nq_str, is_str_int, is_str_bool, is_str_str, is_str_tuple, is_str_list, is_str_dict, nq_tuple, is_tuple_int, is_tuple_bool, is_tuple_str, is_tuple_tuple, is_tuple_list, is_tuple_dict, nq_list, is_list_int, is_list_bool, is_list_str, is_list_tuple, is_list_list, is_list_dict, nq_dict, is_dict_int, is_dict_bool, is_dict_str, is_dict_tuple, is_dict_list, is_dict_dict])
/-! R10: the law's own text; how long a text is told -/
def sp_law_text : DSp := fun ds h Q _ => match ds with
  | [d] => ∃ t, d = tabD t ∧ RowsP t ∧ Q (.str (textT t)) h
  | _ => False
theorem i_law_text {t : List Row} {h : DH} {Q : DK} {X : DX} (p : RowsP t) (z : Q (.str (textT t)) h) : sp_law_text [tabD t] h Q X := ⟨t, rfl, p, z⟩
def t_law_text : DS :=
(dSeq (dAsg (dLstM dNil) 1)
  (dSeq (dFor (iSeqD (dVar 0)) (.nm 2) (dDrop (dBM "list" dAppend (dVar 1) (dCons (dBM "str" dJoin (dC (.str ",")) (dCons (dLc (iSeqD (dVar 2)) (.nm 3) dYes (dIfE (dTest (dOp dIsN (dVar 3) (dC .non))) (dC (.str "")) (dVar 3)) [3]) dNil)) dNil))))
  (dRet (dBM "str" dJoin (dC (.str "\n")) (dCons (dVar 1) dNil)))))
def n_law_text : List Str := ["some", "found", "own", "cell"]
/- 0=some 1=found 2=own 3=cell -/
theorem rd_law_text (ds : List D) (h : DH) (Q : DK) (X : DX) (z : sp_law_text ds h Q X) : t_law_text (dEnd Q X) (dstart n_law_text ds) h := by
  match ds, z with
  | [_], ⟨t, rfl, p, z⟩ =>
    show t_law_text (dEnd Q X) [some (.tup (t.map rowD)), none, none, none] h
    unfold t_law_text
    obtain ⟨w, w1, w6, hw⟩ := p.w
    walk_at "ev"
    refine ⟨Nat.zero_le _, fun a ha => ?_⟩
    refine for_indG rowD (fun pre τ h' => ∃ x2 x3, τ = [some (.tup (t.map rowD)), some (.ref a), x2, x3] ∧ h' = dupd h a (.lst ((pre.map (lineB "")).map D.str))) t ⟨none, none, rfl, rfl⟩ ?_ ?_
    · rintro pre r post τ h' eq ⟨x2, x3, rfl, rfl⟩ D' T
      refine ⟨_, rfl, ?_⟩
      have hr := hw r (by rw [eq]; simp)
      rw [show rowD r = .tup (r.map cD) from rfl]
      walk_at "ev"
      refine ⟨by rw [List.length_map]; omega, ?_⟩
      refine lc_map cD (fun c => .str (cellT "" c)) r (fun c _ Q' q' => ?_) ?_
      · walk_at "ev"
        cases c with
        | none => exact ⟨fun _ => q', fun z => (by cases z)⟩
        | some s => exact ⟨fun z => (by cases z), fun _ => q'⟩
      · rw [show (r.map fun c => D.str (cellT "" c)) = (r.map (cellT "")).map D.str by rw [List.map_map]; rfl, strsOf_map]
        have e0 : dupd h a (DO.lst ((pre.map (lineB "")).map D.str)) a = some (.lst ((pre.map (lineB "")).map D.str)) := dupd_same
        refine ⟨Nat.le_trans (lineB_len (b := "") (by decide) (pr_short hr.2) (by omega)).2 (by decide), ?_⟩
        walk_at "ev"
        have hl := congrArg List.length eq
        have := p.le
        simp only [List.length_append, List.length_cons] at hl
        refine ⟨by rw [List.length_map, List.length_map]; exact Nat.lt_of_lt_of_le (show pre.length < 60 by omega) (by decide), T.nx _ _ ⟨_, _, rfl, ?_⟩⟩
        rw [dupd2, List.map_append, List.map_append]; rfl
    · rintro τ h' ⟨x2, x3, rfl, rfl⟩
      have e0 : dupd h a (DO.lst ((t.map (lineB "")).map D.str)) a = some (.lst ((t.map (lineB "")).map D.str)) := dupd_same
      walk_at "ev"
      rw [strsOf_map]
      exact ⟨Nat.le_trans (text_len p) (by decide), ⟨h, DSub.new (DSub.refl h) ha, z⟩⟩
theorem join_all (P : Nat → Prop) (sep : Str) (hs : ∀ c ∈ sep.cps.toList, P c) : ∀ (l : List Str), (∀ p ∈ l, ∀ c ∈ p.cps.toList, P c) → ∀ c ∈ (Txt.join sep l).cps.toList, P c := by
  intro l
  rw [Txt.join, StrLaws.glued_eq_join]
  induction l with
  | nil => intro _ c hc; exact absurd hc (by show ¬ c ∈ []; simp)
  | cons x l ih =>
    intro h
    cases l with
    | nil => exact h x (by simp)
    | cons y l =>
      intro c hc
      rw [show Str.join sep (x :: y :: l) = x ++ sep ++ Str.join sep (y :: l) from rfl] at hc
      simp only [Str.cps_append, Array.toList_append, List.mem_append] at hc
      rcases hc with (hc | hc) | hc
      · exact h x (by simp) c hc
      · exact hs c hc
      · exact ih (fun p hp => h p (by simp only [List.mem_cons] at hp ⊢; exact .inr hp)) c hc
theorem cell_lt {c : Option Str} (h : c = none ∨ okC c = true) : ∀ k ∈ (cellT "" c).cps.toList, k < 1114112 := by
  rcases h with z | z
  · rw [z]; intro k hk; exact absurd hk (by show ¬ k ∈ []; simp)
  · cases c with
    | none => cases z
    | some s =>
      intro k m
      have := okSign_lt (okCell_sign z k m)
      omega
theorem line_lt {r : Row} (p : pr r) : ∀ k ∈ (lineB "" r).cps.toList, k < 1114112 := join_all (· < 1114112) "," (by decide +kernel) _ fun q hq => by
  obtain ⟨c, hc, rfl⟩ := List.mem_map.mp hq
  exact cell_lt (pr_mem p c hc)
theorem text_strOk {t : List Row} (p : RowsP t) : PyData.strOk (textT t) = true := strOk_of (join_all (· < 1114112) "\n" (by decide +kernel) _ fun q hq => by
  obtain ⟨w, w1, w6, hw⟩ := p.w
  obtain ⟨r, hr, rfl⟩ := List.mem_map.mp hq
  exact line_lt (hw r hr).2)
theorem wtL_le (B : Nat) : ∀ (xs : List D), (∀ x ∈ xs, wt x ≤ B) → wt.wtL xs ≤ xs.length * (B + 2)
  | [], _ => Nat.zero_le _
  | x :: xs, h => by
    have := wtL_le B xs fun y hy => h y (by simp [hy])
    have := h x (by simp)
    simp only [wt.wtL, List.length_cons]
    rw [Nat.add_mul]
    omega
theorem wt_cD {c : Option Str} (h : ∀ s, c = some s → s.length ≤ 8) : wt (cD c) ≤ 82 := by
  cases c with
  | none => show 4 ≤ 82; omega
  | some s => have := h s rfl; show 10 * s.length + 2 ≤ 82; omega
theorem wt_row {r : Row} (hl : r.length ≤ 6) (h : shortR r) : wt (rowD r) ≤ 508 := by
  have := wtL_le 82 (r.map cD) fun x hx => by
    obtain ⟨c, hc, rfl⟩ := List.mem_map.mp hx
    exact wt_cD (h c hc)
  rw [List.length_map] at this
  show wt.wtL _ + 4 ≤ 508
  omega
theorem wt_tab {t : List Row} (p : RowsP t) : wt (tabD t) ≤ 30604 := by
  obtain ⟨w, w1, w6, hw⟩ := p.w
  have := wtL_le 508 (t.map rowD) fun x hx => by
    obtain ⟨r, hr, rfl⟩ := List.mem_map.mp hx
    exact wt_row (by rw [(hw r hr).1]; exact w6) (pr_short (hw r hr).2)
  rw [List.length_map] at this
  have := p.le
  show wt.wtL _ + 4 ≤ 30604
  omega
theorem rn_cD {c : Option Str} (n : Nat) (h : strOkC c = true) : rn n (cD c) = true := by
  cases c with
  | none => cases n <;> rfl
  | some s => cases n <;> exact h
theorem rn_row {r : Row} (h : strOkR r) (n : Nat) : rn (n + 1) (rowD r) = true := by
  show (r.map cD).all (rn n) = true
  rw [List.all_eq_true]
  intro x hx
  obtain ⟨c, hc, rfl⟩ := List.mem_map.mp hx
  exact rn_cD n (h c hc)
theorem rn_tab {t : List Row} (h : ∀ r ∈ t, strOkR r) (n : Nat) : rn (n + 2) (tabD t) = true := by
  show (t.map rowD).all (rn (n + 1)) = true
  rw [List.all_eq_true]
  intro x hx
  obtain ⟨r, hr, rfl⟩ := List.mem_map.mp hx
  exact rn_row (h r hr) n
theorem i_repr {x : D} {h : DH} {Q : DK} (hv : view h x = x) (h1 : rn 12 x = true) (h2 : wt x ≤ 16000000) (q : Q (.str (shownD x)) h) : dRepr [x] h Q := by
  show rn 12 (view h x) = true ∧ wt (view h x) ≤ 16000000 ∧ Q (.str (shownD (view h x))) h
  rw [hv]; exact ⟨h1, h2, q⟩

end DL

namespace DL
open PySem L2
local macro_rules | `(tactic| walk_at "ev") => `(tactic| try simp (disch := (first | assumption | exact dupd_same | (refine (dupd_ne ?_).trans ?_; (first | assumption | (apply Ne.symm; assumption)); first | assumption | exact dupd_same | (refine (dupd_ne ?_).trans ?_; (first | assumption | (apply Ne.symm; assumption)); first | assumption | exact dupd_same)))) only [v0, v1, v2, v3, v4, v5, v6, v7, v8, v9, v10, v11, v12, v13, v14, v15, v16, w0, w1, w2, w3, w4, w5, w6, w7, w8, w9, w10, w11, w12, w13, w14, w15, w16, e_dC, e_dOp, e_dUn, e_dTest, e_dAnd, e_dOr, e_dNot, e_dAndV, e_dOrV, e_dNotV, e_dIfE, e_dChain, e_dNil, e_dCons, e_dTup, e_dLst, e_dLstM, e_dCB, e_dBM, e_dFrz, e_dNoPart, e_dPart, e_dSl, e_dIsi, e_iSeqD, e_iRange1, e_iRange2, e_iEnumD, e_iZipD, e_dNext, e_dSeq, e_dAsg, e_dAsgT, e_dPar, e_dIf, e_dRet, e_dRetN, e_dDrop, e_dBrk, e_dCnt, e_dAug, e_dSetI, e_dFor, e_dWhile, e_dYes, e_dLc, e_dLcM, e_dCall, e_dCallK, e_dNeg, e_dRaise, op_Lt, op_Le, op_Gt, op_Ge, op_IsN, op_IsNN, op_Sub, op_Add, op_AddS, op_AddT, op_AddL, op_Mul, op_MulT, op_MulL, op_Mod, op_Fdiv, op_InS, op_NotInS, cb_lenT, cb_lenL, cb_lenS, cb_lenX, cb_all, cb_any, cb_tupleL, cb_tupleT, cb_max, cb_min, cb_abs, cb_int, cb_intB, cb_strI, me_joinL, me_joinT, me_split, ip_add, ip_sub, ip_mul, ip_div, ix_ref0, ix_ref1, ix_ref2, me_append, me_popAt, me_pop0, me_insert, me_clear, me_reverse, cb_lenR, cb_tupleR, me_joinR, vw_ref, dT_ref, pow_18, pow_38, pow_40, pow_41, pow_6, eq_str, ne_str, eq_int, ne_int, ix_tup0, ix_lst0, sl_from, sl_to, sl_fromL, sl_toL, vw_str, vw_int, vw_bl, vw_non, vw_dct, vw_tup, vw_lst, vw_scr, ty_str, ty_int, ty_bl, ty_non, ty_tup, ty_lst, ty_dct, it_str, it_tup, it_lst, bT_nm, isN_non, isN_str, isN_int, isN_bl, isN_tup, isN_lst, isN_dct, dT_str, dT_lst, en_rt, en_nx, en_ex, t_imp, f_imp, not_true_eq_false, not_false_eq_true, tf_eq, ft_eq, dwipe, true_and, and_true, Bool.not_true, Bool.not_false, Bool.not_eq_true', Bool.not_eq_false', decide_eq_true_eq, decide_eq_false_iff_not, nq_NoneType, is_NoneType_int, is_NoneType_bool, is_NoneType_str, is_NoneType_tuple, is_NoneType_list, is_NoneType_dict, nq_bool, is_bool_int, is_bool_bool, is_bool_str, is_bool_tuple, is_bool_list, is_bool_dict, nq_int, is_int_int, is_int_bool, is_int_str, is_int_tuple, is_int_list, is_int_dict, nq_str, is_str_int, is_str_bool, is_str_str, is_str_tuple, is_str_list, is_str_dict, nq_tuple, is_tuple_int, is_tuple_bool, is_tuple_str, is_tuple_tuple, is_tuple_list, is_tuple_dict, nq_list, is_list_int, is_list_bool, is_list_str, is_list_tuple, is_list_list, is_list_dict, nq_dict, is_dict_int, is_dict_bool, is_dict_str, is_dict_tuple, is_dict_list, is_dict_dict])
/-! R11: pages read, rows moved -/
theorem i_blanks_in {r : Row} {h : DH} {Q : DK} {X : DX} (z : Q (.int (blanks r : Nat)) h) : sp_blanks_in [.tup (r.map cD)] h Q X := by
  show Q (.int (lead (r.map cD) : Nat)) h
  rw [lead_row]; exact z
def isIntD (lo : Int) (hi : Option Int) : D → Bool
  | .int i => decide (lo ≤ i) && (match hi with | none => true | some h => decide (i ≤ h))
  | _ => false
def hiD : Option Int → D
  | none => .non
  | some i => .int i
def sp_is_integer : DSp := fun ds h Q _ => match ds with
  | [d, .int lo, e] => nr d = true ∧ ∃ hi, e = hiD hi ∧ Q (.bl (isIntD lo hi d)) h
  | _ => False
theorem i_is_integer {d : D} {lo : Int} {hi : Option Int} {h : DH} {Q : DK} {X : DX} (hd : nr d = true) (z : Q (.bl (isIntD lo hi d)) h) : sp_is_integer [d, .int lo, hiD hi] h Q X := ⟨hd, hi, rfl, z⟩
def t_is_integer : DS :=
(dSeq (dIf (dOr (dNot (dTest (dIsi "int" (dVar 0)))) (dTest (dIsi "bool" (dVar 0)))) (dRet (dC (.bl false))) dNext)
  (dRet (dAndV (dOp dLe (dVar 1) (dVar 0)) (dOrV (dOp dIsN (dVar 2) (dC .non)) (dOp dLe (dVar 0) (dVar 2))))))
def n_is_integer : List Str := ["value", "low", "high"]
/- 0=value 1=low 2=high -/
theorem rd_is_integer (ds : List D) (h : DH) (Q : DK) (X : DX) (z : sp_is_integer ds h Q X) : t_is_integer (dEnd Q X) (dstart n_is_integer ds) h := by
  match ds, z with
  | [d, .int lo, _], ⟨hd, hi, rfl, z⟩ =>
    show t_is_integer (dEnd Q X) [some d, some (.int lo), some (hiD hi)] h
    unfold t_is_integer
    cases d with
    | int i =>
      cases hi with
      | none =>
        rw [show hiD none = D.non from rfl]
        walk_at "ev"
        refine ⟨fun e => ?_, fun e => ?_⟩
        · refine dend0 ?_
          have : isIntD lo none (.int i) = true := by show (decide _ && true) = true; rw [decide_eq_true e]; rfl
          rw [this] at z; exact z
        · refine dend0 ?_
          have : isIntD lo none (.int i) = false := by show (decide _ && true) = false; rw [decide_eq_false e]; rfl
          rw [this] at z; exact z
      | some hh =>
        rw [show hiD (some hh) = D.int hh from rfl]
        walk_at "ev"
        refine ⟨fun e => ?_, fun e => ?_⟩
        · refine dend0 ?_
          have : isIntD lo (some hh) (.int i) = decide (i ≤ hh) := by show (decide _ && _) = _; rw [decide_eq_true e, Bool.true_and]
          rw [this] at z; exact z
        · refine dend0 ?_
          have : isIntD lo (some hh) (.int i) = false := by show (decide _ && _) = false; rw [decide_eq_false e]; rfl
          rw [this] at z; exact z
    | ref a => cases hd
    | scr a => cases hd
    | _ => walk_at "ev"; exact dend0 z
/-! pages -/
def leads : D → Bool
  | .tup ys => decide (lead ys = 0)
  | _ => false
def isPageD : D → Bool
  | .tup (x :: xs) => isRowsD (.tup (x :: xs)) && leads x
  | _ => false
def sp_has_page_form : DSp := fun ds h Q _ => match ds with
  | [d] => nr d = true ∧ Q (.bl (isPageD d)) h
  | _ => False
theorem i_has_page_form {d : D} {h : DH} {Q : DK} {X : DX} (hd : nr d = true) (z : Q (.bl (isPageD d)) h) : sp_has_page_form [d] h Q X := ⟨hd, z⟩
def t_has_page_form : DS :=
(dRet (dAndV (dCall sp_are_printed_rows (dCons (dVar 0) dNil)) (dOp dEq (dCall sp_blanks_in (dCons (dOp dIx (dVar 0) (dC (.int 0))) dNil)) (dC (.int 0)))))
def n_has_page_form : List Str := ["value"]
/- 0=value -/
theorem rd_has_page_form (ds : List D) (h : DH) (Q : DK) (X : DX) (z : sp_has_page_form ds h Q X) : t_has_page_form (dEnd Q X) (dstart n_has_page_form ds) h := by
  match ds, z with
  | [d], ⟨hd, z⟩ =>
    show t_has_page_form (dEnd Q X) [some d] h
    unfold t_has_page_form
    walk_at "ev"
    refine ⟨hd, ?_⟩
    walk_at "ev"
    refine ⟨fun e => ?_, fun e => ?_⟩
    · obtain ⟨t, rfl, p⟩ := rows_of e
      cases t with
      | nil => exact absurd p.ne (by decide)
      | cons r rs =>
        rw [show tabD (r :: rs) = .tup (.tup (r.map cD) :: rs.map rowD) from rfl]
        walk_at "ev"
        refine i_blanks_in ?_
        walk_at "ev"
        refine dend0 ?_
        have : isPageD (tabD (r :: rs)) = decide (((blanks r : Nat) : Int) = 0) := by
          show (isRowsD _ && decide (lead (r.map cD) = 0)) = _
          rw [show isRowsD (.tup (rowD r :: rs.map rowD)) = true from e, Bool.true_and, lead_row]
          exact decide_eq_decide.mpr (by omega)
        rw [this] at z; exact z
    · refine dend0 ?_
      have : isPageD d = false := by
        cases d with
        | tup xs =>
          cases xs with
          | nil => rfl
          | cons x xs => show (isRowsD _ && _) = false; rw [e]; rfl
        | _ => rfl
      rw [this] at z; exact z
theorem isPage_of {t : List Row} (p : PageP t) : isPageD (tabD t) = true := by
  have q := isRows_of p.rows
  cases t with
  | nil => exact absurd p.ne (by decide)
  | cons r rs =>
    show (isRowsD _ && decide (lead (r.map cD) = 0)) = true
    rw [show isRowsD (.tup (rowD r :: rs.map rowD)) = true from q, Bool.true_and, lead_row, blanks_full (p.first r rfl)]
    rfl
theorem page_of {d : D} (h : isPageD d = true) : ∃ t, d = tabD t ∧ PageP t := by
  cases d with
  | tup xs =>
    cases xs with
    | nil => cases h
    | cons x xs =>
      have h2 : (isRowsD (.tup (x :: xs)) && leads x) = true := h
      rw [Bool.and_eq_true] at h2
      obtain ⟨t, e, p⟩ := rows_of h2.1
      refine ⟨t, e, p.ne, p.le, p.w, fun r hr => ?_⟩
      cases t with
      | nil => cases hr
      | cons r0 rs =>
        cases hr
        obtain ⟨w, w1, w6, hw⟩ := p.w
        simp only [tabD, List.map_cons, D.tup.injEq, List.cons.injEq] at e
        have h3 := h2.2
        rw [e.1] at h3
        have h4 : lead (r.map cD) = 0 := of_decide_eq_true h3
        rw [lead_row] at h4
        have := (hw r (by simp)).2
        unfold pr at this
        rw [h4] at this
        exact this
  | _ => cases h
def sp_require_page (E : Er) : DSp := fun ds h Q X => match ds with
  | [d] => nr d = true ∧ (isPageD d = true → Q .non h) ∧ (isPageD d = false → E.er .non X h)
  | _ => False
theorem i_require_page {E : Er} {t : List Row} {h : DH} {Q : DK} {X : DX} (p : PageP t) (z : Q .non h) : sp_require_page E [tabD t] h Q X := ⟨nr_tab p.rows, fun _ => z, fun e => by rw [isPage_of p] at e; cases e⟩
def t_require_page (E_InvalidPage : Er) : DS :=
(dIf (dNot (dTest (dCall sp_has_page_form (dCons (dVar 0) dNil)))) (E_InvalidPage.tr none) dNext)
def n_require_page : List Str := ["value"]
/- 0=value -/
theorem rd_require_page (E : Er) (ds : List D) (h : DH) (Q : DK) (X : DX) (z : sp_require_page E ds h Q X) : t_require_page E (dEnd Q X) (dstart n_require_page ds) h := by
  match ds, z with
  | [d], ⟨hd, z, zx⟩ =>
    show t_require_page E (dEnd Q X) [some d] h
    unfold t_require_page
    walk_at "ev"
    refine i_has_page_form hd ?_
    walk_at "ev"
    exact ⟨fun e => E.ok _ _ _ _ (E.mono _ _ _ _ _ (fun C fs xe => ⟨h, DSub.refl h, xe⟩) (zx e)), fun e => dend0 (z e)⟩
def sp_require_row (E : Er) : DSp := fun ds h Q X => match ds with
  | [.int many, d] => nr d = true ∧ (isIntD 0 (some (many - 1)) d = true → Q .non h) ∧ (isIntD 0 (some (many - 1)) d = false → E.er .non X h)
  | _ => False
theorem i_require_row {E : Er} {many i : Int} {h : DH} {Q : DK} {X : DX} (h0 : 0 ≤ i) (h1 : i < many) (z : Q .non h) : sp_require_row E [.int many, .int i] h Q X := by
  have e : isIntD 0 (some (many - 1)) (.int i) = true := by show (decide _ && decide _) = true; rw [decide_eq_true h0, decide_eq_true (by omega)]; rfl
  exact ⟨rfl, fun _ => z, fun e2 => by rw [e] at e2; cases e2⟩
def t_require_row (E_InvalidRow : Er) : DS :=
(dIf (dNot (dTest (dCall sp_is_integer (dCons (dVar 1) (dCons (dC (.int 0)) (dCons (dOp dSub (dVar 0) (dC (.int 1))) dNil)))))) (E_InvalidRow.tr none) dNext)
def n_require_row : List Str := ["many", "value"]
/- 0=many 1=value -/
theorem rd_require_row (E : Er) (ds : List D) (h : DH) (Q : DK) (X : DX) (z : sp_require_row E ds h Q X) : t_require_row E (dEnd Q X) (dstart n_require_row ds) h := by
  match ds, z with
  | [.int many, d], ⟨hd, z, zx⟩ =>
    show t_require_row E (dEnd Q X) [some (.int many), some d] h
    unfold t_require_row
    walk_at "ev"
    refine i_is_integer (hi := some (many - 1)) hd ?_
    walk_at "ev"
    exact ⟨fun e => E.ok _ _ _ _ (E.mono _ _ _ _ _ (fun C fs xe => ⟨h, DSub.refl h, xe⟩) (zx e)), fun e => dend0 (z e)⟩
def sp_require_place (E : Er) : DSp := fun ds h Q X => match ds with
  | [d, .int most] => nr d = true ∧ (isIntD 0 (some most) d = true → Q .non h) ∧ (isIntD 0 (some most) d = false → E.er .non X h)
  | _ => False
theorem i_require_place {E : Er} {most i : Int} {h : DH} {Q : DK} {X : DX} (h0 : 0 ≤ i) (h1 : i ≤ most) (z : Q .non h) : sp_require_place E [.int i, .int most] h Q X := by
  have e : isIntD 0 (some most) (.int i) = true := by show (decide _ && decide _) = true; rw [decide_eq_true h0, decide_eq_true h1]; rfl
  exact ⟨rfl, fun _ => z, fun e2 => by rw [e] at e2; cases e2⟩
def t_require_place (E_InvalidPlace : Er) : DS :=
(dIf (dNot (dTest (dCall sp_is_integer (dCons (dVar 0) (dCons (dC (.int 0)) (dCons (dVar 1) dNil)))))) (E_InvalidPlace.tr none) dNext)
def n_require_place : List Str := ["value", "most"]
/- 0=value 1=most -/
theorem rd_require_place (E : Er) (ds : List D) (h : DH) (Q : DK) (X : DX) (z : sp_require_place E ds h Q X) : t_require_place E (dEnd Q X) (dstart n_require_place ds) h := by
  match ds, z with
  | [d, .int most], ⟨hd, z, zx⟩ =>
    show t_require_place E (dEnd Q X) [some d, some (.int most)] h
    unfold t_require_place
    walk_at "ev"
    refine i_is_integer (hi := some most) hd ?_
    walk_at "ev"
    exact ⟨fun e => E.ok _ _ _ _ (E.mono _ _ _ _ _ (fun C fs xe => ⟨h, DSub.refl h, xe⟩) (zx e)), fun e => dend0 (z e)⟩
def withBlanks (r : Row) (k : Nat) : Row := List.replicate k none ++ r.drop k
def sp_with_blanks : DSp := fun ds h Q _ => match ds with
  | [d, .int k] => ∃ r, d = rowD r ∧ 0 ≤ k ∧ k ≤ 6 ∧ r.length ≤ 6 ∧ Q (rowD (withBlanks r k.toNat)) h
  | _ => False
theorem i_with_blanks {r : Row} {k : Int} {h : DH} {Q : DK} {X : DX} (k0 : 0 ≤ k) (k6 : k ≤ 6) (hr : r.length ≤ 6) (z : Q (rowD (withBlanks r k.toNat)) h) : sp_with_blanks [rowD r, .int k] h Q X := ⟨r, rfl, k0, k6, hr, z⟩
theorem t_with_blanks_go (k : Nat) (r : Row) : D.tup (rpt (k : Int) [D.non] ++ List.drop k (r.map cD)) = rowD (withBlanks r k) := by
  rw [rpt_non, rep_none, ← List.map_drop, ← List.map_append]; rfl
def t_with_blanks : DS :=
(dRet (dOp dAdd (dOp dMul (dTup (dCons (dC .non) dNil)) (dVar 1)) (dSl dSlice (dVar 0) (dPart (dVar 1)) dNoPart)))
def n_with_blanks : List Str := ["row", "count"]
/- 0=row 1=count -/
theorem rd_with_blanks (ds : List D) (h : DH) (Q : DK) (X : DX) (z : sp_with_blanks ds h Q X) : t_with_blanks (dEnd Q X) (dstart n_with_blanks ds) h := by
  match ds, z with
  | [_, .int k], ⟨r, rfl, k0, k6, hr, z⟩ =>
    show t_with_blanks (dEnd Q X) [some (.tup (r.map cD)), some (.int k)] h
    unfold t_with_blanks
    rw [show k = (k.toNat : Int) by omega]
    walk_at "ev"
    refine ⟨le_line (m := 1) (Nat.le_refl _), by simp, by omega, by omega, by simp, ?_, ?_⟩
    · rw [rpt_non]
      refine le_line (m := 12) ?_
      rw [List.length_replicate, List.length_drop, List.length_map]
      omega
    · rw [t_with_blanks_go]
      exact dend0 z
/-! what a page means -/
def readRow (above : Option Row) (r : Row) : Row := (above.getD r).take (blanks r) ++ r.drop (blanks r)
def readRows : Option Row → List Row → List Row
  | _, [] => []
  | ab, r :: rs => readRow ab r :: readRows (some (readRow ab r)) rs
theorem readRow_len {ab : Option Row} {r : Row} {w : Nat} (hr : r.length = w) (ha : ∀ a, ab = some a → a.length = w) : (readRow ab r).length = w := by
  unfold readRow
  have hb : blanks r ≤ r.length := by rw [← lead_row]; have := lead_le (r.map cD); rw [List.length_map] at this; exact this
  have : (ab.getD r).length = w := by
    cases ab with
    | none => exact hr
    | some a => exact ha a rfl
  rw [List.length_append, List.length_take, List.length_drop, this]
  omega
theorem readRows_len : ∀ (t : List Row) (ab : Option Row), (readRows ab t).length = t.length
  | [], _ => rfl
  | r :: t, ab => by show (readRows _ t).length + 1 = t.length + 1; rw [readRows_len t]
theorem readRows_w {w : Nat} : ∀ {t : List Row} {ab : Option Row}, (∀ r ∈ t, r.length = w) → (∀ a, ab = some a → a.length = w) → ∀ r ∈ readRows ab t, r.length = w
  | r :: t, ab, ht, ha, x, hx => by
    have h0 := readRow_len (ht r (by simp)) ha
    rcases List.mem_cons.mp hx with rfl | hx
    · exact h0
    · exact readRows_w (fun r hr => ht r (by simp [hr])) (fun a e => by cases e; exact h0) x hx
/-- rows of one width, at most 60 -/
structure Wid (t : List Row) (w : Nat) : Prop where
  le : t.length ≤ 60
  w6 : w ≤ 6
  all : ∀ r ∈ t, r.length = w
def sp_read_rows : DSp := fun ds h Q _ => match ds with
  | [d] => ∃ t w, itemsD d = some (t.map rowD) ∧ Wid t w ∧ ∀ p, h p = none → Q (.ref p) (dupd h p (.lst ((readRows none t).map rowD)))
  | _ => False
theorem i_read_rowsL {t : List Row} {w : Nat} {h : DH} {Q : DK} {X : DX} (ht : Wid t w) (z : ∀ p, h p = none → Q (.ref p) (dupd h p (.lst ((readRows none t).map rowD)))) : sp_read_rows [.lst (t.map rowD)] h Q X := ⟨t, w, rfl, ht, z⟩
theorem i_read_rows {t : List Row} {w : Nat} {h : DH} {Q : DK} {X : DX} (ht : Wid t w) (z : ∀ p, h p = none → Q (.ref p) (dupd h p (.lst ((readRows none t).map rowD)))) : sp_read_rows [tabD t] h Q X := ⟨t, w, rfl, ht, z⟩
def t_read_rows : DS :=
(dSeq (dAsg (dLstM dNil) 1)
  (dSeq (dAsg (dC .non) 2)
  (dSeq (dFor (iSeqD (dVar 0)) (.nm 3) (dSeq (dAsg (dCall sp_blanks_in (dCons (dVar 3) dNil)) 4)
  (dSeq (dAsg (dOp dAdd (dSl dSlice (dIfE (dTest (dOp dIsN (dVar 2) (dC .non))) (dVar 3) (dVar 2)) dNoPart (dPart (dVar 4))) (dSl dSlice (dVar 3) (dPart (dVar 4)) dNoPart)) 2)
  (dDrop (dBM "list" dAppend (dVar 1) (dCons (dVar 2) dNil))))))
  (dRet (dVar 1)))))
def n_read_rows : List Str := ["rows", "found", "above", "row", "count"]
/- 0=rows 1=found 2=above 3=row 4=count -/
theorem rd_read_rows (ds : List D) (h : DH) (Q : DK) (X : DX) (z : sp_read_rows ds h Q X) : t_read_rows (dEnd Q X) (dstart n_read_rows ds) h := by
  match ds, z with
  | [d0], ⟨t, w, hd, ht, z⟩ =>
    show t_read_rows (dEnd Q X) [some d0, none, none, none, none] h
    unfold t_read_rows
    walk_at "ev"
    refine ⟨Nat.zero_le _, fun p hp => ?_⟩
    simp only [hd]
    refine for_indG rowD (fun pre τ h' => ∃ found ab x3 x4, τ = [some d0, some (.ref p), some (aboveD ab), x3, x4] ∧ h' = dupd h p (.lst (found.map rowD)) ∧ (∀ post, t = pre ++ post → readRows none t = found ++ readRows ab post) ∧
      (∀ a, ab = some a → a.length = w) ∧ found.length = pre.length) t ⟨[], none, none, none, rfl, rfl, (fun post e => by rw [e]; rfl), (fun _ e => by cases e), rfl⟩ ?_ ?_
    · rintro pre r post τ h' eq ⟨found, ab, x3, x4, rfl, rfl, hq, hab, hfl⟩ D' T
      refine ⟨_, rfl, ?_⟩
      have hr := ht.all r (by rw [eq]; simp)
      have hlen := congrArg List.length eq
      simp only [List.length_append, List.length_cons] at hlen
      have h60 := ht.le
      rw [show rowD r = .tup (r.map cD) from rfl]
      walk_at "ev"
      refine i_blanks_in ?_
      have last : ∀ a : Row, a = ab.getD r → (List.take (blanks r) (a.map cD)).length + (List.drop (blanks r) (r.map cD)).length ≤ sizeLine ∧ (found.map rowD).length < sizeLine ∧ D'.nx [some d0, some (.ref p), some (D.tup (List.take (blanks r) (a.map cD) ++ List.drop (blanks r) (r.map cD))), some (.tup (r.map cD)), some (.int (blanks r : Nat))]
          (dupd (dupd h p (.lst (found.map rowD))) p (.lst (found.map rowD ++ [D.tup (List.take (blanks r) (a.map cD) ++ List.drop (blanks r) (r.map cD))]))) := by
        rintro a ea
        have e1 : D.tup (List.take (blanks r) (a.map cD) ++ List.drop (blanks r) (r.map cD)) = rowD (readRow ab r) := by
          unfold readRow rowD
          rw [List.map_append, List.map_take, List.map_drop, ea]
        have hal : a.length = w := by
          rw [ea]
          cases ab with
          | none => exact hr
          | some x => exact hab x rfl
        have hw6 := ht.w6
        refine ⟨?_, ?_, T.nx _ _ ⟨found ++ [readRow ab r], some (readRow ab r), some (.tup (r.map cD)), some (.int (blanks r : Nat)), ?_, ?_, ?_, ?_, ?_⟩⟩
        · refine le_line (m := 12) ?_
          simp only [List.length_take, List.length_drop, List.length_map]
          omega
        · rw [List.length_map]; exact Nat.lt_of_lt_of_le (show found.length < 61 by omega) (by decide)
        · rw [e1]; rfl
        · rw [dupd2, e1, List.map_append]; rfl
        · intro post2 e2
          rw [hq (r :: post2) (by rw [e2, List.append_assoc]; rfl), List.append_assoc]
          rfl
        · intro x ex; cases ex; exact readRow_len hr hab
        · rw [List.length_append, List.length_append, hfl]; rfl
      cases ab with
      | none =>
        rw [show aboveD none = D.non from rfl]
        walk_at "ev"
        exact last r rfl
      | some a =>
        rw [show aboveD (some a) = .tup (a.map cD) from rfl]
        walk_at "ev"
        exact last a rfl
    · rintro τ h' ⟨found, ab, x3, x4, rfl, rfl, hq, hab, hfl⟩
      walk_at "ev"
      have e : readRows none t = found := by
        have := hq [] (by rw [List.append_nil])
        rw [this]; show found ++ [] = found; rw [List.append_nil]
      rw [← e]
      exact dend0 (z p hp)

end DL

namespace DL
open PySem L2
local macro_rules | `(tactic| walk_at "ev") => `(tactic| try simp (disch := (first | assumption | exact dupd_same | (refine (dupd_ne ?_).trans ?_; (first | assumption | (apply Ne.symm; assumption)); first | assumption | exact dupd_same | (refine (dupd_ne ?_).trans ?_; (first | assumption | (apply Ne.symm; assumption)); first | assumption | exact dupd_same)))) only [v0, v1, v2, v3, v4, v5, v6, v7, v8, v9, v10, v11, v12, v13, v14, v15, v16, w0, w1, w2, w3, w4, w5, w6, w7, w8, w9, w10, w11, w12, w13, w14, w15, w16, e_dC, e_dOp, e_dUn, e_dTest, e_dAnd, e_dOr, e_dNot, e_dAndV, e_dOrV, e_dNotV, e_dIfE, e_dChain, e_dNil, e_dCons, e_dTup, e_dLst, e_dLstM, e_dCB, e_dBM, e_dFrz, e_dNoPart, e_dPart, e_dSl, e_dIsi, e_iSeqD, e_iRange1, e_iRange2, e_iEnumD, e_iZipD, e_dNext, e_dSeq, e_dAsg, e_dAsgT, e_dPar, e_dIf, e_dRet, e_dRetN, e_dDrop, e_dBrk, e_dCnt, e_dAug, e_dSetI, e_dFor, e_dWhile, e_dYes, e_dLc, e_dLcM, e_dCall, e_dCallK, e_dNeg, e_dRaise, op_Lt, op_Le, op_Gt, op_Ge, op_IsN, op_IsNN, op_Sub, op_Add, op_AddS, op_AddT, op_AddL, op_Mul, op_MulT, op_MulL, op_Mod, op_Fdiv, op_InS, op_NotInS, cb_lenT, cb_lenL, cb_lenS, cb_lenX, cb_all, cb_any, cb_tupleL, cb_tupleT, cb_max, cb_min, cb_abs, cb_int, cb_intB, cb_strI, me_joinL, me_joinT, me_split, ip_add, ip_sub, ip_mul, ip_div, ix_ref0, ix_ref1, ix_ref2, me_append, me_popAt, me_pop0, me_insert, me_clear, me_reverse, cb_lenR, cb_tupleR, me_joinR, vw_ref, dT_ref, pow_18, pow_38, pow_40, pow_41, pow_6, eq_str, ne_str, eq_int, ne_int, ix_tup0, ix_lst0, sl_from, sl_to, sl_fromL, sl_toL, vw_str, vw_int, vw_bl, vw_non, vw_dct, vw_tup, vw_lst, vw_scr, ty_str, ty_int, ty_bl, ty_non, ty_tup, ty_lst, ty_dct, it_str, it_tup, it_lst, bT_nm, isN_non, isN_str, isN_int, isN_bl, isN_tup, isN_lst, isN_dct, dT_str, dT_lst, en_rt, en_nx, en_ex, t_imp, f_imp, not_true_eq_false, not_false_eq_true, tf_eq, ft_eq, dwipe, true_and, and_true, Bool.not_true, Bool.not_false, Bool.not_eq_true', Bool.not_eq_false', decide_eq_true_eq, decide_eq_false_iff_not, nq_NoneType, is_NoneType_int, is_NoneType_bool, is_NoneType_str, is_NoneType_tuple, is_NoneType_list, is_NoneType_dict, nq_bool, is_bool_int, is_bool_bool, is_bool_str, is_bool_tuple, is_bool_list, is_bool_dict, nq_int, is_int_int, is_int_bool, is_int_str, is_int_tuple, is_int_list, is_int_dict, nq_str, is_str_int, is_str_bool, is_str_str, is_str_tuple, is_str_list, is_str_dict, nq_tuple, is_tuple_int, is_tuple_bool, is_tuple_str, is_tuple_tuple, is_tuple_list, is_tuple_dict, nq_list, is_list_int, is_list_bool, is_list_str, is_list_tuple, is_list_list, is_list_dict, nq_dict, is_dict_int, is_dict_bool, is_dict_str, is_dict_tuple, is_dict_list, is_dict_dict])
/-! R46: a text read line by line, also where it is none -/
/-- a class of errors that keeps a field -/
def Er.fld (C : Addr) (f : Str) : Er := ⟨fun d X h => X C [(f, d)] h, dRaiseF C f, fun i _ τ _ z => match i, z with
  | none, z => z
  | some j, ⟨d, e, z⟩ => by show (match τ[j]? with | some (some d) => _ | _ => False); rw [e]; exact z, fun _ _ _ _ _ m z => m _ _ z⟩
def Tc (s : Str) : Prop := ∀ c ∈ s.cps.toList, c < 1114112
theorem Tc.ok {s : Str} (h : Tc s) : PyData.strOk s = true := strOk_of h
theorem Tc.app {s t : Str} (h : Tc s) (h2 : Tc t) : Tc (s ++ t) := fun c hc => by
  rw [Str.cps_append, Array.toList_append] at hc
  exact (List.mem_append.mp hc).elim (h c) (h2 c)
theorem Tc.sub {s w : Str} (h : Tc s) (e : ∃ u t, s.cps.toList = u ++ w.cps.toList ++ t) : Tc w := by
  obtain ⟨u, t, e⟩ := e
  exact fun c hc => h c (by rw [e]; simp [hc])
theorem Tc.cut {s : Str} (h : Tc s) (lo hi : Option Int) : Tc (cutS s lo hi) := h.sub (by
  unfold cutS
  refine ⟨s.cps.toList.take (HT.sIx s.length 0 lo), (s.cps.toList.drop (HT.sIx s.length 0 lo)).drop (HT.sIx s.length s.length hi - HT.sIx s.length 0 lo), ?_⟩
  rw [List.append_assoc]
  show _ = _ ++ (((s.cps.toList.drop (HT.sIx s.length 0 lo)).take (HT.sIx s.length s.length hi - HT.sIx s.length 0 lo)).toArray.toList ++ _)
  rw [List.toList_toArray, List.take_append_drop, List.take_append_drop])
theorem piece_in (c : Nat) : ∀ (l : List Str) (w : Str), w ∈ l → ∃ u t, (Str.join ⟨#[c]⟩ l).cps.toList = u ++ w.cps.toList ++ t
  | [], w, h => by cases h
  | [x], w, h => by
    rw [List.mem_singleton.mp h]
    exact ⟨[], [], by rw [List.append_nil]; rfl⟩
  | x :: y :: l, w, h => by
    have e : (Str.join ⟨#[c]⟩ (x :: y :: l)).cps.toList = x.cps.toList ++ [c] ++ (Str.join ⟨#[c]⟩ (y :: l)).cps.toList := by
      rw [show Str.join ⟨#[c]⟩ (x :: y :: l) = x ++ ⟨#[c]⟩ ++ Str.join ⟨#[c]⟩ (y :: l) from rfl, Str.cps_append, Str.cps_append, Array.toList_append, Array.toList_append]
    rw [e]
    rcases List.mem_cons.mp h with z | z
    · subst z
      exact ⟨[], [c] ++ (Str.join ⟨#[c]⟩ (y :: l)).cps.toList, by simp⟩
    · obtain ⟨u, t, e2⟩ := piece_in c (y :: l) w z
      exact ⟨x.cps.toList ++ [c] ++ u, t, by rw [e2]; simp⟩
theorem Tc.parts {s : Str} (h : Tc s) (c : Nat) : ∀ w ∈ Txt.split s ⟨#[c]⟩, Tc w := fun w hw => by
  obtain ⟨u, t, e2⟩ := piece_in c (Txt.split s ⟨#[c]⟩) w hw
  rw [StrLaws.join_split s ⟨#[c]⟩] at e2
  exact h.sub ⟨u, t, e2⟩
/-! a line -/
def cellP (p : Str) : Option Str := if p = ("" : Str) then none else some p
/-- the cells behind some: blanks only if no cell was full ahead -/
def goodR : Bool → Row → Bool
  | _, [] => true
  | seen, none :: r => !seen && goodR seen r
  | _, some s :: r => okCell s && goodR true r
theorem goodR_all : ∀ r : Row, goodR true r = r.all okC
  | [] => rfl
  | none :: r => rfl
  | some s :: r => by show (okCell s && goodR true r) = (okCell s && _); rw [goodR_all r]
theorem goodR_false : ∀ r : Row, goodR false r = (r.drop (blanks r)).all okC
  | [] => rfl
  | none :: r => by show (true && goodR false r) = _; rw [Bool.true_and, goodR_false r]; rfl
  | some s :: r => by show (okCell s && goodR true r) = (okCell s && _); rw [goodR_all r]
def seenR (r : Row) : Bool := r.any Option.isSome
def badP (seen : Bool) (p : Str) : Bool := !p.cps.toList.all okSign || decide (8 < p.length) || (decide (p = "") && seen)
theorem good_step (seen : Bool) (p : Str) (r : Row) : goodR seen (cellP p :: r) = (!badP seen p && goodR (seen || (cellP p).isSome) r) := by
  unfold cellP badP
  by_cases e : p = ""
  · subst e
    rw [if_pos rfl]
    show (!seen && goodR seen r) = (!(false || false || (true && seen)) && goodR (seen || false) r)
    cases seen <;> rfl
  · rw [if_neg e, decide_eq_false e]
    show (okCell p && goodR true r) = (!(_ || _ || (false && seen)) && goodR (seen || true) r)
    have hl : 1 ≤ p.length := by
      rcases Nat.eq_zero_or_pos p.length with z | z
      · exfalso; apply e; refine Str.ext' ?_
        have : p.cps.size = 0 := z
        rw [Array.eq_empty_of_size_eq_zero this]; rfl
      · exact z
    rw [Bool.or_true, Bool.false_and, Bool.or_false]
    congr 1
    unfold okCell
    by_cases h8 : p.length ≤ 8
    · rw [decide_eq_true (show 1 ≤ p.length ∧ p.length ≤ 8 from ⟨hl, h8⟩), decide_eq_false (show ¬ 8 < p.length by omega)]
      cases p.cps.toList.all okSign <;> rfl
    · rw [decide_eq_false (show ¬ (1 ≤ p.length ∧ p.length ≤ 8) from fun z => h8 z.2), decide_eq_true (show 8 < p.length by omega)]
      cases p.cps.toList.all okSign <;> rfl
theorem seen_snoc (r : Row) (c : Option Str) : seenR (r ++ [c]) = (seenR r || c.isSome) := by unfold seenR; rw [List.any_append]; simp
theorem rowIn_eq (s : Str) : rowIn s = if (splitR s).length ≤ 6 ∧ goodR false (splitR s) = true then some (splitR s) else none := by
  unfold rowIn
  rw [isRow_rowD, goodR_false]
  have h1 : 1 ≤ (splitR s).length := by
    unfold splitR; rw [List.length_map]
    rcases Nat.eq_zero_or_pos (Txt.split s ",").length with z | z
    · exact absurd (List.length_eq_zero_iff.mp z) (split_ne s ",")
    · exact z
  by_cases h6 : (splitR s).length ≤ 6
  · rw [decide_eq_true (show 1 ≤ (splitR s).length ∧ (splitR s).length ≤ 6 from ⟨h1, h6⟩), Bool.true_and]
    by_cases g : (List.drop (blanks (splitR s)) (splitR s)).all okC = true
    · rw [if_pos g, if_pos ⟨h6, g⟩]
    · rw [if_neg g, if_neg fun z => g z.2]
  · rw [decide_eq_false (show ¬ (1 ≤ (splitR s).length ∧ (splitR s).length ≤ 6) from fun z => h6 z.2), Bool.false_and, if_neg (by decide), if_neg fun z => h6 z.1]
theorem e_dLcK {i : Nat} {tg : Tgt} {tt : DT} {te : DE} {vs : List Nat} {τ : DSt} {h : DH} {Q : DK} {X : DX} {a : Addr} {ds : List D} (e1 : τ[i]? = some (some (.ref a))) (e2 : h a = some (.lst ds)) :
    dLcK i tg tt te vs τ h Q X = (ds.length ≤ 10000000 ∧ lcGo tg tt te (dwipe τ vs) ds (ddel h a) (fun ys h2 => Q (.lst ys) (dupd h2 a (.lst ds)))) := by
  unfold dLcK
  rw [e1]
  dsimp only
  rw [e2]
def sp_law_cells : DSp := fun ds h Q _ => match ds with
  | [.str s] => s.length ≤ 1000000 ∧ Tc s ∧ Q (aboveD (rowIn s)) h
  | _ => False
theorem i_law_cells {s : Str} {h : DH} {Q : DK} {X : DX} (hs : s.length ≤ 1000000) (ht : Tc s) (z : Q (aboveD (rowIn s)) h) : sp_law_cells [.str s] h Q X := ⟨hs, ht, z⟩
def t_law_cells : DS :=
(dSeq (dAsg (dLstM dNil) 1)
  (dSeq (dFor (iSeqD (dBM "str" dSplit (dVar 0) (dCons (dC (.str ",")) dNil))) (.nm 2) (dSeq (dAsg (dLc (iSeqD (dVar 2)) (.nm 4) (dTest (dOp dNotInS (dVar 4) (dC (.str "abcdefghijklmnopqrstuvwxyz0123456789")))) (dVar 4) [4]) 3)
  (dSeq (dIf (dOr (dTest (dOp dNe (dVar 3) (dLst dNil))) (dOr (dTest (dOp dGt (dCB dLen (dCons (dVar 2) dNil)) (dC (.int 8)))) (dAnd (dTest (dOp dEq (dVar 2) (dC (.str "")))) (dTest (dOp dNe (dLcK 1 (.nm 5) (dTest (dOp dIsNN (dVar 5) (dC .non))) (dVar 5) [5]) (dLst dNil)))))) (dRet (dC .non)) dNext)
  (dDrop (dBM "list" dAppend (dVar 1) (dCons (dIfE (dTest (dOp dNe (dVar 2) (dC (.str "")))) (dVar 2) (dC .non)) dNil))))))
  (dRet (dIfE (dTest (dOp dLe (dCB dLen (dCons (dVar 1) dNil)) (dC (.int 6)))) (dCB dTuple (dCons (dVar 1) dNil)) (dC .non)))))
def n_law_cells : List Str := ["line_here", "found", "part", "odd", "sign", "cell"]
/- 0=line_here 1=found 2=part 3=odd 4=sign 5=cell -/
theorem neL_nil {xs : List D} {h : DH} {Q : DK} (hd : dn 12 (.lst xs) = true) (z : Q (.bl (!decide (xs = []))) h) : dNe (.lst xs) (.lst []) h Q := by
  show dn 12 (.lst xs) = true ∧ dn 12 (.lst []) = true ∧ Q (.bl (!eqvD (.lst xs) (.lst []))) h
  rw [eqv_nil]; exact ⟨hd, rfl, z⟩
theorem rd_law_cells (ds : List D) (h : DH) (Q : DK) (X : DX) (z : sp_law_cells ds h Q X) : t_law_cells (dEnd Q X) (dstart n_law_cells ds) h := by
  match ds, z with
  | [.str s], ⟨hs, ht, z⟩ =>
    show t_law_cells (dEnd Q X) [some (.str s), none, none, none, none, none] h
    unfold t_law_cells
    have hl := split_len s ","
    rw [rowIn_eq] at z
    have esp : splitR s = (Txt.split s ",").map cellP := rfl
    rw [esp, List.length_map] at z
    have hpl : ∀ p ∈ Txt.split s ",", p.length ≤ s.length := part_len s 44
    have hpt : ∀ p ∈ Txt.split s ",", Tc p := ht.parts 44
    rw [e_dSeq, e_dAsg, e_dLstM, e_dNil]
    refine ⟨Nat.zero_le _, fun a ha => ?_⟩
    simp only [w1]
    rw [e_dSeq, e_dFor, e_iSeqD, e_dBM]
    simp only [v0, dT_str, true_and, e_dCons, e_dNil, e_dC, me_split, it_lst]
    refine ⟨by decide +kernel, le_line (m := 1000002) (by omega), ?_⟩
    rw [show Str.ofString "," = "," from rfl]
    generalize Txt.split s "," = ps at hl z hpl hpt
    refine for_indG D.str (fun pre τ h' => ∃ x2 x3, τ = [some (.str s), some (.ref a), x2, x3, none, none] ∧ h' = dupd h a (.lst ((pre.map cellP).map cD)) ∧ ∀ rest, ps = pre ++ rest → goodR false (ps.map cellP) = goodR (seenR (pre.map cellP)) (rest.map cellP)) ps ⟨none, none, rfl, rfl, fun rest e => by rw [show ps = rest from e]; rfl⟩ ?_ ?_
    · rintro pre p post τ h' eq ⟨x2, x3, rfl, rfl, inv⟩ D' T
      refine ⟨_, rfl, ?_⟩
      have hp := hpl p (by rw [eq]; simp)
      have hpc := hpt p (by rw [eq]; simp)
      have hln := congrArg List.length eq
      simp only [List.length_append, List.length_cons] at hln
      have g := inv (p :: post) eq
      rw [List.map_cons, good_step] at g
      have ea : dupd h a (DO.lst ((pre.map cellP).map cD)) a = some (.lst ((pre.map cellP).map cD)) := dupd_same
      simp only [w2]
      rw [e_dSeq, e_dAsg, e_dLc, e_iSeqD]
      simp only [v2, it_str]
      refine ⟨by rw [List.length_map, Array.length_toList]; exact Nat.le_trans hp (Nat.le_trans hs (by decide)), ?_⟩
      refine lc_fil (fun c => D.str ⟨#[c]⟩) (fun c => D.str ⟨#[c]⟩) (fun c => !okSign c) p.cps.toList (fun c _ => ⟨_, rfl, fun Q' q' => ?_, fun _ Q' q' => ?_⟩) ?_
      · simp only [dwipe, w4, e_dTest, e_dOp, v4, e_dC, op_NotInS]
        exact ⟨c, rfl, q'⟩
      · simp only [dwipe, w4, v4]
        exact q'
      simp only [w3]
      have en : ((p.cps.toList.filter fun c => !okSign c).map fun c => D.str ⟨#[c]⟩) = [] ↔ p.cps.toList.all okSign = true := by
        rw [List.map_eq_nil_iff, List.filter_eq_nil_iff, List.all_eq_true]
        simp
      have dnn : dn 12 (.lst ((p.cps.toList.filter fun c => !okSign c).map fun c => D.str ⟨#[c]⟩)) = true := by
        show List.all _ (dn 11) = true
        rw [List.all_eq_true]
        intro x hx
        obtain ⟨c, hc, rfl⟩ := List.mem_map.mp hx
        have h2 := hpc c (List.mem_filter.mp hc).1
        show PyData.strOk ⟨#[c]⟩ = true
        exact strOk_of fun k hk => by rw [List.mem_singleton.mp (show k ∈ [c] from hk)]; exact h2
      generalize hO : ((p.cps.toList.filter fun c => !okSign c).map fun c => D.str ⟨#[c]⟩) = odd at *
      -- what a bad part leads to
      have bad : badP (seenR (pre.map cellP)) p = true → D'.rt .non (dupd h a (.lst ((pre.map cellP).map cD))) := fun e => by
        rw [e, Bool.not_true, Bool.false_and] at g
        rw [if_neg (by rw [g]; simp)] at z
        exact T.rt _ _ ⟨h, DSub.new (DSub.refl h) ha, z⟩
      have good : badP (seenR (pre.map cellP)) p = false → D'.nx [some (.str s), some (.ref a), some (.str p), some (.lst odd), none, none] (dupd h a (.lst (((pre.map cellP).map cD) ++ [cD (cellP p)]))) := fun e => by
        refine T.nx _ _ ⟨_, _, rfl, by rw [List.map_append, List.map_append]; rfl, fun rest er => ?_⟩
        have e2 : post = rest := by
          rw [eq, List.append_assoc] at er
          have := List.append_cancel_left er
          simpa using this
        rw [g, e, Bool.not_false, Bool.true_and, List.map_append, List.map_singleton, seen_snoc, e2]
      rw [e_dSeq, e_dIf, e_dOr, e_dTest, e_dOp]
      simp only [v3, e_dLst, e_dNil]
      refine ⟨Nat.zero_le _, neL_nil dnn ⟨fun e => ⟨fun _ => ?_, fun z => (by cases z)⟩, fun e => ?_⟩⟩
      · rw [e_dRet, e_dC]
        refine bad ?_
        have h1 : ¬ p.cps.toList.all okSign = true := fun q => by rw [decide_eq_true (en.mpr q)] at e; cases e
        unfold badP
        rw [Bool.eq_false_iff.mpr h1]; rfl
      have s1 : p.cps.toList.all okSign = true := en.mp (by simpa using e)
      rw [e_dOr, e_dTest, e_dOp]
      simp only [e_dCB, e_dCons, e_dNil, v2, cb_lenS, e_dC, op_Gt]
      refine ⟨le_line (m := 1000000) (by omega), fun e8 => ⟨fun _ => ?_, fun z => (by cases z)⟩, fun e8 => ?_⟩
      · rw [e_dRet, e_dC]
        refine bad ?_
        have := of_decide_eq_true e8
        unfold badP
        rw [decide_eq_true (show 8 < p.length by omega), Bool.or_true, Bool.true_or]
      have s8 : ¬ 8 < p.length := by have := of_decide_eq_false e8; omega
      rw [e_dAnd, e_dTest, e_dOp]
      simp only [v2, e_dC, eq_str]
      have last : badP (seenR (pre.map cellP)) p = false → dDrop (dBM "list" dAppend (dVar 1) (dCons (dIfE (dTest (dOp dNe (dVar 2) (dC (.str "")))) (dVar 2) (dC .non)) dNil)) D' [some (.str s), some (.ref a), some (.str p), some (.lst odd), none, none] (dupd h a (.lst ((pre.map cellP).map cD))) := fun e => by
        rw [e_dDrop, e_dBM]
        simp only [v1, e_dCons, e_dNil, e_dIfE, e_dTest, e_dOp, v2, e_dC, ne_str]
        refine ⟨⟨rfl, _, ea⟩, fun e2 => ?_, fun e2 => ?_⟩
        all_goals
          rw [me_append ea]
          refine ⟨by rw [List.length_map, List.length_map]; exact Nat.lt_of_lt_of_le (show pre.length < 1000003 by omega) (by decide), ?_⟩
          rw [dupd2]
          have := good e
          unfold cellP at this ⊢
        · rw [if_neg (by simpa using e2)] at this; exact this
        · rw [if_pos (by simpa using e2)] at this; exact this
      refine ⟨fun e3 => ?_, fun e3 => ⟨fun z => (by cases z), fun _ => ?_⟩⟩
      · have e4 : p = "" := of_decide_eq_true e3
        rw [e_dTest, e_dOp]
        rw [e_dLcK rfl ea]
        refine ⟨by rw [List.length_map, List.length_map]; omega, ?_⟩
        refine lc_fil cD cD Option.isSome (pre.map cellP) (fun c _ => ⟨_, rfl, fun Q' q' => ?_, fun _ Q' q' => ?_⟩) ?_
        · simp only [dwipe, w5, e_dTest, e_dOp, v5, e_dC, op_IsNN, isN_cD]
          cases c <;> exact q'
        · simp only [dwipe, w5, v5]
          exact q'
        have back : dupd (ddel (dupd h a (DO.lst ((pre.map cellP).map cD))) a) a (DO.lst ((pre.map cellP).map cD)) = dupd h a (DO.lst ((pre.map cellP).map cD)) := by
          funext b
          by_cases hb : b = a
          · rw [hb, dupd_same, dupd_same]
          · rw [dupd_ne hb, ddel_ne hb]
        rw [back]
        simp only [e_dLst, e_dNil]
        have okc : dn 12 (.lst (((pre.map cellP).filter Option.isSome).map cD)) = true := by
          show List.all _ (dn 11) = true
          rw [List.all_eq_true]
          intro x hx
          obtain ⟨c, hc, rfl⟩ := List.mem_map.mp hx
          obtain ⟨q, hq, rfl⟩ := List.mem_map.mp (List.mem_filter.mp hc).1
          refine dn_cD 11 ?_
          unfold cellP
          split
          · rfl
          · exact (hpt q (by rw [eq]; simp [hq])).ok
        have ens : ((pre.map cellP).filter Option.isSome).map cD = [] ↔ seenR (pre.map cellP) = false := by
          rw [List.map_eq_nil_iff, List.filter_eq_nil_iff]
          unfold seenR
          rw [List.any_eq_false]
        refine ⟨Nat.zero_le _, neL_nil okc ⟨fun e5 => ?_, fun e5 => ?_⟩⟩
        · rw [e_dRet, e_dC]
          refine bad ?_
          have h1 : seenR (pre.map cellP) = true := by
            cases q : seenR (pre.map cellP) with
            | true => rfl
            | false => rw [decide_eq_true (ens.mpr q)] at e5; cases e5
          unfold badP
          rw [h1, decide_eq_true e4]
          simp
        · rw [e_dNext]
          dsimp only
          refine last ?_
          have h1 : seenR (pre.map cellP) = false := ens.mp (by simpa using e5)
          unfold badP
          rw [s1, decide_eq_false s8, h1]
          simp
      · rw [e_dNext]
        dsimp only
        refine last ?_
        have e4 : ¬ p = "" := of_decide_eq_false e3
        unfold badP
        rw [s1, decide_eq_false s8, decide_eq_false e4]; rfl
    · rintro τ h' ⟨x2, x3, rfl, rfl, inv⟩
      have g := inv [] (by simp)
      rw [List.map_nil] at g
      have ea : dupd h a (DO.lst ((ps.map cellP).map cD)) a = some (.lst ((ps.map cellP).map cD)) := dupd_same
      dsimp only
      rw [e_dRet, e_dIfE, e_dTest, e_dOp]
      simp only [e_dCB, e_dCons, e_dNil, v1, e_dC, cb_lenR ea, cb_tupleR ea, List.length_map, op_Le]
      have fin : ∀ d, Q d h → (dEnd Q X).rt d (dupd h a (DO.lst ((ps.map cellP).map cD))) := fun d q => ⟨h, DSub.new (DSub.refl h) ha, q⟩
      have gt : goodR false (ps.map cellP) = true := g.trans (by cases seenR (ps.map cellP) <;> rfl)
      refine ⟨fun e => fin _ ?_, fun e => fin _ ?_⟩
      · rw [if_pos ⟨by have := of_decide_eq_true e; omega, gt⟩] at z
        exact z
      · rw [if_neg fun q => of_decide_eq_false e (by have := q.1; omega)] at z
        exact z

end DL

namespace DL
open PySem L2
local macro_rules | `(tactic| walk_at "ev") => `(tactic| try simp (disch := (first | assumption | exact dupd_same | (refine (dupd_ne ?_).trans ?_; (first | assumption | (apply Ne.symm; assumption)); first | assumption | exact dupd_same | (refine (dupd_ne ?_).trans ?_; (first | assumption | (apply Ne.symm; assumption)); first | assumption | exact dupd_same)))) only [v0, v1, v2, v3, v4, v5, v6, v7, v8, v9, v10, v11, v12, v13, v14, v15, v16, w0, w1, w2, w3, w4, w5, w6, w7, w8, w9, w10, w11, w12, w13, w14, w15, w16, e_dC, e_dOp, e_dUn, e_dTest, e_dAnd, e_dOr, e_dNot, e_dAndV, e_dOrV, e_dNotV, e_dIfE, e_dChain, e_dNil, e_dCons, e_dTup, e_dLst, e_dLstM, e_dCB, e_dBM, e_dFrz, e_dNoPart, e_dPart, e_dSl, e_dIsi, e_iSeqD, e_iRange1, e_iRange2, e_iEnumD, e_iZipD, e_dNext, e_dSeq, e_dAsg, e_dAsgT, e_dPar, e_dIf, e_dRet, e_dRetN, e_dDrop, e_dBrk, e_dCnt, e_dAug, e_dSetI, e_dFor, e_dWhile, e_dYes, e_dLc, e_dLcM, e_dCall, e_dCallK, e_dNeg, e_dRaise, op_Lt, op_Le, op_Gt, op_Ge, op_IsN, op_IsNN, op_Sub, op_Add, op_AddS, op_AddT, op_AddL, op_Mul, op_MulT, op_MulL, op_Mod, op_Fdiv, op_InS, op_NotInS, cb_lenT, cb_lenL, cb_lenS, cb_lenX, cb_all, cb_any, cb_tupleL, cb_tupleT, cb_max, cb_min, cb_abs, cb_int, cb_intB, cb_strI, me_joinL, me_joinT, me_split, ip_add, ip_sub, ip_mul, ip_div, ix_ref0, ix_ref1, ix_ref2, me_append, me_popAt, me_pop0, me_insert, me_clear, me_reverse, cb_lenR, cb_tupleR, me_joinR, vw_ref, dT_ref, pow_18, pow_38, pow_40, pow_41, pow_6, eq_str, ne_str, eq_int, ne_int, ix_tup0, ix_lst0, sl_from, sl_to, sl_fromL, sl_toL, vw_str, vw_int, vw_bl, vw_non, vw_dct, vw_tup, vw_lst, vw_scr, ty_str, ty_int, ty_bl, ty_non, ty_tup, ty_lst, ty_dct, it_str, it_tup, it_lst, bT_nm, isN_non, isN_str, isN_int, isN_bl, isN_tup, isN_lst, isN_dct, dT_str, dT_lst, en_rt, en_nx, en_ex, t_imp, f_imp, not_true_eq_false, not_false_eq_true, tf_eq, ft_eq, dwipe, true_and, and_true, Bool.not_true, Bool.not_false, Bool.not_eq_true', Bool.not_eq_false', decide_eq_true_eq, decide_eq_false_iff_not, nq_NoneType, is_NoneType_int, is_NoneType_bool, is_NoneType_str, is_NoneType_tuple, is_NoneType_list, is_NoneType_dict, nq_bool, is_bool_int, is_bool_bool, is_bool_str, is_bool_tuple, is_bool_list, is_bool_dict, nq_int, is_int_int, is_int_bool, is_int_str, is_int_tuple, is_int_list, is_int_dict, nq_str, is_str_int, is_str_bool, is_str_str, is_str_tuple, is_str_list, is_str_dict, nq_tuple, is_tuple_int, is_tuple_bool, is_tuple_str, is_tuple_tuple, is_tuple_list, is_tuple_dict, nq_list, is_list_int, is_list_bool, is_list_str, is_list_tuple, is_list_list, is_list_dict, nq_dict, is_dict_int, is_dict_bool, is_dict_str, is_dict_tuple, is_dict_list, is_dict_dict])
/-! R47: a text judged by the law, told twice -/
theorem parseGo_ok : ∀ (ls : List Str) (i : Nat) (found t : List Row), parseGo i found ls = .ok t → found.length = i → i ≤ 60 → (∀ r ∈ found, 1 ≤ r.length ∧ r.length ≤ 6 ∧ pr r ∧ r.length = (found.headD []).length) → (ls ≠ [] ∨ found ≠ []) → RowsP t
  | [], i, found, t, e, hl, hi, hf, ne => by
    cases e
    have nf : found ≠ [] := ne.resolve_left (by simp)
    cases found with
    | nil => exact absurd rfl nf
    | cons r0 rs =>
      have h0 := hf r0 (by simp)
      exact ⟨by simp, by omega, r0.length, h0.1, h0.2.1, fun r hr => ⟨(hf r hr).2.2.2, (hf r hr).2.2.1⟩⟩
  | l :: ls, i, found, t, e, hl, hi, hf, _ => by
    unfold parseGo at e
    cases hr : rowAt found i l with
    | none => rw [hr] at e; cases e
    | some r =>
      rw [hr] at e
      unfold rowAt at hr
      cases hri : rowIn l with
      | none => rw [hri] at hr; cases hr
      | some r' =>
        rw [hri] at hr
        dsimp only at hr
        split at hr
        · cases hr
        · rename_i hn
          cases hr
          obtain ⟨r1, r6, rp⟩ := rowIn_pr hri
          refine parseGo_ok ls (i + 1) (found ++ [r]) t e (by rw [List.length_append, hl]; rfl) (by have : ¬ i = 60 := fun z => hn (.inr z); omega) (fun q hq => ?_) (.inr (by simp))
          have hw : found ≠ [] → r.length = (found.headD []).length := fun nf => by
            by_cases z : r.length = (found.headD []).length
            · exact z
            · exact absurd (.inl ⟨nf, z⟩) hn
          cases found with
          | nil =>
            rw [List.mem_singleton.mp hq]
            exact ⟨r1, r6, rp, rfl⟩
          | cons f fs =>
            rcases List.mem_append.mp hq with z | z
            · exact hf q z
            · rw [List.mem_singleton.mp z]
              exact ⟨r1, r6, rp, hw (by simp)⟩
theorem parseGo_err : ∀ (ls : List Str) (i : Nat) (found : List Row) (k : Nat), parseGo i found ls = .error k → i ≤ 60 → k ≤ 60
  | [], i, found, k, e, hi => by cases e
  | l :: ls, i, found, k, e, hi => by
    unfold parseGo at e
    cases hr : rowAt found i l with
    | none => rw [hr] at e; cases e; exact hi
    | some r =>
      rw [hr] at e
      refine parseGo_err ls (i + 1) _ k e ?_
      unfold rowAt at hr
      cases hri : rowIn l with
      | none => rw [hri] at hr; cases hr
      | some r' =>
        rw [hri] at hr
        dsimp only at hr
        split at hr
        · cases hr
        · rename_i hn
          have : ¬ i = 60 := fun z => hn (.inr z)
          omega
theorem parse_rowsP {s : Str} {t : List Row} (h : parseT s = .ok t) : RowsP t := parseGo_ok _ 0 [] t h rfl (by omega) (fun _ z => nomatch z) (.inl (split_ne s "\n"))
theorem parse_le {s : Str} {k : Nat} (h : parseT s = .error k) : k ≤ 60 := parseGo_err _ 0 [] k h (by omega)
def parsedD (s : Str) : D := match parseT s with
  | .ok t => tabD t
  | .error i => .int (i : Nat)
def sp_law_parsed : DSp := fun ds h Q _ => match ds with
  | [.str s] => s.length ≤ 1000000 ∧ Tc s ∧ Q (parsedD s) h
  | _ => False
theorem i_law_parsed {s : Str} {h : DH} {Q : DK} {X : DX} (hs : s.length ≤ 1000000) (ht : Tc s) (z : Q (parsedD s) h) : sp_law_parsed [.str s] h Q X := ⟨hs, ht, z⟩
def t_law_parsed : DS :=
(dSeq (dAsg (dLstM dNil) 1)
  (dSeq (dFor (iEnumD (dBM "str" dSplit (dVar 0) (dCons (dC (.str "\n")) dNil))) (.tp [(.nm 2), (.nm 3)]) (dSeq (dAsg (dCall sp_law_cells (dCons (dVar 3) dNil)) 4)
  (dSeq (dIf (dOr (dTest (dOp dIsN (dVar 4) (dC .non))) (dOr (dTest (dOp dGt (dVar 2) (dC (.int 59)))) (dAnd (dTest (dOp dNe (dVar 1) (dLst dNil))) (dTest (dOp dNe (dCB dLen (dCons (dVar 4) dNil)) (dCB dLen (dCons (dOp dIx (dVar 1) (dC (.int 0))) dNil))))))) (dRet (dVar 2)) dNext)
  (dDrop (dBM "list" dAppend (dVar 1) (dCons (dVar 4) dNil))))))
  (dRet (dCB dTuple (dCons (dVar 1) dNil)))))
def n_law_parsed : List Str := ["page_here", "found", "spot", "line_here", "own"]
/- 0=page_here 1=found 2=spot 3=line_here 4=own -/
theorem rd_law_parsed (ds : List D) (h : DH) (Q : DK) (X : DX) (z : sp_law_parsed ds h Q X) : t_law_parsed (dEnd Q X) (dstart n_law_parsed ds) h := by
  match ds, z with
  | [.str s], ⟨hs, ht, z⟩ =>
    show t_law_parsed (dEnd Q X) [some (.str s), none, none, none, none] h
    unfold t_law_parsed
    walk_at "ev"
    have hl := split_len s "\n"
    have hpt : ∀ p ∈ Txt.split s "\n", Tc p := ht.parts 10
    refine ⟨Nat.zero_le _, fun p hp => ⟨by decide, le_line (m := 1000002) (by omega), ?_⟩⟩
    rw [show Str.ofString "\n" = "\n" from rfl, enum_eq]
    refine for_indG (fun p : Nat × Str => D.tup [.int (p.1 : Nat), .str p.2]) (fun pre τ h' => ∃ found x2 x3 x4, τ = [some (.str s), some (.ref p), x2, x3, x4] ∧ h' = dupd h p (.lst (found.map rowD)) ∧ found.length = pre.length ∧ pre.length ≤ 60 ∧
        (∀ r ∈ found, pr r) ∧ parseT s = parseGo pre.length found ((Txt.split s "\n").drop pre.length)) _ ⟨[], none, none, none, rfl, rfl, rfl, Nat.zero_le _, (fun _ z => nomatch z), rfl⟩ ?_ ?_
    · rintro pre ⟨i, line⟩ post τ h' eq ⟨found, x2, x3, x4, rfl, rfl, hfl, h60, hfp, hpa⟩ D' T
      refine ⟨_, rfl, ?_⟩
      have hi : ((List.range (Txt.split s "\n").length).zip (Txt.split s "\n"))[pre.length]? = some (i, line) := by rw [eq]; simp
      rw [List.getElem?_zip_eq_some] at hi
      obtain ⟨h1, h2⟩ := hi
      have hlen : pre.length < (Txt.split s "\n").length := by
        rcases Nat.lt_or_ge pre.length (Txt.split s "\n").length with l | l
        · exact l
        · rw [List.getElem?_eq_none l] at h2; cases h2
      have e1 : i = pre.length := by
        rw [List.getElem?_range hlen] at h1
        exact (Option.some.inj h1).symm
      subst e1
      have e2 : (Txt.split s "\n").drop pre.length = line :: (Txt.split s "\n").drop (pre.length + 1) := by
        rw [List.drop_eq_getElem_cons hlen]
        rw [List.getElem?_eq_getElem hlen] at h2
        rw [Option.some.inj h2]
      have hlm : line.length ≤ s.length := part_len s 10 line (List.mem_of_getElem? h2)
      have hlt : Tc line := hpt line (List.mem_of_getElem? h2)
      rw [e2] at hpa
      simp only [parseGo] at hpa
      walk_at "ev"
      refine i_law_cells (by omega) hlt ?_
      have err : rowAt found pre.length line = none → D'.rt (.int (pre.length : Nat)) (dupd h p (.lst (found.map rowD))) := by
        intro e
        rw [e] at hpa
        refine T.rt _ _ ⟨h, DSub.new (DSub.refl h) hp, ?_⟩
        have : parsedD s = .int (pre.length : Nat) := by unfold parsedD; rw [hpa]
        rw [this] at z
        exact z
      cases hr : rowIn line with
      | none =>
        have e3 : rowAt found pre.length line = none := by unfold rowAt; rw [hr]
        rw [show aboveD none = D.non from rfl]
        walk_at "ev"
        exact err e3
      | some r =>
        obtain ⟨r1, r6, rp⟩ := rowIn_pr hr
        rw [show aboveD (some r) = .tup (r.map cD) from rfl]
        walk_at "ev"
        have ep : dupd h p (DO.lst (found.map rowD)) p = some (.lst (found.map rowD)) := dupd_same
        have hd : dn 12 (.lst (found.map rowD)) = true := by
          show (found.map rowD).all (dn 11) = true
          rw [List.all_eq_true]
          intro x hx
          obtain ⟨q, hq, rfl⟩ := List.mem_map.mp hx
          exact dn_row (pr_strOk (hfp q hq)) 10
        have last : ¬ pre.length = 60 → (found = [] ∨ r.length = (found.headD []).length) → (found.map rowD).length < sizeLine ∧ D'.nx [some (.str s), some (.ref p), some (.int (pre.length : Nat)), some (.str line), some (D.tup (List.map cD r))] (dupd (dupd h p (.lst (found.map rowD))) p (.lst (found.map rowD ++ [.tup (r.map cD)]))) := by
          intro h6 hc
          have e3 : rowAt found pre.length line = some r := by
            unfold rowAt; rw [hr]
            refine if_neg fun q => ?_
            rcases q with ⟨q1, q2⟩ | q
            · rcases hc with z | z
              · exact q1 z
              · exact q2 z
            · exact h6 q
          rw [e3] at hpa
          refine ⟨by rw [List.length_map]; exact Nat.lt_of_lt_of_le (show found.length < 1000002 by omega) (by decide), T.nx _ _ ⟨found ++ [r], _, _, _, rfl, ?_, ?_, ?_, ?_, ?_⟩⟩
          · rw [dupd2, List.map_append]; rfl
          · rw [List.length_append, List.length_append, hfl]; rfl
          · rw [List.length_append]; show pre.length + 1 ≤ 60; omega
          · intro q hq
            rcases List.mem_append.mp hq with z | z
            · exact hfp q z
            · rw [List.mem_singleton.mp z]; exact rp
          · rw [List.length_append]; exact hpa
        refine ⟨fun e => err ?_, fun e => ?_⟩
        · unfold rowAt; rw [hr]; exact if_pos (.inr (by omega))
        have h6 : ¬ pre.length = 60 := by omega
        refine ⟨Nat.zero_le _, ?_⟩
        show dn 12 (view _ (.ref p)) = true ∧ dn 12 (.lst []) = true ∧ _
        rw [vw_ref ep]
        refine ⟨hd, rfl, ?_⟩
        rw [show (view (dupd h p (.lst (found.map rowD))) (D.lst [])) = .lst [] from rfl, eqv_nil]
        cases found with
        | nil =>
          walk_at "ev"
          exact ⟨fun z => (by simp at z), fun _ => last h6 (.inl rfl)⟩
        | cons f fs =>
          refine ⟨fun _ => ?_, fun z => (by simp at z)⟩
          have e0 : dupd h p (.lst ((f :: fs).map rowD)) p = some (.lst (D.tup (f.map cD) :: fs.map rowD)) := dupd_same
          walk_at "ev"
          simp only [List.length_map]
          refine ⟨fun e => err ?_, fun e => ?_⟩
          · unfold rowAt; rw [hr]; refine if_pos (.inl ⟨by simp, fun e2 => ?_⟩)
            have e2 : r.length = f.length := e2
            omega
          · refine last h6 (.inr ?_)
            show r.length = f.length
            omega
    · rintro τ h' ⟨found, x2, x3, x4, rfl, rfl, hfl, h60, hfp, hpa⟩
      have e : parseT s = .ok found := by
        rw [hpa, List.length_zip, List.length_range, Nat.min_self, List.drop_length]; rfl
      have ep : dupd h p (DO.lst (found.map rowD)) p = some (.lst (found.map rowD)) := dupd_same
      have : parsedD s = tabD found := by unfold parsedD; rw [e]
      rw [this] at z
      walk_at "ev"
      exact ⟨h, DSub.new (DSub.refl h) hp, z⟩
/-! what is told -/
def toldT : D → D
  | .str s => match parseT s with
    | .ok t => tabD t
    | .error i => .lst [.int (i : Nat)]
  | _ => .lst [.non]
def okT (d : D) : Prop := nr d = true ∧ ∀ s, d = .str s → s.length ≤ 1000000 ∧ Tc s
def sp_text_told (_ : Er) (_ : Addr) : DSp := fun ds h Q _ => match ds with
  | [d, .int _] => okT d ∧ Q (toldT d) h
  | _ => False
theorem i_text_told {E : Er} {C : Addr} {d : D} {i : Int} {h : DH} {Q : DK} {X : DX} (hd : okT d) (z : Q (toldT d) h) : sp_text_told E C [d, .int i] h Q X := ⟨hd, z⟩
def t_text_told (E_InvalidLines : Er) (X_InvalidLines : Addr) : DS :=
(dTryF X_InvalidLines "index" 2 (dRet (dIfE (dTest (dOp dEq (dVar 1) (dC (.int 0)))) (dCall (sp_parse_rows E_InvalidLines) (dCons (dVar 0) dNil)) (dCallK (sp_parse_rows E_InvalidLines) 0 1 [0] dNil (dCons (dVar 0) dNil)))))
def n_text_told : List Str := ["thing", "way", "e"]
/- 0=thing 1=way 2=e -/
theorem rd_text_told (E : Er) (C : Addr) (fx : E = Er.fld C "index") (ds : List D) (h : DH) (Q : DK) (X : DX) (z : sp_text_told E C ds h Q X) : t_text_told E C (dEnd Q X) (dstart n_text_told ds) h := by
  subst fx
  match ds, z with
  | [d, .int i], ⟨⟨hd, hs⟩, z⟩ =>
    show t_text_told (Er.fld C "index") C (dEnd Q X) [some d, some (.int i), none] h
    unfold t_text_told dTryF
    have key : ∀ (τ : DSt) (hτ : τ = [some d, some (.int i), none]), sp_parse_rows (Er.fld C "index") [d] h (fun d h' => ∃ h2, DSub h2 h' ∧ Q d h2) (fun C' fs h' => C' = C ∧ 2 < τ.length ∧ ∃ d, fs.lookup ("index" : Str) = some d ∧ ∃ h2, DSub h2 h' ∧ Q (.lst [d]) h2) := by
      rintro τ rfl
      refine ⟨hd, fun s es => ⟨(hs s es).1, fun t et => ?_, fun k ek => ?_⟩, fun ns => ?_⟩
      · subst es
        have : toldT (.str s) = tabD t := by show (match parseT s with | .ok t => tabD t | .error i => .lst [.int (i : Nat)]) = _; rw [et]
        rw [this] at z
        exact dend0 z
      · subst es
        have : toldT (.str s) = .lst [.int (k : Nat)] := by show (match parseT s with | .ok t => tabD t | .error i => .lst [.int (i : Nat)]) = _; rw [ek]
        rw [this] at z
        exact ⟨rfl, by show 2 < 3; omega, _, rfl, dend0 z⟩
      · have : toldT d = .lst [.non] := by
          cases d with
          | str s => exact absurd rfl (ns s)
          | _ => rfl
        rw [this] at z
        exact ⟨rfl, by show 2 < 3; omega, _, rfl, dend0 z⟩
    rw [e_dRet, e_dIfE, e_dTest, e_dOp]
    simp only [v1, e_dC, eq_int]
    refine ⟨fun _ => ?_, fun _ => ?_⟩
    · simp only [e_dCall, e_dCons, e_dNil, v0]
      exact key _ rfl
    · simp only [e_dCallK, e_dCons, e_dNil, v0]
      exact ⟨by first | trivial | rfl, by first | trivial | rfl, key _ rfl⟩
theorem told_rn (d : D) : rn 11 (toldT d) = true ∧ wt (toldT d) ≤ 31000 := by
  cases d with
  | str s =>
    show rn 11 (match parseT s with | .ok t => tabD t | .error i => .lst [.int (i : Nat)]) = true ∧ wt (match parseT s with | .ok t => tabD t | .error i => .lst [.int (i : Nat)]) ≤ 31000
    cases e : parseT s with
    | ok t =>
      have p := parse_rowsP e
      exact ⟨rn_tab (rows_strOk p) 9, Nat.le_trans (wt_tab p) (by decide)⟩
    | error k =>
      have hk := parse_le e
      have : ∀ j, j ≤ 60 → rn 11 (.lst [.int (j : Nat)]) = true ∧ wt (.lst [.int (j : Nat)]) ≤ 31000 := by decide +kernel
      exact this k hk
  | _ => exact (by decide +kernel : rn 11 (.lst [.non]) = true ∧ wt (.lst [.non]) ≤ 31000)
def sp_text_right (_ : Er) (_ : Addr) : DSp := fun ds h Q _ => match ds with
  | [d] => okT d ∧ Q (.bl true) h
  | _ => False
theorem i_text_right {E : Er} {C : Addr} {d : D} {h : DH} {Q : DK} {X : DX} (hd : okT d) (z : Q (.bl true) h) : sp_text_right E C [d] h Q X := ⟨hd, z⟩
def t_text_right (E_InvalidLines : Er) (X_InvalidLines : Addr) : DS :=
(dSeq (dAsg (dLst (dCons (dC .non) dNil)) 1)
  (dSeq (dIf (dTest (dIsi "str" (dVar 0))) (dSeq (dAsg (dCall sp_law_parsed (dCons (dVar 0) dNil)) 2)
  (dAsg (dIfE (dTest (dIsi "tuple" (dVar 2))) (dVar 2) (dLst (dCons (dVar 2) dNil))) 1)) dNext)
  (dRet (dOp dEq (dCB dRepr (dCons (dLst (dCons (dCall (sp_text_told E_InvalidLines X_InvalidLines) (dCons (dVar 0) (dCons (dC (.int 0)) dNil))) (dCons (dCall (sp_text_told E_InvalidLines X_InvalidLines) (dCons (dVar 0) (dCons (dC (.int 1)) dNil))) dNil))) dNil)) (dCB dRepr (dCons (dLst (dCons (dVar 1) (dCons (dVar 1) dNil))) dNil))))))
def n_text_right : List Str := ["thing", "due", "found"]
/- 0=thing 1=due 2=found -/
theorem rd_text_right (E : Er) (C : Addr) (ds : List D) (h : DH) (Q : DK) (X : DX) (z : sp_text_right E C ds h Q X) : t_text_right E C (dEnd Q X) (dstart n_text_right ds) h := by
  match ds, z with
  | [d], ⟨ok, z⟩ =>
    show t_text_right E C (dEnd Q X) [some d, none, none] h
    unfold t_text_right
    have fin : ∀ x2, dRet (dOp dEq (dCB dRepr (dCons (dLst (dCons (dCall (sp_text_told E C) (dCons (dVar 0) (dCons (dC (.int 0)) dNil))) (dCons (dCall (sp_text_told E C) (dCons (dVar 0) (dCons (dC (.int 1)) dNil))) dNil))) dNil)) (dCB dRepr (dCons (dLst (dCons (dVar 1) (dCons (dVar 1) dNil))) dNil))) (dEnd Q X) [some d, some (toldT d), x2] h := fun x2 => by
      have rp : ∀ {h : DH} {Q : DK}, Q (.str (shownD (.lst [toldT d, toldT d]))) h → dRepr [.lst [toldT d, toldT d]] h Q := fun q => by
        obtain ⟨t1, t2⟩ := told_rn d
        refine i_repr rfl ?_ ?_ q
        · show [toldT d, toldT d].all (rn 11) = true
          simp only [List.all_cons, List.all_nil, t1, Bool.and_self]
        · show (wt (toldT d) + 2 + (wt (toldT d) + 2 + 0)) + 4 ≤ _
          omega
      rw [e_dRet, e_dOp]
      simp only [e_dCB, e_dCons, e_dLst, e_dCall, v0, e_dC, e_dNil]
      refine i_text_told ok (i_text_told ok ⟨le_line (m := 2) (Nat.le_refl _), rp ?_⟩)
      simp only [v1]
      refine ⟨le_line (m := 2) (Nat.le_refl _), rp ?_⟩
      rw [eq_str, decide_eq_true rfl]
      exact dend0 z
    obtain ⟨hd, hs⟩ := ok
    rw [e_dSeq, e_dAsg, e_dLst]
    simp only [e_dCons, e_dNil, e_dC]
    refine ⟨le_line (m := 1) (Nat.le_refl _), ?_⟩
    simp only [w1]
    rw [e_dSeq, e_dIf, e_dTest, e_dIsi]
    cases d with
    | str s =>
      obtain ⟨h1, h2⟩ := hs s rfl
      simp only [v0, vw_str, ty_str, is_str_str, nq_str, true_and]
      refine ⟨fun _ => ?_, fun z => (by cases z)⟩
      rw [e_dSeq, e_dAsg]
      simp only [e_dCall, e_dCons, e_dNil, v0]
      refine i_law_parsed h1 h2 ?_
      simp only [w2]
      rw [e_dAsg, e_dIfE, e_dTest, e_dIsi]
      cases e : parseT s with
      | ok t =>
        have e1 : parsedD s = .tup (t.map rowD) := by unfold parsedD; rw [e]; rfl
        have e2 : toldT (.str s) = .tup (t.map rowD) := by show (match parseT s with | .ok t => tabD t | .error i => .lst [.int (i : Nat)]) = _; rw [e]; rfl
        rw [e1]
        simp only [v2, vw_tup, ty_tup, is_tuple_tuple, nq_tuple, true_and]
        refine ⟨fun _ => ?_, fun z => (by cases z)⟩
        simp only [w1]
        rw [← e2]
        exact fin _
      | error k =>
        have e1 : parsedD s = .int (k : Nat) := by unfold parsedD; rw [e]
        have e2 : toldT (.str s) = .lst [.int (k : Nat)] := by show (match parseT s with | .ok t => tabD t | .error i => .lst [.int (i : Nat)]) = _; rw [e]
        rw [e1]
        simp only [v2, vw_int, ty_int, is_tuple_int, nq_int, true_and]
        refine ⟨fun z => (by cases z), fun _ => ?_⟩
        simp only [e_dLst, e_dCons, e_dNil, v2]
        refine ⟨le_line (m := 1) (Nat.le_refl _), ?_⟩
        simp only [w1]
        rw [← e2]
        exact fin _
    | ref a => cases hd
    | scr a => cases hd
    | _ =>
      walk_at "ev"
      exact fin none

end DL

namespace DL
open PySem L2
local macro_rules | `(tactic| walk_at "ev") => `(tactic| try simp (disch := (first | assumption | exact dupd_same | (refine (dupd_ne ?_).trans ?_; (first | assumption | (apply Ne.symm; assumption)); first | assumption | exact dupd_same | (refine (dupd_ne ?_).trans ?_; (first | assumption | (apply Ne.symm; assumption)); first | assumption | exact dupd_same)))) only [v0, v1, v2, v3, v4, v5, v6, v7, v8, v9, v10, v11, v12, v13, v14, v15, v16, w0, w1, w2, w3, w4, w5, w6, w7, w8, w9, w10, w11, w12, w13, w14, w15, w16, e_dC, e_dOp, e_dUn, e_dTest, e_dAnd, e_dOr, e_dNot, e_dAndV, e_dOrV, e_dNotV, e_dIfE, e_dChain, e_dNil, e_dCons, e_dTup, e_dLst, e_dLstM, e_dCB, e_dBM, e_dFrz, e_dNoPart, e_dPart, e_dSl, e_dIsi, e_iSeqD, e_iRange1, e_iRange2, e_iEnumD, e_iZipD, e_dNext, e_dSeq, e_dAsg, e_dAsgT, e_dPar, e_dIf, e_dRet, e_dRetN, e_dDrop, e_dBrk, e_dCnt, e_dAug, e_dSetI, e_dFor, e_dWhile, e_dYes, e_dLc, e_dLcM, e_dCall, e_dCallK, e_dNeg, e_dRaise, op_Lt, op_Le, op_Gt, op_Ge, op_IsN, op_IsNN, op_Sub, op_Add, op_AddS, op_AddT, op_AddL, op_Mul, op_MulT, op_MulL, op_Mod, op_Fdiv, op_InS, op_NotInS, cb_lenT, cb_lenL, cb_lenS, cb_lenX, cb_all, cb_any, cb_tupleL, cb_tupleT, cb_max, cb_min, cb_abs, cb_int, cb_intB, cb_strI, me_joinL, me_joinT, me_split, ip_add, ip_sub, ip_mul, ip_div, ix_ref0, ix_ref1, ix_ref2, me_append, me_popAt, me_pop0, me_insert, me_clear, me_reverse, cb_lenR, cb_tupleR, me_joinR, vw_ref, dT_ref, pow_18, pow_38, pow_40, pow_41, pow_6, eq_str, ne_str, eq_int, ne_int, ix_tup0, ix_lst0, sl_from, sl_to, sl_fromL, sl_toL, vw_str, vw_int, vw_bl, vw_non, vw_dct, vw_tup, vw_lst, vw_scr, ty_str, ty_int, ty_bl, ty_non, ty_tup, ty_lst, ty_dct, it_str, it_tup, it_lst, bT_nm, isN_non, isN_str, isN_int, isN_bl, isN_tup, isN_lst, isN_dct, dT_str, dT_lst, en_rt, en_nx, en_ex, t_imp, f_imp, not_true_eq_false, not_false_eq_true, tf_eq, ft_eq, dwipe, true_and, and_true, Bool.not_true, Bool.not_false, Bool.not_eq_true', Bool.not_eq_false', decide_eq_true_eq, decide_eq_false_iff_not, nq_NoneType, is_NoneType_int, is_NoneType_bool, is_NoneType_str, is_NoneType_tuple, is_NoneType_list, is_NoneType_dict, nq_bool, is_bool_int, is_bool_bool, is_bool_str, is_bool_tuple, is_bool_list, is_bool_dict, nq_int, is_int_int, is_int_bool, is_int_str, is_int_tuple, is_int_list, is_int_dict, nq_str, is_str_int, is_str_bool, is_str_str, is_str_tuple, is_str_list, is_str_dict, nq_tuple, is_tuple_int, is_tuple_bool, is_tuple_str, is_tuple_tuple, is_tuple_list, is_tuple_dict, nq_list, is_list_int, is_list_bool, is_list_str, is_list_tuple, is_list_list, is_list_dict, nq_dict, is_dict_int, is_dict_bool, is_dict_str, is_dict_tuple, is_dict_list, is_dict_dict])
/-! R48: texts with a change -/
/-- how much room texts take with a sign behind each -/
def SY (l : List Str) : Nat := (l.map (·.length)).sum + l.length
theorem SY_app (a b : List Str) : SY (a ++ b) = SY a + SY b := by unfold SY; rw [List.map_append, List.sum_append, List.length_append]; omega
theorem SY_one (w : Str) : SY [w] = w.length + 1 := by unfold SY; simp
theorem SY_take (l : List Str) (i : Nat) : SY (l.take i) + SY (l.drop i) = SY l := by rw [← SY_app, List.take_append_drop]
theorem SY_mem {l : List Str} {w : Str} (h : w ∈ l) : w.length + 1 ≤ SY l := by
  obtain ⟨a, b, e⟩ := List.append_of_mem h
  rw [e, SY_app, show w :: b = [w] ++ b from rfl, SY_app, SY_one]
  omega
theorem SY_join (c : Nat) : ∀ l : List Str, l ≠ [] → (Str.join ⟨#[c]⟩ l).length + 1 = SY l
  | [], h => absurd rfl h
  | [x], _ => by rw [SY_one]; rfl
  | x :: y :: l, _ => by
    have ih := SY_join c (y :: l) (by simp)
    rw [show x :: y :: l = [x] ++ (y :: l) from rfl, SY_app, SY_one, show Str.join ⟨#[c]⟩ ([x] ++ (y :: l)) = x ++ ⟨#[c]⟩ ++ Str.join ⟨#[c]⟩ (y :: l) from rfl, Str.length_append, Str.length_append]
    have : (⟨#[c]⟩ : Str).length = 1 := rfl
    omega
theorem SY_split (s : Str) (c : Nat) : SY (Txt.split s ⟨#[c]⟩) = s.length + 1 := by
  have e := StrLaws.join_split s ⟨#[c]⟩
  have := SY_join c (Txt.split s ⟨#[c]⟩) (split_ne _ _)
  rw [e] at this
  exact this.symm
theorem joinN_sz (l : List Str) : (Txt.join "\n" l).length ≤ SY l ∧ (l.map (·.length)).sum + l.length * (Str.ofString "\n").length ≤ SY l := by
  have := join_len "\n" l
  have e : (Str.ofString "\n").length = 1 := rfl
  have e2 : ("\n" : Str).length = 1 := rfl
  unfold SY
  rw [e2] at this
  rw [e]
  omega
theorem Tc.join {l : List Str} (h : ∀ w ∈ l, Tc w) : Tc (Txt.join "\n" l) := join_all (· < 1114112) "\n" (by decide +kernel) l fun p hp => h p hp
def sp_text_spoiled : DSp := fun ds h Q _ => match ds with
  | [.ref a, .str s] => ∃ n, Urn h a n ∧ n + 10 ≤ LIM ∧ Tc s ∧ s.length ≤ 100000 ∧ ∀ s' o, Tc s' → s'.length ≤ 4 * s.length + 200 → UrnO o (n + 10) → Q (.str s') (dupd h a o)
  | _ => False
theorem i_text_spoiled {a : Addr} {s : Str} {h : DH} {Q : DK} {X : DX} (n : Nat) (u : Urn h a n) (hn : n + 10 ≤ LIM) (t : Tc s) (hl : s.length ≤ 100000) (q : ∀ s' o, Tc s' → s'.length ≤ 4 * s.length + 200 → UrnO o (n + 10) → Q (.str s') (dupd h a o)) :
    sp_text_spoiled [.ref a, .str s] h Q X := ⟨n, u, hn, t, hl, q⟩
def t_text_spoiled : DS :=
(dSeq (dPar 2 3 (dCall sp_law_draw (dCons (dVar 0) (dCons (dOp dAdd (dCB dLen (dCons (dVar 1) dNil)) (dC (.int 1))) dNil))) (dBM "str" dSplit (dVar 1) (dCons (dC (.str "\n")) dNil)))
  (dSeq (dPar 4 5 (dCall sp_law_draw (dCons (dVar 0) (dCons (dCB dLen (dCons (dVar 3) dNil)) dNil))) (dOp dIx (dLst (dCons (dC (.str ",")) (dCons (dC (.str "a")) (dCons (dC (.str "1")) (dCons (dC (.str "A")) (dCons (dC (.str " ")) (dCons (dC (.str "\n")) (dCons (dC (.str "")) (dCons (dC (.str "-")) (dCons (dC (.str ",,")) dNil)))))))))) (dCall sp_law_draw (dCons (dVar 0) (dCons (dC (.int 9)) dNil)))))
  (dSeq (dAsg (dOp dIx (dLst (dCons (dC (.str "")) (dCons (dC (.str ",")) (dCons (dC (.str "a")) (dCons (dC (.str ",a")) (dCons (dC (.str "a,")) (dCons (dC (.str "a,,b")) (dCons (dC (.str "abcdefghi")) (dCons (dC (.str "a b")) (dCons (dC (.str "a,b,c,d,e,f,g")) (dCons (dC (.str ",,,,,,")) (dCons (dC (.str "x,1")) dNil)))))))))))) (dCall sp_law_draw (dCons (dVar 0) (dCons (dC (.int 11)) dNil)))) 6)
  (dSeq (dPar 7 8 (dSl dSlice (dVar 1) dNoPart (dPart (dVar 2))) (dSl dSlice (dVar 1) (dPart (dVar 2)) dNoPart))
  (dSeq (dAsg (dLstM (dCons (dOp dAdd (dOp dAdd (dVar 7) (dVar 5)) (dVar 8)) (dCons (dOp dAdd (dVar 7) (dSl dSlice (dVar 8) (dPart (dC (.int 1))) dNoPart)) (dCons (dOp dAdd (dOp dAdd (dVar 7) (dVar 5)) (dSl dSlice (dVar 8) (dPart (dC (.int 1))) dNoPart)) dNil)))) 9)
  (dSeq (dPar 10 11 (dSl dSlice (dVar 3) dNoPart (dPart (dVar 4))) (dSl dSlice (dVar 3) (dPart (dOp dAdd (dVar 4) (dC (.int 1)))) dNoPart))
  (dSeq (dFor (iSeqD (dLst (dCons (dOp dAdd (dVar 10) (dVar 11)) (dCons (dOp dAdd (dOp dAdd (dVar 10) (dOp dMul (dLst (dCons (dOp dIx (dVar 3) (dVar 4)) dNil)) (dC (.int 2)))) (dVar 11)) (dCons (dOp dAdd (dOp dAdd (dVar 10) (dLst (dCons (dVar 6) dNil))) (dVar 11)) (dCons (dOp dAdd (dVar 11) (dSl dSlice (dVar 3) dNoPart (dPart (dOp dAdd (dVar 4) (dC (.int 1)))))) dNil)))))) (.nm 12) (dDrop (dBM "list" dAppend (dVar 9) (dCons (dBM "str" dJoin (dC (.str "\n")) (dCons (dVar 12) dNil)) dNil))))
  (dRet (dOp dIx (dVar 9) (dCall sp_law_draw (dCons (dVar 0) (dCons (dC (.int 7)) dNil))))))))))))
def n_text_spoiled : List Str := ["urn", "page_here", "spot", "lines_here", "at", "sign", "own", "head", "tail", "some", "first", "rest", "few"]
/- 0=urn 1=page_here 2=spot 3=lines_here 4=at 5=sign 6=own 7=head 8=tail 9=some 10=first 11=rest 12=few -/
theorem pick_txt {l : List Str} {d : Int} (h0 : 0 ≤ d) (h1 : d < l.length) : ∃ w, w ∈ l ∧ ∀ (h : DH) (Q : DK), dIx (.lst (l.map D.str)) (.int d) h Q = Q (.str w) h := by
  obtain ⟨k, rfl⟩ := Int.eq_ofNat_of_zero_le h0
  have hk : k < l.length := by omega
  exact ⟨l[k], List.getElem_mem hk, fun h Q => ix_lst (by rw [List.getElem?_map, List.getElem?_eq_getElem hk]; rfl)⟩
theorem marks_ok : ∀ w ∈ ([Str.ofString ",", Str.ofString "a", Str.ofString "1", Str.ofString "A", Str.ofString " ", Str.ofString "\n", Str.ofString "", Str.ofString "-", Str.ofString ",,"] : List Str), w.length ≤ 2 ∧ ∀ c ∈ w.cps.toList, c < 1114112 := by decide +kernel
theorem lines_ok : ∀ w ∈ ([Str.ofString "", Str.ofString ",", Str.ofString "a", Str.ofString ",a", Str.ofString "a,", Str.ofString "a,,b", Str.ofString "abcdefghi", Str.ofString "a b", Str.ofString "a,b,c,d,e,f,g", Str.ofString ",,,,,,", Str.ofString "x,1"] : List Str), w.length ≤ 40 ∧ ∀ c ∈ w.cps.toList, c < 1114112 := by decide +kernel
theorem sl_strT {z : Str} {lo hi : Option Int} {h : DH} {Q : DK} : dSlice (.str z) lo hi h Q = (z.length ≤ sizeLine ∧ Q (.str (cutS z lo hi)) h) := rfl
theorem Tc.cutl {s : Str} (lo hi : Option Int) : (cutS s lo hi).length ≤ s.length := cutS_length s lo hi
theorem rd_text_spoiled (ds : List D) (h : DH) (Q : DK) (X : DX) (z : sp_text_spoiled ds h Q X) : t_text_spoiled (dEnd Q X) (dstart n_text_spoiled ds) h := by
  match ds, z with
  | [.ref a, .str s], ⟨n, ⟨o0, ea0, uo0⟩, hn, tx, hl, q⟩ =>
    show t_text_spoiled (dEnd Q X) [some (.ref a), some (.str s), none, none, none, none, none, none, none, none, none, none, none] h
    unfold t_text_spoiled
    have sz : ∀ {n : Nat}, n ≤ 10000000 → n ≤ sizeLine := fun {n} h => le_line h
    have szs := SY_split s 10
    rw [show (⟨#[10]⟩ : Str) = "\n" from rfl] at szs
    rw [e_dSeq, e_dPar]
    simp only [e_dCall, e_dCons, e_dNil, v0, v1, e_dOp, e_dCB, cb_lenS, e_dC, op_Add]
    refine ⟨sz (by omega), ?_⟩
    refine i_law_draw n ⟨o0, ea0, uo0⟩ (by omega) (by omega) (by omega) fun sp o1 sp0 sp1 uo1 => ?_
    rw [e_dBM]
    simp only [v1, dT_str, true_and, e_dCons, e_dNil, e_dC, me_split, w2, w3]
    refine ⟨by decide +kernel, sz (by omega), ?_⟩
    have wne := split_ne s "\n"
    have wtx : ∀ w ∈ Txt.split s "\n", Tc w := tx.parts 10
    rw [show Str.ofString "\n" = "\n" from rfl]
    generalize Txt.split s "\n" = ws at szs wne wtx
    have wpos : 0 < ws.length := by
      cases ws with
      | nil => exact absurd rfl wne
      | cons a ws => simp
    have wlen : ws.length ≤ s.length + 1 := by unfold SY at szs; omega
    rw [e_dSeq, e_dPar]
    simp only [e_dCall, e_dCons, e_dNil, v0, e_dCB, v3, cb_lenL, List.length_map]
    refine i_law_draw _ ⟨o1, dupd_same, uo1⟩ (by omega) (by omega) (by omega) fun at_ o2 at0 at1 uo2 => ?_
    rw [e_dOp, e_dLst]
    simp only [e_dCons, e_dNil, e_dC, e_dCall, v0, dupd2]
    refine ⟨le_line (m := 9) (Nat.le_refl _), ?_⟩
    refine i_law_draw _ ⟨o2, dupd_same, uo2⟩ (by omega) (by decide) (by decide) fun si o3 si0 si1 uo3 => ?_
    obtain ⟨sg, sgm, esg⟩ := pick_txt (l := [Str.ofString ",", Str.ofString "a", Str.ofString "1", Str.ofString "A", Str.ofString " ", Str.ofString "\n", Str.ofString "", Str.ofString "-", Str.ofString ",,"]) si0 (by show si < 9; exact si1)
    obtain ⟨sgl, sgt⟩ := marks_ok sg sgm
    refine Eq.mpr (esg _ _) ?_
    simp only [w4, w5, dupd2]
    rw [e_dSeq, e_dAsg, e_dOp, e_dLst]
    simp only [e_dCons, e_dNil, e_dC, e_dCall, v0, e_dOp]
    refine ⟨le_line (m := 11) (Nat.le_refl _), ?_⟩
    refine i_law_draw _ ⟨o3, dupd_same, uo3⟩ (by omega) (by decide) (by decide) fun wi o4 wi0 wi1 uo4 => ?_
    obtain ⟨wd, wdm, ewd⟩ := pick_txt (l := [Str.ofString "", Str.ofString ",", Str.ofString "a", Str.ofString ",a", Str.ofString "a,", Str.ofString "a,,b", Str.ofString "abcdefghi", Str.ofString "a b", Str.ofString "a,b,c,d,e,f,g", Str.ofString ",,,,,,", Str.ofString "x,1"]) wi0 (by show wi < 11; exact wi1)
    obtain ⟨wdl, wdt⟩ := lines_ok wd wdm
    refine Eq.mpr (ewd _ _) ?_
    simp only [w6, dupd2]
    have sgx : Tc sg := sgt
    have wdx : Tc wd := wdt
    rw [e_dSeq, e_dPar, e_dSl]
    simp only [v1, e_dNoPart, e_dPart, v2, sl_strT, e_dSl, w7, w8]
    refine ⟨sz (by omega), sz (by omega), ?_⟩
    have hx := tx.cut none (some sp)
    have tlx := tx.cut (some sp) none
    have hxl := Tc.cutl (s := s) none (some sp)
    have tll := Tc.cutl (s := s) (some sp) none
    generalize cutS s none (some sp) = hd at hx hxl
    generalize cutS s (some sp) none = tl at tlx tll
    have t1x := tlx.cut (some 1) none
    have t1l := Tc.cutl (s := tl) (some 1) none
    rw [e_dSeq, e_dAsg, e_dLstM]
    simp only [e_dCons, e_dNil, e_dOp, e_dSl, e_dPart, e_dNoPart, e_dC, v5, v7, v8, sl_strT, op_AddS, Str.length_append]
    generalize cutS tl (some 1) none = t1 at t1x t1l
    refine ⟨sz (by omega), sz (by omega), sz (by omega), sz (by omega), sz (by omega), sz (by omega), sz (by omega), le_line (m := 3) (Nat.le_refl _), fun p hp => ?_⟩
    have pa : p ≠ a := fun e => by rw [e, dupd_same] at hp; cases hp
    have hp0 : h p = none := by rw [dupd_ne pa] at hp; exact hp
    simp only [w9]
    obtain ⟨k, rfl⟩ := Int.eq_ofNat_of_zero_le at0
    have hk : k < ws.length := by omega
    have ew : ws[k]? = some ws[k] := List.getElem?_eq_getElem hk
    have wk := wtx _ (List.getElem_mem hk)
    have wks := SY_mem (List.getElem_mem hk)
    rw [e_dSeq, e_dPar, e_dSl]
    simp only [v3, v4, e_dNoPart, e_dPart, e_dSl, e_dOp, e_dC, op_Add, sl_toL]
    rw [show (some ((k : Int) + 1)) = some ((k + 1 : Nat) : Int) from rfl]
    simp only [sl_fromL, w10, w11, ← List.map_take, ← List.map_drop]
    have f1 := SY_take ws k
    have f2 := SY_take ws (k + 1)
    have fx : ∀ w ∈ ws.take k, Tc w := fun w hw => wtx w (List.mem_of_mem_take hw)
    have rx : ∀ w ∈ ws.drop (k + 1), Tc w := fun w hw => wtx w (List.mem_of_mem_drop hw)
    have gx : ∀ w ∈ ws.take (k + 1), Tc w := fun w hw => wtx w (List.mem_of_mem_take hw)
    have lens : ∀ l : List Str, l.length ≤ SY l := fun l => by unfold SY; omega
    have le1 := lens (ws.take k)
    have le2 := lens (ws.drop (k + 1))
    have le3 := lens (ws.take (k + 1))
    rw [e_dSeq, e_dFor, e_iSeqD, e_dLst]
    simp only [e_dCons, e_dNil, e_dOp, e_dLst, e_dC, v3, v4, v6, v10, v11, ix_lst (xs := ws.map D.str) (k := k) (x := .str ws[k]) (by rw [List.getElem?_map, ew]; rfl), e_dSl, e_dNoPart, e_dPart, op_Add, op_AddL, op_MulL, List.length_append, List.length_map, List.length_cons, List.length_nil, it_lst]
    rw [show (some ((k : Int) + 1)) = some ((k + 1 : Nat) : Int) from rfl]
    simp only [sl_toL, op_AddL, List.length_append, List.length_map, ← List.map_take]
    have er : rpt (2 : Int) [D.str ws[k]] = [D.str ws[k], D.str ws[k]] := rfl
    rw [er]
    refine ⟨sz (by omega), sz (by omega), by decide, by decide, sz (by show 1 * 2 ≤ _; omega), sz (by simp only [List.length_cons, List.length_nil]; omega), sz (by simp only [List.length_cons, List.length_nil]; omega), sz (by omega), sz (by omega), sz (by omega), sz (by omega), le_line (m := 4) (Nat.le_refl _), ?_⟩
    obtain ⟨L, hL⟩ : ∃ L : List (List Str), L = [ws.take k ++ ws.drop (k + 1), ws.take k ++ [ws[k], ws[k]] ++ ws.drop (k + 1), ws.take k ++ [wd] ++ ws.drop (k + 1), ws.drop (k + 1) ++ ws.take (k + 1)] := ⟨_, rfl⟩
    have eL : [D.lst ((ws.take k).map D.str ++ (ws.drop (k + 1)).map D.str), D.lst ((ws.take k).map D.str ++ [D.str ws[k], D.str ws[k]] ++ (ws.drop (k + 1)).map D.str), D.lst ((ws.take k).map D.str ++ [D.str wd] ++ (ws.drop (k + 1)).map D.str), D.lst ((ws.drop (k + 1)).map D.str ++ (ws.take (k + 1)).map D.str)] = L.map fun l => D.lst (l.map D.str) := by
      rw [hL]
      simp only [List.map_cons, List.map_nil, List.map_append]
    rw [eL]
    have good : ∀ l ∈ L, (∀ w ∈ l, Tc w) ∧ SY l ≤ 4 * s.length + 200 := by
      intro l hl
      rw [hL] at hl
      simp only [List.mem_cons, List.not_mem_nil, or_false] at hl
      have o1 := SY_one wd
      have o2 := SY_one ws[k]
      have o3 : SY [ws[k], ws[k]] = ws[k].length + 1 + (ws[k].length + 1) := by rw [show [ws[k], ws[k]] = [ws[k]] ++ [ws[k]] from rfl, SY_app, SY_one]
      rcases hl with rfl | rfl | rfl | rfl
      · refine ⟨fun w hw => ?_, by rw [SY_app]; omega⟩
        rcases List.mem_append.mp hw with z | z
        · exact fx w z
        · exact rx w z
      · refine ⟨fun w hw => ?_, by rw [SY_app, SY_app]; omega⟩
        rcases List.mem_append.mp hw with z | z
        · rcases List.mem_append.mp z with z | z
          · exact fx w z
          · simp only [List.mem_cons, List.not_mem_nil, or_false, or_self] at z
            rw [z]; exact wk
        · exact rx w z
      · refine ⟨fun w hw => ?_, by rw [SY_app, SY_app]; omega⟩
        rcases List.mem_append.mp hw with z | z
        · rcases List.mem_append.mp z with z | z
          · exact fx w z
          · rw [List.mem_singleton.mp z]; exact wdx
        · exact rx w z
      · refine ⟨fun w hw => ?_, by rw [SY_app]; omega⟩
        rcases List.mem_append.mp hw with z | z
        · exact rx w z
        · exact gx w z
    have Ll : L.length = 4 := by rw [hL]; rfl
    have e3 : [D.str (hd ++ sg ++ tl), D.str (hd ++ t1), D.str (hd ++ sg ++ t1)] = ([hd ++ sg ++ tl, hd ++ t1, hd ++ sg ++ t1] : List Str).map D.str := rfl
    rw [e3]
    refine for_indG (fun l : List Str => D.lst (l.map D.str)) (fun pre τ h' => ∃ (xs : List Str) (x12 : Option D), τ = [some (.ref a), some (.str s), some (.int sp), some (.lst (ws.map D.str)), some (.int (k : Nat)), some (.str sg), some (.str wd), some (.str hd), some (.str tl), some (.ref p), some (.lst ((ws.take k).map D.str)), some (.lst ((ws.drop (k + 1)).map D.str)), x12] ∧
      h' = dupd (dupd h a o4) p (.lst (xs.map D.str)) ∧ (∀ x ∈ xs, Tc x ∧ x.length ≤ 4 * s.length + 200) ∧ xs.length = 3 + pre.length) L ⟨[hd ++ sg ++ tl, hd ++ t1, hd ++ sg ++ t1], none, rfl, rfl, ?_, rfl⟩ ?_ ?_
    · intro x hx2
      simp only [List.mem_cons, List.not_mem_nil, or_false] at hx2
      rcases hx2 with rfl | rfl | rfl
      · exact ⟨(hx.app sgx).app tlx, by rw [Str.length_append, Str.length_append]; omega⟩
      · exact ⟨hx.app t1x, by rw [Str.length_append]; omega⟩
      · exact ⟨(hx.app sgx).app t1x, by rw [Str.length_append, Str.length_append]; omega⟩
    · rintro pre l post τ h' eq ⟨xs, x12, rfl, rfl, hxs, hxl2⟩ D' T
      refine ⟨_, rfl, ?_⟩
      obtain ⟨g1, g2⟩ := good l (by rw [eq]; simp)
      obtain ⟨j1, j2⟩ := joinN_sz l
      have hln := congrArg List.length eq
      simp only [List.length_append, List.length_cons] at hln
      have ep : dupd (dupd h a o4) p (DO.lst (xs.map D.str)) p = some (.lst (xs.map D.str)) := dupd_same
      rw [e_dDrop, e_dBM]
      simp only [w12, v9, e_dCons, e_dNil, e_dBM, e_dC, dT_str, true_and, v12, me_joinL, strsOf_map, me_append ep]
      refine ⟨⟨rfl, _, ep⟩, by omega, by rw [List.length_map]; exact Nat.lt_of_lt_of_le (show xs.length < 60 by omega) (by decide), T.nx _ _ ⟨xs ++ [Txt.join "\n" l], _, rfl, ?_, ?_, ?_⟩⟩
      · rw [dupd2, List.map_append]; rfl
      · intro x hx2
        rcases List.mem_append.mp hx2 with z | z
        · exact hxs x z
        · rw [List.mem_singleton.mp z]
          exact ⟨Tc.join g1, by omega⟩
      · rw [List.length_append, List.length_append, List.length_singleton, List.length_singleton]; omega
    · rintro τ h' ⟨xs, x12, rfl, rfl, hxs, hxl2⟩
      dsimp only
      have ep : dupd (dupd h a o4) p (DO.lst (xs.map D.str)) p = some (.lst (xs.map D.str)) := dupd_same
      rw [e_dRet, e_dOp]
      simp only [v9, e_dCall, e_dCons, e_dNil, v0, e_dC]
      refine i_law_draw _ ⟨o4, (dupd_ne (Ne.symm pa)).trans dupd_same, uo4⟩ (by omega) (by decide) (by decide) fun d o5 d0 d7 uo5 => ?_
      obtain ⟨j, rfl⟩ := Int.eq_ofNat_of_zero_le d0
      have hj : j < xs.length := by omega
      have ej : xs[j]? = some xs[j] := List.getElem?_eq_getElem hj
      obtain ⟨r1, r2⟩ := hxs _ (List.getElem_mem hj)
      rw [ix_ref (k := j) (x := .str xs[j]) ((dupd_ne pa).trans ep) (by rw [List.getElem?_map, ej]; rfl)]
      refine ⟨dupd h a o5, fun b o e => ?_, q _ o5 r1 r2 (uo5.mono (by omega))⟩
      by_cases hb : b = a
      · subst hb; rw [dupd_same] at e ⊢; exact e
      · rw [dupd_ne hb] at e ⊢
        rw [dupd_ne (fun z => by rw [z, hp0] at e; cases e), dupd_ne hb]; exact e

end DL

namespace DL
open PySem L2
local macro_rules | `(tactic| walk_at "ev") => `(tactic| try simp (disch := (first | assumption | exact dupd_same | (refine (dupd_ne ?_).trans ?_; (first | assumption | (apply Ne.symm; assumption)); first | assumption | exact dupd_same | (refine (dupd_ne ?_).trans ?_; (first | assumption | (apply Ne.symm; assumption)); first | assumption | exact dupd_same)))) only [v0, v1, v2, v3, v4, v5, v6, v7, v8, v9, v10, v11, v12, v13, v14, v15, v16, w0, w1, w2, w3, w4, w5, w6, w7, w8, w9, w10, w11, w12, w13, w14, w15, w16, e_dC, e_dOp, e_dUn, e_dTest, e_dAnd, e_dOr, e_dNot, e_dAndV, e_dOrV, e_dNotV, e_dIfE, e_dChain, e_dNil, e_dCons, e_dTup, e_dLst, e_dLstM, e_dCB, e_dBM, e_dFrz, e_dNoPart, e_dPart, e_dSl, e_dIsi, e_iSeqD, e_iRange1, e_iRange2, e_iEnumD, e_iZipD, e_dNext, e_dSeq, e_dAsg, e_dAsgT, e_dPar, e_dIf, e_dRet, e_dRetN, e_dDrop, e_dBrk, e_dCnt, e_dAug, e_dSetI, e_dFor, e_dWhile, e_dYes, e_dLc, e_dLcM, e_dCall, e_dCallK, e_dNeg, e_dRaise, op_Lt, op_Le, op_Gt, op_Ge, op_IsN, op_IsNN, op_Sub, op_Add, op_AddS, op_AddT, op_AddL, op_Mul, op_MulT, op_MulL, op_Mod, op_Fdiv, op_InS, op_NotInS, cb_lenT, cb_lenL, cb_lenS, cb_lenX, cb_all, cb_any, cb_tupleL, cb_tupleT, cb_max, cb_min, cb_abs, cb_int, cb_intB, cb_strI, me_joinL, me_joinT, me_split, ip_add, ip_sub, ip_mul, ip_div, ix_ref0, ix_ref1, ix_ref2, me_append, me_popAt, me_pop0, me_insert, me_clear, me_reverse, cb_lenR, cb_tupleR, me_joinR, vw_ref, dT_ref, pow_18, pow_38, pow_40, pow_41, pow_6, eq_str, ne_str, eq_int, ne_int, ix_tup0, ix_lst0, sl_from, sl_to, sl_fromL, sl_toL, vw_str, vw_int, vw_bl, vw_non, vw_dct, vw_tup, vw_lst, vw_scr, ty_str, ty_int, ty_bl, ty_non, ty_tup, ty_lst, ty_dct, it_str, it_tup, it_lst, bT_nm, isN_non, isN_str, isN_int, isN_bl, isN_tup, isN_lst, isN_dct, dT_str, dT_lst, en_rt, en_nx, en_ex, t_imp, f_imp, not_true_eq_false, not_false_eq_true, tf_eq, ft_eq, dwipe, true_and, and_true, Bool.not_true, Bool.not_false, Bool.not_eq_true', Bool.not_eq_false', decide_eq_true_eq, decide_eq_false_iff_not, nq_NoneType, is_NoneType_int, is_NoneType_bool, is_NoneType_str, is_NoneType_tuple, is_NoneType_list, is_NoneType_dict, nq_bool, is_bool_int, is_bool_bool, is_bool_str, is_bool_tuple, is_bool_list, is_bool_dict, nq_int, is_int_int, is_int_bool, is_int_str, is_int_tuple, is_int_list, is_int_dict, nq_str, is_str_int, is_str_bool, is_str_str, is_str_tuple, is_str_list, is_str_dict, nq_tuple, is_tuple_int, is_tuple_bool, is_tuple_str, is_tuple_tuple, is_tuple_list, is_tuple_dict, nq_list, is_list_int, is_list_bool, is_list_str, is_list_tuple, is_list_list, is_list_dict, nq_dict, is_dict_int, is_dict_bool, is_dict_str, is_dict_tuple, is_dict_list, is_dict_dict])
/-! L59: the law of k59 -/
def okScr (ns : List Int) : Prop := ∀ n ∈ ns, Builtin.Int.intBits n ≤ 1048576
theorem i_law_urn {ns : List Int} {k : Int} {h : DH} {Q : DK} {X : DX} (k0 : 0 ≤ k) (k1 : k < 1000) (hb : okScr ns) (q : ∀ p o, h p = none → UrnO o 0 → Q (.ref p) (dupd h p o)) : sp_law_urn [.scr ns, .int k] h Q X := ⟨k0, k1, hb, q⟩
def t_law (E_InvalidLines : Er) (X_InvalidLines : Addr) : DS :=
(dSeq (dFor (iRange1 (dCB dMax2 (dCons (dC (.int 1)) (dCons (dCB dMin2 (dCons (dC (.int 6)) (dCons (dCB dLen (dCons (dVar 0) dNil)) dNil))) dNil)))) (.nm 1) (dSeq (dAsg (dCall sp_law_urn (dCons (dVar 0) (dCons (dVar 1) dNil))) 2)
  (dSeq (dFor (iRange1 (dC (.int 6))) (.nm 3) (dSeq (dAsg (dCall sp_law_text (dCons (dCall sp_law_loose (dCons (dVar 2) (dCons (dOp dIx (dLst (dCons (dC (.int 60)) (dCons (dC (.int 8)) dNil))) (dCall sp_law_draw (dCons (dVar 2) (dCons (dC (.int 2)) dNil)))) dNil))) dNil)) 5)
  (dSeq (dFor (iRange1 (dCall sp_law_draw (dCons (dVar 2) (dCons (dC (.int 4)) dNil)))) (.nm 6) (dAsg (dCall sp_text_spoiled (dCons (dVar 2) (dCons (dVar 5) dNil))) 5))
  (dIf (dNot (dTest (dCall (sp_text_right E_InvalidLines X_InvalidLines) (dCons (dVar 5) dNil)))) (dRet (dC (.bl false))) dNext))))
  (dFor (iSeqD (dLst (dCons (dC .non) (dCons (dC (.int 0)) (dCons (dC (.bl true)) (dCons (dTup dNil) (dCons (dLst dNil) (dCons (dLst (dCons (dC (.str "a")) dNil)) (dCons dDct (dCons (dTup (dCons (dTup (dCons (dC (.str "a")) dNil)) dNil)) (dCons (dOp dPow (dC (.int 10)) (dC (.int 40))) dNil))))))))))) (.nm 4) (dIf (dNot (dTest (dCall (sp_text_right E_InvalidLines X_InvalidLines) (dCons (dVar 4) dNil)))) (dRet (dC (.bl false))) dNext)))))
  (dSeq (dAsg (dLst (dCons (dC (.str "")) (dCons (dC (.str "\n")) (dCons (dC (.str "a")) (dCons (dC (.str "a\n")) (dCons (dC (.str "a\n\nb")) (dCons (dC (.str ",")) (dCons (dC (.str "a,")) (dCons (dC (.str ",a")) (dCons (dC (.str "a\nb,c")) (dCons (dC (.str ",,,,,")) (dCons (dC (.str ",,,,,,")) (dCons (dC (.str "a,,b")) (dCons (dC (.str "A")) dNil)))))))))))))) 7)
  (dSeq (dAsg (dOp dAdd (dVar 7) (dLst (dCons (dC (.str "abcdefgh")) (dCons (dC (.str "abcdefghi")) dNil)))) 7)
  (dSeq (dAsg (dOp dAdd (dVar 7) (dLst (dCons (dBM "str" dJoin (dC (.str "\n")) (dCons (dOp dMul (dLst (dCons (dC (.str "a")) dNil)) (dC (.int 60))) dNil)) (dCons (dBM "str" dJoin (dC (.str "\n")) (dCons (dOp dMul (dLst (dCons (dC (.str "a")) dNil)) (dC (.int 61))) dNil)) (dCons (dBM "str" dJoin (dC (.str "\n")) (dCons (dOp dAdd (dOp dMul (dLst (dCons (dC (.str "a")) dNil)) (dC (.int 60))) (dLst (dCons (dC (.str "A")) dNil))) dNil)) (dCons (dC (.str "a \n")) (dCons (dC (.str "a\n1\n-")) dNil))))))) 7)
  (dRet (dOp dEq (dLc (iSeqD (dVar 7)) (.nm 5) (dNot (dTest (dCall (sp_text_right E_InvalidLines X_InvalidLines) (dCons (dVar 5) dNil)))) (dVar 5) [5]) (dLst dNil)))))))
def n_law : List Str := ["script", "k", "urn", "turn", "thing", "page_here", "change", "fixed"]
/- 0=script 1=k 2=urn 3=turn 4=thing 5=page_here 6=change 7=fixed -/
def sp_law (_ : Er) (_ : Addr) : DSp := fun ds h Q X => match ds with
  | [.scr ns] => okScr ns ∧ ∀ h', Q (.bl true) h'
  | _ => False
theorem text_Tc {t : List Row} (p : RowsP t) : Tc (textT t) := by
  obtain ⟨w, w1, w6, hw⟩ := p.w
  refine join_all (· < 1114112) "\n" (by decide +kernel) _ fun q hq => ?_
  obtain ⟨r, hr, rfl⟩ := List.mem_map.mp hq
  exact line_lt (hw r hr).2
def fixedT : List Str := [Str.ofString "", Str.ofString "\n", Str.ofString "a", Str.ofString "a\n", Str.ofString "a\n\nb", Str.ofString ",", Str.ofString "a,", Str.ofString ",a", Str.ofString "a\nb,c", Str.ofString ",,,,,", Str.ofString ",,,,,,", Str.ofString "a,,b", Str.ofString "A"] ++ [Str.ofString "abcdefgh", Str.ofString "abcdefghi"]
theorem fixed_ok : ∀ s ∈ (fixedT ++ [Str.ofString "a \n", Str.ofString "a\n1\n-"] ++ [Str.ofString "a", Str.ofString "A"]), s.length ≤ 20 ∧ ∀ c ∈ s.cps.toList, c < 1114112 := by decide +kernel
def lB : Nat → Nat
  | 0 => 3300
  | j + 1 => 4 * lB j + 200
theorem lB3 {j : Nat} (h : j ≤ 3) : (j ≤ 2 → lB j ≤ 100000) ∧ lB j ≤ 300000 := by
  have : j = 0 ∨ j = 1 ∨ j = 2 ∨ j = 3 := by omega
  rcases this with rfl | rfl | rfl | rfl <;> decide
theorem okT_s {s : Str} (t : Tc s) (hl : s.length ≤ 1000000) : okT (.str s) := ⟨by simp only [nr, decide_eq_true_eq]; omega, fun s' e => by cases e; exact ⟨hl, t⟩⟩
theorem rd_law (E : Er) (C : Addr) (ds : List D) (h : DH) (Q : DK) (X : DX) (z : sp_law E C ds h Q X) : t_law E C (dEnd Q X) (dstart n_law ds) h := by
  match ds, z with
  | [.scr ns], ⟨hb, z⟩ =>
    show t_law E C (dEnd Q X) [some (.scr ns), none, none, none, none, none, none, none] h
    unfold t_law
    have hLIM : LIM = 1000000000000 := rfl
    rw [e_dSeq, e_dFor]
    simp only [e_iRange1, e_dCB, e_dCons, e_dNil, e_dC, v0, cb_lenX, cb_min, cb_max]
    refine ⟨by split <;> split <;> omega, by split <;> split <;> omega, ?_⟩
    refine for_indG (fun i : Nat => D.int i) (fun _ τ _ => ∃ x1 x2 x3 x4 x5 x6, τ = [some (.scr ns), x1, x2, x3, x4, x5, x6, none]) _ ⟨_, _, _, _, _, _, rfl⟩ ?_ ?_
    · rintro pre i post τ h' eq ⟨x1, x2, x3, x4, x5, x6, rfl⟩ D' T
      refine ⟨_, rfl, ?_⟩
      have hlen : i < 1000 := by
        have hm : i ∈ List.range (if (if (ns.length : Int) < 6 then (ns.length : Int) else 6) > 1 then (if (ns.length : Int) < 6 then (ns.length : Int) else 6) else 1).toNat := by rw [eq]; simp
        rw [List.mem_range] at hm
        split at hm <;> split at hm <;> omega
      rw [e_dSeq, e_dAsg]
      simp only [e_dCall, e_dCons, e_dNil, v0, v1, w1]
      refine i_law_urn (by omega) (by omega) hb fun a o ha uo => ?_
      rw [e_dSeq, e_dFor]
      simp only [w2, e_iRange1, e_dC]
      refine ⟨by decide, by decide, ?_⟩
      refine for_indG (fun i : Nat => D.int i) (fun pre τ h' => ∃ x3 x4 x5 x6, τ = [some (.scr ns), some (.int i), some (.ref a), x3, x4, x5, x6, none] ∧ Urn h' a (40000 * pre.length)) _ ⟨_, _, _, _, rfl, Urn.upd uo⟩ ?_ ?_
      · rintro pre tn post τ h' eq ⟨x3, x4, x5, x6, rfl, u⟩ D2 T2
        refine ⟨_, rfl, ?_⟩
        have hl := congrArg List.length eq
        simp only [List.length_append, List.length_cons, List.length_range] at hl
        rw [show ((6 : Int).toNat) = 6 from rfl] at hl
        simp only [w3]
        rw [e_dSeq, e_dAsg]
        simp only [e_dCall, e_dCons, e_dNil, v2, e_dOp, e_dC, e_dLst]
        refine ⟨le_line (m := 2) (Nat.le_refl _), ?_⟩
        refine i_law_draw _ u (by omega) (by decide) (by decide) fun d o1 d0 d2 uo1 => ?_
        obtain ⟨B, eB, B1, B60⟩ : ∃ B : Int, [D.int 60, D.int 8][d.toNat]? = some (.int B) ∧ 1 ≤ B ∧ B ≤ 60 := by
          have : d = 0 ∨ d = 1 := by omega
          rcases this with rfl | rfl
          · exact ⟨60, rfl, by decide, by decide⟩
          · exact ⟨8, rfl, by decide, by decide⟩
        rw [show d = (d.toNat : Int) by omega]
        refine Eq.mpr (ix_lst eB) ?_
        refine i_law_loose _ ⟨o1, dupd_same, uo1⟩ (by omega) (by omega) (by omega) fun t o3 pt uo3 => ?_
        rw [dupd2]
        refine i_law_text pt ?_
        have tl := textT_len pt
        have tc := text_Tc pt
        generalize textT t = tx at tl tc
        simp only [w5]
        rw [e_dSeq, e_dFor]
        simp only [e_iRange1, e_dCall, e_dCons, e_dNil, v2, e_dC]
        refine i_law_draw _ ⟨o3, dupd_same, uo3⟩ (by omega) (by decide) (by decide) fun d5 o5 d50 d54 uo5 => ?_
        rw [dupd2]
        refine ⟨by omega, by omega, ?_⟩
        refine for_indG (fun i : Nat => D.int i) (fun pre2 τ h' => ∃ s x6, τ = [some (.scr ns), some (.int i), some (.ref a), some (.int tn), x4, some (.str s), x6, none] ∧ Urn h' a (40000 * pre.length + 35000 + 10 * pre2.length) ∧ Tc s ∧ s.length ≤ lB pre2.length) _
          ⟨tx, _, rfl, ⟨o5, dupd_same, uo5.mono (by omega)⟩, tc, tl⟩ ?_ ?_
        · rintro pre2 j post2 τ h2 eq2 ⟨s, x7, rfl, u2, tx, tl⟩ D3 T3
          refine ⟨_, rfl, ?_⟩
          have hl2 := congrArg List.length eq2
          simp only [List.length_append, List.length_cons, List.length_range] at hl2
          have hb3 := (lB3 (j := pre2.length) (by omega)).1 (by omega)
          simp only [w6]
          rw [e_dAsg]
          simp only [e_dCall, e_dCons, e_dNil, v2, v5]
          refine i_text_spoiled _ u2 (by omega) tx (by omega) fun s' o6 tx' tl' uo6 => ?_
          simp only [w5]
          refine T3.nx _ _ ⟨s', _, rfl, ⟨o6, dupd_same, uo6.mono ?_⟩, tx', ?_⟩
          · rw [List.length_append, List.length_singleton]; omega
          · rw [List.length_append, List.length_singleton]
            show s'.length ≤ 4 * lB pre2.length + 200
            omega
        · rintro τ h2 ⟨s, x7, rfl, u2, tx, tl⟩
          rw [List.length_range] at u2 tl
          have hb3 := (lB3 (j := d5.toNat) (by omega)).2
          have okd := okT_s tx (by omega)
          dsimp only
          rw [e_dIf, e_dNot, e_dTest]
          simp only [e_dCall, e_dCons, e_dNil, v5]
          refine i_text_right okd ?_
          refine ⟨fun z => (by cases z), fun _ => ?_⟩
          rw [e_dNext]
          refine T2.nx _ _ ⟨_, _, _, _, rfl, u2.mono ?_⟩
          rw [List.length_append, List.length_singleton]
          omega
      · rintro τ h2 ⟨x3, x4, x5, x6, rfl, u⟩
        dsimp only
        rw [e_dFor, e_iSeqD, e_dLst]
        simp only [e_dCons, e_dNil, e_dC, e_dTup, e_dLst, e_dOp, pow_40, it_lst]
        unfold dDct
        refine ⟨Nat.zero_le _, Nat.zero_le _, le_line (m := 1) (Nat.le_refl _), le_line (m := 1) (Nat.le_refl _), le_line (m := 1) (Nat.le_refl _), le_line (m := 9) (Nat.le_refl _), ?_⟩
        refine for_ind (fun _ τ _ => ∃ x3 x4 x5 x6, τ = [some (.scr ns), some (.int i), some (.ref a), x3, x4, x5, x6, none]) _ ⟨_, _, _, _, rfl⟩ ?_ ?_
        · rintro pre d post τ h3 eq ⟨x3, x4, x5, x6, rfl⟩ D2 T2
          refine ⟨_, rfl, ?_⟩
          have hd : nr d = true ∧ ∀ s, d ≠ .str s := by
            have hm : d ∈ [D.non, D.int 0, D.bl true, D.tup [], D.lst [], D.lst [D.str "a"], D.dct, D.tup [D.tup [D.str "a"]], D.int (10 ^ 40)] := by rw [eq]; simp
            simp only [List.mem_cons, List.not_mem_nil, or_false] at hm
            rcases hm with rfl | rfl | rfl | rfl | rfl | rfl | rfl | rfl | rfl
            · exact ⟨rfl, fun s e => by cases e⟩
            · exact ⟨rfl, fun s e => by cases e⟩
            · exact ⟨rfl, fun s e => by cases e⟩
            · exact ⟨by decide +kernel, fun s e => by cases e⟩
            · exact ⟨by decide +kernel, fun s e => by cases e⟩
            · exact ⟨by decide +kernel, fun s e => by cases e⟩
            · exact ⟨rfl, fun s e => by cases e⟩
            · exact ⟨by decide +kernel, fun s e => by cases e⟩
            · exact ⟨rfl, fun s e => by cases e⟩
          have okd : okT d := ⟨hd.1, fun s e => absurd e (hd.2 s)⟩
          simp only [w4]
          rw [e_dIf, e_dNot, e_dTest]
          simp only [e_dCall, e_dCons, e_dNil, v4]
          refine i_text_right okd ?_
          refine ⟨fun z => (by cases z), fun _ => ?_⟩
          rw [e_dNext]
          exact T2.nx _ _ ⟨_, _, _, _, rfl⟩
        · rintro τ h3 ⟨x3, x4, x5, x6, rfl⟩
          exact T.nx _ _ ⟨_, _, _, _, _, _, rfl⟩
    · rintro τ h' ⟨x1, x2, x3, x4, x5, x6, rfl⟩
      dsimp only
      rw [e_dSeq, e_dAsg, e_dLst]
      simp only [e_dCons, e_dNil, e_dC]
      refine ⟨le_line (m := 13) (Nat.le_refl _), ?_⟩
      simp only [w7]
      rw [e_dSeq, e_dAsg, e_dOp]
      simp only [e_dCons, e_dNil, e_dC, v7, e_dLst, op_AddL]
      refine ⟨le_line (m := 2) (Nat.le_refl _), le_line (m := 15) (Nat.le_refl _), ?_⟩
      simp only [w7]
      rw [e_dSeq, e_dAsg, e_dOp]
      simp only [e_dCons, e_dNil, e_dC, v7, e_dBM, e_dOp, e_dLst, dT_str, true_and, op_MulL, op_AddL]
      refine ⟨le_line (m := 1) (Nat.le_refl _), by decide, by decide, le_line (m := 60) (by show 1 * 60 ≤ 60; decide), ?_⟩
      have jn : ∀ (zs : List Str) (h : DH) (Q : DK), SY zs ≤ 200 → Q (.str (Txt.join "\n" zs)) h → dJoin (.str (Str.ofString "\n")) [.lst (zs.map D.str)] h Q := fun zs h Q hz q => by
        rw [me_joinL, strsOf_map]
        exact ⟨Nat.le_trans (joinN_sz zs).2 (Nat.le_trans hz (by decide)), q⟩
      have tj : ∀ zs : List Str, SY zs ≤ 200 → (∀ w ∈ zs, w = Str.ofString "a" ∨ w = Str.ofString "A") → Tc (Txt.join "\n" zs) ∧ (Txt.join "\n" zs).length ≤ 200 := fun zs hz hw =>
        ⟨Tc.join fun w h => (fixed_ok w (by rcases hw w h with e | e <;> rw [e] <;> simp)).2, Nat.le_trans (joinN_sz zs).1 hz⟩
      obtain ⟨z1, e1⟩ : ∃ z, z = List.replicate 60 (Str.ofString "a") := ⟨_, rfl⟩
      obtain ⟨z2, e2⟩ : ∃ z, z = List.replicate 61 (Str.ofString "a") := ⟨_, rfl⟩
      have r60 : rpt 60 [D.str (Str.ofString "a")] = z1.map D.str := by rw [e1]; rfl
      have r61 : rpt 61 [D.str (Str.ofString "a")] = z2.map D.str := by rw [e2]; rfl
      have s1 : SY z1 ≤ 200 := by rw [e1]; decide +kernel
      have s2 : SY z2 ≤ 200 := by rw [e2]; decide +kernel
      have s3 : SY (z1 ++ [Str.ofString "A"]) ≤ 200 := by rw [e1]; decide +kernel
      have m1 : ∀ w ∈ z1, w = Str.ofString "a" ∨ w = Str.ofString "A" := fun w hw => .inl (by rw [e1] at hw; exact List.eq_of_mem_replicate hw)
      have m2 : ∀ w ∈ z2, w = Str.ofString "a" ∨ w = Str.ofString "A" := fun w hw => .inl (by rw [e2] at hw; exact List.eq_of_mem_replicate hw)
      have m3 : ∀ w ∈ z1 ++ [Str.ofString "A"], w = Str.ofString "a" ∨ w = Str.ofString "A" := fun w hw => (List.mem_append.mp hw).elim (m1 w) fun z => .inr (List.mem_singleton.mp z)
      have l1 : z1.length = 60 := by rw [e1, List.length_replicate]
      have r3 : rpt 60 [D.str (Str.ofString "a")] ++ [D.str (Str.ofString "A")] = (z1 ++ [Str.ofString "A"]).map D.str := by rw [r60, List.map_append]; rfl
      rw [r3, r60, r61]
      refine jn z1 _ _ s1 ?_
      refine ⟨le_line (m := 1) (Nat.le_refl _), by decide, by decide, le_line (m := 61) (by show 1 * 61 ≤ 61; decide), ?_⟩
      refine jn z2 _ _ s2 ?_
      refine ⟨le_line (m := 1) (Nat.le_refl _), by decide, by decide, le_line (m := 60) (by show 1 * 60 ≤ 60; decide), le_line (m := 1) (Nat.le_refl _), le_line (m := 61) (by rw [List.length_map, l1]; exact Nat.le_refl _), ?_⟩
      refine jn _ _ _ s3 ?_
      have t1 := tj _ s1 m1
      have t2 := tj _ s2 m2
      have t3 := tj _ s3 m3
      generalize Txt.join "\n" z1 = a1 at t1
      generalize Txt.join "\n" z2 = a2 at t2
      generalize Txt.join "\n" (z1 ++ [Str.ofString "A"]) = a3 at t3
      refine ⟨le_line (m := 5) (Nat.le_refl _), le_line (m := 20) (Nat.le_refl _), ?_⟩
      obtain ⟨FL, hFL⟩ : ∃ FL : List Str, FL = fixedT ++ [a1, a2, a3, Str.ofString "a \n", Str.ofString "a\n1\n-"] := ⟨_, rfl⟩
      have good : ∀ s ∈ FL, okT (.str s) := fun s hs => by
        rw [hFL] at hs
        have lit : ∀ t ∈ (fixedT ++ [Str.ofString "a \n", Str.ofString "a\n1\n-"] ++ [Str.ofString "a", Str.ofString "A"]), okT (.str t) := fun t ht => okT_s (fixed_ok t ht).2 (by have := (fixed_ok t ht).1; omega)
        rcases List.mem_append.mp hs with z | z
        · exact lit s (by rw [List.append_assoc]; exact List.mem_append_left _ z)
        · simp only [List.mem_cons, List.not_mem_nil, or_false] at z
          rcases z with rfl | rfl | rfl | rfl | rfl
          · exact okT_s t1.1 (by omega)
          · exact okT_s t2.1 (by omega)
          · exact okT_s t3.1 (by omega)
          · exact lit _ (by simp)
          · exact lit _ (by simp)
      rw [e_dRet, e_dOp, e_dLc, e_iSeqD]
      simp only [w7, v7, it_lst]
      rw [show ([D.str (Str.ofString ""), D.str (Str.ofString "\n"), D.str (Str.ofString "a"), D.str (Str.ofString "a\n"), D.str (Str.ofString "a\n\nb"), D.str (Str.ofString ","), D.str (Str.ofString "a,"), D.str (Str.ofString ",a"), D.str (Str.ofString "a\nb,c"), D.str (Str.ofString ",,,,,"), D.str (Str.ofString ",,,,,,"), D.str (Str.ofString "a,,b"), D.str (Str.ofString "A")] ++ [D.str (Str.ofString "abcdefgh"), D.str (Str.ofString "abcdefghi")] ++ [D.str a1, D.str a2, D.str a3, D.str (Str.ofString "a \n"), D.str (Str.ofString "a\n1\n-")] : List D) = FL.map D.str by rw [hFL]; rfl]
      refine ⟨by rw [List.length_map, hFL, List.length_append]; exact Nat.le_trans (show 15 + 5 ≤ 20 by decide) (by decide), ?_⟩
      refine lc_fil D.str D.str (fun _ => false) FL (fun s hs => ⟨_, rfl, fun Q' q' => ?_, fun z => (by cases z)⟩) ?_
      · have okd := good s hs
        simp only [dwipe, w5, e_dNot, e_dTest, e_dCall, e_dCons, e_dNil, v5]
        exact i_text_right okd q'
      · rw [show (FL.filter fun _ => false) = [] from List.filter_eq_nil_iff.mpr fun _ _ => by simp]
        rw [e_dLst, e_dNil]
        refine ⟨Nat.zero_le _, ?_⟩
        show dn 12 (.lst []) = true ∧ dn 12 (.lst []) = true ∧ (dEnd Q X).rt (.bl (eqvD (.lst []) (.lst []))) h'
        exact ⟨rfl, rfl, dend0 (z _)⟩

end DL

namespace DL
open PySem L2
/-! ## the law k59: the text by places -/
def top (i : Nat) : Stmt := PySem.Challenge.pw_dittorows_k59_texts_of_no_rows.main.body.getD i (.Pass ⟨0, 0, 0, 0⟩)
abbrev N_is_cell : List Str := ["value", "sign"]
abbrev s_is_cell : Stmt := top 8
abbrev N_blanks_in : List Str := ["cells", "found"]
abbrev s_blanks_in : Stmt := top 9
abbrev N_is_printed_row : List Str := ["value", "cell"]
abbrev s_is_printed_row : Stmt := top 10
abbrev N_row_in : List Str := ["line", "found", "cell"]
abbrev s_row_in : Stmt := top 13
abbrev N_parse_rows : List Str := ["text", "found", "index", "line", "row"]
abbrev s_parse_rows : Stmt := top 14
abbrev N_law_urn : List Str := ["cells_here", "k", "cell"]
abbrev s_law_urn : Stmt := top 16
abbrev N_law_draw : List Str := ["urn", "many", "digit", "mixed"]
abbrev s_law_draw : Stmt := top 17
abbrev N_law_item : List Str := ["urn", "signs", "turn"]
abbrev s_law_item : Stmt := top 18
abbrev N_law_row : List Str := ["urn", "wide", "above", "fresh", "kept", "turn"]
abbrev s_law_row : Stmt := top 19
abbrev N_law_shared : List Str := ["one", "two", "many", "here", "there"]
abbrev s_law_shared : Stmt := top 20
abbrev N_law_page : List Str := ["urn", "most", "wide", "many", "found", "above", "turn", "own", "few"]
abbrev s_law_page : Stmt := top 21
abbrev N_law_loose : List Str := ["urn", "most", "some", "cut", "few"]
abbrev s_law_loose : Stmt := top 22
abbrev N_law_text : List Str := ["some", "found", "own", "cell"]
abbrev s_law_text : Stmt := top 23
abbrev N_law_cells : List Str := ["line_here", "found", "part", "odd", "sign", "cell"]
abbrev s_law_cells : Stmt := top 24
abbrev N_law_parsed : List Str := ["page_here", "found", "spot", "line_here", "own"]
abbrev s_law_parsed : Stmt := top 25
abbrev N_text_told : List Str := ["thing", "way", "e"]
abbrev s_text_told : Stmt := top 26
abbrev N_text_right : List Str := ["thing", "due", "found"]
abbrev s_text_right : Stmt := top 27
abbrev N_text_spoiled : List Str := ["urn", "page_here", "spot", "lines_here", "at", "sign", "own", "head", "tail", "some", "first", "rest", "few"]
abbrev s_text_spoiled : Stmt := top 28
abbrev N_law : List Str := ["script", "k", "urn", "turn", "thing", "page_here", "change", "fixed"]
abbrev s_law : Stmt := top 29
abbrev s_InvalidLines_init : Stmt := inClass (top 2) 0
structure Ad where
  f_is_cell : Addr
  d_is_cell : FuncData
  f_blanks_in : Addr
  d_blanks_in : FuncData
  f_is_printed_row : Addr
  d_is_printed_row : FuncData
  f_row_in : Addr
  d_row_in : FuncData
  f_parse_rows : Addr
  d_parse_rows : FuncData
  f_law_urn : Addr
  d_law_urn : FuncData
  f_law_draw : Addr
  d_law_draw : FuncData
  f_law_item : Addr
  d_law_item : FuncData
  f_law_row : Addr
  d_law_row : FuncData
  f_law_shared : Addr
  d_law_shared : FuncData
  f_law_page : Addr
  d_law_page : FuncData
  f_law_loose : Addr
  d_law_loose : FuncData
  f_law_text : Addr
  d_law_text : FuncData
  f_law_cells : Addr
  d_law_cells : FuncData
  f_law_parsed : Addr
  d_law_parsed : FuncData
  f_text_told : Addr
  d_text_told : FuncData
  f_text_right : Addr
  d_text_right : FuncData
  f_text_spoiled : Addr
  d_text_spoiled : FuncData
  f_law : Addr
  d_law : FuncData
  t_BETWEEN : Tok
  t_MOST_ROWS : Tok
  t_MOST_SIGNS : Tok
  t_MOST_WIDTH : Tok
  t_SIGNS : Tok
  C_InvalidLines : Addr
  f_InvalidLines_init : Addr
  d_InvalidLines_init : FuncData
  C_DittoError : Addr
structure Txt (K : PySem.W.Frag) (mg : Str → Option Value) (A : Ad) : Prop where
  F_is_cell : Fun K "is_cell" "is_cell" s_is_cell A.f_is_cell A.d_is_cell
  m_is_cell : mg "is_cell" = some (.ref A.f_is_cell)
  k_is_cell : PySem.W.keepIn K (.ref A.f_is_cell) = true
  b_is_cell : Binds K A.d_is_cell ["value"] []
  F_blanks_in : Fun K "blanks_in" "blanks_in" s_blanks_in A.f_blanks_in A.d_blanks_in
  m_blanks_in : mg "blanks_in" = some (.ref A.f_blanks_in)
  k_blanks_in : PySem.W.keepIn K (.ref A.f_blanks_in) = true
  b_blanks_in : Binds K A.d_blanks_in ["cells"] []
  F_is_printed_row : Fun K "is_printed_row" "is_printed_row" s_is_printed_row A.f_is_printed_row A.d_is_printed_row
  m_is_printed_row : mg "is_printed_row" = some (.ref A.f_is_printed_row)
  k_is_printed_row : PySem.W.keepIn K (.ref A.f_is_printed_row) = true
  b_is_printed_row : Binds K A.d_is_printed_row ["value"] []
  F_row_in : Fun K "row_in" "row_in" s_row_in A.f_row_in A.d_row_in
  m_row_in : mg "row_in" = some (.ref A.f_row_in)
  k_row_in : PySem.W.keepIn K (.ref A.f_row_in) = true
  b_row_in : Binds K A.d_row_in ["line"] []
  F_parse_rows : Fun K "parse_rows" "parse_rows" s_parse_rows A.f_parse_rows A.d_parse_rows
  m_parse_rows : mg "parse_rows" = some (.ref A.f_parse_rows)
  k_parse_rows : PySem.W.keepIn K (.ref A.f_parse_rows) = true
  b_parse_rows : Binds K A.d_parse_rows ["text"] []
  F_law_urn : Fun K "_law_urn" "_law_urn" s_law_urn A.f_law_urn A.d_law_urn
  m_law_urn : mg "_law_urn" = some (.ref A.f_law_urn)
  k_law_urn : PySem.W.keepIn K (.ref A.f_law_urn) = true
  b_law_urn : Binds K A.d_law_urn ["cells_here", "k"] []
  F_law_draw : Fun K "_law_draw" "_law_draw" s_law_draw A.f_law_draw A.d_law_draw
  m_law_draw : mg "_law_draw" = some (.ref A.f_law_draw)
  k_law_draw : PySem.W.keepIn K (.ref A.f_law_draw) = true
  b_law_draw : Binds K A.d_law_draw ["urn", "many"] []
  F_law_item : Fun K "_law_item" "_law_item" s_law_item A.f_law_item A.d_law_item
  m_law_item : mg "_law_item" = some (.ref A.f_law_item)
  k_law_item : PySem.W.keepIn K (.ref A.f_law_item) = true
  b_law_item : Binds K A.d_law_item ["urn"] []
  F_law_row : Fun K "_law_row" "_law_row" s_law_row A.f_law_row A.d_law_row
  m_law_row : mg "_law_row" = some (.ref A.f_law_row)
  k_law_row : PySem.W.keepIn K (.ref A.f_law_row) = true
  b_law_row : Binds K A.d_law_row ["urn", "wide", "above"] []
  F_law_shared : Fun K "_law_shared" "_law_shared" s_law_shared A.f_law_shared A.d_law_shared
  m_law_shared : mg "_law_shared" = some (.ref A.f_law_shared)
  k_law_shared : PySem.W.keepIn K (.ref A.f_law_shared) = true
  b_law_shared : Binds K A.d_law_shared ["one", "two"] []
  F_law_page : Fun K "_law_page" "_law_page" s_law_page A.f_law_page A.d_law_page
  m_law_page : mg "_law_page" = some (.ref A.f_law_page)
  k_law_page : PySem.W.keepIn K (.ref A.f_law_page) = true
  b_law_page : Binds K A.d_law_page ["urn", "most"] []
  F_law_loose : Fun K "_law_loose" "_law_loose" s_law_loose A.f_law_loose A.d_law_loose
  m_law_loose : mg "_law_loose" = some (.ref A.f_law_loose)
  k_law_loose : PySem.W.keepIn K (.ref A.f_law_loose) = true
  b_law_loose : Binds K A.d_law_loose ["urn", "most"] []
  F_law_text : Fun K "_law_text" "_law_text" s_law_text A.f_law_text A.d_law_text
  m_law_text : mg "_law_text" = some (.ref A.f_law_text)
  k_law_text : PySem.W.keepIn K (.ref A.f_law_text) = true
  b_law_text : Binds K A.d_law_text ["some"] []
  F_law_cells : Fun K "_law_cells" "_law_cells" s_law_cells A.f_law_cells A.d_law_cells
  m_law_cells : mg "_law_cells" = some (.ref A.f_law_cells)
  k_law_cells : PySem.W.keepIn K (.ref A.f_law_cells) = true
  b_law_cells : Binds K A.d_law_cells ["line_here"] []
  F_law_parsed : Fun K "_law_parsed" "_law_parsed" s_law_parsed A.f_law_parsed A.d_law_parsed
  m_law_parsed : mg "_law_parsed" = some (.ref A.f_law_parsed)
  k_law_parsed : PySem.W.keepIn K (.ref A.f_law_parsed) = true
  b_law_parsed : Binds K A.d_law_parsed ["page_here"] []
  F_text_told : Fun K "_law_told" "_law_told" s_text_told A.f_text_told A.d_text_told
  m_text_told : mg "_law_told" = some (.ref A.f_text_told)
  k_text_told : PySem.W.keepIn K (.ref A.f_text_told) = true
  b_text_told : Binds K A.d_text_told ["thing", "way"] []
  F_text_right : Fun K "_law_right" "_law_right" s_text_right A.f_text_right A.d_text_right
  m_text_right : mg "_law_right" = some (.ref A.f_text_right)
  k_text_right : PySem.W.keepIn K (.ref A.f_text_right) = true
  b_text_right : Binds K A.d_text_right ["thing"] []
  F_text_spoiled : Fun K "_law_spoiled" "_law_spoiled" s_text_spoiled A.f_text_spoiled A.d_text_spoiled
  m_text_spoiled : mg "_law_spoiled" = some (.ref A.f_text_spoiled)
  k_text_spoiled : PySem.W.keepIn K (.ref A.f_text_spoiled) = true
  b_text_spoiled : Binds K A.d_text_spoiled ["urn", "page_here"] []
  F_law : Fun K "law" "law" s_law A.f_law A.d_law
  m_law : mg "law" = some (.ref A.f_law)
  k_law : PySem.W.keepIn K (.ref A.f_law) = true
  b_law : Binds K A.d_law ["script"] []
  b_parse_rows_0_text : Bd K A.d_parse_rows ["text"] 0 ["text"] [0]
  n_abs : mg "abs" = none
  n_all : mg "all" = none
  n_enumerate : mg "enumerate" = none
  n_isinstance : mg "isinstance" = none
  n_len : mg "len" = none
  n_max : mg "max" = none
  n_min : mg "min" = none
  n_range : mg "range" = none
  n_repr : mg "repr" = none
  n_str : mg "str" = none
  n_tuple : mg "tuple" = none
  n_zip : mg "zip" = none
  g_BETWEEN : mg "BETWEEN" = some (.str "," A.t_BETWEEN)
  g_MOST_ROWS : mg "MOST_ROWS" = some (.int 60 A.t_MOST_ROWS)
  g_MOST_SIGNS : mg "MOST_SIGNS" = some (.int 8 A.t_MOST_SIGNS)
  g_MOST_WIDTH : mg "MOST_WIDTH" = some (.int 6 A.t_MOST_WIDTH)
  g_SIGNS : mg "SIGNS" = some (.str "abcdefghijklmnopqrstuvwxyz0123456789" A.t_SIGNS)
  x_InvalidLines : Xi K mg A.C_InvalidLines A.f_InvalidLines_init A.d_InvalidLines_init "InvalidLines.__init__" "InvalidLines" "index" s_InvalidLines_init
  xf_InvalidLines : XfC K A.C_InvalidLines
  hm_InvalidLines : PySem.W.exmOne K (.ref A.C_InvalidLines) (.ref A.C_InvalidLines) = some true
  m_InvalidLines : mg "InvalidLines" = some (.ref A.C_InvalidLines)
  m_DittoError : mg "DittoError" = some (.ref A.C_DittoError)
  fx : (Er.fld A.C_InvalidLines "index") = Er.fld A.C_InvalidLines "index"
section
variable {P : Program} {w : World} {K : PySem.W.Frag} {mg : Str → Option Value} {base : Heap} {A : Ad}
theorem ok_InvalidLines_init (T : Txt K mg A) : FnOk P w K mg base (L2N.CX P w) 1 A.f_InvalidLines_init A.d_InvalidLines_init (pI "index") (spI A.C_InvalidLines "index") := ok_init T.x_InvalidLines ⟨rfl, rfl, rfl, by decide +kernel, rfl, by decide +kernel, by decide +kernel⟩ fun cdv A0 outer s H E => pss_one (ps_ost (pe_var rfl (Or.inl rfl)) (pe_var rfl (Or.inl rfl)))
theorem sc_is_cell : FnScope N_is_cell ["value"] (defScope s_is_cell) := ⟨rfl, rfl, rfl, by decide +kernel, rfl, by decide +kernel, by decide +kernel⟩
theorem ok_is_cell (T : Txt K mg A) : FnG P w K mg base 1 A.f_is_cell A.d_is_cell ["value"] (liftSp K sp_is_cell) := by
  refine dokG T.F_is_cell sc_is_cell (fun ds h Q X z => ?_) (fun cdv A0 outer s H E hr hgd => ?_) (rd_is_cell)
  · unfold sp_is_cell at z; split at z <;> first | rfl | exact z.elim
  have tk : L2N.Takes (cxD P w K mg base N_is_cell "is_cell" (defScope s_is_cell) A.f_is_cell cdv A0 outer s H E) (wE E) := L2N.takes_of rfl rfl rfl rfl
  have ps : PassesOwn (model P w) (cxD P w K mg base N_is_cell "is_cell" (defScope s_is_cell) A.f_is_cell cdv A0 outer s H E).A (cxD P w K mg base N_is_cell "is_cell" (defScope s_is_cell) A.f_is_cell cdv A0 outer s H E).env (cxD P w K mg base N_is_cell "is_cell" (defScope s_is_cell) A.f_is_cell cdv A0 outer s H E).xe := passes_of rfl
  exact (ds_one (ds_ret (d_andV (d_isi (T := "str") (x := Str.empty) (by decide) rfl T.n_isinstance rfl T.n_str bt_str (d_var 0)) (d_andV (d_chain od_le od_le d_int (d_callB cd_len rfl T.n_len bt_len (d_cons (d_var 0) d_nil)) (d_globI rfl T.g_MOST_SIGNS ⟨_, rfl⟩)) (pe_one (d_callB (cd_all rfl) rfl T.n_all bt_all (d_cons (d_lc (own := [("sign", 1)]) (W0 := W00) rfl sc_is_cell.nd (di_seq (d_var 0)) (blkOk_by (own := [("sign", 1)]) (N := N_is_cell) (sc := defScope s_is_cell) (by decide +kernel)) (by decide) (fun _ _ _ _ _ => (pgi 1 sc_is_cell.nd)) (fun _ _ _ _ _ => dts_nil) (fun _ _ _ _ _ => (d_cmp od_inS (d_var 1) (d_globS rfl T.g_SIGNS ⟨_, rfl⟩)))) d_nil)))))))
theorem sc_blanks_in : FnScope N_blanks_in ["cells"] (defScope s_blanks_in) := ⟨rfl, rfl, rfl, by decide +kernel, rfl, by decide +kernel, by decide +kernel⟩
theorem ok_blanks_in (T : Txt K mg A) : FnG P w K mg base 1 A.f_blanks_in A.d_blanks_in ["cells"] (liftSp K sp_blanks_in) := by
  refine dokG T.F_blanks_in sc_blanks_in (fun ds h Q X z => ?_) (fun cdv A0 outer s H E hr hgd => ?_) (rd_blanks_in)
  · unfold sp_blanks_in at z; split at z <;> first | rfl | exact z.elim
  have tk : L2N.Takes (cxD P w K mg base N_blanks_in "blanks_in" (defScope s_blanks_in) A.f_blanks_in cdv A0 outer s H E) (wE E) := L2N.takes_of rfl rfl rfl rfl
  have ps : PassesOwn (model P w) (cxD P w K mg base N_blanks_in "blanks_in" (defScope s_blanks_in) A.f_blanks_in cdv A0 outer s H E).A (cxD P w K mg base N_blanks_in "blanks_in" (defScope s_blanks_in) A.f_blanks_in cdv A0 outer s H E).env (cxD P w K mg base N_blanks_in "blanks_in" (defScope s_blanks_in) A.f_blanks_in cdv A0 outer s H E).xe := passes_of rfl
  exact (ds_cons (ds_set (i := 1) sc_blanks_in.nd d_int)
  (ds_cons (ds_while ps (PW.pt (d_and (d_cmpT od_lt (d_var 1) (d_callB cd_len rfl T.n_len bt_len (d_cons (d_var 0) d_nil))) (d_and1 (d_cmpT od_isN (d_ix xd_ix (d_var 0) (d_var 1)) d_non)))) (ds_one (ds_set (i := 1) sc_blanks_in.nd (d_op od_add (d_var 1) d_int))))
  (ds_one (ds_ret (d_var 1)))))
theorem sc_law_urn : FnScope N_law_urn ["cells_here", "k"] (defScope s_law_urn) := ⟨rfl, rfl, rfl, by decide +kernel, rfl, by decide +kernel, by decide +kernel⟩
theorem ok_law_urn (T : Txt K mg A) : FnG P w K mg base 1 A.f_law_urn A.d_law_urn ["cells_here", "k"] (liftSp K sp_law_urn) := by
  refine dokG T.F_law_urn sc_law_urn (fun ds h Q X z => ?_) (fun cdv A0 outer s H E hr hgd => ?_) (rd_law_urn)
  · unfold sp_law_urn at z; split at z <;> first | rfl | exact z.elim
  have tk : L2N.Takes (cxD P w K mg base N_law_urn "_law_urn" (defScope s_law_urn) A.f_law_urn cdv A0 outer s H E) (wE E) := L2N.takes_of rfl rfl rfl rfl
  have ps : PassesOwn (model P w) (cxD P w K mg base N_law_urn "_law_urn" (defScope s_law_urn) A.f_law_urn cdv A0 outer s H E).A (cxD P w K mg base N_law_urn "_law_urn" (defScope s_law_urn) A.f_law_urn cdv A0 outer s H E).env (cxD P w K mg base N_law_urn "_law_urn" (defScope s_law_urn) A.f_law_urn cdv A0 outer s H E).xe := passes_of rfl
  exact (ds_cons (ds_set (i := 2) sc_law_urn.nd (d_ifE (d_cmpT od_lt (d_var 1) (d_callB cd_len rfl T.n_len bt_len (d_cons (d_var 0) d_nil))) (d_ix xd_ix (d_var 0) (d_var 1)) d_int))
  (ds_one (ds_ret (d_lstM (d_cons (d_callB (cd_max2 rfl) rfl T.n_max bt_max (d_cons d_int (d_cons (d_op od_sub (d_callB cd_abs rfl T.n_abs bt_abs (d_cons (d_var 2) d_nil)) (d_op od_pow d_int d_int)) d_nil))) (d_cons (d_op od_mod (d_op od_add (d_op od_add (d_op od_mul (d_var 2) d_int) (d_op od_mul d_int (d_var 1))) d_int) (d_op od_add (d_op od_pow d_int d_int) d_int)) (d_cons d_int d_nil)))))))
theorem sc_law_draw : FnScope N_law_draw ["urn", "many"] (defScope s_law_draw) := ⟨rfl, rfl, rfl, by decide +kernel, rfl, by decide +kernel, by decide +kernel⟩
theorem ok_law_draw (T : Txt K mg A) : FnG P w K mg base 1 A.f_law_draw A.d_law_draw ["urn", "many"] (liftSp K sp_law_draw) := by
  refine dokG T.F_law_draw sc_law_draw (fun ds h Q X z => ?_) (fun cdv A0 outer s H E hr hgd => ?_) (rd_law_draw)
  · unfold sp_law_draw at z; split at z <;> first | rfl | exact z.elim
  have tk : L2N.Takes (cxD P w K mg base N_law_draw "_law_draw" (defScope s_law_draw) A.f_law_draw cdv A0 outer s H E) (wE E) := L2N.takes_of rfl rfl rfl rfl
  have ps : PassesOwn (model P w) (cxD P w K mg base N_law_draw "_law_draw" (defScope s_law_draw) A.f_law_draw cdv A0 outer s H E).A (cxD P w K mg base N_law_draw "_law_draw" (defScope s_law_draw) A.f_law_draw cdv A0 outer s H E).env (cxD P w K mg base N_law_draw "_law_draw" (defScope s_law_draw) A.f_law_draw cdv A0 outer s H E).xe := passes_of rfl
  exact (ds_cons (ds_if (d_cmpT od_gt (d_ix xd_ix (d_var 0) d_int) d_int) (ds_cons (ds_set (i := 2) sc_law_draw.nd (d_op od_mod (d_ix xd_ix (d_var 0) d_int) (d_var 1)))
  (ds_cons (ds_setI (d_op od_fdiv (d_ix xd_ix (d_var 0) d_int) (d_var 1)) (d_var 0) d_int)
  (ds_one (ds_ret (d_var 2))))) ds_nil)
  (ds_cons (ds_setI (d_op od_add (d_ix xd_ix (d_var 0) d_int) d_int) (d_var 0) d_int)
  (ds_cons (ds_set (i := 3) sc_law_draw.nd (d_op od_mod (d_op od_pow (d_op od_add (d_ix xd_ix (d_var 0) d_int) (d_op od_mul d_int (d_ix xd_ix (d_var 0) d_int))) d_int) (d_op od_add (d_op od_pow d_int d_int) d_int)))
  (ds_cons (ds_set (i := 3) sc_law_draw.nd (d_op od_mod (d_op od_pow (d_op od_add (d_var 3) (d_op od_mul d_int (d_ix xd_ix (d_var 0) d_int))) d_int) (d_op od_add (d_op od_pow d_int d_int) d_int)))
  (ds_one (ds_ret (d_op od_mod (d_op od_fdiv (d_var 3) (d_op od_pow d_int d_int)) (d_var 1))))))))
theorem sc_law_shared : FnScope N_law_shared ["one", "two"] (defScope s_law_shared) := ⟨rfl, rfl, rfl, by decide +kernel, rfl, by decide +kernel, by decide +kernel⟩
theorem ok_law_shared (T : Txt K mg A) : FnG P w K mg base 1 A.f_law_shared A.d_law_shared ["one", "two"] (liftSp K sp_law_shared) := by
  refine dokG T.F_law_shared sc_law_shared (fun ds h Q X z => ?_) (fun cdv A0 outer s H E hr hgd => ?_) (rd_law_shared)
  · unfold sp_law_shared at z; split at z <;> first | rfl | exact z.elim
  have tk : L2N.Takes (cxD P w K mg base N_law_shared "_law_shared" (defScope s_law_shared) A.f_law_shared cdv A0 outer s H E) (wE E) := L2N.takes_of rfl rfl rfl rfl
  have ps : PassesOwn (model P w) (cxD P w K mg base N_law_shared "_law_shared" (defScope s_law_shared) A.f_law_shared cdv A0 outer s H E).A (cxD P w K mg base N_law_shared "_law_shared" (defScope s_law_shared) A.f_law_shared cdv A0 outer s H E).env (cxD P w K mg base N_law_shared "_law_shared" (defScope s_law_shared) A.f_law_shared cdv A0 outer s H E).xe := passes_of rfl
  exact (ds_cons (ds_set (i := 2) sc_law_shared.nd d_int)
  (ds_cons (ds_for ps rfl (di_zip rfl T.n_zip (d_var 0) (d_var 1)) (pgt rfl (pgs1 (pgi 3 sc_law_shared.nd) (pgs1 (pgi 4 sc_law_shared.nd) pgs0))) (ds_cons (ds_if (d_cmpT (od_ne hr.units) (d_var 3) (d_var 4)) (ds_one (ds_ret (d_var 2))) ds_nil)
  (ds_one (ds_set (i := 2) sc_law_shared.nd (d_op od_add (d_var 2) d_int)))))
  (ds_one (ds_ret (d_var 2)))))
theorem sc_law_text : FnScope N_law_text ["some"] (defScope s_law_text) := ⟨rfl, rfl, rfl, by decide +kernel, rfl, by decide +kernel, by decide +kernel⟩
theorem ok_law_text (T : Txt K mg A) : FnG P w K mg base 1 A.f_law_text A.d_law_text ["some"] (liftSp K sp_law_text) := by
  refine dokG T.F_law_text sc_law_text (fun ds h Q X z => ?_) (fun cdv A0 outer s H E hr hgd => ?_) (rd_law_text)
  · unfold sp_law_text at z; split at z <;> first | rfl | exact z.elim
  have tk : L2N.Takes (cxD P w K mg base N_law_text "_law_text" (defScope s_law_text) A.f_law_text cdv A0 outer s H E) (wE E) := L2N.takes_of rfl rfl rfl rfl
  have ps : PassesOwn (model P w) (cxD P w K mg base N_law_text "_law_text" (defScope s_law_text) A.f_law_text cdv A0 outer s H E).A (cxD P w K mg base N_law_text "_law_text" (defScope s_law_text) A.f_law_text cdv A0 outer s H E).env (cxD P w K mg base N_law_text "_law_text" (defScope s_law_text) A.f_law_text cdv A0 outer s H E).xe := passes_of rfl
  exact (ds_cons (ds_set (i := 1) sc_law_text.nd (d_lstM d_nil))
  (ds_cons (ds_for ps rfl (di_seq (d_var 0)) (pgi 2 sc_law_text.nd) (ds_one (ds_expr (d_bm PySem.F.plainAttrs_list PySem.F.slot_list_append PySem.F.type_list_append md_append (d_var 1) (d_cons (d_bm PySem.F.plainAttrs_str PySem.F.slot_str_join PySem.F.type_str_join md_join d_str (d_cons (d_lc (own := [("cell", 3)]) (W0 := W00) rfl sc_law_text.nd (di_seq (d_var 2)) (blkOk_by (own := [("cell", 3)]) (N := N_law_text) (sc := defScope s_law_text) (by decide +kernel)) (by decide) (fun _ _ _ _ _ => (pgi 3 sc_law_text.nd)) (fun _ _ _ _ _ => dts_nil) (fun _ _ _ _ _ => (d_ifE (d_cmpT od_isN (d_var 3) d_non) d_str (d_var 3)))) d_nil)) d_nil)))))
  (ds_one (ds_ret (d_bm PySem.F.plainAttrs_str PySem.F.slot_str_join PySem.F.type_str_join md_join d_str (d_cons (d_var 1) d_nil))))))
theorem sc_law_cells : FnScope N_law_cells ["line_here"] (defScope s_law_cells) := ⟨rfl, rfl, rfl, by decide +kernel, rfl, by decide +kernel, by decide +kernel⟩
theorem ok_law_cells (T : Txt K mg A) : FnG P w K mg base 1 A.f_law_cells A.d_law_cells ["line_here"] (liftSp K sp_law_cells) := by
  refine dokG T.F_law_cells sc_law_cells (fun ds h Q X z => ?_) (fun cdv A0 outer s H E hr hgd => ?_) (rd_law_cells)
  · unfold sp_law_cells at z; split at z <;> first | rfl | exact z.elim
  have tk : L2N.Takes (cxD P w K mg base N_law_cells "_law_cells" (defScope s_law_cells) A.f_law_cells cdv A0 outer s H E) (wE E) := L2N.takes_of rfl rfl rfl rfl
  have ps : PassesOwn (model P w) (cxD P w K mg base N_law_cells "_law_cells" (defScope s_law_cells) A.f_law_cells cdv A0 outer s H E).A (cxD P w K mg base N_law_cells "_law_cells" (defScope s_law_cells) A.f_law_cells cdv A0 outer s H E).env (cxD P w K mg base N_law_cells "_law_cells" (defScope s_law_cells) A.f_law_cells cdv A0 outer s H E).xe := passes_of rfl
  exact (ds_cons (ds_set (i := 1) sc_law_cells.nd (d_lstM d_nil))
  (ds_cons (ds_for ps rfl (di_seq (d_bm PySem.F.plainAttrs_str PySem.F.slot_str_split PySem.F.type_str_split md_split (d_var 0) (d_cons d_str d_nil))) (pgi 2 sc_law_cells.nd) (ds_cons (ds_setLc (own := [("sign", 4)]) (W0 := W00) rfl sc_law_cells.nd (di_seq (d_var 2)) (blkOk_by (own := [("sign", 4)]) (N := N_law_cells) (sc := defScope s_law_cells) (by decide +kernel)) (by decide) (fun _ _ _ _ _ => (pgi 4 sc_law_cells.nd)) (fun _ _ _ _ _ => (dts_one (d_cmpT od_notInS (d_var 4) d_str))) (fun _ _ _ _ _ => (d_var 4)) (sw_true rfl rfl rfl (by decide +kernel)) (i := 3))
  (ds_cons (ds_if (PW.pt (d_or (d_cmpT (od_ne hr.units) (d_var 3) (d_lst d_nil)) (d_or (d_cmpT od_gt (d_callB cd_len rfl T.n_len bt_len (d_cons (d_var 2) d_nil)) d_int) (d_or1 (PW.pt (d_and (d_cmpT (od_eq hr.units) (d_var 2) d_str) (d_and1 (d_cmpT (od_ne hr.units) (d_lcK (own := [("cell", 5)]) (W0 := W00) rfl sc_law_cells.nd (pe_var (i := 1) rfl (by first | exact Or.inl rfl | exact Or.inr (Or.inl rfl) | exact Or.inr (Or.inr rfl))) (blkOk_by (own := [("cell", 5)]) (N := N_law_cells) (sc := defScope s_law_cells) (by decide +kernel)) (by decide) (fun _ _ _ _ _ => (pgi 5 sc_law_cells.nd)) (fun _ _ _ _ _ => (dts_one (d_cmpT od_isNN (d_var 5) d_non))) (fun _ _ _ _ _ => (d_var 5))) (d_lst d_nil))))))))) (ds_one (ds_ret d_non)) ds_nil)
  (ds_one (ds_expr (d_bm PySem.F.plainAttrs_list PySem.F.slot_list_append PySem.F.type_list_append md_append (d_var 1) (d_cons (d_ifE (d_cmpT (od_ne hr.units) (d_var 2) d_str) (d_var 2) d_non) d_nil)))))))
  (ds_one (ds_ret (d_ifE (d_cmpT od_le (d_callB cd_len rfl T.n_len bt_len (d_cons (d_var 1) d_nil)) d_int) (d_callTy cd_tuple rfl T.n_tuple bt_tuple (d_cons (d_var 1) d_nil)) d_non)))))
theorem sc_is_printed_row : FnScope N_is_printed_row ["value"] (defScope s_is_printed_row) := ⟨rfl, rfl, rfl, by decide +kernel, rfl, by decide +kernel, by decide +kernel⟩
theorem ok_is_printed_row (T : Txt K mg A) : FnG P w K mg base 2 A.f_is_printed_row A.d_is_printed_row ["value"] (liftSp K sp_is_printed_row) := by
  refine dokG T.F_is_printed_row sc_is_printed_row (fun ds h Q X z => ?_) (fun cdv A0 outer s H E hr hgd => ?_) (rd_is_printed_row)
  · unfold sp_is_printed_row at z; split at z <;> first | rfl | exact z.elim
  have tk : L2N.Takes (cxD P w K mg base N_is_printed_row "is_printed_row" (defScope s_is_printed_row) A.f_is_printed_row cdv A0 outer s H E) (wE E) := L2N.takes_of rfl rfl rfl rfl
  have ps : PassesOwn (model P w) (cxD P w K mg base N_is_printed_row "is_printed_row" (defScope s_is_printed_row) A.f_is_printed_row cdv A0 outer s H E).A (cxD P w K mg base N_is_printed_row "is_printed_row" (defScope s_is_printed_row) A.f_is_printed_row cdv A0 outer s H E).env (cxD P w K mg base N_is_printed_row "is_printed_row" (defScope s_is_printed_row) A.f_is_printed_row cdv A0 outer s H E).xe := passes_of rfl
  exact (ds_cons (ds_if (PW.pt (d_or (d_not (d_val (d_isi (T := "tuple") (x := Str.empty) (by decide) rfl T.n_isinstance rfl T.n_tuple bt_tuple (d_var 0)))) (d_or1 (d_not (d_chainT od_le od_le d_int (d_callB cd_len rfl T.n_len bt_len (d_cons (d_var 0) d_nil)) (d_globI rfl T.g_MOST_WIDTH ⟨_, rfl⟩)))))) (ds_one (ds_ret d_bl)) ds_nil)
  (ds_one (ds_ret (d_callB (cd_all rfl) rfl T.n_all bt_all (d_cons (d_lc (own := [("cell", 1)]) (W0 := W00) rfl sc_is_printed_row.nd (di_seq (d_slice sd_slice (d_var 0) (d_part (d_call (ok_blanks_in T) (hr.mono (by decide)) hgd T.m_blanks_in T.k_blanks_in T.b_blanks_in tk (d_cons (d_var 0) d_nil))) d_noPart)) (blkOk_by (own := [("cell", 1)]) (N := N_is_printed_row) (sc := defScope s_is_printed_row) (by decide +kernel)) (by decide) (fun _ _ _ _ _ => (pgi 1 sc_is_printed_row.nd)) (fun _ _ _ _ _ => dts_nil) (fun _ _ _ _ _ => (d_call (ok_is_cell T) (hr.mono (by decide)) hgd T.m_is_cell T.k_is_cell T.b_is_cell takes0N (d_cons (d_var 1) d_nil)))) d_nil)))))
theorem sc_law_item : FnScope N_law_item ["urn"] (defScope s_law_item) := ⟨rfl, rfl, rfl, by decide +kernel, rfl, by decide +kernel, by decide +kernel⟩
theorem ok_law_item (T : Txt K mg A) : FnG P w K mg base 2 A.f_law_item A.d_law_item ["urn"] (liftSp K sp_law_item) := by
  refine dokG T.F_law_item sc_law_item (fun ds h Q X z => ?_) (fun cdv A0 outer s H E hr hgd => ?_) (rd_law_item)
  · unfold sp_law_item at z; split at z <;> first | rfl | exact z.elim
  have tk : L2N.Takes (cxD P w K mg base N_law_item "_law_item" (defScope s_law_item) A.f_law_item cdv A0 outer s H E) (wE E) := L2N.takes_of rfl rfl rfl rfl
  have ps : PassesOwn (model P w) (cxD P w K mg base N_law_item "_law_item" (defScope s_law_item) A.f_law_item cdv A0 outer s H E).A (cxD P w K mg base N_law_item "_law_item" (defScope s_law_item) A.f_law_item cdv A0 outer s H E).env (cxD P w K mg base N_law_item "_law_item" (defScope s_law_item) A.f_law_item cdv A0 outer s H E).xe := passes_of rfl
  exact (ds_cons (ds_if (d_cmpT (od_eq hr.units) (d_call (ok_law_draw T) (hr.mono (by decide)) hgd T.m_law_draw T.k_law_draw T.b_law_draw tk (d_cons (d_var 0) (d_cons d_int d_nil))) d_int) (ds_cons (ds_set (i := 1) sc_law_item.nd d_str)
  (ds_one (ds_ret (d_bm PySem.F.plainAttrs_str PySem.F.slot_str_join PySem.F.type_str_join md_join d_str (d_cons (d_lc (own := [("turn", 2)]) (W0 := W00) rfl sc_law_item.nd (di_range1 rfl T.n_range (d_op od_add d_int (d_call (ok_law_draw T) (hr.mono (by decide)) hgd T.m_law_draw T.k_law_draw T.b_law_draw tk (d_cons (d_var 0) (d_cons d_int d_nil))))) (blkOk_by (own := [("turn", 2)]) (N := N_law_item) (sc := defScope s_law_item) (by decide +kernel)) (by decide) (fun _ _ _ _ _ => (pgi 2 sc_law_item.nd)) (fun _ _ _ _ _ => dts_nil) (fun _ _ _ _ _ => (d_ix xd_ix (d_var 1) (d_call (ok_law_draw T) (hr.mono (by decide)) hgd T.m_law_draw T.k_law_draw T.b_law_draw takes0N (d_cons (d_var 0) (d_cons d_int d_nil)))))) d_nil))))) ds_nil)
  (ds_one (ds_ret (d_ix xd_ix (d_lst (d_cons d_str (d_cons d_str (d_cons d_str (d_cons d_str (d_cons d_str (d_cons d_str d_nil))))))) (d_call (ok_law_draw T) (hr.mono (by decide)) hgd T.m_law_draw T.k_law_draw T.b_law_draw tk (d_cons (d_var 0) (d_cons (d_ix xd_ix (d_lst (d_cons d_int (d_cons d_int (d_cons d_int d_nil)))) (d_call (ok_law_draw T) (hr.mono (by decide)) hgd T.m_law_draw T.k_law_draw T.b_law_draw tk (d_cons (d_var 0) (d_cons d_int d_nil)))) d_nil)))))))
theorem sc_law_parsed : FnScope N_law_parsed ["page_here"] (defScope s_law_parsed) := ⟨rfl, rfl, rfl, by decide +kernel, rfl, by decide +kernel, by decide +kernel⟩
theorem ok_law_parsed (T : Txt K mg A) : FnG P w K mg base 2 A.f_law_parsed A.d_law_parsed ["page_here"] (liftSp K sp_law_parsed) := by
  refine dokG T.F_law_parsed sc_law_parsed (fun ds h Q X z => ?_) (fun cdv A0 outer s H E hr hgd => ?_) (rd_law_parsed)
  · unfold sp_law_parsed at z; split at z <;> first | rfl | exact z.elim
  have tk : L2N.Takes (cxD P w K mg base N_law_parsed "_law_parsed" (defScope s_law_parsed) A.f_law_parsed cdv A0 outer s H E) (wE E) := L2N.takes_of rfl rfl rfl rfl
  have ps : PassesOwn (model P w) (cxD P w K mg base N_law_parsed "_law_parsed" (defScope s_law_parsed) A.f_law_parsed cdv A0 outer s H E).A (cxD P w K mg base N_law_parsed "_law_parsed" (defScope s_law_parsed) A.f_law_parsed cdv A0 outer s H E).env (cxD P w K mg base N_law_parsed "_law_parsed" (defScope s_law_parsed) A.f_law_parsed cdv A0 outer s H E).xe := passes_of rfl
  exact (ds_cons (ds_set (i := 1) sc_law_parsed.nd (d_lstM d_nil))
  (ds_cons (ds_for ps rfl (di_enum rfl T.n_enumerate (d_bm PySem.F.plainAttrs_str PySem.F.slot_str_split PySem.F.type_str_split md_split (d_var 0) (d_cons d_str d_nil))) (pgt rfl (pgs1 (pgi 2 sc_law_parsed.nd) (pgs1 (pgi 3 sc_law_parsed.nd) pgs0))) (ds_cons (ds_set (i := 4) sc_law_parsed.nd (d_call (ok_law_cells T) (hr.mono (by decide)) hgd T.m_law_cells T.k_law_cells T.b_law_cells tk (d_cons (d_var 3) d_nil)))
  (ds_cons (ds_if (PW.pt (d_or (d_cmpT od_isN (d_var 4) d_non) (d_or (d_cmpT od_gt (d_var 2) d_int) (d_or1 (PW.pt (d_and (d_cmpT (od_ne hr.units) (d_var 1) (d_lst d_nil)) (d_and1 (d_cmpT (od_ne hr.units) (d_callB cd_len rfl T.n_len bt_len (d_cons (d_var 4) d_nil)) (d_callB cd_len rfl T.n_len bt_len (d_cons (d_ix xd_ix (d_var 1) d_int) d_nil)))))))))) (ds_one (ds_ret (d_var 2))) ds_nil)
  (ds_one (ds_expr (d_bm PySem.F.plainAttrs_list PySem.F.slot_list_append PySem.F.type_list_append md_append (d_var 1) (d_cons (d_var 4) d_nil)))))))
  (ds_one (ds_ret (d_callTy cd_tuple rfl T.n_tuple bt_tuple (d_cons (d_var 1) d_nil))))))
theorem sc_text_spoiled : FnScope N_text_spoiled ["urn", "page_here"] (defScope s_text_spoiled) := ⟨rfl, rfl, rfl, by decide +kernel, rfl, by decide +kernel, by decide +kernel⟩
theorem ok_text_spoiled (T : Txt K mg A) : FnG P w K mg base 2 A.f_text_spoiled A.d_text_spoiled ["urn", "page_here"] (liftSp K sp_text_spoiled) := by
  refine dokG T.F_text_spoiled sc_text_spoiled (fun ds h Q X z => ?_) (fun cdv A0 outer s H E hr hgd => ?_) (rd_text_spoiled)
  · unfold sp_text_spoiled at z; split at z <;> first | rfl | exact z.elim
  have tk : L2N.Takes (cxD P w K mg base N_text_spoiled "_law_spoiled" (defScope s_text_spoiled) A.f_text_spoiled cdv A0 outer s H E) (wE E) := L2N.takes_of rfl rfl rfl rfl
  have ps : PassesOwn (model P w) (cxD P w K mg base N_text_spoiled "_law_spoiled" (defScope s_text_spoiled) A.f_text_spoiled cdv A0 outer s H E).A (cxD P w K mg base N_text_spoiled "_law_spoiled" (defScope s_text_spoiled) A.f_text_spoiled cdv A0 outer s H E).env (cxD P w K mg base N_text_spoiled "_law_spoiled" (defScope s_text_spoiled) A.f_text_spoiled cdv A0 outer s H E).xe := passes_of rfl
  exact (ds_cons (ds_par (i := 2) (j := 3) rfl sc_text_spoiled.nd (d_call (ok_law_draw T) (hr.mono (by decide)) hgd T.m_law_draw T.k_law_draw T.b_law_draw tk (d_cons (d_var 0) (d_cons (d_op od_add (d_callB cd_len rfl T.n_len bt_len (d_cons (d_var 1) d_nil)) d_int) d_nil))) (d_bm PySem.F.plainAttrs_str PySem.F.slot_str_split PySem.F.type_str_split md_split (d_var 1) (d_cons d_str d_nil)))
  (ds_cons (ds_par (i := 4) (j := 5) rfl sc_text_spoiled.nd (d_call (ok_law_draw T) (hr.mono (by decide)) hgd T.m_law_draw T.k_law_draw T.b_law_draw tk (d_cons (d_var 0) (d_cons (d_callB cd_len rfl T.n_len bt_len (d_cons (d_var 3) d_nil)) d_nil))) (d_ix xd_ix (d_lst (d_cons d_str (d_cons d_str (d_cons d_str (d_cons d_str (d_cons d_str (d_cons d_str (d_cons d_str (d_cons d_str (d_cons d_str d_nil)))))))))) (d_call (ok_law_draw T) (hr.mono (by decide)) hgd T.m_law_draw T.k_law_draw T.b_law_draw tk (d_cons (d_var 0) (d_cons d_int d_nil)))))
  (ds_cons (ds_set (i := 6) sc_text_spoiled.nd (d_ix xd_ix (d_lst (d_cons d_str (d_cons d_str (d_cons d_str (d_cons d_str (d_cons d_str (d_cons d_str (d_cons d_str (d_cons d_str (d_cons d_str (d_cons d_str (d_cons d_str d_nil)))))))))))) (d_call (ok_law_draw T) (hr.mono (by decide)) hgd T.m_law_draw T.k_law_draw T.b_law_draw tk (d_cons (d_var 0) (d_cons d_int d_nil)))))
  (ds_cons (ds_par (i := 7) (j := 8) rfl sc_text_spoiled.nd (d_slice sd_slice (d_var 1) d_noPart (d_part (d_var 2))) (d_slice sd_slice (d_var 1) (d_part (d_var 2)) d_noPart))
  (ds_cons (ds_set (i := 9) sc_text_spoiled.nd (d_lstM (d_cons (d_op od_add (d_op od_add (d_var 7) (d_var 5)) (d_var 8)) (d_cons (d_op od_add (d_var 7) (d_slice sd_slice (d_var 8) (d_part d_int) d_noPart)) (d_cons (d_op od_add (d_op od_add (d_var 7) (d_var 5)) (d_slice sd_slice (d_var 8) (d_part d_int) d_noPart)) d_nil)))))
  (ds_cons (ds_par (i := 10) (j := 11) rfl sc_text_spoiled.nd (d_slice sd_slice (d_var 3) d_noPart (d_part (d_var 4))) (d_slice sd_slice (d_var 3) (d_part (d_op od_add (d_var 4) d_int)) d_noPart))
  (ds_cons (ds_for ps rfl (di_seq (d_lst (d_cons (d_op od_add (d_var 10) (d_var 11)) (d_cons (d_op od_add (d_op od_add (d_var 10) (d_op od_mul (d_lst (d_cons (d_ix xd_ix (d_var 3) (d_var 4)) d_nil)) d_int)) (d_var 11)) (d_cons (d_op od_add (d_op od_add (d_var 10) (d_lst (d_cons (d_var 6) d_nil))) (d_var 11)) (d_cons (d_op od_add (d_var 11) (d_slice sd_slice (d_var 3) d_noPart (d_part (d_op od_add (d_var 4) d_int)))) d_nil)))))) (pgi 12 sc_text_spoiled.nd) (ds_one (ds_expr (d_bm PySem.F.plainAttrs_list PySem.F.slot_list_append PySem.F.type_list_append md_append (d_var 9) (d_cons (d_bm PySem.F.plainAttrs_str PySem.F.slot_str_join PySem.F.type_str_join md_join d_str (d_cons (d_var 12) d_nil)) d_nil)))))
  (ds_one (ds_ret (d_ix xd_ix (d_var 9) (d_call (ok_law_draw T) (hr.mono (by decide)) hgd T.m_law_draw T.k_law_draw T.b_law_draw tk (d_cons (d_var 0) (d_cons d_int d_nil)))))))))))))
theorem sc_row_in : FnScope N_row_in ["line"] (defScope s_row_in) := ⟨rfl, rfl, rfl, by decide +kernel, rfl, by decide +kernel, by decide +kernel⟩
theorem ok_row_in (T : Txt K mg A) : FnG P w K mg base 3 A.f_row_in A.d_row_in ["line"] (liftSp K sp_row_in) := by
  refine dokG T.F_row_in sc_row_in (fun ds h Q X z => ?_) (fun cdv A0 outer s H E hr hgd => ?_) (rd_row_in)
  · unfold sp_row_in at z; split at z <;> first | rfl | exact z.elim
  have tk : L2N.Takes (cxD P w K mg base N_row_in "row_in" (defScope s_row_in) A.f_row_in cdv A0 outer s H E) (wE E) := L2N.takes_of rfl rfl rfl rfl
  have ps : PassesOwn (model P w) (cxD P w K mg base N_row_in "row_in" (defScope s_row_in) A.f_row_in cdv A0 outer s H E).A (cxD P w K mg base N_row_in "row_in" (defScope s_row_in) A.f_row_in cdv A0 outer s H E).env (cxD P w K mg base N_row_in "row_in" (defScope s_row_in) A.f_row_in cdv A0 outer s H E).xe := passes_of rfl
  exact (ds_cons (ds_set (i := 1) sc_row_in.nd (d_callTy cd_tuple rfl T.n_tuple bt_tuple (d_cons (d_lc (own := [("cell", 2)]) (W0 := W00) rfl sc_row_in.nd (di_seq (d_bm PySem.F.plainAttrs_str PySem.F.slot_str_split PySem.F.type_str_split md_split (d_var 0) (d_cons (d_globS rfl T.g_BETWEEN ⟨_, rfl⟩) d_nil))) (blkOk_by (own := [("cell", 2)]) (N := N_row_in) (sc := defScope s_row_in) (by decide +kernel)) (by decide) (fun _ _ _ _ _ => (pgi 2 sc_row_in.nd)) (fun _ _ _ _ _ => dts_nil) (fun _ _ _ _ _ => (d_ifE (d_cmpT (od_ne hr.units) (d_var 2) d_str) (d_var 2) d_non))) d_nil)))
  (ds_one (ds_ret (d_ifE (d_val (d_call (ok_is_printed_row T) (hr.mono (by decide)) hgd T.m_is_printed_row T.k_is_printed_row T.b_is_printed_row tk (d_cons (d_var 1) d_nil))) (d_var 1) d_non))))
theorem sc_law_row : FnScope N_law_row ["urn", "wide", "above"] (defScope s_law_row) := ⟨rfl, rfl, rfl, by decide +kernel, rfl, by decide +kernel, by decide +kernel⟩
theorem ok_law_row (T : Txt K mg A) : FnG P w K mg base 3 A.f_law_row A.d_law_row ["urn", "wide", "above"] (liftSp K sp_law_row) := by
  refine dokG T.F_law_row sc_law_row (fun ds h Q X z => ?_) (fun cdv A0 outer s H E hr hgd => ?_) (rd_law_row)
  · unfold sp_law_row at z; split at z <;> first | rfl | exact z.elim
  have tk : L2N.Takes (cxD P w K mg base N_law_row "_law_row" (defScope s_law_row) A.f_law_row cdv A0 outer s H E) (wE E) := L2N.takes_of rfl rfl rfl rfl
  have ps : PassesOwn (model P w) (cxD P w K mg base N_law_row "_law_row" (defScope s_law_row) A.f_law_row cdv A0 outer s H E).A (cxD P w K mg base N_law_row "_law_row" (defScope s_law_row) A.f_law_row cdv A0 outer s H E).env (cxD P w K mg base N_law_row "_law_row" (defScope s_law_row) A.f_law_row cdv A0 outer s H E).xe := passes_of rfl
  exact (ds_cons (ds_set (i := 3) sc_law_row.nd (d_callTy cd_tuple rfl T.n_tuple bt_tuple (d_cons (d_lc (own := [("turn", 5)]) (W0 := W00) rfl sc_law_row.nd (di_range1 rfl T.n_range (d_var 1)) (blkOk_by (own := [("turn", 5)]) (N := N_law_row) (sc := defScope s_law_row) (by decide +kernel)) (by decide) (fun _ _ _ _ _ => (pgi 5 sc_law_row.nd)) (fun _ _ _ _ _ => dts_nil) (fun _ _ _ _ _ => (d_call (ok_law_item T) (hr.mono (by decide)) hgd T.m_law_item T.k_law_item T.b_law_item takes0N (d_cons (d_var 0) d_nil)))) d_nil)))
  (ds_cons (ds_if (d_cmpT od_isN (d_var 2) d_non) (ds_one (ds_ret (d_var 3))) ds_nil)
  (ds_cons (ds_set (i := 4) sc_law_row.nd (d_call (ok_law_draw T) (hr.mono (by decide)) hgd T.m_law_draw T.k_law_draw T.b_law_draw tk (d_cons (d_var 0) (d_cons (d_op od_add (d_var 1) d_int) d_nil))))
  (ds_one (ds_ret (d_op od_add (d_slice sd_slice (d_var 2) d_noPart (d_part (d_var 4))) (d_slice sd_slice (d_var 3) (d_part (d_var 4)) d_noPart)))))))
theorem sc_parse_rows : FnScope N_parse_rows ["text"] (defScope s_parse_rows) := ⟨rfl, rfl, rfl, by decide +kernel, rfl, by decide +kernel, by decide +kernel⟩
theorem ok_parse_rows (T : Txt K mg A) : FnG P w K mg base 4 A.f_parse_rows A.d_parse_rows ["text"] (liftSp K (sp_parse_rows (Er.fld A.C_InvalidLines "index"))) := by
  refine dokG T.F_parse_rows sc_parse_rows (fun ds h Q X z => ?_) (fun cdv A0 outer s H E hr hgd => ?_) (rd_parse_rows (Er.fld A.C_InvalidLines "index"))
  · unfold sp_parse_rows at z; split at z <;> first | rfl | exact z.elim
  have tk : L2N.Takes (cxD P w K mg base N_parse_rows "parse_rows" (defScope s_parse_rows) A.f_parse_rows cdv A0 outer s H E) (wE E) := L2N.takes_of rfl rfl rfl rfl
  have ps : PassesOwn (model P w) (cxD P w K mg base N_parse_rows "parse_rows" (defScope s_parse_rows) A.f_parse_rows cdv A0 outer s H E).A (cxD P w K mg base N_parse_rows "parse_rows" (defScope s_parse_rows) A.f_parse_rows cdv A0 outer s H E).env (cxD P w K mg base N_parse_rows "parse_rows" (defScope s_parse_rows) A.f_parse_rows cdv A0 outer s H E).xe := passes_of rfl
  exact (ds_cons (ds_if (d_not (d_val (d_isi (T := "str") (x := Str.empty) (by decide) rfl T.n_isinstance rfl T.n_str bt_str (d_var 0)))) (ds_one (ds_raiseF0 T.x_InvalidLines (ok_InvalidLines_init T) (hr.mono (by decide)) rfl tk rfl)) ds_nil)
  (ds_cons (ds_set (i := 1) sc_parse_rows.nd (d_lstM d_nil))
  (ds_cons (ds_for ps rfl (di_enum rfl T.n_enumerate (d_bm PySem.F.plainAttrs_str PySem.F.slot_str_split PySem.F.type_str_split md_split (d_var 0) (d_cons d_str d_nil))) (pgt rfl (pgs1 (pgi 2 sc_parse_rows.nd) (pgs1 (pgi 3 sc_parse_rows.nd) pgs0))) (ds_cons (ds_set (i := 4) sc_parse_rows.nd (d_call (ok_row_in T) (hr.mono (by decide)) hgd T.m_row_in T.k_row_in T.b_row_in tk (d_cons (d_var 3) d_nil)))
  (ds_cons (ds_if (PW.pt (d_or (d_cmpT od_isN (d_var 4) d_non) (d_or (PW.pt (d_and (d_cmpT (od_ne hr.units) (d_var 1) (d_lst d_nil)) (d_and1 (d_cmpT (od_ne hr.units) (d_callB cd_len rfl T.n_len bt_len (d_cons (d_var 4) d_nil)) (d_callB cd_len rfl T.n_len bt_len (d_cons (d_ix xd_ix (d_var 1) d_int) d_nil)))))) (d_or1 (d_cmpT (od_eq hr.units) (d_var 2) (d_globI rfl T.g_MOST_ROWS ⟨_, rfl⟩)))))) (ds_one (ds_raiseF1 T.x_InvalidLines (ok_InvalidLines_init T) (hr.mono (by decide)) rfl tk (pe_var rfl (by first | exact Or.inl rfl | exact Or.inr (Or.inl rfl) | exact Or.inr (Or.inr rfl))) rfl)) ds_nil)
  (ds_one (ds_expr (d_bm PySem.F.plainAttrs_list PySem.F.slot_list_append PySem.F.type_list_append md_append (d_var 1) (d_cons (d_var 4) d_nil)))))))
  (ds_one (ds_ret (d_callTy cd_tuple rfl T.n_tuple bt_tuple (d_cons (d_var 1) d_nil)))))))
theorem sc_law_page : FnScope N_law_page ["urn", "most"] (defScope s_law_page) := ⟨rfl, rfl, rfl, by decide +kernel, rfl, by decide +kernel, by decide +kernel⟩
theorem ok_law_page (T : Txt K mg A) : FnG P w K mg base 4 A.f_law_page A.d_law_page ["urn", "most"] (liftSp K sp_law_page) := by
  refine dokG T.F_law_page sc_law_page (fun ds h Q X z => ?_) (fun cdv A0 outer s H E hr hgd => ?_) (rd_law_page)
  · unfold sp_law_page at z; split at z <;> first | rfl | exact z.elim
  have tk : L2N.Takes (cxD P w K mg base N_law_page "_law_page" (defScope s_law_page) A.f_law_page cdv A0 outer s H E) (wE E) := L2N.takes_of rfl rfl rfl rfl
  have ps : PassesOwn (model P w) (cxD P w K mg base N_law_page "_law_page" (defScope s_law_page) A.f_law_page cdv A0 outer s H E).A (cxD P w K mg base N_law_page "_law_page" (defScope s_law_page) A.f_law_page cdv A0 outer s H E).env (cxD P w K mg base N_law_page "_law_page" (defScope s_law_page) A.f_law_page cdv A0 outer s H E).xe := passes_of rfl
  exact (ds_cons (ds_par (i := 2) (j := 3) rfl sc_law_page.nd (d_op od_add d_int (d_call (ok_law_draw T) (hr.mono (by decide)) hgd T.m_law_draw T.k_law_draw T.b_law_draw tk (d_cons (d_var 0) (d_cons (d_ix xd_ix (d_lst (d_cons d_int (d_cons d_int d_nil))) (d_call (ok_law_draw T) (hr.mono (by decide)) hgd T.m_law_draw T.k_law_draw T.b_law_draw tk (d_cons (d_var 0) (d_cons d_int d_nil)))) d_nil)))) (d_ix xd_ix (d_lst (d_cons (d_op od_add d_int (d_call (ok_law_draw T) (hr.mono (by decide)) hgd T.m_law_draw T.k_law_draw T.b_law_draw tk (d_cons (d_var 0) (d_cons (d_var 1) d_nil)))) (d_cons (d_var 1) d_nil))) (d_call (ok_law_draw T) (hr.mono (by decide)) hgd T.m_law_draw T.k_law_draw T.b_law_draw tk (d_cons (d_var 0) (d_cons d_int d_nil)))))
  (ds_cons (ds_par (i := 4) (j := 5) rfl sc_law_page.nd (d_lstM d_nil) d_non)
  (ds_cons (ds_for ps rfl (di_range1 rfl T.n_range (d_var 3)) (pgi 6 sc_law_page.nd) (ds_cons (ds_set (i := 7) sc_law_page.nd (d_call (ok_law_row T) (hr.mono (by decide)) hgd T.m_law_row T.k_law_row T.b_law_row tk (d_cons (d_var 0) (d_cons (d_var 2) (d_cons (d_var 5) d_nil)))))
  (ds_cons (ds_set (i := 8) sc_law_page.nd (d_ifE (d_cmpT od_isN (d_var 5) d_non) d_int (d_call (ok_law_shared T) (hr.mono (by decide)) hgd T.m_law_shared T.k_law_shared T.b_law_shared tk (d_cons (d_var 7) (d_cons (d_var 5) d_nil)))))
  (ds_cons (ds_set (i := 8) sc_law_page.nd (d_ix xd_ix (d_lst (d_cons (d_var 8) (d_cons (d_call (ok_law_draw T) (hr.mono (by decide)) hgd T.m_law_draw T.k_law_draw T.b_law_draw tk (d_cons (d_var 0) (d_cons (d_op od_add (d_var 8) d_int) d_nil))) d_nil))) (d_call (ok_law_draw T) (hr.mono (by decide)) hgd T.m_law_draw T.k_law_draw T.b_law_draw tk (d_cons (d_var 0) (d_cons d_int d_nil)))))
  (ds_cons (ds_expr (d_bm PySem.F.plainAttrs_list PySem.F.slot_list_append PySem.F.type_list_append md_append (d_var 4) (d_cons (d_op od_add (d_op od_mul (d_tup (d_cons d_non d_nil)) (d_var 8)) (d_slice sd_slice (d_var 7) (d_part (d_var 8)) d_noPart)) d_nil)))
  (ds_one (ds_set (i := 5) sc_law_page.nd (d_var 7))))))))
  (ds_one (ds_ret (d_callTy cd_tuple rfl T.n_tuple bt_tuple (d_cons (d_var 4) d_nil)))))))
theorem sc_law_loose : FnScope N_law_loose ["urn", "most"] (defScope s_law_loose) := ⟨rfl, rfl, rfl, by decide +kernel, rfl, by decide +kernel, by decide +kernel⟩
theorem ok_law_loose (T : Txt K mg A) : FnG P w K mg base 5 A.f_law_loose A.d_law_loose ["urn", "most"] (liftSp K sp_law_loose) := by
  refine dokG T.F_law_loose sc_law_loose (fun ds h Q X z => ?_) (fun cdv A0 outer s H E hr hgd => ?_) (rd_law_loose)
  · unfold sp_law_loose at z; split at z <;> first | rfl | exact z.elim
  have tk : L2N.Takes (cxD P w K mg base N_law_loose "_law_loose" (defScope s_law_loose) A.f_law_loose cdv A0 outer s H E) (wE E) := L2N.takes_of rfl rfl rfl rfl
  have ps : PassesOwn (model P w) (cxD P w K mg base N_law_loose "_law_loose" (defScope s_law_loose) A.f_law_loose cdv A0 outer s H E).A (cxD P w K mg base N_law_loose "_law_loose" (defScope s_law_loose) A.f_law_loose cdv A0 outer s H E).env (cxD P w K mg base N_law_loose "_law_loose" (defScope s_law_loose) A.f_law_loose cdv A0 outer s H E).xe := passes_of rfl
  exact (ds_cons (ds_set (i := 2) sc_law_loose.nd (d_call (ok_law_page T) (hr.mono (by decide)) hgd T.m_law_page T.k_law_page T.b_law_page tk (d_cons (d_var 0) (d_cons (d_var 1) d_nil))))
  (ds_cons (ds_set (i := 3) sc_law_loose.nd (d_op od_mul (d_call (ok_law_draw T) (hr.mono (by decide)) hgd T.m_law_draw T.k_law_draw T.b_law_draw tk (d_cons (d_var 0) (d_cons (d_callB cd_len rfl T.n_len bt_len (d_cons (d_var 2) d_nil)) d_nil))) (d_call (ok_law_draw T) (hr.mono (by decide)) hgd T.m_law_draw T.k_law_draw T.b_law_draw tk (d_cons (d_var 0) (d_cons d_int d_nil)))))
  (ds_cons (ds_set (i := 4) sc_law_loose.nd (d_call (ok_law_draw T) (hr.mono (by decide)) hgd T.m_law_draw T.k_law_draw T.b_law_draw tk (d_cons (d_var 0) (d_cons (d_op od_add (d_callB cd_len rfl T.n_len bt_len (d_cons (d_ix xd_ix (d_var 2) d_int) d_nil)) d_int) d_nil))))
  (ds_one (ds_ret (d_ix xd_ix (d_lst (d_cons (d_slice sd_slice (d_var 2) (d_part (d_var 3)) d_noPart) (d_cons (d_op od_add (d_tup (d_cons (d_op od_add (d_op od_mul (d_tup (d_cons d_non d_nil)) (d_var 4)) (d_slice sd_slice (d_ix xd_ix (d_var 2) d_int) (d_part (d_var 4)) d_noPart)) d_nil)) (d_slice sd_slice (d_var 2) (d_part d_int) d_noPart)) d_nil))) (d_call (ok_law_draw T) (hr.mono (by decide)) hgd T.m_law_draw T.k_law_draw T.b_law_draw tk (d_cons (d_var 0) (d_cons d_int d_nil)))))))))
theorem sc_text_told : FnScope N_text_told ["thing", "way"] (defScope s_text_told) := ⟨rfl, rfl, rfl, by decide +kernel, rfl, by decide +kernel, by decide +kernel⟩
theorem ok_text_told (T : Txt K mg A) : FnG P w K mg base 5 A.f_text_told A.d_text_told ["thing", "way"] (liftSp K (sp_text_told (Er.fld A.C_InvalidLines "index") A.C_InvalidLines)) := by
  refine dokG T.F_text_told sc_text_told (fun ds h Q X z => ?_) (fun cdv A0 outer s H E hr hgd => ?_) (rd_text_told _ _ T.fx)
  · unfold sp_text_told at z; split at z <;> first | rfl | exact z.elim
  have tk : L2N.Takes (cxD P w K mg base N_text_told "_law_told" (defScope s_text_told) A.f_text_told cdv A0 outer s H E) (wE E) := L2N.takes_of rfl rfl rfl rfl
  have ps : PassesOwn (model P w) (cxD P w K mg base N_text_told "_law_told" (defScope s_text_told) A.f_text_told cdv A0 outer s H E).A (cxD P w K mg base N_text_told "_law_told" (defScope s_text_told) A.f_text_told cdv A0 outer s H E).env (cxD P w K mg base N_text_told "_law_told" (defScope s_text_told) A.f_text_told cdv A0 outer s H E).xe := passes_of rfl
  exact (ds_one (ds_tryF (i := 2) rfl rfl sc_text_told.nd rfl rfl (by first | exact Or.inl rfl | exact Or.inr (Or.inl rfl) | exact Or.inr (Or.inr rfl)) ⟨rfl, by decide, .inl T.m_InvalidLines⟩ ⟨rfl, by decide, .inl T.m_DittoError⟩ tk T.xf_InvalidLines T.x_InvalidLines.no T.hm_InvalidLines (fun _ _ _ tk ps => (ds_one (ds_ret (d_ifE (d_cmpT (od_eq hr.units) (d_var 1) d_int) (d_call (ok_parse_rows T) (hr.mono (by decide)) hgd T.m_parse_rows T.k_parse_rows T.b_parse_rows tk (d_cons (d_var 0) d_nil)) (d_callK0 (ok_parse_rows T) (hr.mono (by decide)) hgd T.m_parse_rows T.k_parse_rows T.b_parse_rows_0_text tk (dk_cons (d_var 0) dk_nil))))))))
theorem sc_text_right : FnScope N_text_right ["thing"] (defScope s_text_right) := ⟨rfl, rfl, rfl, by decide +kernel, rfl, by decide +kernel, by decide +kernel⟩
theorem ok_text_right (T : Txt K mg A) : FnG P w K mg base 6 A.f_text_right A.d_text_right ["thing"] (liftSp K (sp_text_right (Er.fld A.C_InvalidLines "index") A.C_InvalidLines)) := by
  refine dokG T.F_text_right sc_text_right (fun ds h Q X z => ?_) (fun cdv A0 outer s H E hr hgd => ?_) (rd_text_right (Er.fld A.C_InvalidLines "index") A.C_InvalidLines)
  · unfold sp_text_right at z; split at z <;> first | rfl | exact z.elim
  have tk : L2N.Takes (cxD P w K mg base N_text_right "_law_right" (defScope s_text_right) A.f_text_right cdv A0 outer s H E) (wE E) := L2N.takes_of rfl rfl rfl rfl
  have ps : PassesOwn (model P w) (cxD P w K mg base N_text_right "_law_right" (defScope s_text_right) A.f_text_right cdv A0 outer s H E).A (cxD P w K mg base N_text_right "_law_right" (defScope s_text_right) A.f_text_right cdv A0 outer s H E).env (cxD P w K mg base N_text_right "_law_right" (defScope s_text_right) A.f_text_right cdv A0 outer s H E).xe := passes_of rfl
  exact (ds_cons (ds_set (i := 1) sc_text_right.nd (d_lst (d_cons d_non d_nil)))
  (ds_cons (ds_if (d_val (d_isi (T := "str") (x := Str.empty) (by decide) rfl T.n_isinstance rfl T.n_str bt_str (d_var 0))) (ds_cons (ds_set (i := 2) sc_text_right.nd (d_call (ok_law_parsed T) (hr.mono (by decide)) hgd T.m_law_parsed T.k_law_parsed T.b_law_parsed tk (d_cons (d_var 0) d_nil)))
  (ds_one (ds_set (i := 1) sc_text_right.nd (d_ifE (d_val (d_isi (T := "tuple") (x := Str.empty) (by decide) rfl T.n_isinstance rfl T.n_tuple bt_tuple (d_var 2))) (d_var 2) (d_lst (d_cons (d_var 2) d_nil)))))) ds_nil)
  (ds_one (ds_ret (d_cmp (od_eq hr.units) (d_callB (cd_repr hgd hr.units) rfl T.n_repr bt_repr (d_cons (d_lst (d_cons (d_call (ok_text_told T) (hr.mono (by decide)) hgd T.m_text_told T.k_text_told T.b_text_told tk (d_cons (d_var 0) (d_cons d_int d_nil))) (d_cons (d_call (ok_text_told T) (hr.mono (by decide)) hgd T.m_text_told T.k_text_told T.b_text_told tk (d_cons (d_var 0) (d_cons d_int d_nil))) d_nil))) d_nil)) (d_callB (cd_repr hgd hr.units) rfl T.n_repr bt_repr (d_cons (d_lst (d_cons (d_var 1) (d_cons (d_var 1) d_nil))) d_nil)))))))
theorem sc_law : FnScope N_law ["script"] (defScope s_law) := ⟨rfl, rfl, rfl, by decide +kernel, rfl, by decide +kernel, by decide +kernel⟩
theorem ok_law (T : Txt K mg A) : FnG P w K mg base 7 A.f_law A.d_law ["script"] (liftSp K (sp_law (Er.fld A.C_InvalidLines "index") A.C_InvalidLines)) := by
  refine dokG T.F_law sc_law (fun ds h Q X z => ?_) (fun cdv A0 outer s H E hr hgd => ?_) (rd_law (Er.fld A.C_InvalidLines "index") A.C_InvalidLines)
  · unfold sp_law at z; split at z <;> first | rfl | exact z.elim
  have tk : L2N.Takes (cxD P w K mg base N_law "law" (defScope s_law) A.f_law cdv A0 outer s H E) (wE E) := L2N.takes_of rfl rfl rfl rfl
  have ps : PassesOwn (model P w) (cxD P w K mg base N_law "law" (defScope s_law) A.f_law cdv A0 outer s H E).A (cxD P w K mg base N_law "law" (defScope s_law) A.f_law cdv A0 outer s H E).env (cxD P w K mg base N_law "law" (defScope s_law) A.f_law cdv A0 outer s H E).xe := passes_of rfl
  exact (ds_cons (ds_for ps rfl (di_range1 rfl T.n_range (d_callB (cd_max2 rfl) rfl T.n_max bt_max (d_cons d_int (d_cons (d_callB (cd_min2 rfl) rfl T.n_min bt_min (d_cons d_int (d_cons (d_callB cd_len rfl T.n_len bt_len (d_cons (d_var 0) d_nil)) d_nil))) d_nil)))) (pgi 1 sc_law.nd) (ds_cons (ds_set (i := 2) sc_law.nd (d_call (ok_law_urn T) (hr.mono (by decide)) hgd T.m_law_urn T.k_law_urn T.b_law_urn tk (d_cons (d_var 0) (d_cons (d_var 1) d_nil))))
  (ds_cons (ds_for ps rfl (di_range1 rfl T.n_range d_int) (pgi 3 sc_law.nd) (ds_cons (ds_set (i := 5) sc_law.nd (d_call (ok_law_text T) (hr.mono (by decide)) hgd T.m_law_text T.k_law_text T.b_law_text tk (d_cons (d_call (ok_law_loose T) (hr.mono (by decide)) hgd T.m_law_loose T.k_law_loose T.b_law_loose tk (d_cons (d_var 2) (d_cons (d_ix xd_ix (d_lst (d_cons d_int (d_cons d_int d_nil))) (d_call (ok_law_draw T) (hr.mono (by decide)) hgd T.m_law_draw T.k_law_draw T.b_law_draw tk (d_cons (d_var 2) (d_cons d_int d_nil)))) d_nil))) d_nil)))
  (ds_cons (ds_for ps rfl (di_range1 rfl T.n_range (d_call (ok_law_draw T) (hr.mono (by decide)) hgd T.m_law_draw T.k_law_draw T.b_law_draw tk (d_cons (d_var 2) (d_cons d_int d_nil)))) (pgi 6 sc_law.nd) (ds_one (ds_set (i := 5) sc_law.nd (d_call (ok_text_spoiled T) (hr.mono (by decide)) hgd T.m_text_spoiled T.k_text_spoiled T.b_text_spoiled tk (d_cons (d_var 2) (d_cons (d_var 5) d_nil))))))
  (ds_one (ds_if (d_not (d_val (d_call (ok_text_right T) (hr.mono (by decide)) hgd T.m_text_right T.k_text_right T.b_text_right tk (d_cons (d_var 5) d_nil)))) (ds_one (ds_ret d_bl)) ds_nil)))))
  (ds_one (ds_for ps rfl (di_seq (d_lst (d_cons d_non (d_cons d_int (d_cons d_bl (d_cons (d_tup d_nil) (d_cons (d_lst d_nil) (d_cons (d_lst (d_cons d_str d_nil)) (d_cons d_dct (d_cons (d_tup (d_cons (d_tup (d_cons d_str d_nil)) d_nil)) (d_cons (d_op od_pow d_int d_int) d_nil))))))))))) (pgi 4 sc_law.nd) (ds_one (ds_if (d_not (d_val (d_call (ok_text_right T) (hr.mono (by decide)) hgd T.m_text_right T.k_text_right T.b_text_right tk (d_cons (d_var 4) d_nil)))) (ds_one (ds_ret d_bl)) ds_nil)))))))
  (ds_cons (ds_set (i := 7) sc_law.nd (d_lst (d_cons d_str (d_cons d_str (d_cons d_str (d_cons d_str (d_cons d_str (d_cons d_str (d_cons d_str (d_cons d_str (d_cons d_str (d_cons d_str (d_cons d_str (d_cons d_str (d_cons d_str d_nil)))))))))))))))
  (ds_cons (ds_set (i := 7) sc_law.nd (d_op od_add (d_var 7) (d_lst (d_cons d_str (d_cons d_str d_nil)))))
  (ds_cons (ds_set (i := 7) sc_law.nd (d_op od_add (d_var 7) (d_lst (d_cons (d_bm PySem.F.plainAttrs_str PySem.F.slot_str_join PySem.F.type_str_join md_join d_str (d_cons (d_op od_mul (d_lst (d_cons d_str d_nil)) d_int) d_nil)) (d_cons (d_bm PySem.F.plainAttrs_str PySem.F.slot_str_join PySem.F.type_str_join md_join d_str (d_cons (d_op od_mul (d_lst (d_cons d_str d_nil)) d_int) d_nil)) (d_cons (d_bm PySem.F.plainAttrs_str PySem.F.slot_str_join PySem.F.type_str_join md_join d_str (d_cons (d_op od_add (d_op od_mul (d_lst (d_cons d_str d_nil)) d_int) (d_lst (d_cons d_str d_nil))) d_nil)) (d_cons d_str (d_cons d_str d_nil))))))))
  (ds_one (ds_ret (d_cmp (od_eq hr.units) (d_lc (own := [("page_here", 5)]) (W0 := W00) rfl sc_law.nd (di_seq (d_var 7)) (blkOk_by (own := [("page_here", 5)]) (N := N_law) (sc := defScope s_law) (by decide +kernel)) (by decide) (fun _ _ _ _ _ => (pgi 5 sc_law.nd)) (fun _ _ _ _ _ => (dts_one (d_not (d_val (d_call (ok_text_right T) (hr.mono (by decide)) hgd T.m_text_right T.k_text_right T.b_text_right takes0N (d_cons (d_var 5) d_nil)))))) (fun _ _ _ _ _ => (d_var 5))) (d_lst d_nil))))))))
end
theorem all_mk {l : PySem.W.OpenLaw} {w : World} {K : PySem.W.Frag} {h : Heap} {mg : Str → Option Value} {fa : Addr} (X : K.In h) (G : h.Ns mainGlobals mg) (hfa : mg "law" = some (.ref fa))
    {C_InvalidLines fi_InvalidLines dT_InvalidLines N_InvalidLines : Addr} {nm_InvalidLines q_InvalidLines : Str} {bs_InvalidLines bm_InvalidLines sub_InvalidLines : List Value} {sn_InvalidLines : List Str} {ab_InvalidLines : Bool} {col_InvalidLines : Option Bool} {dd_InvalidLines od_i_InvalidLines an_InvalidLines td_InvalidLines : Option Addr} {k0_InvalidLines k1_InvalidLines k2_InvalidLines k3_InvalidLines k5_InvalidLines : Option Value} {oc_i_InvalidLines kV_InvalidLines dc_InvalidLines pm_InvalidLines cd_InvalidLines ct_InvalidLines tc_InvalidLines : Value} {tn_InvalidLines : Nat} {sl_i_InvalidLines ts_InvalidLines : Array (Option Value)}
    (aX_InvalidLines : PySem.W.nsIn K mainGlobals "InvalidLines" = some (some (.ref C_InvalidLines))) (oc_InvalidLines : K.lookup C_InvalidLines = some (excClassObj nm_InvalidLines q_InvalidLines C_InvalidLines N_InvalidLines bs_InvalidLines bm_InvalidLines true sn_InvalidLines sub_InvalidLines ab_InvalidLines col_InvalidLines dd_InvalidLines k0_InvalidLines k1_InvalidLines k2_InvalidLines k3_InvalidLines k5_InvalidLines "ValueError.__new__")) (rv_InvalidLines : PySem.HandSPX.refsVE bm_InvalidLines = true) (sx_InvalidLines : PySem.W.findIn K (.ref C_InvalidLines) "__setattr__" = some (some (.builtin "object.__setattr__"))) (be_InvalidLines : PySem.W.subIn K (.ref C_InvalidLines) (.type "BaseException") = some true) (ty_InvalidLines : PySem.W.typeIn K (.ref C_InvalidLines) = some (.type "type")) (kp_InvalidLines : PySem.W.keepIn K (.ref C_InvalidLines) = true) (ic_InvalidLines : PySem.W.findIn K (.ref C_InvalidLines) "__init__" = some (some (.ref fi_InvalidLines))) (ti_InvalidLines : PySem.W.typeIn K (.ref fi_InvalidLines) = some (.type "function")) (no_InvalidLines : PySem.W.findIn K (.ref C_InvalidLines) "index" = some none) (lf_InvalidLines : K.lookup fi_InvalidLines = some ⟨oc_i_InvalidLines, od_i_InvalidLines, .func (PySem.W.fnOf "__init__" "InvalidLines.__init__" (defArgs s_InvalidLines_init) (defBody s_InvalidLines_init) (defScope s_InvalidLines_init) (.ref dT_InvalidLines) kV_InvalidLines dc_InvalidLines pm_InvalidLines an_InvalidLines cd_InvalidLines ct_InvalidLines), sl_i_InvalidLines⟩) (cf_InvalidLines : PySem.W.codeIn K cd_InvalidLines "InvalidLines.__init__" = true) (kf_InvalidLines : PySem.W.keepIn K (.ref fi_InvalidLines) = true) (lt_InvalidLines : K.lookup dT_InvalidLines = some ⟨tc_InvalidLines, td_InvalidLines, .seq #[.none] tn_InvalidLines, ts_InvalidLines⟩) (hx_InvalidLines : PySem.W.hasDictIn K C_InvalidLines = true) (ga_InvalidLines : PySem.W.findIn K (.ref C_InvalidLines) "__getattribute__" = some (some (.builtin "BaseException.__getattribute__"))) (gk_InvalidLines : PySem.W.findIn K (.ref C_InvalidLines) "__getattr__" = some none) (su_InvalidLines_InvalidLines : PySem.W.subIn K (.ref C_InvalidLines) (.ref C_InvalidLines) = some true)
    {C_DittoError : Addr} (aX_DittoError : PySem.W.nsIn K mainGlobals "DittoError" = some (some (.ref C_DittoError)))
    {f0 : Addr} {oc0 kV0 dc0 pm0 cd0 ct0 : Value} {od0 an0 : Option Addr} {sl0 : Array (Option Value)}
    (a0 : PySem.W.nsIn K mainGlobals "is_cell" = some (some (.ref f0))) (l0 : K.lookup f0 = some ⟨oc0, od0, .func (PySem.W.fnOf "is_cell" "is_cell" (defArgs s_is_cell) (defBody s_is_cell) (defScope s_is_cell) .none kV0 dc0 pm0 an0 cd0 ct0), sl0⟩) (c0 : PySem.W.codeIn K cd0 "is_cell" = true) (k0 : PySem.W.keepIn K (.ref f0) = true)
    {f1 : Addr} {oc1 kV1 dc1 pm1 cd1 ct1 : Value} {od1 an1 : Option Addr} {sl1 : Array (Option Value)}
    (a1 : PySem.W.nsIn K mainGlobals "blanks_in" = some (some (.ref f1))) (l1 : K.lookup f1 = some ⟨oc1, od1, .func (PySem.W.fnOf "blanks_in" "blanks_in" (defArgs s_blanks_in) (defBody s_blanks_in) (defScope s_blanks_in) .none kV1 dc1 pm1 an1 cd1 ct1), sl1⟩) (c1 : PySem.W.codeIn K cd1 "blanks_in" = true) (k1 : PySem.W.keepIn K (.ref f1) = true)
    {f2 : Addr} {oc2 kV2 dc2 pm2 cd2 ct2 : Value} {od2 an2 : Option Addr} {sl2 : Array (Option Value)}
    (a2 : PySem.W.nsIn K mainGlobals "is_printed_row" = some (some (.ref f2))) (l2 : K.lookup f2 = some ⟨oc2, od2, .func (PySem.W.fnOf "is_printed_row" "is_printed_row" (defArgs s_is_printed_row) (defBody s_is_printed_row) (defScope s_is_printed_row) .none kV2 dc2 pm2 an2 cd2 ct2), sl2⟩) (c2 : PySem.W.codeIn K cd2 "is_printed_row" = true) (k2 : PySem.W.keepIn K (.ref f2) = true)
    {f3 : Addr} {oc3 kV3 dc3 pm3 cd3 ct3 : Value} {od3 an3 : Option Addr} {sl3 : Array (Option Value)}
    (a3 : PySem.W.nsIn K mainGlobals "row_in" = some (some (.ref f3))) (l3 : K.lookup f3 = some ⟨oc3, od3, .func (PySem.W.fnOf "row_in" "row_in" (defArgs s_row_in) (defBody s_row_in) (defScope s_row_in) .none kV3 dc3 pm3 an3 cd3 ct3), sl3⟩) (c3 : PySem.W.codeIn K cd3 "row_in" = true) (k3 : PySem.W.keepIn K (.ref f3) = true)
    {f4 : Addr} {oc4 kV4 dc4 pm4 cd4 ct4 : Value} {od4 an4 : Option Addr} {sl4 : Array (Option Value)}
    (a4 : PySem.W.nsIn K mainGlobals "parse_rows" = some (some (.ref f4))) (l4 : K.lookup f4 = some ⟨oc4, od4, .func (PySem.W.fnOf "parse_rows" "parse_rows" (defArgs s_parse_rows) (defBody s_parse_rows) (defScope s_parse_rows) .none kV4 dc4 pm4 an4 cd4 ct4), sl4⟩) (c4 : PySem.W.codeIn K cd4 "parse_rows" = true) (k4 : PySem.W.keepIn K (.ref f4) = true)
    {f5 : Addr} {oc5 kV5 dc5 pm5 cd5 ct5 : Value} {od5 an5 : Option Addr} {sl5 : Array (Option Value)}
    (a5 : PySem.W.nsIn K mainGlobals "_law_urn" = some (some (.ref f5))) (l5 : K.lookup f5 = some ⟨oc5, od5, .func (PySem.W.fnOf "_law_urn" "_law_urn" (defArgs s_law_urn) (defBody s_law_urn) (defScope s_law_urn) .none kV5 dc5 pm5 an5 cd5 ct5), sl5⟩) (c5 : PySem.W.codeIn K cd5 "_law_urn" = true) (k5 : PySem.W.keepIn K (.ref f5) = true)
    {f6 : Addr} {oc6 kV6 dc6 pm6 cd6 ct6 : Value} {od6 an6 : Option Addr} {sl6 : Array (Option Value)}
    (a6 : PySem.W.nsIn K mainGlobals "_law_draw" = some (some (.ref f6))) (l6 : K.lookup f6 = some ⟨oc6, od6, .func (PySem.W.fnOf "_law_draw" "_law_draw" (defArgs s_law_draw) (defBody s_law_draw) (defScope s_law_draw) .none kV6 dc6 pm6 an6 cd6 ct6), sl6⟩) (c6 : PySem.W.codeIn K cd6 "_law_draw" = true) (k6 : PySem.W.keepIn K (.ref f6) = true)
    {f7 : Addr} {oc7 kV7 dc7 pm7 cd7 ct7 : Value} {od7 an7 : Option Addr} {sl7 : Array (Option Value)}
    (a7 : PySem.W.nsIn K mainGlobals "_law_item" = some (some (.ref f7))) (l7 : K.lookup f7 = some ⟨oc7, od7, .func (PySem.W.fnOf "_law_item" "_law_item" (defArgs s_law_item) (defBody s_law_item) (defScope s_law_item) .none kV7 dc7 pm7 an7 cd7 ct7), sl7⟩) (c7 : PySem.W.codeIn K cd7 "_law_item" = true) (k7 : PySem.W.keepIn K (.ref f7) = true)
    {f8 : Addr} {oc8 kV8 dc8 pm8 cd8 ct8 : Value} {od8 an8 : Option Addr} {sl8 : Array (Option Value)}
    (a8 : PySem.W.nsIn K mainGlobals "_law_row" = some (some (.ref f8))) (l8 : K.lookup f8 = some ⟨oc8, od8, .func (PySem.W.fnOf "_law_row" "_law_row" (defArgs s_law_row) (defBody s_law_row) (defScope s_law_row) .none kV8 dc8 pm8 an8 cd8 ct8), sl8⟩) (c8 : PySem.W.codeIn K cd8 "_law_row" = true) (k8 : PySem.W.keepIn K (.ref f8) = true)
    {f9 : Addr} {oc9 kV9 dc9 pm9 cd9 ct9 : Value} {od9 an9 : Option Addr} {sl9 : Array (Option Value)}
    (a9 : PySem.W.nsIn K mainGlobals "_law_shared" = some (some (.ref f9))) (l9 : K.lookup f9 = some ⟨oc9, od9, .func (PySem.W.fnOf "_law_shared" "_law_shared" (defArgs s_law_shared) (defBody s_law_shared) (defScope s_law_shared) .none kV9 dc9 pm9 an9 cd9 ct9), sl9⟩) (c9 : PySem.W.codeIn K cd9 "_law_shared" = true) (k9 : PySem.W.keepIn K (.ref f9) = true)
    {f10 : Addr} {oc10 kV10 dc10 pm10 cd10 ct10 : Value} {od10 an10 : Option Addr} {sl10 : Array (Option Value)}
    (a10 : PySem.W.nsIn K mainGlobals "_law_page" = some (some (.ref f10))) (l10 : K.lookup f10 = some ⟨oc10, od10, .func (PySem.W.fnOf "_law_page" "_law_page" (defArgs s_law_page) (defBody s_law_page) (defScope s_law_page) .none kV10 dc10 pm10 an10 cd10 ct10), sl10⟩) (c10 : PySem.W.codeIn K cd10 "_law_page" = true) (k10 : PySem.W.keepIn K (.ref f10) = true)
    {f11 : Addr} {oc11 kV11 dc11 pm11 cd11 ct11 : Value} {od11 an11 : Option Addr} {sl11 : Array (Option Value)}
    (a11 : PySem.W.nsIn K mainGlobals "_law_loose" = some (some (.ref f11))) (l11 : K.lookup f11 = some ⟨oc11, od11, .func (PySem.W.fnOf "_law_loose" "_law_loose" (defArgs s_law_loose) (defBody s_law_loose) (defScope s_law_loose) .none kV11 dc11 pm11 an11 cd11 ct11), sl11⟩) (c11 : PySem.W.codeIn K cd11 "_law_loose" = true) (k11 : PySem.W.keepIn K (.ref f11) = true)
    {f12 : Addr} {oc12 kV12 dc12 pm12 cd12 ct12 : Value} {od12 an12 : Option Addr} {sl12 : Array (Option Value)}
    (a12 : PySem.W.nsIn K mainGlobals "_law_text" = some (some (.ref f12))) (l12 : K.lookup f12 = some ⟨oc12, od12, .func (PySem.W.fnOf "_law_text" "_law_text" (defArgs s_law_text) (defBody s_law_text) (defScope s_law_text) .none kV12 dc12 pm12 an12 cd12 ct12), sl12⟩) (c12 : PySem.W.codeIn K cd12 "_law_text" = true) (k12 : PySem.W.keepIn K (.ref f12) = true)
    {f13 : Addr} {oc13 kV13 dc13 pm13 cd13 ct13 : Value} {od13 an13 : Option Addr} {sl13 : Array (Option Value)}
    (a13 : PySem.W.nsIn K mainGlobals "_law_cells" = some (some (.ref f13))) (l13 : K.lookup f13 = some ⟨oc13, od13, .func (PySem.W.fnOf "_law_cells" "_law_cells" (defArgs s_law_cells) (defBody s_law_cells) (defScope s_law_cells) .none kV13 dc13 pm13 an13 cd13 ct13), sl13⟩) (c13 : PySem.W.codeIn K cd13 "_law_cells" = true) (k13 : PySem.W.keepIn K (.ref f13) = true)
    {f14 : Addr} {oc14 kV14 dc14 pm14 cd14 ct14 : Value} {od14 an14 : Option Addr} {sl14 : Array (Option Value)}
    (a14 : PySem.W.nsIn K mainGlobals "_law_parsed" = some (some (.ref f14))) (l14 : K.lookup f14 = some ⟨oc14, od14, .func (PySem.W.fnOf "_law_parsed" "_law_parsed" (defArgs s_law_parsed) (defBody s_law_parsed) (defScope s_law_parsed) .none kV14 dc14 pm14 an14 cd14 ct14), sl14⟩) (c14 : PySem.W.codeIn K cd14 "_law_parsed" = true) (k14 : PySem.W.keepIn K (.ref f14) = true)
    {f15 : Addr} {oc15 kV15 dc15 pm15 cd15 ct15 : Value} {od15 an15 : Option Addr} {sl15 : Array (Option Value)}
    (a15 : PySem.W.nsIn K mainGlobals "_law_told" = some (some (.ref f15))) (l15 : K.lookup f15 = some ⟨oc15, od15, .func (PySem.W.fnOf "_law_told" "_law_told" (defArgs s_text_told) (defBody s_text_told) (defScope s_text_told) .none kV15 dc15 pm15 an15 cd15 ct15), sl15⟩) (c15 : PySem.W.codeIn K cd15 "_law_told" = true) (k15 : PySem.W.keepIn K (.ref f15) = true)
    {f16 : Addr} {oc16 kV16 dc16 pm16 cd16 ct16 : Value} {od16 an16 : Option Addr} {sl16 : Array (Option Value)}
    (a16 : PySem.W.nsIn K mainGlobals "_law_right" = some (some (.ref f16))) (l16 : K.lookup f16 = some ⟨oc16, od16, .func (PySem.W.fnOf "_law_right" "_law_right" (defArgs s_text_right) (defBody s_text_right) (defScope s_text_right) .none kV16 dc16 pm16 an16 cd16 ct16), sl16⟩) (c16 : PySem.W.codeIn K cd16 "_law_right" = true) (k16 : PySem.W.keepIn K (.ref f16) = true)
    {f17 : Addr} {oc17 kV17 dc17 pm17 cd17 ct17 : Value} {od17 an17 : Option Addr} {sl17 : Array (Option Value)}
    (a17 : PySem.W.nsIn K mainGlobals "_law_spoiled" = some (some (.ref f17))) (l17 : K.lookup f17 = some ⟨oc17, od17, .func (PySem.W.fnOf "_law_spoiled" "_law_spoiled" (defArgs s_text_spoiled) (defBody s_text_spoiled) (defScope s_text_spoiled) .none kV17 dc17 pm17 an17 cd17 ct17), sl17⟩) (c17 : PySem.W.codeIn K cd17 "_law_spoiled" = true) (k17 : PySem.W.keepIn K (.ref f17) = true)
    {f18 : Addr} {oc18 kV18 dc18 pm18 cd18 ct18 : Value} {od18 an18 : Option Addr} {sl18 : Array (Option Value)}
    (a18 : PySem.W.nsIn K mainGlobals "law" = some (some (.ref f18))) (l18 : K.lookup f18 = some ⟨oc18, od18, .func (PySem.W.fnOf "law" "law" (defArgs s_law) (defBody s_law) (defScope s_law) .none kV18 dc18 pm18 an18 cd18 ct18), sl18⟩) (c18 : PySem.W.codeIn K cd18 "law" = true) (k18 : PySem.W.keepIn K (.ref f18) = true)
    (z_abs : PySem.W.nsIn K mainGlobals "abs" = some none)
    (z_all : PySem.W.nsIn K mainGlobals "all" = some none)
    (z_enumerate : PySem.W.nsIn K mainGlobals "enumerate" = some none)
    (z_isinstance : PySem.W.nsIn K mainGlobals "isinstance" = some none)
    (z_len : PySem.W.nsIn K mainGlobals "len" = some none)
    (z_max : PySem.W.nsIn K mainGlobals "max" = some none)
    (z_min : PySem.W.nsIn K mainGlobals "min" = some none)
    (z_range : PySem.W.nsIn K mainGlobals "range" = some none)
    (z_repr : PySem.W.nsIn K mainGlobals "repr" = some none)
    (z_str : PySem.W.nsIn K mainGlobals "str" = some none)
    (z_tuple : PySem.W.nsIn K mainGlobals "tuple" = some none)
    (z_zip : PySem.W.nsIn K mainGlobals "zip" = some none)
    {t_BETWEEN : Tok} (g_BETWEEN : PySem.W.nsIn K mainGlobals "BETWEEN" = some (some (.str "," t_BETWEEN)))
    {t_MOST_ROWS : Tok} (g_MOST_ROWS : PySem.W.nsIn K mainGlobals "MOST_ROWS" = some (some (.int 60 t_MOST_ROWS)))
    {t_MOST_SIGNS : Tok} (g_MOST_SIGNS : PySem.W.nsIn K mainGlobals "MOST_SIGNS" = some (some (.int 8 t_MOST_SIGNS)))
    {t_MOST_WIDTH : Tok} (g_MOST_WIDTH : PySem.W.nsIn K mainGlobals "MOST_WIDTH" = some (some (.int 6 t_MOST_WIDTH)))
    {t_SIGNS : Tok} (g_SIGNS : PySem.W.nsIn K mainGlobals "SIGNS" = some (some (.str "abcdefghijklmnopqrstuvwxyz0123456789" t_SIGNS)))
    : ∃ fd : FuncData, (∀ (s : Shared) (v : Value), BindsTo s fd ⟨[v], []⟩ [("script", v)]) ∧ ∀ base : Heap, K.In base → base.Ns mainGlobals mg → FnG l.prog w K mg base 7 fa fd ["script"] (liftSp K (sp_law (Er.raise 0) 0)) := by
  have e := hfa.symm.trans (PySem.W.mg_of X G a18)
  cases e
  have F0 := fun_mk (st := s_is_cell) l0 c0 k0
  have b0 := F0.binds (ps := ["value"]) fun _ _ _ _ _ _ us hl => match us, hl with | [_], _ => rfl
  have F1 := fun_mk (st := s_blanks_in) l1 c1 k1
  have b1 := F1.binds (ps := ["cells"]) fun _ _ _ _ _ _ us hl => match us, hl with | [_], _ => rfl
  have F2 := fun_mk (st := s_is_printed_row) l2 c2 k2
  have b2 := F2.binds (ps := ["value"]) fun _ _ _ _ _ _ us hl => match us, hl with | [_], _ => rfl
  have F3 := fun_mk (st := s_row_in) l3 c3 k3
  have b3 := F3.binds (ps := ["line"]) fun _ _ _ _ _ _ us hl => match us, hl with | [_], _ => rfl
  have F4 := fun_mk (st := s_parse_rows) l4 c4 k4
  have b4 := F4.binds (ps := ["text"]) fun _ _ _ _ _ _ us hl => match us, hl with | [_], _ => rfl
  have F5 := fun_mk (st := s_law_urn) l5 c5 k5
  have b5 := F5.binds (ps := ["cells_here", "k"]) fun _ _ _ _ _ _ us hl => match us, hl with | [_, _], _ => rfl
  have F6 := fun_mk (st := s_law_draw) l6 c6 k6
  have b6 := F6.binds (ps := ["urn", "many"]) fun _ _ _ _ _ _ us hl => match us, hl with | [_, _], _ => rfl
  have F7 := fun_mk (st := s_law_item) l7 c7 k7
  have b7 := F7.binds (ps := ["urn"]) fun _ _ _ _ _ _ us hl => match us, hl with | [_], _ => rfl
  have F8 := fun_mk (st := s_law_row) l8 c8 k8
  have b8 := F8.binds (ps := ["urn", "wide", "above"]) fun _ _ _ _ _ _ us hl => match us, hl with | [_, _, _], _ => rfl
  have F9 := fun_mk (st := s_law_shared) l9 c9 k9
  have b9 := F9.binds (ps := ["one", "two"]) fun _ _ _ _ _ _ us hl => match us, hl with | [_, _], _ => rfl
  have F10 := fun_mk (st := s_law_page) l10 c10 k10
  have b10 := F10.binds (ps := ["urn", "most"]) fun _ _ _ _ _ _ us hl => match us, hl with | [_, _], _ => rfl
  have F11 := fun_mk (st := s_law_loose) l11 c11 k11
  have b11 := F11.binds (ps := ["urn", "most"]) fun _ _ _ _ _ _ us hl => match us, hl with | [_, _], _ => rfl
  have F12 := fun_mk (st := s_law_text) l12 c12 k12
  have b12 := F12.binds (ps := ["some"]) fun _ _ _ _ _ _ us hl => match us, hl with | [_], _ => rfl
  have F13 := fun_mk (st := s_law_cells) l13 c13 k13
  have b13 := F13.binds (ps := ["line_here"]) fun _ _ _ _ _ _ us hl => match us, hl with | [_], _ => rfl
  have F14 := fun_mk (st := s_law_parsed) l14 c14 k14
  have b14 := F14.binds (ps := ["page_here"]) fun _ _ _ _ _ _ us hl => match us, hl with | [_], _ => rfl
  have F15 := fun_mk (st := s_text_told) l15 c15 k15
  have b15 := F15.binds (ps := ["thing", "way"]) fun _ _ _ _ _ _ us hl => match us, hl with | [_, _], _ => rfl
  have F16 := fun_mk (st := s_text_right) l16 c16 k16
  have b16 := F16.binds (ps := ["thing"]) fun _ _ _ _ _ _ us hl => match us, hl with | [_], _ => rfl
  have F17 := fun_mk (st := s_text_spoiled) l17 c17 k17
  have b17 := F17.binds (ps := ["urn", "page_here"]) fun _ _ _ _ _ _ us hl => match us, hl with | [_, _], _ => rfl
  have F18 := fun_mk (st := s_law) l18 c18 k18
  have b18 := F18.binds (ps := ["script"]) fun _ _ _ _ _ _ us hl => match us, hl with | [_], _ => rfl
  have b_parse_rows_0_text : Bd K _ ["text"] 0 ["text"] [0] := Bd.all F4 fun _ _ _ _ _ _ us ws hl hm => match us, ws, hl, hm with | [], [_], _, _ => rfl
  obtain ⟨fd_InvalidLines, FD_InvalidLines⟩ : ∃ fd, FunD K "__init__" "InvalidLines.__init__" (defArgs s_InvalidLines_init) (defBody s_InvalidLines_init) (defScope s_InvalidLines_init) [V.non] [] fi_InvalidLines fd := ⟨_, ⟨⟨_, _, _, _, _, _, _, _, _, _, rfl, lf_InvalidLines, cf_InvalidLines, .inr ⟨by simp, _, _, [.none], _, rfl, lt_InvalidLines, rfl, .cons rfl .nil⟩, .inl rfl⟩, kf_InvalidLines⟩⟩
  have B2_InvalidLines : Binds K fd_InvalidLines (pI "index") [] := by
    obtain ⟨ds, r, b⟩ := FD_InvalidLines.binds1 (ps := pI "index") 2 1 (by simp) rfl (fun _ _ _ _ _ _ _ us its h1 h2 => match us, its, h1, h2 with | [_, _], [_], _, _ => ⟨_, rfl, rfl⟩)
    cases r
    exact b
  have B1_InvalidLines : ∃ ds, Vals [V.non] ds ∧ Binds K fd_InvalidLines (pI "index") ds := FD_InvalidLines.binds1 (ps := pI "index") 1 0 (by simp) rfl (fun _ _ _ _ _ _ _ us its h1 h2 => match us, its, h1, h2 with | [_], [_], _, _ => ⟨_, rfl, rfl⟩)
  have T : Txt K mg ⟨f0, _, f1, _, f2, _, f3, _, f4, _, f5, _, f6, _, f7, _, f8, _, f9, _, f10, _, f11, _, f12, _, f13, _, f14, _, f15, _, f16, _, f17, _, fa, _, t_BETWEEN, t_MOST_ROWS, t_MOST_SIGNS, t_MOST_WIDTH, t_SIGNS, C_InvalidLines, fi_InvalidLines, fd_InvalidLines, C_DittoError⟩ := ⟨F0, PySem.W.mg_of X G a0, k0, b0, F1, PySem.W.mg_of X G a1, k1, b1, F2, PySem.W.mg_of X G a2, k2, b2, F3, PySem.W.mg_of X G a3, k3, b3, F4, PySem.W.mg_of X G a4, k4, b4, F5, PySem.W.mg_of X G a5, k5, b5, F6, PySem.W.mg_of X G a6, k6, b6, F7, PySem.W.mg_of X G a7, k7, b7, F8, PySem.W.mg_of X G a8, k8, b8, F9, PySem.W.mg_of X G a9, k9, b9, F10, PySem.W.mg_of X G a10, k10, b10, F11, PySem.W.mg_of X G a11, k11, b11, F12, PySem.W.mg_of X G a12, k12, b12, F13, PySem.W.mg_of X G a13, k13, b13, F14, PySem.W.mg_of X G a14, k14, b14, F15, PySem.W.mg_of X G a15, k15, b15, F16, PySem.W.mg_of X G a16, k16, b16, F17, PySem.W.mg_of X G a17, k17, b17, F18, PySem.W.mg_of X G a18, k18, b18, b_parse_rows_0_text, PySem.W.mg_none_of X G z_abs, PySem.W.mg_none_of X G z_all, PySem.W.mg_none_of X G z_enumerate, PySem.W.mg_none_of X G z_isinstance, PySem.W.mg_none_of X G z_len, PySem.W.mg_none_of X G z_max, PySem.W.mg_none_of X G z_min, PySem.W.mg_none_of X G z_range, PySem.W.mg_none_of X G z_repr, PySem.W.mg_none_of X G z_str, PySem.W.mg_none_of X G z_tuple, PySem.W.mg_none_of X G z_zip, PySem.W.mg_of X G g_BETWEEN, PySem.W.mg_of X G g_MOST_ROWS, PySem.W.mg_of X G g_MOST_SIGNS, PySem.W.mg_of X G g_MOST_WIDTH, PySem.W.mg_of X G g_SIGNS, ⟨⟨⟨_, _, _, _, _, _, _, _, _, _, _, _, _, _, _, oc_InvalidLines, rv_InvalidLines⟩, sx_InvalidLines, be_InvalidLines, ty_InvalidLines, kp_InvalidLines⟩, ic_InvalidLines, ti_InvalidLines, no_InvalidLines, FD_InvalidLines, PySem.W.mg_of X G aX_InvalidLines, B2_InvalidLines, B1_InvalidLines⟩, ⟨ga_InvalidLines, gk_InvalidLines, be_InvalidLines, hx_InvalidLines⟩, PySem.W.exm_ref be_InvalidLines hx_InvalidLines ty_InvalidLines su_InvalidLines_InvalidLines, PySem.W.mg_of X G aX_InvalidLines, PySem.W.mg_of X G aX_DittoError, rfl⟩
  exact ⟨_, fun s v => .of_eq rfl, fun base _ _ => ok_law T⟩
theorem law_holds : ∀ (ns : List Int) (h : DH) (Q : DK) (X : DX), (ns.length ≤ 63 ∧ ∀ z ∈ ns, Builtin.Int.intBits z ≤ 1048576) → (∀ h', Q (.bl true) h') → sp_law (Er.raise 0) 0 [.scr ns] h Q X := fun ns h Q X c z => ⟨c.2, z⟩
end DL
open PySem PySem.W PyProof.Rows in
set_option maxRecDepth 100000 in
set_option maxHeartbeats 0 in
theorem PySem.Challenge.cw_dittorows_k59_texts_of_no_rows_holds : PySem.Challenge.rw_dittorows_k59_texts_of_no_rows.Holds := by
  w_on; o_law; k_head; (case hw => w_witness2)
  k_fill
  refine DL.walkD (n := 63) (x := "script") (k := 7) (l := PySem.Challenge.rw_dittorows_k59_texts_of_no_rows) rfl (by decide) rfl ⟨rfl, by decide, by decide⟩ (fun w h Y => PySem.W.kIn_of Y) ?F DL.law_holds
  case F =>
    intro w mg fa h KX G hmg
    refine' DL.all_mk KX G hmg ?aX_InvalidLines ?oc_InvalidLines ?rv_InvalidLines ?sx_InvalidLines ?be_InvalidLines ?ty_InvalidLines ?kp_InvalidLines ?ic_InvalidLines ?ti_InvalidLines ?no_InvalidLines ?lf_InvalidLines ?cf_InvalidLines ?kf_InvalidLines ?lt_InvalidLines ?hx_InvalidLines ?ga_InvalidLines ?gk_InvalidLines ?su_InvalidLines_InvalidLines ?aX_DittoError ?a0 ?l0 ?c0 ?k0 ?a1 ?l1 ?c1 ?k1 ?a2 ?l2 ?c2 ?k2 ?a3 ?l3 ?c3 ?k3 ?a4 ?l4 ?c4 ?k4 ?a5 ?l5 ?c5 ?k5 ?a6 ?l6 ?c6 ?k6 ?a7 ?l7 ?c7 ?k7 ?a8 ?l8 ?c8 ?k8 ?a9 ?l9 ?c9 ?k9 ?a10 ?l10 ?c10 ?k10 ?a11 ?l11 ?c11 ?k11 ?a12 ?l12 ?c12 ?k12 ?a13 ?l13 ?c13 ?k13 ?a14 ?l14 ?c14 ?k14 ?a15 ?l15 ?c15 ?k15 ?a16 ?l16 ?c16 ?k16 ?a17 ?l17 ?c17 ?k17 ?a18 ?l18 ?c18 ?k18 ?z_abs ?z_all ?z_enumerate ?z_isinstance ?z_len ?z_max ?z_min ?z_range ?z_repr ?z_str ?z_tuple ?z_zip ?g_BETWEEN ?g_MOST_ROWS ?g_MOST_SIGNS ?g_MOST_WIDTH ?g_SIGNS
    (case aX_InvalidLines => k_is)
    (case oc_InvalidLines => k_is)
    (case rv_InvalidLines => rfl)
    (case sx_InvalidLines => k_is)
    (case be_InvalidLines => k_is)
    (case ty_InvalidLines => k_is)
    (case kp_InvalidLines => k_is)
    (case ic_InvalidLines => k_is)
    (case ti_InvalidLines => k_is)
    (case no_InvalidLines => k_is)
    (case lf_InvalidLines => k_is)
    (case cf_InvalidLines => k_is)
    (case kf_InvalidLines => k_is)
    (case lt_InvalidLines => k_is)
    (case hx_InvalidLines => k_is)
    (case ga_InvalidLines => k_is)
    (case gk_InvalidLines => k_is)
    (case su_InvalidLines_InvalidLines => first | rfl | k_is)
    (case aX_DittoError => k_is)
    (case a0 => k_is)
    (case l0 => k_is)
    (case c0 => k_is)
    (case k0 => k_is)
    (case a1 => k_is)
    (case l1 => k_is)
    (case c1 => k_is)
    (case k1 => k_is)
    (case a2 => k_is)
    (case l2 => k_is)
    (case c2 => k_is)
    (case k2 => k_is)
    (case a3 => k_is)
    (case l3 => k_is)
    (case c3 => k_is)
    (case k3 => k_is)
    (case a4 => k_is)
    (case l4 => k_is)
    (case c4 => k_is)
    (case k4 => k_is)
    (case a5 => k_is)
    (case l5 => k_is)
    (case c5 => k_is)
    (case k5 => k_is)
    (case a6 => k_is)
    (case l6 => k_is)
    (case c6 => k_is)
    (case k6 => k_is)
    (case a7 => k_is)
    (case l7 => k_is)
    (case c7 => k_is)
    (case k7 => k_is)
    (case a8 => k_is)
    (case l8 => k_is)
    (case c8 => k_is)
    (case k8 => k_is)
    (case a9 => k_is)
    (case l9 => k_is)
    (case c9 => k_is)
    (case k9 => k_is)
    (case a10 => k_is)
    (case l10 => k_is)
    (case c10 => k_is)
    (case k10 => k_is)
    (case a11 => k_is)
    (case l11 => k_is)
    (case c11 => k_is)
    (case k11 => k_is)
    (case a12 => k_is)
    (case l12 => k_is)
    (case c12 => k_is)
    (case k12 => k_is)
    (case a13 => k_is)
    (case l13 => k_is)
    (case c13 => k_is)
    (case k13 => k_is)
    (case a14 => k_is)
    (case l14 => k_is)
    (case c14 => k_is)
    (case k14 => k_is)
    (case a15 => k_is)
    (case l15 => k_is)
    (case c15 => k_is)
    (case k15 => k_is)
    (case a16 => k_is)
    (case l16 => k_is)
    (case c16 => k_is)
    (case k16 => k_is)
    (case a17 => k_is)
    (case l17 => k_is)
    (case c17 => k_is)
    (case k17 => k_is)
    (case a18 => k_is)
    (case l18 => k_is)
    (case c18 => k_is)
    (case k18 => k_is)
    (case z_abs => k_is)
    (case z_all => k_is)
    (case z_enumerate => k_is)
    (case z_isinstance => k_is)
    (case z_len => k_is)
    (case z_max => k_is)
    (case z_min => k_is)
    (case z_range => k_is)
    (case z_repr => k_is)
    (case z_str => k_is)
    (case z_tuple => k_is)
    (case z_zip => k_is)
    (case g_BETWEEN => k_is)
    (case g_MOST_ROWS => k_is)
    (case g_MOST_SIGNS => k_is)
    (case g_MOST_WIDTH => k_is)
    (case g_SIGNS => k_is)

#print axioms PySem.Challenge.cw_dittorows_k59_texts_of_no_rows_holds
