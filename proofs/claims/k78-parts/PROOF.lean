import PyProof.Rows.All
import Wide.All
import OpenK.AllK
import Wide.FinOn
import HandS.ForMost
import HandS.TupAny
import HandS.Wide
import HandS.StrMore
import HandS.Strs
import HandS.Deep
import HandS.Style
import HandS.Conv
import HandS.Text
import HandS.Words
import HandS.Zip
import KE.GoesEnum
import KE.GoesMore
import HandS.TupSets
import HandS.SetBool
import HandS.SetTxt0
import KE.KeyNested
import KE.SortData
import HandS.Defaults
import PySem.Challenge.RW_sortfollow_k78_whole_rules_are_their_par
import HandS.Head0
import HandS.Head1
import HandS.Head2
import HandS.HeadEnd
import HandS.HeadHook1
import HandS.HeadHook2
set_option Elab.async false
set_option linter.all false
set_option maxRecDepth 100000
set_option maxHeartbeats 4000000
/-! DL: values by their content over the hand layer's abstract heap. What is never changed again is told by value, what is still changed by a cell. -/
namespace DL
open PySem PySem.Spec PyProof.Rows L2

/-- a value by its content; ref: a cell, a def, a class -/
inductive DV where
  | non | bl (b : Bool) | int (i : Int) | str (x : Str) | ty (n : String) | ref (a : Addr)
  | tup (ds : List DV) | tupW (ds : List DV) | lst (ds : List DV) | scr (ds : List DV)
  | dK (ks : List Key) (ds : List DV)
/-- what may still be changed -/
inductive Cell where
  | lst (ds : List DV)
  | dK (kvs : List (Key × DV))
  | ins (C : Addr) (fs : List (Str × DV))
abbrev DM := Addr → Option Cell
def put (M : DM) (a : Addr) (c : Cell) : DM := fun b => if b = a then some c else M b
def drop (M : DM) (a : Addr) : DM := fun b => if b = a then none else M b
theorem put_same {M : DM} {a : Addr} {c : Cell} : put M a c a = some c := by unfold put; rw [if_pos rfl]
theorem put_ne {M : DM} {a b : Addr} {c : Cell} (h : b ≠ a) : put M a c b = M b := by unfold put; rw [if_neg h]
theorem put_put {M : DM} {a : Addr} {c d : Cell} : put (put M a c) a d = put M a d := by
  funext b; unfold put; split <;> rfl
theorem drop_put {M : DM} {a : Addr} {c : Cell} (h : M a = none) : drop (put M a c) a = M := by
  funext b; unfold drop; by_cases e : b = a
  · rw [if_pos e, e, h]
  · rw [if_neg e, put_ne e]
theorem drop_same {M : DM} {a : Addr} : drop M a a = none := by unfold drop; rw [if_pos rfl]
theorem drop_ne {M : DM} {a b : Addr} (h : b ≠ a) : drop M a b = M b := by unfold drop; rw [if_neg h]
theorem put_self {M : DM} {a : Addr} {c : Cell} (h : M a = some c) : put M a c = M := by
  funext b; unfold put; split
  · rename_i e; rw [e, h]
  · rfl
theorem put_comm {M : DM} {a b : Addr} {c d : Cell} (h : a ≠ b) : put (put M a c) b d = put (put M b d) a c := by
  funext x; unfold put; split
  · rename_i e; subst e; rw [if_neg (Ne.symm h)]
  · rfl
theorem ne_put {M : DM} {a b : Addr} {c : Cell} (h : M a = some c) (h' : M b = none) : a ≠ b := by
  intro e; subst e; rw [h] at h'; cases h'

/-- a tuple of the written part -/
def KTup (K : PySem.W.Frag) (a : Addr) (xs : List V) : Prop :=
  ∃ (o : Obj) (its : Array Value) (n : Nat), K.lookup a = some o ∧ o.cls = .type "tuple" ∧ o.dict = none ∧ o.data = .seq its n ∧ its.size ≤ sizeLine ∧ Vals xs its.toList
def KLst (K : PySem.W.Frag) (a : Addr) (xs : List V) : Prop :=
  ∃ (o : Obj) (its : Array Value) (n : Nat), K.lookup a = some o ∧ o.cls = .type "list" ∧ o.dict = none ∧ o.data = .seq its n ∧ its.size ≤ sizeLine ∧ Vals xs its.toList

mutual
inductive Fz (K : PySem.W.Frag) (H : Hp) (M : DM) : V → DV → Prop
  | non : Fz K H M .non .non
  | bl (b : Bool) : Fz K H M (.bl b) (.bl b)
  | int (i : Int) : Fz K H M (.int i) (.int i)
  | str (x : Str) : Fz K H M (.str x) (.str x)
  | ty (n : String) : Fz K H M (.ty n) (.ty n)
  | ref (a : Addr) : Fz K H M (.ref a) (.ref a)
  | tup {a : Addr} {o : Obj} {vs : List V} {ds : List DV} : H a = some (.frz o (.tup vs)) → o.dict = none → M a = none → Fzs K H M vs ds → Fz K H M (.ref a) (.tup ds)
  | ktup {a : Addr} {vs : List V} {ds : List DV} : KTup K a vs → Fzs K H M vs ds → Fz K H M (.ref a) (.tup ds)
  | tupW {a : Addr} {vs : List V} {ds : List DV} : Rd H a (.tup vs) → M a = none → Fzs K H M vs ds → Fz K H M (.ref a) (.tupW ds)
  | lst {a : Addr} {vs : List V} {ds : List DV} : H a = some (.lst vs) → M a = none → Fzs K H M vs ds → Fz K H M (.ref a) (.lst ds)
  | scr {a : Addr} {vs : List V} {ds : List DV} : Rd H a (.lst vs) → M a = none → Fzs K H M vs ds → Fz K H M (.ref a) (.scr ds)
  | kscr {a : Addr} {vs : List V} {ds : List DV} : KLst K a vs → Fzs K H M vs ds → Fz K H M (.ref a) (.scr ds)
  | dK {a : Addr} {kvs : List (Key × V)} {ds : List DV} : H a = some (.dK kvs) → M a = none → Fzs K H M (kvs.map (·.2)) ds → Fz K H M (.ref a) (.dK (kvs.map (·.1)) ds)
inductive Fzs (K : PySem.W.Frag) (H : Hp) (M : DM) : List V → List DV → Prop
  | nil : Fzs K H M [] []
  | cons {v : V} {vs : List V} {d : DV} {ds : List DV} : Fz K H M v d → Fzs K H M vs ds → Fzs K H M (v :: vs) (d :: ds)
end

/-- what was tracked and could not be changed is as it was -/
structure Le (H : Hp) (M : DM) (H' : Hp) (M' : DM) : Prop where
  keep : ∀ b o, H b = some o → M b = none → H' b = some o
  hid : ∀ b o, H b = some o → M b = none → M' b = none
theorem Le.refl {H : Hp} {M : DM} : Le H M H M := ⟨fun _ _ h _ => h, fun _ _ _ h => h⟩
theorem Le.trans {H H1 H2 : Hp} {M M1 M2 : DM} (a : Le H M H1 M1) (b : Le H1 M1 H2 M2) : Le H M H2 M2 :=
  ⟨fun c o h n => b.keep c o (a.keep c o h n) (a.hid c o h n), fun c o h n => b.hid c o (a.keep c o h n) (a.hid c o h n)⟩
theorem Rd.le {H H' : Hp} {M M' : DM} {a : Addr} {u : HO} (l : Le H M H' M') (n : M a = none) (h : Rd H a u) : Rd H' a u ∧ M' a = none := by
  rcases h with h | ⟨o, h⟩
  · exact ⟨.inl (l.keep a _ h n), l.hid a _ h n⟩
  · exact ⟨.inr ⟨o, l.keep a _ h n⟩, l.hid a _ h n⟩
section
variable {K : PySem.W.Frag} {H H' : Hp} {M M' : DM}
theorem Fz.mono (l : Le H M H' M') {v : V} {d : DV} (h : Fz K H M v d) : Fz K H' M' v d :=
  Fz.rec (motive_1 := fun v d _ => Fz K H' M' v d) (motive_2 := fun vs ds _ => Fzs K H' M' vs ds)
    .non .bl .int .str .ty .ref
    (fun h e n _ ih => .tup (l.keep _ _ h n) e (l.hid _ _ h n) ih)
    (fun h _ ih => .ktup h ih)
    (fun h n _ ih => .tupW (Rd.le l n h).1 (Rd.le l n h).2 ih)
    (fun h n _ ih => .lst (l.keep _ _ h n) (l.hid _ _ h n) ih)
    (fun h n _ ih => .scr (Rd.le l n h).1 (Rd.le l n h).2 ih)
    (fun h _ ih => .kscr h ih)
    (fun h n _ ih => .dK (l.keep _ _ h n) (l.hid _ _ h n) ih)
    .nil (fun _ _ i1 i2 => .cons i1 i2) h
theorem Fzs.mono (l : Le H M H' M') : ∀ {vs : List V} {ds : List DV}, Fzs K H M vs ds → Fzs K H' M' vs ds
  | _, _, .nil => .nil
  | _, _, .cons a b => .cons (a.mono l) (Fzs.mono l b)
theorem Fzs.length : ∀ {vs : List V} {ds : List DV}, Fzs K H M vs ds → vs.length = ds.length
  | _, _, .nil => rfl
  | _, _, .cons _ b => congrArg (· + 1) (Fzs.length b)
theorem Fzs.get : ∀ {vs : List V} {ds : List DV} {i : Nat} {v : V}, Fzs K H M vs ds → vs[i]? = some v → ∃ d, ds[i]? = some d ∧ Fz K H M v d
  | _, _, _, _, .nil, e => by simp at e
  | _, _, 0, _, .cons a _, e => by simp at e; subst e; exact ⟨_, rfl, a⟩
  | _, _, i + 1, _, .cons _ b, e => by
    obtain ⟨d, h1, h2⟩ := Fzs.get (i := i) b (by simpa using e)
    exact ⟨d, by simpa using h1, h2⟩
theorem Fzs.get' : ∀ {vs : List V} {ds : List DV} {i : Nat} {d : DV}, Fzs K H M vs ds → ds[i]? = some d → ∃ v, vs[i]? = some v ∧ Fz K H M v d
  | _, _, _, _, .nil, e => by simp at e
  | _, _, 0, _, .cons a _, e => by simp at e; subst e; exact ⟨_, rfl, a⟩
  | _, _, i + 1, _, .cons _ b, e => by
    obtain ⟨d, h1, h2⟩ := Fzs.get' (i := i) b (by simpa using e)
    exact ⟨d, by simpa using h1, h2⟩
theorem Fzs.append : ∀ {vs : List V} {ds : List DV} {vs' : List V} {ds' : List DV}, Fzs K H M vs ds → Fzs K H M vs' ds' → Fzs K H M (vs ++ vs') (ds ++ ds')
  | _, _, _, _, .nil, h => h
  | _, _, _, _, .cons a b, h => .cons a (Fzs.append b h)
theorem Fzs.drop : ∀ {vs : List V} {ds : List DV} (n : Nat), Fzs K H M vs ds → Fzs K H M (vs.drop n) (ds.drop n)
  | _, _, 0, h => h
  | _, _, _ + 1, .nil => .nil
  | _, _, n + 1, .cons _ b => Fzs.drop n b
theorem Fzs.take : ∀ {vs : List V} {ds : List DV} (n : Nat), Fzs K H M vs ds → Fzs K H M (vs.take n) (ds.take n)
  | _, _, 0, _ => .nil
  | _, _, _ + 1, .nil => .nil
  | _, _, n + 1, .cons a b => .cons a (Fzs.take n b)
theorem Fzs.set : ∀ {vs : List V} {ds : List DV} (i : Nat) {v : V} {d : DV}, Fzs K H M vs ds → Fz K H M v d → Fzs K H M (vs.set i v) (ds.set i d)
  | _, _, _, _, _, .nil, _ => .nil
  | _, _, 0, _, _, .cons _ b, h => .cons h b
  | _, _, i + 1, _, _, .cons a b, h => .cons a (Fzs.set i b h)
theorem Fzs.reverse : ∀ {vs : List V} {ds : List DV}, Fzs K H M vs ds → Fzs K H M vs.reverse ds.reverse
  | _, _, .nil => .nil
  | _, _, .cons a b => by
    rw [List.reverse_cons, List.reverse_cons]
    exact (Fzs.reverse b).append (.cons a .nil)
theorem Fzs.map_inv {f : Int → DV} : True := trivial
end

/-- the pairs of a dict, of an instance -/
def Kvs {κ : Type} (K : PySem.W.Frag) (H : Hp) (M : DM) : List (κ × V) → List (κ × DV) → Prop := Paired fun p q => p.1 = q.1 ∧ Fz K H M p.2 q.2
theorem Kvs.mono {κ : Type} {K : PySem.W.Frag} {H H' : Hp} {M M' : DM} (l : Le H M H' M') {a : List (κ × V)} {b : List (κ × DV)} (h : Kvs K H M a b) : Kvs K H' M' a b :=
  Paired.mapP h fun _ _ z => ⟨z.1, z.2.mono l⟩
def CellOk (K : PySem.W.Frag) (H : Hp) (M : DM) (a : Addr) : Cell → Prop
  | .lst ds => ∃ vs, H a = some (.lst vs) ∧ Fzs K H M vs ds
  | .dK kvs => ∃ vs, H a = some (.dK vs) ∧ Kvs K H M vs kvs
  | .ins C fs => ∃ dx vs, H a = some (.ins C dx vs) ∧ Kvs K H M vs fs
/-- the cells stand as they are told -/
def Rel (K : PySem.W.Frag) (H : Hp) (M : DM) : Prop := ∀ a c, M a = some c → CellOk K H M a c
theorem Rel.there {K : PySem.W.Frag} {H : Hp} {M : DM} {a : Addr} {c : Cell} (r : Rel K H M) (h : M a = some c) : ∃ o, H a = some o ∧ Mut (some o) := by
  have q := r a c h
  cases c with
  | lst ds => obtain ⟨vs, e, _⟩ := q; exact ⟨_, e, trivial⟩
  | dK kvs => obtain ⟨vs, e, _⟩ := q; exact ⟨_, e, trivial⟩
  | ins C fs => obtain ⟨dx, vs, e, _⟩ := q; exact ⟨_, e, trivial⟩
theorem Rel.free {K : PySem.W.Frag} {H : Hp} {M : DM} {p : Addr} (r : Rel K H M) (h : H p = none) : M p = none := by
  cases q : M p with
  | none => rfl
  | some c => obtain ⟨o, e, _⟩ := r.there q; rw [h] at e; cases e
/-- what is told of an object alone, behind a step that keeps it -/
theorem CellOk.step {K : PySem.W.Frag} {H H' : Hp} {M M' : DM} {a : Addr} {c : Cell} (l : Le H M H' M') (e : H' a = H a) (h : CellOk K H M a c) : CellOk K H' M' a c := by
  cases c with
  | lst ds => obtain ⟨vs, q, r⟩ := h; exact ⟨vs, e.trans q, r.mono l⟩
  | dK kvs => obtain ⟨vs, q, r⟩ := h; exact ⟨vs, e.trans q, r.mono l⟩
  | ins C fs => obtain ⟨dx, vs, q, r⟩ := h; exact ⟨dx, vs, e.trans q, r.mono l⟩
section
variable {K : PySem.W.Frag} {H H' : Hp} {M M' : DM}
/-- a new object that is no cell -/
theorem le_new {p : Addr} {o : HO} (h : H p = none) (hm : M p = none) : Le H M (upd H p o) M :=
  ⟨fun b u e _ => by rw [upd_ne (ne_of_none e h)]; exact e, fun b u _ n => n⟩
theorem Rel.new {p : Addr} {o : HO} (r : Rel K H M) (h : H p = none) : Rel K (upd H p o) M := fun a c e => by
  obtain ⟨u, q, _⟩ := r.there e
  exact (r a c e).step (le_new h (r.free h)) (upd_ne (ne_of_none q h))
/-- a new cell -/
theorem le_newc {p : Addr} {o : HO} {c : Cell} (h : H p = none) : Le H M (upd H p o) (put M p c) :=
  ⟨fun b u e _ => by rw [upd_ne (ne_of_none e h)]; exact e, fun b u e n => by rw [put_ne (ne_of_none e h)]; exact n⟩
theorem Rel.newc {p : Addr} {o : HO} {c : Cell} (r : Rel K H M) (h : H p = none) (q : CellOk K (upd H p o) (put M p c) p c) : Rel K (upd H p o) (put M p c) := fun a d e => by
  by_cases ha : a = p
  · subst ha
    rw [put_same] at e
    cases e
    exact q
  · rw [put_ne ha] at e
    obtain ⟨u, z, _⟩ := r.there e
    exact (r a d e).step (le_newc h) (upd_ne (ne_of_none z h))
/-- a cell is changed -/
theorem le_put {p : Addr} {o : HO} {c d : Cell} (h : M p = some c) : Le H M (upd H p o) (put M p d) :=
  ⟨fun b u e n => by rw [upd_ne (Ne.symm (ne_put h n))]; exact e, fun b u e n => by rw [put_ne (Ne.symm (ne_put h n))]; exact n⟩
theorem Rel.put {p : Addr} {o : HO} {c d : Cell} (r : Rel K H M) (h : M p = some c) (q : CellOk K (upd H p o) (put M p d) p d) : Rel K (upd H p o) (put M p d) := fun a x e => by
  by_cases ha : a = p
  · subst ha
    rw [put_same] at e
    cases e
    exact q
  · rw [put_ne ha] at e
    exact (r a x e).step (le_put h) (upd_ne ha)
/-- a cell is never changed again -/
theorem le_drop {p : Addr} : Le H M H (drop M p) :=
  ⟨fun b u e _ => e, fun b u e n => by unfold drop; split <;> first | rfl | exact n⟩
theorem Rel.drop {p : Addr} (r : Rel K H M) : Rel K H (drop M p) := fun a x e => by
  have ha : a ≠ p := fun z => by subst z; rw [drop_same] at e; cases e
  rw [drop_ne ha] at e
  exact (r a x e).step le_drop rfl
end

/-- a value told by its content: a list or a dict is not changed any more -/
def fzV (a : Addr) : Option Cell → DV
  | some (.lst ds) => .lst ds
  | some (.dK kvs) => .dK (kvs.map (·.1)) (kvs.map (·.2))
  | some (.ins _ _) => .ref a
  | none => .ref a
def fzD (M : DM) (a : Addr) : Option Cell → DM
  | some (.lst _) => drop M a
  | some (.dK _) => drop M a
  | some (.ins _ _) => M
  | none => M
def fz (M : DM) : DV → DV
  | .ref a => fzV a (M a)
  | d => d
def fzM (M : DM) : DV → DM
  | .ref a => fzD M a (M a)
  | _ => M
theorem Kvs.split {κ : Type} {K : PySem.W.Frag} {H : Hp} {M : DM} : ∀ {a : List (κ × V)} {b : List (κ × DV)}, Kvs K H M a b → a.map (·.1) = b.map (·.1) ∧ Fzs K H M (a.map (·.2)) (b.map (·.2))
  | _, _, .nil => ⟨rfl, .nil⟩
  | _, _, .cons z t => ⟨by rw [List.map_cons, List.map_cons, z.1, (Kvs.split t).1], .cons z.2 (Kvs.split t).2⟩
theorem fz_ok {K : PySem.W.Frag} {H : Hp} {M : DM} {v : V} {d : DV} (r : Rel K H M) (h : Fz K H M v d) : Le H M H (fzM M d) ∧ Rel K H (fzM M d) ∧ Fz K H (fzM M d) v (fz M d) := by
  cases d with
  | ref a =>
    have hv : v = .ref a := by cases h; rfl
    subst hv
    show Le H M H (fzD M a (M a)) ∧ Rel K H (fzD M a (M a)) ∧ Fz K H (fzD M a (M a)) (.ref a) (fzV a (M a))
    cases e : M a with
    | none => exact ⟨.refl, r, .ref a⟩
    | some c =>
      cases c with
      | lst ds =>
        obtain ⟨vs, q, z⟩ := r a _ e
        exact ⟨le_drop, r.drop, .lst q drop_same (z.mono le_drop)⟩
      | dK kvs =>
        obtain ⟨vs, q, z⟩ := r a _ e
        obtain ⟨z1, z2⟩ := (z.mono (le_drop (p := a))).split
        refine ⟨le_drop, r.drop, ?_⟩
        show Fz K H (drop M a) (.ref a) (.dK (kvs.map (·.1)) (kvs.map (·.2)))
        rw [← z1]
        exact .dK q drop_same z2
      | ins C fs => exact ⟨.refl, r, .ref a⟩
  | _ => exact ⟨.refl, r, h⟩

/-! ### the values of the names -/
abbrev DSt := List (Option DV)
def RelS (K : PySem.W.Frag) (H : Hp) (M : DM) (σ : L2.St) (sd : DSt) : Prop :=
  σ.length = sd.length ∧ ∀ (i : Nat) (d : DV), sd[i]? = some (some d) → ∃ v, σ[i]? = some (some v) ∧ Fz K H M v d
section
variable {K : PySem.W.Frag} {H H' : Hp} {M M' : DM} {σ : L2.St} {sd : DSt}
theorem RelS.mono (l : Le H M H' M') (h : RelS K H M σ sd) : RelS K H' M' σ sd :=
  ⟨h.1, fun i d e => let ⟨v, a, b⟩ := h.2 i d e; ⟨v, a, b.mono l⟩⟩
theorem RelS.set {i : Nat} {v : V} {d : DV} (h : RelS K H M σ sd) (r : Fz K H M v d) : RelS K H M (σ.set i (some v)) (sd.set i (some d)) := by
  refine ⟨by simp [h.1], fun j e q => ?_⟩
  by_cases hj : j = i
  · subst hj
    have hl : j < sd.length := by
      have := (List.getElem?_eq_some_iff.mp q).1
      simpa using this
    rw [List.getElem?_set_self hl] at q
    cases q
    exact ⟨v, List.getElem?_set_self (by rw [h.1]; exact hl), r⟩
  · rw [List.getElem?_set_ne (Ne.symm hj)] at q ⊢
    exact h.2 j e q
theorem RelS.unset {i : Nat} (h : RelS K H M σ sd) : RelS K H M (σ.set i none) (sd.set i none) := by
  refine ⟨by simp [h.1], fun j e q => ?_⟩
  by_cases hj : j = i
  · subst hj
    have hl : j < sd.length := by
      have := (List.getElem?_eq_some_iff.mp q).1
      simpa using this
    rw [List.getElem?_set_self hl] at q
    cases q
  · rw [List.getElem?_set_ne (Ne.symm hj)] at q ⊢
    exact h.2 j e q
end
/-- an exception: its class, the fields of its own dict -/
structure DX where
  cls : Value
  fs : List (Str × DV)
abbrev EK := DX → DSt → DM → Prop
def XOk (K : PySem.W.Frag) (H : Hp) (M : DM) (x : DX) (cls : Value) : Option Addr → Prop
  | none => x.cls = cls ∧ x.fs = []
  | some d => x.cls = cls ∧ ∃ vs, H d = some (.xd vs) ∧ M d = none ∧ Kvs K H M vs x.fs
abbrev DVK := DV → DM → Prop
abbrev TED := DSt → DM → EK → DVK → Prop
abbrev TTD := DSt → DM → EK → (Bool → DM → Prop) → Prop
abbrev TAD := DSt → DM → EK → (List DV → DM → Prop) → Prop
/-- what is wanted of an exception -/
abbrev WX := Value → Option Addr → L2.St → Hp → Prop
section
variable (K : PySem.W.Frag) (W : WX)
/-- an exception of the cells' world that is wanted -/
def PostX (H : Hp) (M : DM) (E : EK) : Prop := ∀ x cls dx σ' sd' H' M', Le H M H' M' → Rel K H' M' → RelS K H' M' σ' sd' → XOk K H' M' x cls dx → E x sd' M' → W cls dx σ' H'
def PostV (H : Hp) (M : DM) (Qd : DVK) (Q : VK) : Prop := ∀ v d H' M', Le H M H' M' → Rel K H' M' → Fz K H' M' v d → Qd d M' → Q v H'
def PostT (H : Hp) (M : DM) (Qd : Bool → DM → Prop) (Q : Bool → Hp → Prop) : Prop := ∀ b H' M', Le H M H' M' → Rel K H' M' → Qd b M' → Q b H'
def PostA (H : Hp) (M : DM) (Qd : List DV → DM → Prop) (Q : List V → Hp → Prop) : Prop := ∀ vs ds H' M', Le H M H' M' → Rel K H' M' → Fzs K H' M' vs ds → Qd ds M' → Q vs H'
/-- a reading told by content, as a reading of the hand layer -/
def lE (t : TED) : TE := fun σ H Q => ∃ sd M E Qd, Rel K H M ∧ RelS K H M σ sd ∧ t sd M E Qd ∧ PostV K H M Qd Q ∧ PostX K W H M E
def lT (t : TTD) : TT := fun σ H Q => ∃ sd M E Qd, Rel K H M ∧ RelS K H M σ sd ∧ t sd M E Qd ∧ PostT K H M Qd Q ∧ PostX K W H M E
def lA (t : TAD) : TA := fun σ H Q => ∃ sd M E Qd, Rel K H M ∧ RelS K H M σ sd ∧ t sd M E Qd ∧ PostA K H M Qd Q ∧ PostX K W H M E
end
section
variable {K : PySem.W.Frag} {W : WX}
theorem PostX.mono {H H' : Hp} {M M' : DM} {E : EK} (l : Le H M H' M') (h : PostX K W H M E) : PostX K W H' M' E :=
  fun x cls dx σ2 sd2 H2 M2 l2 r rs o e => h x cls dx σ2 sd2 H2 M2 (l.trans l2) r rs o e
theorem PostV.mono {H H' : Hp} {M M' : DM} {Qd : DVK} {Q : VK} (l : Le H M H' M') (h : PostV K H M Qd Q) : PostV K H' M' Qd Q :=
  fun v d H2 M2 l2 r o e => h v d H2 M2 (l.trans l2) r o e
end
def DE (X : Cx) (W : WX) (e : Expr) (t : TED) : Prop := PE X e (lE X.K W t)
def DT (X : Cx) (W : WX) (e : Expr) (t : TTD) : Prop := PT X e (lT X.K W t)
def DA (X : Cx) (W : WX) (es : List Expr) (t : TAD) : Prop := PA X es (lA X.K W t)
/-- consequence -/
theorem PE.cons {X : Cx} {e : Expr} {t t' : TE} (h : PE X e t) (i : ∀ σ H Q, t' σ H Q → t σ H Q) : PE X e t' := ⟨fun pins s σ H Q I q => h.run pins s σ H Q I (i σ H Q q)⟩
theorem PT.cons {X : Cx} {e : Expr} {t t' : TT} (h : PT X e t) (i : ∀ σ H Q, t' σ H Q → t σ H Q) : PT X e t' := ⟨fun pins s σ H Q I q => h.run pins s σ H Q I (i σ H Q q)⟩
theorem PA.cons {X : Cx} {e : List Expr} {t t' : TA} (h : PA X e t) (i : ∀ σ H Q, t' σ H Q → t σ H Q) : PA X e t' := ⟨fun pos pins s σ H Q I q => h.run pos pins s σ H Q I (i σ H Q q)⟩
end DL
set_option Elab.async false
set_option linter.all false
set_option maxRecDepth 100000
set_option maxHeartbeats 4000000
namespace DL
open PySem PySem.Spec PyProof.Rows L2
/-! ### readings told by content: names, constants, one part behind another -/
def slot : DSt → Nat → Option DV
  | [], _ => none
  | x :: _, 0 => x
  | _ :: r, i + 1 => slot r i
def setS : DSt → Nat → DV → DSt
  | [], _, _ => []
  | _ :: r, 0, d => some d :: r
  | x :: r, i + 1, d => x :: setS r i d
theorem slot_eq : ∀ {sd : DSt} {i : Nat} {d : DV}, slot sd i = some d → sd[i]? = some (some d)
  | [], _, _, h => by cases h
  | x :: _, 0, _, h => by
    have h' : x = some _ := h
    subst h'
    rfl
  | _ :: r, i + 1, _, h => by
    rw [List.getElem?_cons_succ]
    exact slot_eq (sd := r) h
theorem setS_eq : ∀ (sd : DSt) (i : Nat) (d : DV), setS sd i d = sd.set i (some d)
  | [], _, _ => rfl
  | _ :: _, 0, _ => rfl
  | x :: r, i + 1, d => by
    rw [List.set_cons_succ, ← setS_eq r i d]
    rfl
abbrev W0 : WX := fun _ _ _ _ => False
def dAt (o : Option DV) (k : DV → Prop) : Prop := match o with
  | some d => k d
  | none => False
def dVar (i : Nat) : TED := fun sd M _ Q => dAt (slot sd i) fun d => Q d M
def dC (d : DV) : TED := fun _ M _ Q => Q d M
section
variable {K : PySem.W.Frag} {W : WX} {H : Hp} {M : DM} {σ : L2.St} {sd : DSt} {E : EK}
theorem subE {t : TED} {Qd : DVK} {Q : VK} (r : Rel K H M) (rs : RelS K H M σ sd) (px : PostX K W H M E) (h : t sd M E Qd)
    (k : ∀ v d H1 M1, Le H M H1 M1 → Rel K H1 M1 → RelS K H1 M1 σ sd → PostX K W H1 M1 E → Fz K H1 M1 v d → Qd d M1 → Q v H1) : lE K W t σ H Q :=
  ⟨sd, M, E, Qd, r, rs, h, fun v d H1 M1 l r1 f q => k v d H1 M1 l r1 (rs.mono l) (px.mono l) f q, px⟩
theorem subT {t : TTD} {Qd : Bool → DM → Prop} {Q : Bool → Hp → Prop} (r : Rel K H M) (rs : RelS K H M σ sd) (px : PostX K W H M E) (h : t sd M E Qd)
    (k : ∀ b H1 M1, Le H M H1 M1 → Rel K H1 M1 → RelS K H1 M1 σ sd → PostX K W H1 M1 E → Qd b M1 → Q b H1) : lT K W t σ H Q :=
  ⟨sd, M, E, Qd, r, rs, h, fun b H1 M1 l r1 q => k b H1 M1 l r1 (rs.mono l) (px.mono l) q, px⟩
theorem subA {t : TAD} {Qd : List DV → DM → Prop} {Q : List V → Hp → Prop} (r : Rel K H M) (rs : RelS K H M σ sd) (px : PostX K W H M E) (h : t sd M E Qd)
    (k : ∀ vs ds H1 M1, Le H M H1 M1 → Rel K H1 M1 → RelS K H1 M1 σ sd → PostX K W H1 M1 E → Fzs K H1 M1 vs ds → Qd ds M1 → Q vs H1) : lA K W t σ H Q :=
  ⟨sd, M, E, Qd, r, rs, h, fun v d H1 M1 l r1 f q => k v d H1 M1 l r1 (rs.mono l) (px.mono l) f q, px⟩
end
section
variable {X : Cx} {W : WX} {pos : Pos}
theorem de_var {i : Nat} {x : Str} (hN : X.N[i]? = some x := by rfl) (hv : Vis X.env.scope x := by first | exact Or.inl rfl | exact Or.inr (Or.inl rfl) | exact Or.inr (Or.inr rfl)) (hd : (x == ("__debug__" : Str)) = false := by decide)
    (hcd : (x == ("__classdict__" : Str)) = false := by decide) : DE X W (.Name x pos) (dVar i) :=
  PE.cons (pe_var hN hv hd hcd) fun σ H Q ⟨sd, M, E, Qd, r, rs, h, pv, _⟩ => by
    have h' : dAt (slot sd i) fun d => Qd d M := h
    cases e : slot sd i with
    | none => rw [e] at h'; exact h'.elim
    | some d =>
      rw [e] at h'
      obtain ⟨v, q, f⟩ := rs.2 i d (slot_eq e)
      exact ⟨v, q, pv v d H M .refl r f h'⟩
theorem de_c {e : Expr} {v : V} {d : DV} (he : PE X e (tC v)) (hf : ∀ H M, Fz X.K H M v d) : DE X W e (dC d) :=
  PE.cons he fun σ H Q ⟨sd, M, E, Qd, r, rs, h, pv, _⟩ => pv v d H M .refl r (hf H M) h
theorem de_int {i j} : DE X W (.Constant (.int i) j pos) (dC (.int i)) := de_c pe_int fun _ _ => .int i
theorem de_bl {b j} : DE X W (.Constant (.bool b) j pos) (dC (.bl b)) := de_c pe_bl fun _ _ => .bl b
theorem de_non {j} : DE X W (.Constant .none j pos) (dC .non) := de_c pe_non fun _ _ => .non
theorem de_str {x j} : DE X W (.Constant (.str x) j pos) (dC (.str x)) := de_c pe_str fun _ _ => .str x
/-- a constant of the module -/
theorem de_glob {x : Str} {u : Value} {v : V} {d : DV} (hg : Gl X x) (hm : X.mg x = some u) (hr : RelV v u) (hf : ∀ H M, Fz X.K H M v d) (hd : (x == ("__debug__" : Str)) = false := by decide) : DE X W (.Name x pos) (dC d) :=
  de_c (pe_glob hg hm hr hd) hf
theorem da_nil : DA X W [] (fun _ M _ Q => Q [] M) := PA.cons pa_nil fun σ H Q ⟨sd, M, E, Qd, r, rs, h, pv, _⟩ => pv [] [] H M .refl r .nil h
def dCons (ta : TED) (tr : TAD) : TAD := fun sd M E Q => ta sd M E fun x M1 => tr sd M1 E fun xs M2 => Q (x :: xs) M2
def dNil : TAD := fun _ M _ Q => Q [] M
theorem da_nil' : DA X W [] dNil := da_nil
theorem da_cons {e : Expr} {es : List Expr} {te : TED} {t : TAD} (ha : DE X W e te) (hr : DA X W es t) (hs : starEach (e :: es) X.env = (false, eval e X.env) :: starEach es X.env := by rfl) : DA X W (e :: es) (dCons te t) :=
  PA.cons (pa_cons ha hr hs) fun σ H Q ⟨sd, M, E, Qd, r, rs, h, pv, px⟩ =>
    subE r rs px h fun v d H1 M1 l1 r1 rs1 px1 f1 q1 => subA r1 rs1 px1 q1 fun vs ds H2 M2 l2 r2 rs2 px2 f2 q2 => pv _ _ H2 M2 (l1.trans l2) r2 (.cons (f1.mono l2) f2) q2
/-! ### displays -/
def dTup (t : TAD) : TED := fun sd M E Q => t sd M E fun ds M1 => ds.length ≤ sizeLine ∧ Q (.tup ds) M1
def dLst (t : TAD) : TED := fun sd M E Q => t sd M E fun ds M1 => ds.length ≤ sizeLine ∧ Q (.lst ds) M1
def dLstM (t : TAD) : TED := fun sd M E Q => t sd M E fun ds M1 => ds.length ≤ sizeLine ∧ ∀ p, M1 p = none → Q (.ref p) (put M1 p (.lst ds))
/-- a new tuple, a new list, a new cell -/
theorem new_tup {K : PySem.W.Frag} {H : Hp} {M : DM} {p : Addr} {o : Obj} {vs : List V} {ds : List DV} (r : Rel K H M) (f : Fzs K H M vs ds) (h : H p = none) (hd : o.dict = none) :
    Le H M (upd H p (.frz o (.tup vs))) M ∧ Rel K (upd H p (.frz o (.tup vs))) M ∧ Fz K (upd H p (.frz o (.tup vs))) M (.ref p) (.tup ds) :=
  ⟨le_new h (r.free h), r.new h, .tup upd_same hd (r.free h) (f.mono (le_new h (r.free h)))⟩
theorem new_tupW {K : PySem.W.Frag} {H : Hp} {M : DM} {p : Addr} {vs : List V} {ds : List DV} (r : Rel K H M) (f : Fzs K H M vs ds) (h : H p = none) :
    Le H M (upd H p (.tup vs)) M ∧ Rel K (upd H p (.tup vs)) M ∧ Fz K (upd H p (.tup vs)) M (.ref p) (.tupW ds) :=
  ⟨le_new h (r.free h), r.new h, .tupW (.inl upd_same) (r.free h) (f.mono (le_new h (r.free h)))⟩
theorem new_lst {K : PySem.W.Frag} {H : Hp} {M : DM} {p : Addr} {vs : List V} {ds : List DV} (r : Rel K H M) (f : Fzs K H M vs ds) (h : H p = none) :
    Le H M (upd H p (.lst vs)) M ∧ Rel K (upd H p (.lst vs)) M ∧ Fz K (upd H p (.lst vs)) M (.ref p) (.lst ds) :=
  ⟨le_new h (r.free h), r.new h, .lst upd_same (r.free h) (f.mono (le_new h (r.free h)))⟩
theorem new_lstM {K : PySem.W.Frag} {H : Hp} {M : DM} {p : Addr} {vs : List V} {ds : List DV} (r : Rel K H M) (f : Fzs K H M vs ds) (h : H p = none) :
    Le H M (upd H p (.lst vs)) (put M p (.lst ds)) ∧ Rel K (upd H p (.lst vs)) (put M p (.lst ds)) :=
  ⟨le_newc h, r.newc h ⟨vs, upd_same, f.mono (le_newc h)⟩⟩
/-- a new tuple stands at p, as the object o -/
def NewT (H : Hp) (xs : List V) (Q : VK) : Prop := ∀ p o, H p = none → o.dict = none → Q (.ref p) (upd H p (.frz o (.tup xs)))
theorem laidT {pins : List (Addr × Obj)} {σ : L2.St} {H : Hp} {s : Shared} {t' : Nat} {vs : List V} {us : List Value} {n : Nat} {Q : VK} (I : Inv X pins σ H s) (r : Vals vs us) (z : vs.length ≤ sizeLine) (q : NewT H vs Q) :
    EP X pins σ Q (.ref s.heap.objs.size) { s with heap := s.heap.push { cls := .type "tuple", data := .seq us.toArray n }, toks := t' } := by
  have hf : H s.heap.objs.size = none := I.hok.fresh (Nat.le_refl _)
  have hg : (s.heap.push { cls := .type "tuple", data := .seq us.toArray n }).get? s.heap.objs.size = some { cls := .type "tuple", data := .seq us.toArray n } := Heap.get?_push_size _ rfl
  refine ⟨.ref s.heap.objs.size, upd H s.heap.objs.size (.frz { cls := .type "tuple", data := .seq us.toArray n } (.tup vs)), I.laid (t' := t') (fun b u e => Heap.get?_push_of_some _ e) (Nat.le_refl _) ?_, rfl, q _ _ hf rfl⟩
  exact ⟨hg, z, us, r, ⟨_, hg, rfl, _, rfl⟩⟩
theorem pe_tupF {es : List Expr} {t : TA} {x1} (h : PA X es t) : PE X (.Tuple es x1 pos) (fun σ H Q => t σ H fun xs H1 => xs.length ≤ sizeLine ∧ NewT H1 xs Q) := by
  refine ⟨fun pins s σ H Q I hq => ?_⟩
  exact wpAny_Tuple_spliced (thn (h.run pos pins s σ H _ I hq) fun us s1 ⟨xs, H1, I1, r, z, q⟩ => ⟨by rw [← r.length]; exact z, laidT (t' := s1.toks) I1 r z q⟩)
theorem de_tup {es : List Expr} {t : TAD} {x1} (h : DA X W es t) : DE X W (.Tuple es x1 pos) (dTup t) :=
  PE.cons (pe_tupF h) fun σ H Q ⟨sd, M, E, Qd, r, rs, q, pv, px⟩ =>
    subA r rs px q fun vs ds H1 M1 l1 r1 _ _ f1 ⟨z, q1⟩ => ⟨by rw [f1.length]; exact z, fun p o np hd => by
      obtain ⟨a, b, c⟩ := new_tup r1 f1 np hd
      exact pv _ _ _ _ (l1.trans a) b c q1⟩
theorem de_lst {es : List Expr} {t : TAD} (h : DA X W es t) : DE X W (.List es pos) (dLst t) :=
  PE.cons (pe_lst h) fun σ H Q ⟨sd, M, E, Qd, r, rs, q, pv, px⟩ =>
    subA r rs px q fun vs ds H1 M1 l1 r1 _ _ f1 ⟨z, q1⟩ => ⟨by rw [f1.length]; exact z, fun p np => by
      obtain ⟨a, b, c⟩ := new_lst r1 f1 np
      exact pv _ _ _ _ (l1.trans a) b c q1⟩
theorem de_lstM {es : List Expr} {t : TAD} (h : DA X W es t) : DE X W (.List es pos) (dLstM t) :=
  PE.cons (pe_lst h) fun σ H Q ⟨sd, M, E, Qd, r, rs, q, pv, px⟩ =>
    subA r rs px q fun vs ds H1 M1 l1 r1 _ _ f1 ⟨z, q1⟩ => ⟨by rw [f1.length]; exact z, fun p np => by
      obtain ⟨a, b⟩ := new_lstM r1 f1 np
      exact pv _ _ _ _ (l1.trans a) b (.ref p) (q1 p (r1.free np))⟩
/-! ### operators by contents -/
abbrev R2D := DV → DV → DM → DVK → Prop
def Lift2 (K : PySem.W.Frag) (r : R2) (rd : R2D) : Prop := ∀ H M v1 v2 d1 d2 Qd Q, Rel K H M → Fz K H M v1 d1 → Fz K H M v2 d2 → rd d1 d2 M Qd → PostV K H M Qd Q → r v1 v2 H Q
abbrev R1D := DV → DM → DVK → Prop
def Lift1 (K : PySem.W.Frag) (r : V → Hp → VK → Prop) (rd : R1D) : Prop := ∀ H M v d Qd Q, Rel K H M → Fz K H M v d → rd d M Qd → PostV K H M Qd Q → r v H Q
abbrev RAD := List DV → DM → DVK → Prop
def LiftA (K : PySem.W.Frag) (r : List V → Hp → VK → Prop) (rd : RAD) : Prop := ∀ H M vs ds Qd Q, Rel K H M → Fzs K H M vs ds → rd ds M Qd → PostV K H M Qd Q → r vs H Q
def dOp (rd : R2D) (ta tb : TED) : TED := fun sd M E Q => ta sd M E fun x M1 => tb sd M1 E fun y M2 => rd x y M2 Q
def dUn (rd : R1D) (ta : TED) : TED := fun sd M E Q => ta sd M E fun x M1 => rd x M1 Q
theorem lift_op {K : PySem.W.Frag} {r : R2} {rd : R2D} {ta tb : TED} (hl : Lift2 K r rd) {σ : L2.St} {H : Hp} {Q : VK} : lE K W (dOp rd ta tb) σ H Q → tOp r (lE K W ta) (lE K W tb) σ H Q :=
  fun ⟨sd, M, E, Qd, r, rs, q, pv, px⟩ => subE r rs px q fun v d H1 M1 l1 r1 rs1 px1 f1 q1 => subE r1 rs1 px1 q1 fun v2 d2 H2 M2 l2 r2 rs2 px2 f2 q2 =>
    hl H2 M2 v v2 d d2 Qd Q r2 (f1.mono l2) f2 q2 (pv.mono (l1.trans l2))
theorem de_op {a b : Expr} {op : Operator} {r : R2} {rd : R2D} {ta tb : TED} (ho : OpR X (binaryOp op) r) (hl : Lift2 X.K r rd) (ha : DE X W a ta) (hb : DE X W b tb) : DE X W (.BinOp a op b pos) (dOp rd ta tb) :=
  PE.cons (pe_op ho ha hb) fun σ H Q => lift_op hl
theorem de_cmp {a b : Expr} {op : CmpOp} {r : R2} {rd : R2D} {ta tb : TED} (ho : OpR X (compareOp op) r) (hl : Lift2 X.K r rd) (ha : DE X W a ta) (hb : DE X W b tb) (hm : behindInMarks op b = false) : DE X W (.Compare a [op] [b] pos) (dOp rd ta tb) :=
  PE.cons (pe_cmpR ho ha hb hm) fun σ H Q => lift_op hl
def ifB (d : DV) (k : Bool → Prop) : Prop := match d with
  | .bl b => k b
  | _ => False
theorem ifB_of {d : DV} {k : Bool → Prop} (h : ifB d k) : ∃ b, d = .bl b ∧ k b := by
  cases d with
  | bl b => exact ⟨b, rfl, h⟩
  | _ => exact h.elim
def dTest (t : TED) : TTD := fun sd M E Q => t sd M E fun d M1 => ifB d fun b => Q b M1
theorem Fz.bl_inv {K : PySem.W.Frag} {H : Hp} {M : DM} {v : V} {b : Bool} (f : Fz K H M v (.bl b)) : v = .bl b := by cases f; rfl
theorem Fz.int_inv {K : PySem.W.Frag} {H : Hp} {M : DM} {v : V} {i : Int} (f : Fz K H M v (.int i)) : v = .int i := by cases f; rfl
theorem Fz.str_inv {K : PySem.W.Frag} {H : Hp} {M : DM} {v : V} {x : Str} (f : Fz K H M v (.str x)) : v = .str x := by cases f; rfl
theorem Fz.non_inv {K : PySem.W.Frag} {H : Hp} {M : DM} {v : V} (f : Fz K H M v .non) : v = .non := by cases f; rfl
theorem Fz.ref_inv {K : PySem.W.Frag} {H : Hp} {M : DM} {v : V} {a : Addr} (f : Fz K H M v (.ref a)) : v = .ref a := by cases f; rfl
theorem Fz.tup_inv {K : PySem.W.Frag} {H : Hp} {M : DM} {v : V} {ds : List DV} (f : Fz K H M v (.tup ds)) : ∃ a vs, v = .ref a ∧ SqT K H a vs ∧ Fzs K H M vs ds := by
  cases f with
  | tup h _ n z => exact ⟨_, _, rfl, .inl (.inr ⟨_, h⟩), z⟩
  | ktup h z =>
    obtain ⟨o, its, n, h1, h2, _, h3, h4, h5⟩ := h
    exact ⟨_, _, rfl, .inr ⟨o, its, n, h1, h2, h3, h4, h5⟩, z⟩
theorem Fz.tupW_inv {K : PySem.W.Frag} {H : Hp} {M : DM} {v : V} {ds : List DV} (f : Fz K H M v (.tupW ds)) : ∃ a vs, v = .ref a ∧ SqT K H a vs ∧ Fzs K H M vs ds := by
  cases f with
  | tupW h n z => exact ⟨_, _, rfl, .inl h, z⟩
theorem Fz.scr_inv {K : PySem.W.Frag} {H : Hp} {M : DM} {v : V} {ds : List DV} (f : Fz K H M v (.scr ds)) : ∃ a vs, v = .ref a ∧ SqL K H a vs ∧ Fzs K H M vs ds := by
  cases f with
  | scr h n z => exact ⟨_, _, rfl, .inl h, z⟩
  | kscr h z => exact ⟨_, _, rfl, .inr h, z⟩
theorem Fz.lst_inv {K : PySem.W.Frag} {H : Hp} {M : DM} {v : V} {ds : List DV} (f : Fz K H M v (.lst ds)) : ∃ a vs, v = .ref a ∧ H a = some (.lst vs) ∧ M a = none ∧ Fzs K H M vs ds := by
  cases f with
  | lst h n z => exact ⟨_, _, rfl, h, n, z⟩
theorem tB_of {K : PySem.W.Frag} {t : TED} {σ : L2.St} {H : Hp} {Q : Bool → Hp → Prop} : lT K W (dTest t) σ H Q → tB (lE K W t) σ H Q :=
  fun ⟨sd, M, E, Qd, r, rs, q, pv, px⟩ => subE r rs px q fun v d H1 M1 l1 r1 rs1 px1 f1 q1 => by
    obtain ⟨b, rfl, q2⟩ := ifB_of q1
    exact ⟨b, f1.bl_inv, pv b H1 M1 l1 r1 q2⟩
theorem dt_val {e : Expr} {t : TED} (h : DE X W e t) (he : ∀ whole, isTrue e X.env whole = (do let v ← whole; standAt e.pos; holding [v] (truthy v)) := by intro _; rfl) : DT X W e (dTest t) :=
  PT.cons (pt_val h he) fun σ H Q => tB_of
theorem dt_cmp {a b : Expr} {op : CmpOp} {r : R2} {rd : R2D} {ta tb : TED} (ho : OpR X (compareOp op) r) (hl : Lift2 X.K r rd) (ha : DE X W a ta) (hb : DE X W b tb) (hm : behindInMarks op b = false) : DT X W (.Compare a [op] [b] pos) (dTest (dOp rd ta tb)) :=
  PT.cons (pt_cmpR ho ha hb hm) fun σ H Q ⟨sd, M, E, Qd, r, rs, q, pv, px⟩ =>
    subE r rs px q fun v d H1 M1 l1 r1 rs1 px1 f1 q1 => subE r1 rs1 px1 q1 fun v2 d2 H2 M2 l2 r2 rs2 px2 f2 q2 =>
      hl H2 M2 v v2 d d2 _ _ r2 (f1.mono l2) f2 q2 fun v3 d3 H3 M3 l3 r3 f3 q3 => by
        obtain ⟨b, rfl, q4⟩ := ifB_of q3
        exact ⟨b, f3.bl_inv, pv b H3 M3 ((l1.trans l2).trans l3) r3 q4⟩
/-! ### tests -/
def DW (X : Cx) (W : WX) (e : Expr) (t : TTD) : Prop := PW X e (lT X.K W t)
theorem PW.cons {e : Expr} {t t' : TT} (h : PW X e t) (i : ∀ σ H Q, t' σ H Q → t σ H Q) : PW X e t' := ⟨fun wh pins s σ H Q I q => h.run wh pins s σ H Q I (i σ H Q q)⟩
def dAnd (ta tb : TTD) : TTD := fun sd M E Q => ta sd M E fun c M1 => if c = true then tb sd M1 E Q else Q false M1
def dOr (ta tb : TTD) : TTD := fun sd M E Q => ta sd M E fun c M1 => if c = true then Q true M1 else tb sd M1 E Q
def dNot (ta : TTD) : TTD := fun sd M E Q => ta sd M E fun c M1 => Q (!c) M1
variable {a b : Expr} {rest : List Expr} {tA tB : TTD}
theorem dw_pt {e : Expr} (h : DW X W e tA) : DT X W e tA := L2.PW.pt h
theorem dw_and1 (ha : DT X W a tA) : DW X W (.BoolOp .And [a] pos) tA := pw_and1 ha
theorem dw_or1 (ha : DT X W a tA) : DW X W (.BoolOp .Or [a] pos) tA := pw_or1 ha
theorem dw_and (ha : DT X W a tA) (hb : DW X W (.BoolOp .And (b :: rest) pos) tB) : DW X W (.BoolOp .And (a :: b :: rest) pos) (dAnd tA tB) :=
  PW.cons (pw_and ha hb) fun σ H Q ⟨sd, M, E, Qd, r, rs, q, pv, px⟩ => subT r rs px q fun c H1 M1 l1 r1 rs1 px1 q1 => by
    cases c with
    | true => exact subT r1 rs1 px1 q1 fun b H2 M2 l2 r2 _ _ q2 => pv b H2 M2 (l1.trans l2) r2 q2
    | false => exact pv false H1 M1 l1 r1 q1
theorem dw_or (ha : DT X W a tA) (hb : DW X W (.BoolOp .Or (b :: rest) pos) tB) : DW X W (.BoolOp .Or (a :: b :: rest) pos) (dOr tA tB) :=
  PW.cons (pw_or ha hb) fun σ H Q ⟨sd, M, E, Qd, r, rs, q, pv, px⟩ => subT r rs px q fun c H1 M1 l1 r1 rs1 px1 q1 => by
    cases c with
    | false => exact subT r1 rs1 px1 q1 fun b H2 M2 l2 r2 _ _ q2 => pv b H2 M2 (l1.trans l2) r2 q2
    | true => exact pv true H1 M1 l1 r1 q1
theorem dt_not (ha : DT X W a tA) : DT X W (.UnaryOp .Not a pos) (dNot tA) :=
  PT.cons (pt_not ha) fun σ H Q ⟨sd, M, E, Qd, r, rs, q, pv, px⟩ => subT r rs px q fun c H1 M1 l1 r1 _ _ q1 => pv (!c) H1 M1 l1 r1 q1
/-- and, or, not as values (bools) -/
def dAndV (ta tb : TED) : TED := fun sd M E Q => ta sd M E fun d M1 => ifB d fun c => if c = true then tb sd M1 E Q else Q (.bl false) M1
def dOrV (ta tb : TED) : TED := fun sd M E Q => ta sd M E fun d M1 => ifB d fun c => if c = true then Q (.bl true) M1 else tb sd M1 E Q
def dNotV (ta : TED) : TED := fun sd M E Q => ta sd M E fun d M1 => ifB d fun c => Q (.bl (!c)) M1
variable {ta tb : TED}
theorem de_one {op} (h : DE X W a ta) : DE X W (.BoolOp op [a] pos) ta := pe_one h
theorem de_and (ha : DE X W a ta) (hb : DE X W (.BoolOp .And (b :: rest) pos) tb) : DE X W (.BoolOp .And (a :: b :: rest) pos) (dAndV ta tb) :=
  PE.cons (pe_and ha hb) fun σ H Q ⟨sd, M, E, Qd, r, rs, q, pv, px⟩ => subE r rs px q fun v d H1 M1 l1 r1 rs1 px1 f1 q1 => by
    obtain ⟨c, rfl, q2⟩ := ifB_of q1
    refine ⟨c, f1.bl_inv, ?_⟩
    cases c with
    | true => exact subE r1 rs1 px1 q2 fun v2 d2 H2 M2 l2 r2 _ _ f2 q3 => pv v2 d2 H2 M2 (l1.trans l2) r2 f2 q3
    | false => exact pv _ _ H1 M1 l1 r1 (.bl false) q2
theorem de_or (ha : DE X W a ta) (hb : DE X W (.BoolOp .Or (b :: rest) pos) tb) : DE X W (.BoolOp .Or (a :: b :: rest) pos) (dOrV ta tb) :=
  PE.cons (pe_or ha hb) fun σ H Q ⟨sd, M, E, Qd, r, rs, q, pv, px⟩ => subE r rs px q fun v d H1 M1 l1 r1 rs1 px1 f1 q1 => by
    obtain ⟨c, rfl, q2⟩ := ifB_of q1
    refine ⟨c, f1.bl_inv, ?_⟩
    cases c with
    | false => exact subE r1 rs1 px1 q2 fun v2 d2 H2 M2 l2 r2 _ _ f2 q3 => pv v2 d2 H2 M2 (l1.trans l2) r2 f2 q3
    | true => exact pv _ _ H1 M1 l1 r1 (.bl true) q2
theorem de_not (ha : DE X W a ta) : DE X W (.UnaryOp .Not a pos) (dNotV ta) :=
  PE.cons (pe_not ha) fun σ H Q ⟨sd, M, E, Qd, r, rs, q, pv, px⟩ => subE r rs px q fun v d H1 M1 l1 r1 rs1 px1 f1 q1 => by
    obtain ⟨c, rfl, q2⟩ := ifB_of q1
    exact ⟨c, f1.bl_inv, pv _ _ H1 M1 l1 r1 (.bl _) q2⟩
def dIf (tA : TTD) (ta tb : TED) : TED := fun sd M E Q => tA sd M E fun c M1 => if c = true then ta sd M1 E Q else tb sd M1 E Q
theorem de_if {c : Expr} (hc : DT X W c tA) (ha : DE X W a ta) (hb : DE X W b tb) : DE X W (.IfExp c a b pos) (dIf tA ta tb) :=
  PE.cons (pe_ifExp hc ha hb) fun σ H Q ⟨sd, M, E, Qd, r, rs, q, pv, px⟩ => subT r rs px q fun c H1 M1 l1 r1 rs1 px1 q1 => by
    cases c with
    | true => exact subE r1 rs1 px1 q1 fun v2 d2 H2 M2 l2 r2 _ _ f2 q3 => pv v2 d2 H2 M2 (l1.trans l2) r2 f2 q3
    | false => exact subE r1 rs1 px1 q1 fun v2 d2 H2 M2 l2 r2 _ _ f2 q3 => pv v2 d2 H2 M2 (l1.trans l2) r2 f2 q3
theorem de_un {op : UnaryOp} {r : V → Hp → VK → Prop} {rd : R1D} (ho : UnR X (unaryOp op) r) (hl : Lift1 X.K r rd) (ha : DE X W a ta) : DE X W (.UnaryOp op a pos) (dUn rd ta) :=
  PE.cons (pe_un ho ha) fun σ H Q ⟨sd, M, E, Qd, r, rs, q, pv, px⟩ => subE r rs px q fun v d H1 M1 l1 r1 rs1 px1 f1 q1 => hl H1 M1 v d Qd Q r1 f1 q1 (pv.mono l1)
end
end DL
set_option Elab.async false
set_option linter.all false
set_option maxRecDepth 100000
set_option maxHeartbeats 4000000
namespace DL
open PySem PySem.Spec PyProof.Rows L2
/-! ### sequences by contents -/
/-- the items of a list or a tuple -/
def seqD (M : DM) : DV → Option (List DV)
  | .tup ds => some ds
  | .tupW ds => some ds
  | .lst ds => some ds
  | .scr ds => some ds
  | .ref a => match M a with
    | some (.lst ds) => some ds
    | _ => none
  | _ => none
def isT : DV → Bool
  | .tup _ => true
  | .tupW _ => true
  | _ => false
theorem seqD_sp {K : PySem.W.Frag} {H : Hp} {M : DM} {v : V} {d : DV} {ds : List DV} (r : Rel K H M) (f : Fz K H M v d) (h : seqD M d = some ds) :
    ∃ a vs, v = .ref a ∧ ((isT d = false ∧ SqL K H a vs) ∨ (isT d = true ∧ SqT K H a vs)) ∧ Fzs K H M vs ds := by
  cases d with
  | tup xs =>
    cases h
    obtain ⟨a, vs, e, h1, h2⟩ := f.tup_inv
    exact ⟨a, vs, e, .inr ⟨rfl, h1⟩, h2⟩
  | tupW xs =>
    cases h
    obtain ⟨a, vs, e, h1, h2⟩ := f.tupW_inv
    exact ⟨a, vs, e, .inr ⟨rfl, h1⟩, h2⟩
  | lst xs =>
    cases h
    obtain ⟨a, vs, e, h1, _, h2⟩ := f.lst_inv
    exact ⟨a, vs, e, .inl ⟨rfl, .of h1⟩, h2⟩
  | scr xs =>
    cases h
    obtain ⟨a, vs, e, h1, h2⟩ := f.scr_inv
    exact ⟨a, vs, e, .inl ⟨rfl, h1⟩, h2⟩
  | ref a =>
    have e := f.ref_inv
    subst e
    cases q : M a with
    | none =>
      have h' : seqD M (.ref a) = none := by
        show (match M a with
          | some (.lst ds) => some ds
          | _ => none) = none
        rw [q]
      rw [h'] at h
      cases h
    | some c =>
      cases c with
      | lst xs =>
        have h' : seqD M (.ref a) = some xs := by
          show (match M a with
            | some (.lst ds) => some ds
            | _ => none) = some xs
          rw [q]
        rw [h'] at h
        cases h
        obtain ⟨vs, e, z⟩ := r a _ q
        exact ⟨a, vs, rfl, .inl ⟨rfl, .of e⟩, z⟩
      | _ =>
        have h' : seqD M (.ref a) = none := by
          show (match M a with
            | some (.lst ds) => some ds
            | _ => none) = none
          rw [q]
        rw [h'] at h
        cases h
  | _ => cases h
theorem seqD_ok {K : PySem.W.Frag} {H : Hp} {M : DM} {v : V} {d : DV} {ds : List DV} (r : Rel K H M) (f : Fz K H M v d) (h : seqD M d = some ds) :
    ∃ a vs, v = .ref a ∧ (SqL K H a vs ∨ SqT K H a vs) ∧ Fzs K H M vs ds := by
  obtain ⟨a, vs, e, s, z⟩ := seqD_sp r f h
  exact ⟨a, vs, e, s.imp And.right And.right, z⟩
theorem seqD_ref {M : DM} {a : Addr} {ds : List DV} (h : M a = some (.lst ds)) : seqD M (.ref a) = some ds := by
  show (match M a with
    | some (.lst ds) => some ds
    | _ => none) = some ds
  rw [h]
def atSeq (o : Option (List DV)) (k : List DV → Prop) : Prop := match o with
  | some ds => k ds
  | none => False
theorem atSeq_of {o : Option (List DV)} {k : List DV → Prop} (h : atSeq o k) : ∃ ds, o = some ds ∧ k ds := by
  cases o with
  | none => exact h.elim
  | some ds => exact ⟨ds, rfl, h⟩
/-! ### + - * // % ** -/
def NewTR (K : PySem.W.Frag) : R2 := fun x y H Q => ∃ a b xs ys, x = .ref a ∧ y = .ref b ∧ SqT K H a xs ∧ SqT K H b ys ∧ xs.length + ys.length ≤ sizeLine ∧
  (xs = [] → Q (.ref b) H) ∧ (xs ≠ [] → ys = [] → Q (.ref a) H) ∧ (xs ≠ [] → ys ≠ [] → NewT H (xs ++ ys) Q)
section
variable {X : Cx}
theorem op_catF : OpR X (binaryOp .Add) (NewTR X.K) := by
  intro pins s σ H x y v u Q I rx ry h
  obtain ⟨a, b, xs, ys, rfl, rfl, ha, hb, hz, q0, q1, q2⟩ := h
  cases rx
  cases ry
  obtain ⟨its, r1, p1, _⟩ := I.tuple ha
  obtain ⟨its2, r2, p2, _⟩ := I.tuple hb
  by_cases hx : xs = []
  · subst hx
    cases r1
    exact cat_tup0 p1 p2 ⟨.ref b, H, I, rfl, q0 rfl⟩
  · refine HT.cat_tup p1 p2 (fun z => hx (r1.nil_iff.mp z)) (fun z => ⟨.ref a, H, I, rfl, q1 hx (r2.nil_iff.mp z)⟩) (fun z => ?_) (by rw [← r1.length, ← r2.length]; exact hz)
    exact laidT (t' := s.toks) I (r1.append r2) (by rw [List.length_append]; exact hz) (q2 hx fun w => z (r2.nil_iff.mpr w))
def addD : R2D := fun d e M Q => match d, e with
  | .int i, .int j => Q (.int (i + j)) M
  | .str x, .str y => x.length + y.length ≤ sizeLine ∧ Q (.str (x ++ y)) M
  | .tup xs, .tup ys => xs.length + ys.length ≤ sizeLine ∧ Q (.tup (xs ++ ys)) M
  | .lst xs, .lst ys => xs.length + ys.length ≤ sizeLine ∧ Q (.lst (xs ++ ys)) M
  | _, _ => False
def rAddD (K : PySem.W.Frag) : R2 := fun x y H Q => rI0 (fun i j => .int (i + j)) x y H Q ∨ ((∃ i j, x = .str i ∧ y = .str j ∧ i.length + j.length ≤ sizeLine ∧ Q (.str (i ++ j)) H) ∨ (NewTR K x y H Q ∨ rCat x y H Q))
theorem op_addD : OpR X (binaryOp .Add) (rAddD X.K) := OpR.or op_add (OpR.or op_add_str (OpR.or op_catF op_cat))
theorem lift_add {K : PySem.W.Frag} : Lift2 K (rAddD K) addD := fun H M v1 v2 d1 d2 Qd Q r f1 f2 h pv => by
  unfold addD at h
  split at h
  · exact .inl ⟨_, _, f1.int_inv, f2.int_inv, pv _ _ H M .refl r (.int _) h⟩
  · exact .inr (.inl ⟨_, _, f1.str_inv, f2.str_inv, h.1, pv _ _ H M .refl r (.str _) h.2⟩)
  · rename_i xs ys
    obtain ⟨hz, q⟩ := h
    obtain ⟨a, vs, e1, s1, z1⟩ := f1.tup_inv
    obtain ⟨b, ws, e2, s2, z2⟩ := f2.tup_inv
    refine .inr (.inr (.inl ⟨a, b, vs, ws, e1, e2, s1, s2, by rw [z1.length, z2.length]; exact hz, fun e => ?_, fun _ e => ?_, fun _ _ p o np hd => ?_⟩))
    · subst e
      cases z1
      exact pv _ _ H M .refl r (e2 ▸ f2) q
    · subst e
      cases z2
      rw [List.append_nil] at q
      exact pv _ _ H M .refl r (e1 ▸ f1) q
    · obtain ⟨l, r2, f⟩ := new_tup r (z1.append z2) np hd
      exact pv _ _ _ _ l r2 f q
  · obtain ⟨hz, q⟩ := h
    obtain ⟨a, vs, e1, s1, _, z1⟩ := f1.lst_inv
    obtain ⟨b, ws, e2, s2, _, z2⟩ := f2.lst_inv
    refine .inr (.inr (.inr ⟨a, b, vs, ws, e1, e2, s1, s2, by rw [z1.length, z2.length]; exact hz, fun p np => ?_⟩))
    obtain ⟨l, r2, f⟩ := new_lst r (z1.append z2) np
    exact pv _ _ _ _ l r2 f q
  · exact h.elim
/-- operators of two ints -/
def ntD (C : Int → Int → Prop) (g : Int → Int → DV) : R2D := fun d e M Q => match d, e with
  | .int i, .int j => C i j ∧ Q (g i j) M
  | _, _ => False
def ntD0 (g : Int → Int → DV) : R2D := fun d e M Q => match d, e with
  | .int i, .int j => Q (g i j) M
  | _, _ => False
theorem lift_int {K : PySem.W.Frag} {C : Int → Int → Prop} {g : Int → Int → V} {gd : Int → Int → DV} (hg : ∀ i j H M, Fz K H M (g i j) (gd i j)) : Lift2 K (rI C g) (ntD C gd) := fun H M v1 v2 d1 d2 Qd Q r f1 f2 h pv => by
  unfold ntD at h
  split at h
  · exact ⟨_, _, f1.int_inv, f2.int_inv, h.1, pv _ _ H M .refl r (hg _ _ H M) h.2⟩
  · exact h.elim
theorem lift_int0 {K : PySem.W.Frag} {g : Int → Int → V} {gd : Int → Int → DV} (hg : ∀ i j H M, Fz K H M (g i j) (gd i j)) : Lift2 K (rI0 g) (ntD0 gd) := fun H M v1 v2 d1 d2 Qd Q r f1 f2 h pv => by
  unfold ntD0 at h
  split at h
  · exact ⟨_, _, f1.int_inv, f2.int_inv, pv _ _ H M .refl r (hg _ _ H M) h⟩
  · exact h.elim
def CPowW (i j : Int) : Prop := 0 ≤ j ∧ (Builtin.Int.intBits i : Int) * j ≤ 2 ^ 27
theorem op_powW : OpR X (binaryOp .Pow) (rI CPowW fun i j => .int (i ^ j.toNat)) := opI fun _ _ _ _ _ _ _ hc q => pow_int hc.1 hc.2 q
abbrev subD : R2D := ntD0 fun i j => .int (i - j)
abbrev mulD : R2D := ntD CMulW fun i j => .int (i * j)
abbrev fdivD : R2D := ntD CDivW fun i j => .int (i / j)
abbrev modD : R2D := ntD (fun _ j => 0 < j) fun i j => .int (i % j)
abbrev powD : R2D := ntD CPowW fun i j => .int (i ^ j.toNat)
variable {W : WX} {pos : Pos} {a b : Expr} {ta tb : TED}
theorem de_add (ha : DE X W a ta) (hb : DE X W b tb) : DE X W (.BinOp a .Add b pos) (dOp addD ta tb) := de_op op_addD lift_add ha hb
theorem de_sub (ha : DE X W a ta) (hb : DE X W b tb) : DE X W (.BinOp a .Sub b pos) (dOp subD ta tb) := de_op op_sub (lift_int0 fun _ _ _ _ => .int _) ha hb
theorem de_mul (ha : DE X W a ta) (hb : DE X W b tb) : DE X W (.BinOp a .Mult b pos) (dOp mulD ta tb) := de_op op_mulW (lift_int fun _ _ _ _ => .int _) ha hb
theorem de_fdiv (ha : DE X W a ta) (hb : DE X W b tb) : DE X W (.BinOp a .FloorDiv b pos) (dOp fdivD ta tb) := de_op op_fdivW (lift_int fun _ _ _ _ => .int _) ha hb
theorem de_mod (ha : DE X W a ta) (hb : DE X W b tb) : DE X W (.BinOp a .Mod b pos) (dOp modD ta tb) := de_op op_mod (lift_int fun _ _ _ _ => .int _) ha hb
theorem de_pow (ha : DE X W a ta) (hb : DE X W b tb) : DE X W (.BinOp a .Pow b pos) (dOp powD ta tb) := de_op op_powW (lift_int fun _ _ _ _ => .int _) ha hb
def negD : R1D := fun d M Q => match d with
  | .int i => Q (.int (-i)) M
  | _ => False
theorem de_neg (ha : DE X W a ta) : DE X W (.UnaryOp .USub a pos) (dUn negD ta) := de_un un_neg (fun H M v d Qd Q r f h pv => by
  unfold negD at h
  split at h
  · exact ⟨_, f.int_inv, pv _ _ H M .refl r (.int _) h⟩
  · exact h.elim) ha
/-! ### order -/
def ordD (g : Int → Int → Bool) (h : List Nat → List Nat → Bool) : R2D := fun d e M Q => match d, e with
  | .int i, .int j => Q (.bl (g i j)) M
  | .str x, .str y => Q (.bl (h x.cps.toList y.cps.toList)) M
  | _, _ => False
theorem lift_ord {K : PySem.W.Frag} {g : Int → Int → Bool} {h : List Nat → List Nat → Bool} :
    Lift2 K (fun x y H Q => rI0 (fun i j => .bl (g i j)) x y H Q ∨ ∃ i j, x = .str i ∧ y = .str j ∧ Q (.bl (h i.cps.toList j.cps.toList)) H) (ordD g h) := fun H M v1 v2 d1 d2 Qd Q r f1 f2 q pv => by
  unfold ordD at q
  split at q
  · exact .inl ⟨_, _, f1.int_inv, f2.int_inv, pv _ _ H M .refl r (.bl _) q⟩
  · exact .inr ⟨_, _, f1.str_inv, f2.str_inv, pv _ _ H M .refl r (.bl _) q⟩
  · exact q.elim
abbrev ltD : R2D := ordD (fun i j => decide (i < j)) fun x y => decide (x < y)
abbrev leD : R2D := ordD (fun i j => decide (i ≤ j)) fun x y => !decide (y < x)
abbrev gtD : R2D := ordD (fun i j => decide (j < i)) fun x y => decide (y < x)
abbrev geD : R2D := ordD (fun i j => decide (j ≤ i)) fun x y => !decide (x < y)
theorem de_lt (ha : DE X W a ta) (hb : DE X W b tb) : DE X W (.Compare a [.Lt] [b] pos) (dOp ltD ta tb) := de_cmp (OpR.or op_lt op_lt_str) lift_ord ha hb (nomark _)
theorem de_le (ha : DE X W a ta) (hb : DE X W b tb) : DE X W (.Compare a [.LtE] [b] pos) (dOp leD ta tb) := de_cmp (OpR.or op_le op_le_str) lift_ord ha hb (nomark _)
theorem de_gt (ha : DE X W a ta) (hb : DE X W b tb) : DE X W (.Compare a [.Gt] [b] pos) (dOp gtD ta tb) := de_cmp (OpR.or op_gt op_gt_str) lift_ord ha hb (nomark _)
theorem de_ge (ha : DE X W a ta) (hb : DE X W b tb) : DE X W (.Compare a [.GtE] [b] pos) (dOp geD ta tb) := de_cmp (OpR.or op_ge op_ge_str) lift_ord ha hb (nomark _)
theorem dt_lt (ha : DE X W a ta) (hb : DE X W b tb) : DT X W (.Compare a [.Lt] [b] pos) (dTest (dOp ltD ta tb)) := dt_cmp (OpR.or op_lt op_lt_str) lift_ord ha hb (nomark _)
theorem dt_le (ha : DE X W a ta) (hb : DE X W b tb) : DT X W (.Compare a [.LtE] [b] pos) (dTest (dOp leD ta tb)) := dt_cmp (OpR.or op_le op_le_str) lift_ord ha hb (nomark _)
theorem dt_gt (ha : DE X W a ta) (hb : DE X W b tb) : DT X W (.Compare a [.Gt] [b] pos) (dTest (dOp gtD ta tb)) := dt_cmp (OpR.or op_gt op_gt_str) lift_ord ha hb (nomark _)
theorem dt_ge (ha : DE X W a ta) (hb : DE X W b tb) : DT X W (.Compare a [.GtE] [b] pos) (dTest (dOp geD ta tb)) := dt_cmp (OpR.or op_ge op_ge_str) lift_ord ha hb (nomark _)
end
/-! ### == of data -/
mutual
def toPy : DV → PyData
  | .non => .none
  | .bl b => .bool b
  | .int i => .int i
  | .str x => .str x
  | .tup ds => .tuple (toPys ds)
  | .lst ds => .list (toPys ds)
  | .ty _ | .ref _ | .tupW _ | .scr _ | .dK _ _ => .none
def toPys : List DV → List PyData
  | [] => []
  | d :: ds => toPy d :: toPys ds
end
/-- data of at most that depth, its texts of proper signs -/
def okD : Nat → DV → Prop
  | _, .non => True
  | _, .bl _ => True
  | _, .int _ => True
  | _, .str x => PyData.strOk x = true
  | n + 1, .tup ds => ∀ d ∈ ds, okD n d
  | n + 1, .lst ds => ∀ d ∈ ds, okD n d
  | _, _ => False
theorem toPys_eq : ∀ ds : List DV, toPys ds = ds.map toPy
  | [] => rfl
  | d :: ds => by rw [List.map_cons, ← toPys_eq ds, toPys]
theorem depthAll_le {n : Nat} : ∀ ds : List DV, (∀ d ∈ ds, (toPy d).depth ≤ n) → PyData.depthAll (toPys ds) ≤ n
  | [], _ => by unfold toPys; exact Nat.zero_le _
  | d :: ds, h => by
    unfold toPys PyData.depthAll
    have h1 := h d (List.mem_cons_self ..)
    have h2 := depthAll_le ds fun e he => h e (List.mem_cons_of_mem _ he)
    omega
theorem canLayAll_of : ∀ ds : List DV, (∀ d ∈ ds, (toPy d).canLay0 = true) → PyData.canLayAll0 (toPys ds) = true
  | [], _ => by unfold toPys; rfl
  | d :: ds, h => by
    unfold toPys PyData.canLayAll0
    rw [h d (List.mem_cons_self ..), canLayAll_of ds fun e he => h e (List.mem_cons_of_mem _ he)]
    rfl
theorem okD_lay : ∀ (n : Nat) (d : DV), okD n d → (toPy d).canLay0 = true ∧ (toPy d).depth ≤ n
  | n, .non, _ => by unfold toPy; exact ⟨rfl, Nat.zero_le _⟩
  | n, .bl _, _ => by unfold toPy; exact ⟨rfl, Nat.zero_le _⟩
  | n, .int _, _ => by unfold toPy; exact ⟨rfl, Nat.zero_le _⟩
  | n, .str x, h => by
    unfold toPy
    refine ⟨?_, Nat.zero_le _⟩
    unfold PyData.canLay0
    cases n <;> exact h
  | n + 1, .tup ds, h => by
    unfold toPy PyData.canLay0 PyData.depth
    have h' : ∀ d ∈ ds, okD n d := h
    have := depthAll_le (n := n) ds fun d hd => (okD_lay n d (h' d hd)).2
    exact ⟨canLayAll_of ds fun d hd => (okD_lay n d (h' d hd)).1, by omega⟩
  | n + 1, .lst ds, h => by
    unfold toPy PyData.canLay0 PyData.depth
    have h' : ∀ d ∈ ds, okD n d := h
    have := depthAll_le (n := n) ds fun d hd => (okD_lay n d (h' d hd)).2
    exact ⟨canLayAll_of ds fun d hd => (okD_lay n d (h' d hd)).1, by omega⟩
  | 0, .tup _, h => h.elim
  | 0, .lst _, h => h.elim
  | 0, .ty _, h => h.elim
  | 0, .ref _, h => h.elim
  | 0, .tupW _, h => h.elim
  | 0, .scr _, h => h.elim
  | 0, .dK _ _, h => h.elim
  | _ + 1, .ty _, h => h.elim
  | _ + 1, .ref _, h => h.elim
  | _ + 1, .tupW _, h => h.elim
  | _ + 1, .scr _, h => h.elim
  | _ + 1, .dK _ _, h => h.elim
theorem okD_shaped {d : DV} (h : okD 64 d) : SeqAt.shaped (toPy d) = true := by
  obtain ⟨a, b⟩ := okD_lay 64 d h
  unfold SeqAt.shaped
  rw [a, decide_eq_true b]
  rfl
section
variable {K : PySem.W.Frag} {H : Hp} {M : DM}
theorem dpAll_of {n : Nat} : ∀ {vs : List V} {ds : List DV}, Fzs K H M vs ds → (∀ v d, Fz K H M v d → okD n d → Dp K H v (toPy d)) → (∀ d ∈ ds, okD n d) → DpAll K H vs (toPys ds)
  | _, _, .nil, _, _ => by unfold toPys; exact .nil
  | _, _, .cons f fs, k, h => by
    unfold toPys
    exact .cons (k _ _ f (h _ (List.mem_cons_self ..))) (dpAll_of fs k fun e he => h e (List.mem_cons_of_mem _ he))
theorem dp_of : ∀ (n : Nat) (v : V) (d : DV), Fz K H M v d → okD n d → Dp K H v (toPy d)
  | n, v, .non, f, _ => by rw [f.non_inv]; unfold toPy; exact .non
  | n, v, .bl b, f, _ => by rw [f.bl_inv]; unfold toPy; exact .bl b
  | n, v, .int b, f, _ => by rw [f.int_inv]; unfold toPy; exact .int b
  | n, v, .str b, f, _ => by rw [f.str_inv]; unfold toPy; exact .str b
  | n + 1, v, .tup ds, f, h => by
    obtain ⟨a, vs, e, s, z⟩ := f.tup_inv
    subst e
    unfold toPy
    exact .tup s (dpAll_of (n := n) z (fun v d f h => dp_of n v d f h) h)
  | n + 1, v, .lst ds, f, h => by
    obtain ⟨a, vs, e, s, _, z⟩ := f.lst_inv
    subst e
    unfold toPy
    exact .lst (.of s) (dpAll_of (n := n) z (fun v d f h => dp_of n v d f h) h)
  | 0, _, .tup _, _, h => h.elim
  | 0, _, .lst _, _, h => h.elim
  | 0, _, .ty _, _, h => h.elim
  | 0, _, .ref _, _, h => h.elim
  | 0, _, .tupW _, _, h => h.elim
  | 0, _, .scr _, _, h => h.elim
  | 0, _, .dK _ _, _, h => h.elim
  | _ + 1, _, .ty _, _, h => h.elim
  | _ + 1, _, .ref _, _, h => h.elim
  | _ + 1, _, .tupW _, _, h => h.elim
  | _ + 1, _, .scr _, _, h => h.elim
  | _ + 1, _, .dK _ _, _, h => h.elim
end
def flatD : DV → Bool
  | .non => true
  | .bl _ => true
  | .int _ => true
  | .str _ => true
  | _ => false
/-- == of data; texts, ints, bools, None alone want nothing -/
def eqD (d e : DV) : Bool := PyData.eqv (toPy d) (toPy e)
def scalD : DV → DV → Bool
  | .non, .non => true | .non, .int _ => true | .int _, .non => true | .non, .bl _ => true | .bl _, .non => true | .non, .str _ => true | .str _, .non => true
  | .int _, .int _ => true | .bl _, .bl _ => true | .str _, .str _ => true | .int _, .str _ => true | .str _, .int _ => true | .bl _, .str _ => true | .str _, .bl _ => true
  | _, _ => false
def eqR (neg : Bool) : R2D := fun d e M Q => (scalD d e = true ∨ (okD 64 d ∧ okD 64 e)) ∧ Q (.bl (if neg then !eqD d e else eqD d e)) M
theorem scal_of {K : PySem.W.Frag} {H : Hp} {M : DM} {v w : V} {d e : DV} (f : Fz K H M v d) (g : Fz K H M w e) (h : scalD d e = true) : scal v w = true ∧ decide (v = w) = eqD d e := by
  unfold scalD at h
  split at h
  all_goals first
    | (cases h; done)
    | (cases f; cases g
       refine ⟨rfl, ?_⟩
       unfold eqD toPy PyData.eqv
       first
         | rfl
         | (rename_i a b
            by_cases q : a = b
            · subst q; simp
            · simp [q]))
section
variable {X : Cx} {W : WX} {pos : Pos} {a b : Expr} {ta tb : TED}
theorem lift_eq {K : PySem.W.Frag} : Lift2 K (fun x y H Q => rEq x y H Q ∨ rEqD K x y H Q) (eqR false) := fun H M v1 v2 d1 d2 Qd Q r f1 f2 ⟨h, q⟩ pv => by
  rcases h with h | ⟨h1, h2⟩
  · obtain ⟨s, e⟩ := scal_of f1 f2 h
    refine .inl ⟨s, ?_⟩
    rw [e]
    exact pv _ _ H M .refl r (.bl _) q
  · exact .inr ⟨_, _, dp_of 64 _ _ f1 h1, dp_of 64 _ _ f2 h2, okD_shaped h1, okD_shaped h2, pv _ _ H M .refl r (.bl _) q⟩
theorem lift_ne {K : PySem.W.Frag} : Lift2 K (fun x y H Q => rNe x y H Q ∨ rNeD K x y H Q) (eqR true) := fun H M v1 v2 d1 d2 Qd Q r f1 f2 ⟨h, q⟩ pv => by
  rcases h with h | ⟨h1, h2⟩
  · obtain ⟨s, e⟩ := scal_of f1 f2 h
    refine .inl ⟨s, ?_⟩
    rw [e]
    exact pv _ _ H M .refl r (.bl _) q
  · exact .inr ⟨_, _, dp_of 64 _ _ f1 h1, dp_of 64 _ _ f2 h2, okD_shaped h1, okD_shaped h2, pv _ _ H M .refl r (.bl _) q⟩
theorem de_eq (hu : X.A.units + 64 < cLine) (ha : DE X W a ta) (hb : DE X W b tb) : DE X W (.Compare a [.Eq] [b] pos) (dOp (eqR false) ta tb) := de_cmp (OpR.or op_eq (op_eqD hu)) lift_eq ha hb (nomark _)
theorem dt_eq (hu : X.A.units + 64 < cLine) (ha : DE X W a ta) (hb : DE X W b tb) : DT X W (.Compare a [.Eq] [b] pos) (dTest (dOp (eqR false) ta tb)) := dt_cmp (OpR.or op_eq (op_eqD hu)) lift_eq ha hb (nomark _)
theorem de_ne (hu : X.A.units + 64 < cLine) (ha : DE X W a ta) (hb : DE X W b tb) : DE X W (.Compare a [.NotEq] [b] pos) (dOp (eqR true) ta tb) := de_cmp (OpR.or op_ne (op_neD hu)) lift_ne ha hb (nomark _)
theorem dt_ne (hu : X.A.units + 64 < cLine) (ha : DE X W a ta) (hb : DE X W b tb) : DT X W (.Compare a [.NotEq] [b] pos) (dTest (dOp (eqR true) ta tb)) := dt_cmp (OpR.or op_ne (op_neD hu)) lift_ne ha hb (nomark _)
/-! ### is -/
def isR (neg : Bool) : R2D := fun d e M Q => match d, e with
  | .bl a, .bl b => Q (.bl (if neg then !decide (a = b) else decide (a = b))) M
  | .non, .non => Q (.bl (if neg then false else true)) M
  | _, .non => Q (.bl (if neg then true else false)) M
  | _, _ => False
theorem lift_is {K : PySem.W.Frag} {neg : Bool} : Lift2 K (fun x y H Q => (∃ a b : Bool, x = .bl a ∧ y = .bl b ∧ Q (.bl (if neg then !decide (a = b) else decide (a = b))) H) ∨ (y = .non ∧ Q (.bl (if neg then !decide (x = .non) else decide (x = .non))) H)) (isR neg) :=
  fun H M v1 v2 d1 d2 Qd Q r f1 f2 h pv => by
  unfold isR at h
  split at h
  · exact .inl ⟨_, _, f1.bl_inv, f2.bl_inv, pv _ _ H M .refl r (.bl _) h⟩
  · refine .inr ⟨f2.non_inv, ?_⟩
    rw [f1.non_inv]
    cases neg <;> exact pv _ _ H M .refl r (.bl _) h
  · rename_i hne
    refine .inr ⟨f2.non_inv, ?_⟩
    have : v1 ≠ .non := fun e => by
      subst e
      cases f1
      exact hne rfl
    rw [decide_eq_false this]
    cases neg <;> exact pv _ _ H M .refl r (.bl _) h
  · exact h.elim
theorem op_isD : OpR X (compareOp .Is) (fun x y H Q => (∃ a b : Bool, x = .bl a ∧ y = .bl b ∧ Q (.bl (if false = true then !decide (a = b) else decide (a = b))) H) ∨ (y = .non ∧ Q (.bl (if false = true then !decide (x = .non) else decide (x = .non))) H)) :=
  OpR.or op_isBl op_isN
theorem op_isnD : OpR X (compareOp .IsNot) (fun x y H Q => (∃ a b : Bool, x = .bl a ∧ y = .bl b ∧ Q (.bl (if true = true then !decide (a = b) else decide (a = b))) H) ∨ (y = .non ∧ Q (.bl (if true = true then !decide (x = .non) else decide (x = .non))) H)) :=
  OpR.or op_notBl op_notN
theorem de_is (ha : DE X W a ta) (hb : DE X W b tb) : DE X W (.Compare a [.Is] [b] pos) (dOp (isR false) ta tb) := de_cmp op_isD lift_is ha hb (nomark _)
theorem dt_is (ha : DE X W a ta) (hb : DE X W b tb) : DT X W (.Compare a [.Is] [b] pos) (dTest (dOp (isR false) ta tb)) := dt_cmp op_isD lift_is ha hb (nomark _)
theorem de_isn (ha : DE X W a ta) (hb : DE X W b tb) : DE X W (.Compare a [.IsNot] [b] pos) (dOp (isR true) ta tb) := de_cmp op_isnD lift_is ha hb (nomark _)
theorem dt_isn (ha : DE X W a ta) (hb : DE X W b tb) : DT X W (.Compare a [.IsNot] [b] pos) (dTest (dOp (isR true) ta tb)) := dt_cmp op_isnD lift_is ha hb (nomark _)
end
end DL
set_option Elab.async false
set_option linter.all false
set_option maxRecDepth 100000
set_option maxHeartbeats 4000000
namespace DL
open PySem PySem.Spec PyProof.Rows L2
/-! ### in -/
def inStr (x y : Str) : Bool := !(Builtin.Str.occurrences y x 0 y.length 1).isEmpty
def isLst : DV → Bool
  | .lst _ => true
  | _ => false
def inR (neg : Bool) : R2D := fun d e M Q => match e with
  | .str z => (match d with
    | .str x => Q (.bl (if neg then !inStr x z else inStr x z)) M
    | _ => False)
  | e => atSeq (seqD M e) fun ds => ((flatD d = true ∧ ds.all flatD = true) ∨ (isLst e = true ∧ okD 63 d ∧ ∀ x ∈ ds, okD 63 x)) ∧ Q (.bl (if neg then !(ds.any fun y => eqD y d) else ds.any fun y => eqD y d)) M
theorem eqV_eqD {K : PySem.W.Frag} {H : Hp} {M : DM} {v w : V} {d e : DV} (f : Fz K H M v d) (g : Fz K H M w e) (hd : flatD d = true) (he : flatD e = true) : eqV v w = eqD d e ∧ flatV v = true ∧ flatV w = true := by
  cases d <;> first
    | (cases hd; done)
    | (cases e <;> first
        | (cases he; done)
        | (cases f; cases g
           refine ⟨?_, rfl, rfl⟩
           unfold eqD toPy PyData.eqv
           rfl))
theorem flat_one {K : PySem.W.Frag} {H : Hp} {M : DM} {v : V} {d : DV} (f : Fz K H M v d) (hd : flatD d = true) : flatV v = true := (eqV_eqD f f hd hd).2.1
theorem inV_inD {K : PySem.W.Frag} {H : Hp} {M : DM} {v : V} {d : DV} (f : Fz K H M v d) (hd : flatD d = true) : ∀ {vs : List V} {ds : List DV}, Fzs K H M vs ds → ds.all flatD = true → inV v vs = (ds.any fun y => eqD y d) ∧ vs.all flatV = true
  | _, _, .nil, _ => ⟨rfl, rfl⟩
  | _, _, .cons g gs, h => by
    rw [List.all_cons, Bool.and_eq_true] at h
    obtain ⟨e1, e2⟩ := inV_inD f hd gs h.2
    obtain ⟨q1, q2, _⟩ := eqV_eqD g f h.1 hd
    refine ⟨?_, by rw [List.all_cons, q2, e2]; rfl⟩
    rw [List.any_cons, ← e1, ← q1]
    unfold inV
    rw [List.any_cons]
theorem any_toPy (d : DV) : ∀ ds : List DV, ((toPys ds).any fun z => PyData.eqv z (toPy d)) = ds.any fun y => eqD y d
  | [] => by unfold toPys; rfl
  | x :: ds => by
    unfold toPys
    rw [List.any_cons, List.any_cons, any_toPy d ds]
    rfl
theorem okD_mono : ∀ {n m : Nat} {d : DV}, n ≤ m → okD n d → okD m d
  | n, m, .non, _, _ => by cases m <;> exact trivial
  | n, m, .bl _, _, _ => by cases m <;> exact trivial
  | n, m, .int _, _, _ => by cases m <;> exact trivial
  | n, m, .str x, _, h => by
    have h' : PyData.strOk x = true := by cases n <;> exact h
    cases m <;> exact h'
  | n + 1, m + 1, .tup ds, l, h => fun d hd => okD_mono (Nat.le_of_succ_le_succ l) ((show ∀ d ∈ ds, okD n d from h) d hd)
  | n + 1, m + 1, .lst ds, l, h => fun d hd => okD_mono (Nat.le_of_succ_le_succ l) ((show ∀ d ∈ ds, okD n d from h) d hd)
  | 0, _, .tup _, _, h => h.elim
  | 0, _, .lst _, _, h => h.elim
  | 0, _, .ty _, _, h => h.elim
  | 0, _, .ref _, _, h => h.elim
  | 0, _, .tupW _, _, h => h.elim
  | 0, _, .scr _, _, h => h.elim
  | 0, _, .dK _ _, _, h => h.elim
  | _ + 1, _, .ty _, _, h => h.elim
  | _ + 1, _, .ref _, _, h => h.elim
  | _ + 1, _, .tupW _, _, h => h.elim
  | _ + 1, _, .scr _, _, h => h.elim
  | _ + 1, _, .dK _ _, _, h => h.elim
def rInA (K : PySem.W.Frag) (neg : Bool) : R2 := fun x y H Q =>
  (∃ i j, x = .str i ∧ y = .str j ∧ Q (.bl (if neg then !inStr i j else inStr i j)) H) ∨ (rIn K neg x y H Q ∨
    ∃ d ds, Dp K H x d ∧ Dp K H y (.list ds) ∧ SeqAt.shaped d = true ∧ SeqAt.shaped (.list ds) = true ∧ Q (.bl (if neg then !(ds.any fun z => PyData.eqv z d) else ds.any fun z => PyData.eqv z d)) H)
theorem lift_in {K : PySem.W.Frag} {neg : Bool} : Lift2 K (rInA K neg) (inR neg) := fun H M v1 v2 d1 d2 Qd Q r f1 f2 h pv => by
  unfold inR at h
  split at h
  · split at h
    · exact .inl ⟨_, _, f1.str_inv, f2.str_inv, pv _ _ H M .refl r (.bl _) h⟩
    · exact h.elim
  · obtain ⟨ds, e, hc, q⟩ := atSeq_of h
    rcases hc with ⟨h1, h2⟩ | ⟨h0, h1, h2⟩
    · obtain ⟨a, vs, e1, s, z⟩ := seqD_ok r f2 e
      obtain ⟨i1, i2⟩ := inV_inD f1 h1 z h2
      refine .inr (.inl ⟨a, vs, e1, s, flat_one f1 h1, i2, ?_⟩)
      rw [i1]
      exact pv _ _ H M .refl r (.bl _) q
    · cases d2 with
      | lst xs =>
        cases e
        have ok2 : okD 64 (.lst ds) := h2
        refine .inr (.inr ⟨toPy d1, toPys ds, dp_of 63 _ _ f1 h1, ?_, okD_shaped (okD_mono (by decide) h1), ?_, ?_⟩)
        · have := dp_of 64 _ _ f2 ok2
          rw [toPy] at this
          exact this
        · have := okD_shaped ok2
          rw [toPy] at this
          exact this
        · rw [any_toPy]
          exact pv _ _ H M .refl r (.bl _) q
      | _ => cases h0
section
variable {X : Cx} {W : WX} {pos : Pos} {a b e : Expr} {ta tb te : TED}
theorem op_inA (hu : X.A.units + 65 < cLine) : OpR X (compareOp .In) (rInA X.K false) := OpR.or op_in_str (OpR.or op_in_seq (op_inD hu))
theorem op_ninA (hu : X.A.units + 65 < cLine) : OpR X (compareOp .NotIn) (rInA X.K true) := OpR.or op_notin_str (OpR.or op_notIn_seq (op_notInD hu))
theorem de_in (hu : X.A.units + 65 < cLine) (ha : DE X W a ta) (hb : DE X W b tb) (hm : behindInMarks .In b = false := by rfl) : DE X W (.Compare a [.In] [b] pos) (dOp (inR false) ta tb) := de_cmp (op_inA hu) lift_in ha hb hm
theorem dt_in (hu : X.A.units + 65 < cLine) (ha : DE X W a ta) (hb : DE X W b tb) (hm : behindInMarks .In b = false := by rfl) : DT X W (.Compare a [.In] [b] pos) (dTest (dOp (inR false) ta tb)) := dt_cmp (op_inA hu) lift_in ha hb hm
theorem de_nin (hu : X.A.units + 65 < cLine) (ha : DE X W a ta) (hb : DE X W b tb) (hm : behindInMarks .NotIn b = false := by rfl) : DE X W (.Compare a [.NotIn] [b] pos) (dOp (inR true) ta tb) := de_cmp (op_ninA hu) lift_in ha hb hm
theorem dt_nin (hu : X.A.units + 65 < cLine) (ha : DE X W a ta) (hb : DE X W b tb) (hm : behindInMarks .NotIn b = false := by rfl) : DT X W (.Compare a [.NotIn] [b] pos) (dTest (dOp (inR true) ta tb)) := dt_cmp (op_ninA hu) lift_in ha hb hm
/-! ### subscripts -/
def atO (o : Option α) (k : α → Prop) : Prop := match o with
  | some d => k d
  | none => False
theorem atO_of {o : Option α} {k : α → Prop} (h : atO o k) : ∃ d, o = some d ∧ k d := by
  cases o with
  | none => exact h.elim
  | some d => exact ⟨d, rfl, h⟩
def ixR : R2D := fun d e M Q => match e with
  | .int i => (match d with
    | .str z => z.length ≤ sizeLine ∧ atO (atI z.cps.toList i) fun c => Q (.str ⟨#[c]⟩) M
    | d => atSeq (seqD M d) fun ds => atO (atI ds i) fun x => Q x M)
  | _ => False
theorem fz_at {K : PySem.W.Frag} {H : Hp} {M : DM} {vs : List V} {ds : List DV} {i : Int} {x : DV} (z : Fzs K H M vs ds) (h : atI ds i = some x) : ∃ v, atI vs i = some v ∧ Fz K H M v x := by
  unfold atI at h ⊢
  rw [z.length]
  cases e : ixN ds.length i with
  | none => rw [e] at h; cases h
  | some j =>
    rw [e] at h
    exact z.get' h
theorem lift_ix {K : PySem.W.Frag} : Lift2 K (rIx K) ixR := fun H M v1 v2 d1 d2 Qd Q r f1 f2 h pv => by
  unfold ixR at h
  split at h
  · split at h
    · obtain ⟨h1, h2⟩ := h
      obtain ⟨c, e, q⟩ := atO_of h2
      exact .inr (.inr ⟨_, _, c, f1.str_inv, f2.int_inv, h1, e, pv _ _ H M .refl r (.str _) q⟩)
    · obtain ⟨ds, e, h2⟩ := atSeq_of h
      obtain ⟨x, e2, q⟩ := atO_of h2
      obtain ⟨a, vs, e1, s, z⟩ := seqD_ok r f1 e
      obtain ⟨v, e3, fv⟩ := fz_at z e2
      rcases s with s | s
      · exact .inl ⟨a, vs, _, v, e1, f2.int_inv, s, e3, pv _ _ H M .refl r fv q⟩
      · exact .inr (.inl ⟨a, vs, _, v, e1, f2.int_inv, s, e3, pv _ _ H M .refl r fv q⟩)
  · exact h.elim
theorem de_ix (ha : DE X W a ta) (hb : DE X W b tb) (hs : PlainIx b := by exact fun _ _ => rfl) : DE X W (.Subscript a b pos) (dOp ixR ta tb) :=
  PE.cons (pe_ix ix_seq ha hb hs) fun σ H Q => lift_op lift_ix
/-! ### slices -/
abbrev TOD := DSt → DM → EK → (Option Int → DM → Prop) → Prop
def lO (K : PySem.W.Frag) (W : WX) (t : TOD) : TO := fun σ H Q => ∃ sd M E Qd, Rel K H M ∧ RelS K H M σ sd ∧ t sd M E Qd ∧ (∀ o H' M', Le H M H' M' → Rel K H' M' → Qd o M' → Q o H') ∧ PostX K W H M E
def DO (X : Cx) (W : WX) (e : Option Expr) (t : TOD) : Prop := PO X e (lO X.K W t)
theorem PO.cons {e : Option Expr} {t t' : TO} (h : PO X e t) (i : ∀ σ H Q, t' σ H Q → t σ H Q) : PO X e t' := ⟨fun pins s σ H Q I q => h.run pins s σ H Q I (i σ H Q q)⟩
def dNoPart : TOD := fun _ M _ Q => Q none M
def dPart (t : TED) : TOD := fun sd M E Q => t sd M E fun d M1 => match d with
  | .int i => Q (some i) M1
  | _ => False
theorem do_none : DO X W none dNoPart := PO.cons po_none fun σ H Q ⟨sd, M, E, Qd, r, rs, q, pv, px⟩ => pv none H M .refl r q
theorem do_some (h : DE X W e te) : DO X W (some e) (dPart te) := PO.cons (po_some h) fun σ H Q ⟨sd, M, E, Qd, r, rs, q, pv, px⟩ =>
  subE r rs px q fun v d H1 M1 l1 r1 _ _ f1 q1 => by
    split at q1
    · exact ⟨_, f1.int_inv, pv _ H1 M1 l1 r1 q1⟩
    · exact q1.elim
def cutL (xs : List DV) (lo hi : Option Int) : List DV := (xs.drop (HT.sIx xs.length 0 lo)).take (HT.sIx xs.length xs.length hi - HT.sIx xs.length 0 lo)
def slR (d : DV) (lo hi : Option Int) (M : DM) (Q : DVK) : Prop := match d with
  | .str z => z.length ≤ sizeLine ∧ Q (.str (cutS z lo hi)) M
  | .tup ds => Q (.tup (cutL ds lo hi)) M
  | d => atSeq (seqD M d) fun ds => isT d = false ∧ Q (.lst (cutL ds lo hi)) M
def dSl (te : TED) (tl th : TOD) : TED := fun sd M E Q => te sd M E fun d M1 => tl sd M1 E fun lo M2 => th sd M2 E fun hi M3 => slR d lo hi M3 Q
def rSlF (K : PySem.W.Frag) : V → Option Int → Option Int → Hp → VK → Prop := fun x lo hi H Q => ∃ a xs, x = .ref a ∧ SqT K H a xs ∧
  (HT.sIx xs.length 0 lo = 0 ∧ HT.sIx xs.length xs.length hi = xs.length → Q (.ref a) H) ∧ (¬ (HT.sIx xs.length 0 lo = 0 ∧ HT.sIx xs.length xs.length hi = xs.length) → NewT H (cutV xs lo hi) Q)
theorem sl_tupF : SlR X (rSlF X.K) := by
  intro pins s σ H x v vl vu lo hi sl Q I rx hs pl pu h
  obtain ⟨a, xs, rfl, hx, q1, q2⟩ := h
  cases rx
  obtain ⟨its, r, ht, hz⟩ := I.tuple hx
  have hlen : its.toArray.size = xs.length := by rw [List.size_toArray]; exact r.length.symm
  refine ⟨"tuple", _, PyProof.Rows.slot_tuple_getitem.lookup, ht.typeIs, ?_⟩
  by_cases hw : HT.sIx xs.length 0 lo = 0 ∧ HT.sIx xs.length xs.length hi = xs.length
  · exact getItem_tuple_whole ht hs pl pu (by rw [hlen]; exact hw) ⟨.ref a, H, I, rfl, q1 hw⟩
  · refine HT.getItem_tuple_cut ht hs pl pu (by rw [hlen]; exact hw) ?_ (by rw [hlen]; exact hz)
    rw [hlen]
    exact laidT (t' := s.toks) I ((r.drop (HT.sIx xs.length 0 lo)).take (HT.sIx xs.length xs.length hi - HT.sIx xs.length 0 lo)) (Nat.le_trans (cutV_length xs lo hi) hz) (q2 hw)
theorem cutL_whole {ds : List DV} {lo hi : Option Int} (h : HT.sIx ds.length 0 lo = 0 ∧ HT.sIx ds.length ds.length hi = ds.length) : cutL ds lo hi = ds := by
  unfold cutL
  rw [h.1, h.2]
  simp
theorem fz_cut {K : PySem.W.Frag} {H : Hp} {M : DM} {vs : List V} {ds : List DV} (lo hi : Option Int) (z : Fzs K H M vs ds) : Fzs K H M (cutV vs lo hi) (cutL ds lo hi) := by
  unfold cutV cutL
  rw [z.length]
  exact (z.drop _).take _
theorem lift_sl {K : PySem.W.Frag} {H : Hp} {M : DM} {v : V} {d : DV} {lo hi : Option Int} {Qd : DVK} {Q : VK} (r : Rel K H M) (f : Fz K H M v d) (h : slR d lo hi M Qd) (pv : PostV K H M Qd Q) :
    rSlS v lo hi H Q ∨ (rSlF K v lo hi H Q ∨ rSlL K v lo hi H Q) := by
  unfold slR at h
  split at h
  · exact .inl ⟨_, f.str_inv, h.1, pv _ _ H M .refl r (.str _) h.2⟩
  · obtain ⟨a, vs, e, s, z⟩ := f.tup_inv
    refine .inr (.inl ⟨a, vs, e, s, fun hw => ?_, fun _ p o np hd => ?_⟩)
    · subst e
      rw [z.length] at hw
      rw [cutL_whole hw] at h
      exact pv _ _ H M .refl r f h
    · obtain ⟨l, r2, f2⟩ := new_tup r (fz_cut lo hi z) np hd
      exact pv _ _ _ _ l r2 f2 h
  · rename_i d hs ht
    obtain ⟨ds, e, hw, q⟩ := atSeq_of h
    obtain ⟨a, vs, e1, s, z⟩ := seqD_sp r f e
    have sl : SqL K H a vs := by
      rcases s with s | s
      · exact s.2
      · rw [hw] at s
        cases s.1
    exact .inr (.inr ⟨a, vs, e1, sl, fun p np => by
      obtain ⟨l, r2, f2⟩ := new_lst r (fz_cut lo hi z) np
      exact pv _ _ _ _ l r2 f2 q⟩)
variable {lo hi : Option Expr} {tl th : TOD} {p2 : Pos}
theorem SlR.cons {r r' : V → Option Int → Option Int → Hp → VK → Prop} (h : SlR X r) (i : ∀ x lo hi H Q, r' x lo hi H Q → r x lo hi H Q) : SlR X r' :=
  fun pins s σ H x v vl vu lo hi sl Q I rx hs pl pu q => h pins s σ H x v vl vu lo hi sl Q I rx hs pl pu (i _ _ _ _ _ q)
theorem de_sl (he : DE X W e te) (hl : DO X W lo tl) (hh : DO X W hi th) : DE X W (.Subscript e (.Slice lo hi none p2) pos) (dSl te tl th) :=
  PE.cons (pe_slice (SlR.or sl_str (SlR.or sl_tupF sl_list)) he hl hh) fun σ H Q ⟨sd, M, E, Qd, r, rs, q, pv, px⟩ =>
    subE r rs px q fun v d H1 M1 l1 r1 rs1 px1 f1 q1 => ⟨sd, M1, E, _, r1, rs1, q1, fun lo H2 M2 l2 r2 q2 => ⟨sd, M2, E, _, r2, rs1.mono l2, q2, fun hi H3 M3 l3 r3 q3 =>
      lift_sl r3 (f1.mono (l2.trans l3)) q3 (pv.mono ((l1.trans l2).trans l3)), px1.mono l2⟩, px1⟩
/-! ### calls of built-ins -/
def dCB (rd : RAD) (t : TAD) : TED := fun sd M E Q => t sd M E fun ds M1 => rd ds M1 Q
variable {es : List Expr} {t : TAD} {x : Str} {p : Pos} {id T : String} {r : List V → Hp → VK → Prop} {rd : RAD}
theorem lift_cb (hl : LiftA X.K r rd) {σ : L2.St} {H : Hp} {Q : VK} : lE X.K W (dCB rd t) σ H Q → tCB r (lA X.K W t) σ H Q :=
  fun ⟨sd, M, E, Qd, rr, rs, q, pv, px⟩ => subA rr rs px q fun vs ds H1 M1 l1 r1 _ _ f1 q1 => hl H1 M1 vs ds Qd Q r1 f1 q1 (pv.mono l1)
theorem de_cb (hc : CallR X (.builtin id) r) (hl : LiftA X.K r rd) (hg : Gl X x) (hm : X.mg x = none) (hv : bootBuiltins x = some (.builtin id)) (ha : DA X W (e :: es) t) (hn : x ≠ "__name__" := by decide) (hdb : (x == ("__debug__" : Str)) = false := by decide)
    (hs : starEach (e :: es) X.env = (false, eval e X.env) :: starEach es X.env := by rfl) (hpl : (backTo pos (starEach es X.env)).any (·.1) = false := by rfl) : DE X W (.Call (.Name x p) (e :: es) [] pos) (dCB rd t) :=
  PE.cons (pe_callB hc hg hm hv ha hn hdb hs hpl) fun σ H Q => lift_cb hl
theorem de_ct (hc : CallR X (.type T) r) (hl : LiftA X.K r rd) (hg : Gl X x) (hm : X.mg x = none) (hv : bootBuiltins x = some (.type T)) (ha : DA X W (e :: es) t) (hn : x ≠ "__name__" := by decide) (hdb : (x == ("__debug__" : Str)) = false := by decide)
    (hs : starEach (e :: es) X.env = (false, eval e X.env) :: starEach es X.env := by rfl) (hpl : (backTo pos (starEach es X.env)).any (·.1) = false := by rfl) : DE X W (.Call (.Name x p) (e :: es) [] pos) (dCB rd t) :=
  PE.cons (pe_callTy hc hg hm hv ha hn hdb hs hpl) fun σ H Q => lift_cb hl
end
end DL
set_option Elab.async false
set_option linter.all false
set_option maxRecDepth 100000
set_option maxHeartbeats 4000000
namespace DL
open PySem PySem.Spec PyProof.Rows L2
/-! ### lists of texts, ints, bools -/
section
variable {K : PySem.W.Frag} {H : Hp} {M : DM}
theorem strs_inv : ∀ {ys : List Str} {vs : List V}, Fzs K H M vs (ys.map .str) → vs = ys.map V.str
  | [], _, h => by cases h; rfl
  | y :: ys, _, h => by
    cases h with
    | cons a b => rw [a.str_inv, strs_inv b]; rfl
theorem ints_inv : ∀ {ys : List Int} {vs : List V}, Fzs K H M vs (ys.map .int) → vs = ys.map V.int
  | [], _, h => by cases h; rfl
  | y :: ys, _, h => by
    cases h with
    | cons a b => rw [a.int_inv, ints_inv b]; rfl
theorem bls_inv : ∀ {ys : List Bool} {vs : List V}, Fzs K H M vs (ys.map .bl) → vs = ys.map V.bl
  | [], _, h => by cases h; rfl
  | y :: ys, _, h => by
    cases h with
    | cons a b => rw [a.bl_inv, bls_inv b]; rfl
theorem strs_mk : ∀ ys : List Str, Fzs K H M (ys.map V.str) (ys.map .str)
  | [] => .nil
  | y :: ys => .cons (.str y) (strs_mk ys)
theorem ints_mk : ∀ ys : List Int, Fzs K H M (ys.map V.int) (ys.map .int)
  | [] => .nil
  | y :: ys => .cons (.int y) (ints_mk ys)
end
/-! ### texts in order -/
def ltS (x y : Str) : Bool := decide (x.cps.toList < y.cps.toList)
def insS (x : Str) : List Str → List Str
  | [] => [x]
  | y :: r => if ltS y x then y :: insS x r else x :: y :: r
def sortS : List Str → List Str
  | [] => []
  | x :: r => insS x (sortS r)
/-- not falling -/
def UpS (l : List Str) : Prop := l.Pairwise fun a b => ltS b a = false
theorem ltS_irrefl (x : Str) : ltS x x = false := decide_eq_false (List.lt_irrefl _)
theorem ltS_trans {x y z : Str} (h : ltS x y = true) (h2 : ltS y z = true) : ltS x z = true := decide_eq_true (List.lt_trans (of_decide_eq_true h) (of_decide_eq_true h2))
theorem ltS_asymm {x y : Str} (h : ltS x y = true) : ltS y x = false := by
  cases q : ltS y x with
  | false => rfl
  | true => rw [← ltS_irrefl x]; exact (ltS_trans h q).symm
theorem Str.ext_cps {x y : Str} (h : x.cps.toList = y.cps.toList) : x = y := by
  cases x; cases y
  simp only [PySem.Str.mk.injEq]
  exact Array.toList_inj.mp h
theorem ltS_tri {x y : Str} (h : ltS x y = false) (h2 : ltS y x = false) : x = y := by
  have a := of_decide_eq_false h
  have b := of_decide_eq_false h2
  exact Str.ext_cps (List.le_antisymm (List.not_lt.mp b) (List.not_lt.mp a))
theorem ltS_le_trans {x y z : Str} (h : ltS y x = false) (h2 : ltS z y = false) : ltS z x = false := by
  have a := List.not_lt.mp (of_decide_eq_false h)
  have b := List.not_lt.mp (of_decide_eq_false h2)
  exact decide_eq_false (List.not_lt.mpr (List.le_trans a b))
theorem insS_mem {x y : Str} : ∀ {l : List Str}, y ∈ insS x l ↔ y = x ∨ y ∈ l
  | [] => by simp [insS]
  | z :: r => by
    unfold insS
    split
    · rw [List.mem_cons, insS_mem, List.mem_cons]
      constructor
      · rintro (h | h | h) <;> simp [h]
      · rintro (h | h | h) <;> simp [h]
    · rw [List.mem_cons]
theorem insS_perm (x : Str) : ∀ l : List Str, (insS x l).Perm (x :: l)
  | [] => .refl _
  | z :: r => by
    unfold insS
    split
    · exact ((insS_perm x r).cons z).trans (List.Perm.swap x z r)
    · exact .refl _
theorem sortS_perm : ∀ l : List Str, (sortS l).Perm l
  | [] => .refl _
  | x :: r => (insS_perm x _).trans ((sortS_perm r).cons x)
theorem insS_up (x : Str) : ∀ {l : List Str}, UpS l → UpS (insS x l)
  | [], _ => List.pairwise_singleton _ _
  | z :: r, h => by
    unfold insS
    have hz := List.pairwise_cons.mp h
    split
    · rename_i q
      refine List.pairwise_cons.mpr ⟨fun y hy => ?_, insS_up x hz.2⟩
      rcases insS_mem.mp hy with e | e
      · subst e; exact ltS_asymm q
      · exact hz.1 y e
    · rename_i q
      have q' : ltS z x = false := by simpa using q
      refine List.pairwise_cons.mpr ⟨fun y hy => ?_, h⟩
      rcases List.mem_cons.mp hy with e | e
      · subst e; exact q'
      · exact ltS_le_trans q' (hz.1 y e)
theorem sortS_up : ∀ l : List Str, UpS (sortS l)
  | [] => .nil
  | x :: r => insS_up x (sortS_up r)
theorem up_unique : ∀ {l m : List Str}, UpS l → UpS m → l.Perm m → l = m
  | [], m, _, _, h => (List.Perm.nil_eq h)
  | x :: l, [], _, _, h => by cases h.length_eq
  | x :: l, y :: m, hl, hm, h => by
    have a := List.pairwise_cons.mp hl
    have b := List.pairwise_cons.mp hm
    have e : x = y := by
      have h1 : y ∈ x :: l := h.symm.subset (List.mem_cons_self ..)
      have h2 : x ∈ y :: m := h.subset (List.mem_cons_self ..)
      rcases List.mem_cons.mp h1 with e | e
      · exact e.symm
      · rcases List.mem_cons.mp h2 with e2 | e2
        · exact e2
        · exact ltS_tri (b.1 x e2) (a.1 y e)
    subst e
    rw [up_unique a.2 b.2 (List.Perm.cons_inv h)]
theorem rising_up : ∀ {l : List Str} {p : Str}, risingS p l = true → UpS (p :: l)
  | [], p, _ => List.pairwise_singleton _ _
  | x :: r, p, h => by
    unfold risingS at h
    rw [Bool.and_eq_true, ltCps_eq] at h
    have h1 : ltS x p = false := by simpa [ltS] using h.1
    have ih := rising_up h.2
    refine List.pairwise_cons.mpr ⟨fun y hy => ?_, ih⟩
    rcases List.mem_cons.mp hy with e | e
    · subst e; exact h1
    · exact ltS_le_trans h1 ((List.pairwise_cons.mp ih).1 y e)
theorem sortedS_up {l : List Str} (h : sortedS l = true) : UpS l := by
  cases l with
  | nil => exact .nil
  | cons x r => exact rising_up h
theorem sortS_of {xs ys : List Str} (p : ys.Perm xs) (h : sortedS ys = true) : ys = sortS xs := up_unique (sortedS_up h) (sortS_up xs) (p.trans (sortS_perm xs).symm)
/-! ### built-ins by contents -/
def lenD : RAD := fun ds M Q => match ds with
  | [.str x] => x.length ≤ sizeLine ∧ Q (.int x.length) M
  | [d] => atSeq (seqD M d) fun xs => Q (.int xs.length) M
  | _ => False
def absD : RAD := fun ds M Q => match ds with
  | [.int i] => Q (.int (if i < 0 then -i else i)) M
  | _ => False
def intOfD : RAD := fun ds M Q => match ds with
  | [.int i] => Q (.int i) M
  | [.bl b] => Q (.int (if b then 1 else 0)) M
  | _ => False
def maxD : RAD := fun ds M Q => match ds with
  | [.int i, .int j] => Q (.int (if j > i then j else i)) M
  | _ => False
def minD : RAD := fun ds M Q => match ds with
  | [.int i, .int j] => Q (.int (if j < i then j else i)) M
  | _ => False
def tupleD : RAD := fun ds M Q => match ds with
  | [.tup xs] => Q (.tup xs) M
  | [d] => atSeq (seqD M d) fun xs => isT d = false ∧ Q (.tup xs) M
  | _ => False
def listD : RAD := fun ds M Q => match ds with
  | [d] => atSeq (seqD M d) fun xs => Q (.lst xs) M
  | _ => False
def listMD : RAD := fun ds M Q => match ds with
  | [d] => atSeq (seqD M d) fun xs => ∀ p, M p = none → Q (.ref p) (put M p (.lst xs))
  | _ => False
def sortedSD : RAD := fun ds M Q => match ds with
  | [d] => atSeq (seqD M d) fun xs => isT d = false ∧ ∃ ys : List Str, xs = ys.map .str ∧ ys.length < 64 ∧ Q (.lst ((sortS ys).map .str)) M
  | _ => False
def allD : RAD := fun ds M Q => match ds with
  | [d] => atSeq (seqD M d) fun xs => isT d = false ∧ ∃ bs : List Bool, xs = bs.map .bl ∧ Q (.bl (bs.all id)) M
  | _ => False
def anyD : RAD := fun ds M Q => match ds with
  | [d] => atSeq (seqD M d) fun xs => isT d = false ∧ ∃ bs : List Bool, xs = bs.map .bl ∧ Q (.bl (bs.any id)) M
  | _ => False
theorem Fzs.one {K : PySem.W.Frag} {H : Hp} {M : DM} {vs : List V} {d : DV} (f : Fzs K H M vs [d]) : ∃ v, vs = [v] ∧ Fz K H M v d := by
  cases f with
  | cons a b => cases b; exact ⟨_, rfl, a⟩
theorem Fzs.two {K : PySem.W.Frag} {H : Hp} {M : DM} {vs : List V} {d e : DV} (f : Fzs K H M vs [d, e]) : ∃ v w, vs = [v, w] ∧ Fz K H M v d ∧ Fz K H M w e := by
  cases f with
  | cons a b => obtain ⟨w, rfl, h⟩ := b.one; exact ⟨_, _, rfl, a, h⟩
section
variable {K : PySem.W.Frag}
theorem lift_len : LiftA K (fun xs H Q => (∃ p ys, xs = [.ref p] ∧ (SqL K H p ys ∨ SqT K H p ys) ∧ Q (.int ys.length) H) ∨ (∃ z, xs = [.str z] ∧ z.length ≤ sizeLine ∧ Q (.int z.length) H)) lenD := fun H M vs ds Qd Q r F h pv => by
  unfold lenD at h
  split at h
  · obtain ⟨v, rfl, f⟩ := F.one
    rw [f.str_inv]
    exact .inr ⟨_, rfl, h.1, pv _ _ H M .refl r (.int _) h.2⟩
  · obtain ⟨v, rfl, f⟩ := F.one
    obtain ⟨xs, e, q⟩ := atSeq_of h
    obtain ⟨a, vs, rfl, s, z⟩ := seqD_ok r f e
    refine .inl ⟨a, vs, rfl, s, ?_⟩
    rw [z.length]
    exact pv _ _ H M .refl r (.int _) q
  · exact h.elim
theorem lift_abs : LiftA K (fun xs H Q => ∃ i, xs = [.int i] ∧ Q (.int (if i < 0 then -i else i)) H) absD := fun H M vs ds Qd Q r F h pv => by
  unfold absD at h
  split at h
  · obtain ⟨v, rfl, f⟩ := F.one
    rw [f.int_inv]
    exact ⟨_, rfl, pv _ _ H M .refl r (.int _) h⟩
  · exact h.elim
theorem lift_int1 : LiftA K (fun xs H Q => (∃ i, xs = [.int i] ∧ Q (.int i) H) ∨ ∃ k, xs = [.bl k] ∧ Q (.int (if k then 1 else 0)) H) intOfD := fun H M vs ds Qd Q r F h pv => by
  unfold intOfD at h
  split at h
  · obtain ⟨v, rfl, f⟩ := F.one
    rw [f.int_inv]
    exact .inl ⟨_, rfl, pv _ _ H M .refl r (.int _) h⟩
  · obtain ⟨v, rfl, f⟩ := F.one
    rw [f.bl_inv]
    exact .inr ⟨_, rfl, pv _ _ H M .refl r (.int _) h⟩
  · exact h.elim
theorem lift_max : LiftA K (fun xs H Q => ∃ i j, xs = [.int i, .int j] ∧ Q (.int (if j > i then j else i)) H) maxD := fun H M vs ds Qd Q r F h pv => by
  unfold maxD at h
  split at h
  · obtain ⟨v, w, rfl, f, g⟩ := F.two
    rw [f.int_inv, g.int_inv]
    exact ⟨_, _, rfl, pv _ _ H M .refl r (.int _) h⟩
  · exact h.elim
theorem lift_min : LiftA K (fun xs H Q => ∃ i j, xs = [.int i, .int j] ∧ Q (.int (if j < i then j else i)) H) minD := fun H M vs ds Qd Q r F h pv => by
  unfold minD at h
  split at h
  · obtain ⟨v, w, rfl, f, g⟩ := F.two
    rw [f.int_inv, g.int_inv]
    exact ⟨_, _, rfl, pv _ _ H M .refl r (.int _) h⟩
  · exact h.elim
def rTupF (K : PySem.W.Frag) : List V → Hp → VK → Prop := fun xs H Q => ∃ p ys, xs = [.ref p] ∧ ((SqL K H p ys ∧ NewT H ys Q) ∨ (SqT K H p ys ∧ Q (.ref p) H))
theorem lift_tuple : LiftA K (rTupF K) tupleD := fun H M vs ds Qd Q r F h pv => by
  unfold tupleD at h
  split at h
  · obtain ⟨v, rfl, f⟩ := F.one
    obtain ⟨a, vs, rfl, s, z⟩ := f.tup_inv
    exact ⟨a, vs, rfl, .inr ⟨s, pv _ _ H M .refl r f h⟩⟩
  · obtain ⟨v, rfl, f⟩ := F.one
    obtain ⟨xs, e, ht, q⟩ := atSeq_of h
    obtain ⟨a, vs, rfl, s, z⟩ := seqD_sp r f e
    refine ⟨a, vs, rfl, .inl ⟨?_, fun p o np hd => ?_⟩⟩
    · rcases s with s | s
      · exact s.2
      · rw [ht] at s; cases s.1
    · obtain ⟨l, r2, f2⟩ := new_tup r z np hd
      exact pv _ _ _ _ l r2 f2 q
  · exact h.elim
theorem lift_list : LiftA K (fun xs H Q => ∃ p ys, xs = [.ref p] ∧ (SqL K H p ys ∨ SqT K H p ys) ∧ ∀ l, H l = none → Q (.ref l) (upd H l (.lst ys))) listD := fun H M vs ds Qd Q r F h pv => by
  unfold listD at h
  split at h
  · obtain ⟨v, rfl, f⟩ := F.one
    obtain ⟨xs, e, q⟩ := atSeq_of h
    obtain ⟨a, vs, rfl, s, z⟩ := seqD_ok r f e
    refine ⟨a, vs, rfl, s, fun p np => ?_⟩
    obtain ⟨l, r2, f2⟩ := new_lst r z np
    exact pv _ _ _ _ l r2 f2 q
  · exact h.elim
theorem lift_listM : LiftA K (fun xs H Q => ∃ p ys, xs = [.ref p] ∧ (SqL K H p ys ∨ SqT K H p ys) ∧ ∀ l, H l = none → Q (.ref l) (upd H l (.lst ys))) listMD := fun H M vs ds Qd Q r F h pv => by
  unfold listMD at h
  split at h
  · obtain ⟨v, rfl, f⟩ := F.one
    obtain ⟨xs, e, q⟩ := atSeq_of h
    obtain ⟨a, vs, rfl, s, z⟩ := seqD_ok r f e
    refine ⟨a, vs, rfl, s, fun p np => ?_⟩
    obtain ⟨l, r2⟩ := new_lstM r z np
    exact pv _ _ _ _ l r2 (.ref p) (q p (r.free np))
  · exact h.elim
theorem lift_sortedS : LiftA K (rSortedS K) sortedSD := fun H M vs ds Qd Q r F h pv => by
  unfold sortedSD at h
  split at h
  · obtain ⟨v, rfl, f⟩ := F.one
    obtain ⟨xs, e, ht, ys, rfl, hl, q⟩ := atSeq_of h
    obtain ⟨a, vs, rfl, s, z⟩ := seqD_sp r f e
    have s' : SqL K H a vs := by
      rcases s with s | s
      · exact s.2
      · rw [ht] at s; cases s.1
    rw [strs_inv z] at s'
    refine ⟨a, ys, rfl, s', hl, fun zs p hp hs np => ?_⟩
    rw [sortS_of hp hs]
    obtain ⟨l, r2, f2⟩ := new_lst r (strs_mk (K := K) (H := H) (M := M) (sortS ys)) np
    exact pv _ _ _ _ l r2 f2 q
  · exact h.elim
theorem lift_all : LiftA K (rAll K) allD := fun H M vs ds Qd Q r F h pv => by
  unfold allD at h
  split at h
  · obtain ⟨v, rfl, f⟩ := F.one
    obtain ⟨xs, e, ht, bs, rfl, q⟩ := atSeq_of h
    obtain ⟨a, vs, rfl, s, z⟩ := seqD_sp r f e
    have s' : SqL K H a vs := by
      rcases s with s | s
      · exact s.2
      · rw [ht] at s; cases s.1
    rw [bls_inv z] at s'
    exact ⟨a, bs, rfl, s', pv _ _ H M .refl r (.bl _) q⟩
  · exact h.elim
theorem lift_any : LiftA K (rAny K) anyD := fun H M vs ds Qd Q r F h pv => by
  unfold anyD at h
  split at h
  · obtain ⟨v, rfl, f⟩ := F.one
    obtain ⟨xs, e, ht, bs, rfl, q⟩ := atSeq_of h
    obtain ⟨a, vs, rfl, s, z⟩ := seqD_sp r f e
    have s' : SqL K H a vs := by
      rcases s with s | s
      · exact s.2
      · rw [ht] at s; cases s.1
    rw [bls_inv z] at s'
    exact ⟨a, bs, rfl, s', pv _ _ H M .refl r (.bl _) q⟩
  · exact h.elim
end
section
variable {X : Cx} {W : WX} {pos p : Pos} {e : Expr} {es : List Expr} {t : TAD}
theorem call_tupleF : CallR X (.type "tuple") (rTupF X.K) := by
  intro pins s σ H xs us Q I r h
  obtain ⟨p, ys, rfl, h⟩ := h
  obtain ⟨u, rfl, rx⟩ := vals1 r
  cases rx
  rcases h with ⟨hq, q⟩ | ⟨hq, q⟩
  · obtain ⟨its, r', pl, hz⟩ := I.list hq
    have hlen := r'.length
    refine call_tuple_list pl.isList (fun h' kp => ?_) (by simp only [List.size_toArray] <;> omega)
    have I1 : Inv X pins σ H { s with heap := h' } := I.kept (t' := s.toks) kp
    exact laidT (t' := s.toks) I1 r' hz q
  · obtain ⟨its, r', pl, hz⟩ := I.tuple hq
    exact call_tuple_same pl ⟨.ref p, H, I, rfl, q⟩
theorem de_len (hm : X.mg "len" = none) (hg : Gl X "len") (ha : DA X W (e :: es) t) (hs : starEach (e :: es) X.env = (false, eval e X.env) :: starEach es X.env := by rfl) (hpl : (backTo pos (starEach es X.env)).any (·.1) = false := by rfl) :
    DE X W (.Call (.Name "len" p) (e :: es) [] pos) (dCB lenD t) := de_cb (CallR.or call_len_seq call_len_str) lift_len hg hm PySem.boot_len ha (hs := hs) (hpl := hpl)
theorem de_abs (hm : X.mg "abs" = none) (hg : Gl X "abs") (ha : DA X W (e :: es) t) (hs : starEach (e :: es) X.env = (false, eval e X.env) :: starEach es X.env := by rfl) (hpl : (backTo pos (starEach es X.env)).any (·.1) = false := by rfl) :
    DE X W (.Call (.Name "abs" p) (e :: es) [] pos) (dCB absD t) := de_cb call_abs lift_abs hg hm (by decide +kernel) ha (hs := hs) (hpl := hpl)
theorem de_int1 (hm : X.mg "int" = none) (hg : Gl X "int") (ha : DA X W (e :: es) t) (hs : starEach (e :: es) X.env = (false, eval e X.env) :: starEach es X.env := by rfl) (hpl : (backTo pos (starEach es X.env)).any (·.1) = false := by rfl) :
    DE X W (.Call (.Name "int" p) (e :: es) [] pos) (dCB intOfD t) := de_ct call_int1 lift_int1 hg hm (by decide +kernel) ha (hs := hs) (hpl := hpl)
theorem de_max (hc : X.calm = true) (hm : X.mg "max" = none) (hg : Gl X "max") (ha : DA X W (e :: es) t) (hs : starEach (e :: es) X.env = (false, eval e X.env) :: starEach es X.env := by rfl) (hpl : (backTo pos (starEach es X.env)).any (·.1) = false := by rfl) :
    DE X W (.Call (.Name "max" p) (e :: es) [] pos) (dCB maxD t) := de_cb (call_max2 hc) lift_max hg hm (by decide +kernel) ha (hs := hs) (hpl := hpl)
theorem de_min (hc : X.calm = true) (hm : X.mg "min" = none) (hg : Gl X "min") (ha : DA X W (e :: es) t) (hs : starEach (e :: es) X.env = (false, eval e X.env) :: starEach es X.env := by rfl) (hpl : (backTo pos (starEach es X.env)).any (·.1) = false := by rfl) :
    DE X W (.Call (.Name "min" p) (e :: es) [] pos) (dCB minD t) := de_cb (call_min2 hc) lift_min hg hm (by decide +kernel) ha (hs := hs) (hpl := hpl)
theorem de_tuple (hm : X.mg "tuple" = none) (hg : Gl X "tuple") (ha : DA X W (e :: es) t) (hs : starEach (e :: es) X.env = (false, eval e X.env) :: starEach es X.env := by rfl) (hpl : (backTo pos (starEach es X.env)).any (·.1) = false := by rfl) :
    DE X W (.Call (.Name "tuple" p) (e :: es) [] pos) (dCB tupleD t) := de_ct call_tupleF lift_tuple hg hm (by decide +kernel) ha (hs := hs) (hpl := hpl)
theorem de_list (hm : X.mg "list" = none) (hg : Gl X "list") (ha : DA X W (e :: es) t) (hs : starEach (e :: es) X.env = (false, eval e X.env) :: starEach es X.env := by rfl) (hpl : (backTo pos (starEach es X.env)).any (·.1) = false := by rfl) :
    DE X W (.Call (.Name "list" p) (e :: es) [] pos) (dCB listD t) := de_ct call_list_of lift_list hg hm (by decide +kernel) ha (hs := hs) (hpl := hpl)
theorem de_listM (hm : X.mg "list" = none) (hg : Gl X "list") (ha : DA X W (e :: es) t) (hs : starEach (e :: es) X.env = (false, eval e X.env) :: starEach es X.env := by rfl) (hpl : (backTo pos (starEach es X.env)).any (·.1) = false := by rfl) :
    DE X W (.Call (.Name "list" p) (e :: es) [] pos) (dCB listMD t) := de_ct call_list_of lift_listM hg hm (by decide +kernel) ha (hs := hs) (hpl := hpl)
theorem de_sortedS (hm : X.mg "sorted" = none) (hg : Gl X "sorted") (ha : DA X W (e :: es) t) (hs : starEach (e :: es) X.env = (false, eval e X.env) :: starEach es X.env := by rfl) (hpl : (backTo pos (starEach es X.env)).any (·.1) = false := by rfl) :
    DE X W (.Call (.Name "sorted" p) (e :: es) [] pos) (dCB sortedSD t) := de_cb cr_sortedS lift_sortedS hg hm (by decide +kernel) ha (hs := hs) (hpl := hpl)
theorem de_all (hc : X.calm = true) (hm : X.mg "all" = none) (hg : Gl X "all") (ha : DA X W (e :: es) t) (hs : starEach (e :: es) X.env = (false, eval e X.env) :: starEach es X.env := by rfl) (hpl : (backTo pos (starEach es X.env)).any (·.1) = false := by rfl) :
    DE X W (.Call (.Name "all" p) (e :: es) [] pos) (dCB allD t) := de_cb (cr_all hc) lift_all hg hm (by decide +kernel) ha (hs := hs) (hpl := hpl)
theorem de_any (hc : X.calm = true) (hm : X.mg "any" = none) (hg : Gl X "any") (ha : DA X W (e :: es) t) (hs : starEach (e :: es) X.env = (false, eval e X.env) :: starEach es X.env := by rfl) (hpl : (backTo pos (starEach es X.env)).any (·.1) = false := by rfl) :
    DE X W (.Call (.Name "any" p) (e :: es) [] pos) (dCB anyD t) := de_cb (cr_any hc) lift_any hg hm (by decide +kernel) ha (hs := hs) (hpl := hpl)
end
end DL
set_option Elab.async false
set_option linter.all false
set_option maxRecDepth 100000
set_option maxHeartbeats 4000000
namespace DL
open PySem PySem.Spec PyProof.Rows L2
/-! ### methods of built-in types -/
def tyT (K : PySem.W.Frag) (T : String) (x : V) (H : Hp) : Prop := match x with
  | .str _ => T = "str"
  | .ref p => (T = "list" ∧ ∃ xs, SqL K H p xs) ∨ (T = "tuple" ∧ ((∃ o vs, H p = some (.frz o (.tup vs)) ∧ o.dict = none) ∨ ∃ vs, KTup K p vs))
  | _ => False
theorem tyT_is {X : Cx} {pins : List (Addr × Obj)} {σ : L2.St} {H : Hp} {s : Shared} {T : String} {x : V} {v : Value} (I : Inv X pins σ H s) (r : RelV x v) (ty : tyT X.K T x H) :
    s.TypeIs v T ∧ ∀ a, v = .ref a → ∃ ob, s.heap.get? a = some ob ∧ ob.dict = none := by
  cases x with
  | str z =>
    obtain ⟨t, rfl⟩ := r
    cases (show T = "str" from ty)
    exact ⟨typeIs_str s z t, fun _ e => nomatch e⟩
  | ref p =>
    cases r
    rcases ty with ⟨rfl, xs, hq⟩ | ⟨rfl, ⟨o, vs, hq, hd⟩ | ⟨vs, o, its, n, hk, hc, hd, hs, hz, rv⟩⟩
    · obtain ⟨its, _, pl, _⟩ := I.list hq
      refine ⟨pl.isList.typeIs, fun a e => ?_⟩
      cases e
      obtain ⟨o, n, e, c, hd, _⟩ := pl
      exact ⟨o, e, hd⟩
    · obtain ⟨e, q⟩ := I.hok p _ hq
      obtain ⟨_, its, _, pl⟩ := q
      refine ⟨pl.typeIs, fun a e2 => ?_⟩
      cases e2
      exact ⟨o, e, hd⟩
    · refine ⟨⟨o, I.kIn p o hk, hc⟩, fun a e => ?_⟩
      cases e
      exact ⟨o, I.kIn _ o hk, hd⟩
  | _ => exact False.elim ty
def tyD (T : String) (M : DM) (d : DV) : Prop := match d with
  | .str _ => T = "str"
  | .tup _ => T = "tuple"
  | d => T = "list" ∧ isT d = false ∧ (seqD M d).isSome = true
theorem tyD_ok {K : PySem.W.Frag} {H : Hp} {M : DM} {v : V} {d : DV} {T : String} (r : Rel K H M) (f : Fz K H M v d) (h : tyD T M d) : tyT K T v H := by
  unfold tyD at h
  split at h
  · rw [f.str_inv]; exact h
  · cases f with
    | tup h1 h2 _ _ => exact .inr ⟨h, .inl ⟨_, _, h1, h2⟩⟩
    | ktup h1 _ => exact .inr ⟨h, .inr ⟨_, h1⟩⟩
  · obtain ⟨h1, h2, h3⟩ := h
    obtain ⟨ds, e⟩ := Option.isSome_iff_exists.mp h3
    obtain ⟨a, vs, rfl, s, z⟩ := seqD_sp r f e
    rw [h2] at s
    rcases s with s | s
    · exact .inl ⟨h1, vs, s.2⟩
    · cases s.1
section
variable {X : Cx} {W : WX} {o e : Expr} {es : List Expr} {to : TE} {t : TA} {name : Str} {apos cpos : Pos} {T id : String} {r : V → List V → Hp → VK → Prop}
def tMe0 (K : PySem.W.Frag) (T : String) (r : V → List V → Hp → VK → Prop) (to : TE) : TE := fun σ H Q => to σ H fun x H1 => tyT K T x H1 ∧ r x [] H1 Q
def tMe (K : PySem.W.Frag) (T : String) (r : V → List V → Hp → VK → Prop) (to : TE) (t : TA) : TE := fun σ H Q => to σ H fun x H1 => tyT K T x H1 ∧ t σ H1 fun xs H2 => r x xs H2 Q
theorem pe_me0 (pa : PlainAttrs T) (slot : Slot T name id) (hty : typeOf (.builtin id) = pure (.type "method_descriptor")) (hm : MtR X id r) (ho : PE X o to)
    (hbase : attributeBase o name X.env (eval o X.env) = eval o X.env := by rfl) (hline : (apos.endLine == cpos.line) = true := by rfl) : PE X (.Call (.Attribute o name apos) [] [] cpos) (tMe0 X.K T r to) := by
  refine ⟨fun pins s σ H Q I h => ?_⟩
  refine wpAny_Call_method0_late hbase hline (thn (ho.run pins s σ H _ I h) fun v s1 ⟨x, H1, I1, r1, ty, q1⟩ => ?_)
  obtain ⟨h1, h2⟩ := tyT_is I1 r1 ty
  exact ⟨T, id, pa, slot, hty, h1, h2, Calls.callWith_builtin rfl (PySem.evalArgs_none (hm pins s1 σ H1 x [] v [] Q I1 r1 .nil q1))⟩
theorem pe_me (pa : PlainAttrs T) (slot : Slot T name id) (hty : typeOf (.builtin id) = pure (.type "method_descriptor")) (hm : MtR X id r) (ho : PE X o to) (ha : PA X (e :: es) t)
    (hbase : attributeBase o name X.env (eval o X.env) = eval o X.env := by rfl)
    (hfew : ((backTo cpos (starEach (e :: es) X.env)).all (fun x => !x.1) && (backToKw cpos (keywordEach [] X.env)).all (fun x => x.1.isSome)
      && decide ((e :: es).length + ([] : List Keyword).length + (if ([] : List Keyword).isEmpty then 0 else 1) < 30)) = true := by rfl)
    (hline : (apos.endLine == cpos.line) = true := by rfl) (hs : starEach (e :: es) X.env = (false, eval e X.env) :: starEach es X.env := by rfl) (hplain : (backTo cpos (starEach es X.env)).any (·.1) = false := by rfl) :
    PE X (.Call (.Attribute o name apos) (e :: es) [] cpos) (tMe X.K T r to t) := by
  refine ⟨fun pins s σ H Q I h => ?_⟩
  refine wpAny_Call_method_late hbase hfew hline rfl (thn (ho.run pins s σ H _ I h) fun v s1 ⟨x, H1, I1, r1, ty, q1⟩ => ?_)
  obtain ⟨h1, h2⟩ := tyT_is I1 r1 ty
  refine ⟨T, id, pa, slot, hty, h1, h2, ?_⟩
  have hA := ha.run cpos pins s1 σ H1 _ I1 q1
  rw [hs] at hA ⊢
  refine Calls.callWith_builtin (by show (false || (backTo cpos (starEach es X.env)).any (·.1)) = false; rw [hplain] <;> rfl) (Calls.evalArgs_plain ?_)
  exact thn hA fun us s2 ⟨vs, H2, I2, r2, q2⟩ => hm pins s2 σ H2 x vs v us Q I2 r1 r2 q2
end
abbrev RMD := DV → List DV → DM → DVK → Prop
def LiftM (K : PySem.W.Frag) (r : V → List V → Hp → VK → Prop) (rd : RMD) : Prop := ∀ H M v vs d ds Qd Q, Rel K H M → Fz K H M v d → Fzs K H M vs ds → rd d ds M Qd → PostV K H M Qd Q → r v vs H Q
def dMt (T : String) (rd : RMD) (to : TED) (t : TAD) : TED := fun sd M E Q => to sd M E fun d M1 => tyD T M1 d ∧ t sd M1 E fun ds M2 => rd d ds M2 Q
def appendD : RMD := fun d es M Q => match d, es with
  | .ref a, [x] => atSeq (seqD M (.ref a)) fun ds => ds.length < sizeLine ∧ Q .non (put M a (.lst (ds ++ [x])))
  | _, _ => False
def extendD : RMD := fun d es M Q => match d, es with
  | .ref a, [.lst zs] => atSeq (seqD M (.ref a)) fun ds => ds.length + zs.length ≤ sizeLine ∧ Q .non (put M a (.lst (ds ++ zs)))
  | _, _ => False
def popD : RMD := fun d es M Q => match d, es with
  | .ref a, [] => atSeq (seqD M (.ref a)) fun ds => atO ds[ds.length - 1]? fun x => Q x (put M a (.lst ds.dropLast))
  | _, _ => False
def idxS (z : Str) : List Str → Option Nat
  | [] => none
  | y :: r => if y = z then some 0 else (idxS z r).map (· + 1)
def indexD : RMD := fun d es M Q => match d, es with
  | .tup ds, [.str z] => ∃ ys : List Str, ds = ys.map .str ∧ atO (idxS z ys) fun j => Q (.int (j : Nat)) M
  | _, _ => False
def joinD : RMD := fun d es M Q => match d, es with
  | .str a, [e] => atSeq (seqD M e) fun ds => ∃ ys : List Str, ds = ys.map .str ∧ (ys.map (·.length)).sum + ys.length * a.length ≤ 16777216 ∧ Q (.str (Txt.join a ys)) M
  | _, _ => False
def lstripD : RMD := fun d es M Q => match d, es with
  | .str a, [.str b] => a.length ≤ sizeLine ∧ Q (.str (Txt.lstripChars a b)) M
  | _, _ => False
theorem idxS_some {z : Str} : ∀ {ys : List Str} {j : Nat}, idxS z ys = some j → ys[j]? = some z ∧ ∀ m, m < j → ys[m]? ≠ some z
  | [], _, h => by cases h
  | y :: r, j, h => by
    unfold idxS at h
    split at h
    · rename_i e
      cases h
      exact ⟨by rw [e]; rfl, fun m hm => absurd hm (Nat.not_lt_zero _)⟩
    · rename_i e
      cases q : idxS z r with
      | none => rw [q] at h; cases h
      | some k =>
        rw [q] at h
        cases h
        obtain ⟨h1, h2⟩ := idxS_some q
        refine ⟨by simpa using h1, fun m hm => ?_⟩
        cases m with
        | zero => intro w; exact e (Option.some.inj w)
        | succ m =>
          have hm' : m + 1 < k + 1 := hm
          simpa using h2 m (by omega)
section
variable {K : PySem.W.Frag}
theorem cell_lst {H : Hp} {M : DM} {a : Addr} {ds : List DV} (r : Rel K H M) (e : seqD M (.ref a) = some ds) : M a = some (.lst ds) ∧ ∃ vs, H a = some (.lst vs) ∧ Fzs K H M vs ds := by
  cases q : M a with
  | none =>
    have h' : seqD M (.ref a) = none := by
      show (match M a with
        | some (.lst ds) => some ds
        | _ => none) = none
      rw [q]
    rw [h'] at e; cases e
  | some c =>
    cases c with
    | lst xs =>
      rw [seqD_ref q] at e
      cases e
      exact ⟨rfl, r a _ q⟩
    | _ =>
      have h' : seqD M (.ref a) = none := by
        show (match M a with
          | some (.lst ds) => some ds
          | _ => none) = none
        rw [q]
      rw [h'] at e; cases e
theorem lift_append : LiftM K rAppend appendD := fun H M v vs d ds Qd Q r f G h pv => by
  unfold appendD at h
  split at h
  · obtain ⟨w, rfl, g⟩ := G.one
    obtain ⟨xs, e, hz, q⟩ := atSeq_of h
    obtain ⟨hm, ws, hh, z⟩ := cell_lst r e
    rw [f.ref_inv]
    refine ⟨_, ws, w, rfl, rfl, hh, by rw [z.length]; exact hz, pv _ _ _ _ (le_put hm) (r.put hm (d := .lst _) ⟨_, upd_same, ?_⟩) .non q⟩
    exact (z.mono (le_put hm)).append (.cons (g.mono (le_put hm)) .nil)
  · exact h.elim
theorem lift_extend : LiftM K rExtend extendD := fun H M v vs d ds Qd Q r f G h pv => by
  unfold extendD at h
  split at h
  · obtain ⟨w, rfl, g⟩ := G.one
    obtain ⟨xs, e, hz, q⟩ := atSeq_of h
    obtain ⟨hm, ws, hh, z⟩ := cell_lst r e
    obtain ⟨b, us, rfl, hb, nb, z2⟩ := g.lst_inv
    rw [f.ref_inv]
    refine ⟨_, b, ws, us, rfl, rfl, hh, hb, by rw [z.length, z2.length]; exact hz, pv _ _ _ _ (le_put hm) (r.put hm (d := .lst _) ⟨_, upd_same, ?_⟩) .non q⟩
    exact (z.mono (le_put hm)).append (z2.mono (le_put hm))
  · exact h.elim
theorem Fzs.dropLast {H : Hp} {M : DM} {vs : List V} {ds : List DV} (z : Fzs K H M vs ds) : Fzs K H M vs.dropLast ds.dropLast := by
  rw [List.dropLast_eq_take, List.dropLast_eq_take, z.length]
  exact z.take _
theorem lift_pop : LiftM K rPop popD := fun H M v vs d ds Qd Q r f G h pv => by
  unfold popD at h
  split at h
  · cases G
    obtain ⟨xs, e, h⟩ := atSeq_of h
    obtain ⟨x, ex, q⟩ := atO_of h
    obtain ⟨hm, ws, hh, z⟩ := cell_lst r e
    obtain ⟨w, ew, fw⟩ := z.get' ex
    rw [f.ref_inv]
    refine ⟨_, ws, w, rfl, rfl, hh, by rw [z.length]; exact ew, pv _ _ _ _ (le_put hm) (r.put hm (d := .lst _) ⟨_, upd_same, ?_⟩) (fw.mono (le_put hm)) q⟩
    exact (z.mono (le_put hm)).dropLast
  · exact h.elim
theorem lift_index : LiftM K (fun x xs H Q => ∃ p, ∃ ys : List Str, ∃ z j, x = .ref p ∧ xs = [.str z] ∧ SqT K H p (ys.map V.str) ∧ ys[j]? = some z ∧ (∀ m, m < j → ys[m]? ≠ some z) ∧ Q (.int (j : Nat)) H) indexD := fun H M v vs d ds Qd Q r f G h pv => by
  unfold indexD at h
  split at h
  · obtain ⟨w, rfl, g⟩ := G.one
    obtain ⟨ys, rfl, h⟩ := h
    obtain ⟨j, ej, q⟩ := atO_of h
    obtain ⟨a, ws, rfl, s, z⟩ := f.tup_inv
    rw [strs_inv z] at s
    rw [g.str_inv]
    obtain ⟨h1, h2⟩ := idxS_some ej
    exact ⟨a, ys, _, j, rfl, rfl, s, h1, h2, pv _ _ H M .refl r (.int _) q⟩
  · exact h.elim
theorem lift_join : LiftM K (fun x xs H Q => ∃ a p, ∃ ys : List Str, x = .str a ∧ xs = [.ref p] ∧ (SqL K H p (ys.map V.str) ∨ SqT K H p (ys.map V.str)) ∧
    (ys.map (·.length)).sum + ys.length * a.length ≤ 16777216 ∧ Q (.str (Txt.join a ys)) H) joinD := fun H M v vs d ds Qd Q r f G h pv => by
  unfold joinD at h
  split at h
  · obtain ⟨w, rfl, g⟩ := G.one
    obtain ⟨xs, e, ys, rfl, hz, q⟩ := atSeq_of h
    obtain ⟨a, ws, rfl, s, z⟩ := seqD_ok r g e
    rw [strs_inv z] at s
    exact ⟨_, a, ys, f.str_inv, rfl, s, hz, pv _ _ H M .refl r (.str _) q⟩
  · exact h.elim
theorem lift_lstrip : LiftM K (fun x xs H Q => ∃ a b, x = .str a ∧ xs = [.str b] ∧ a.length ≤ sizeLine ∧ Q (.str (Txt.lstripChars a b)) H) lstripD := fun H M v vs d ds Qd Q r f G h pv => by
  unfold lstripD at h
  split at h
  · obtain ⟨w, rfl, g⟩ := G.one
    rw [g.str_inv]
    exact ⟨_, _, f.str_inv, rfl, h.1, pv _ _ H M .refl r (.str _) h.2⟩
  · exact h.elim
end
section
variable {X : Cx} {W : WX} {pos p : Pos} {o e : Expr} {es : List Expr} {t : TAD} {to : TED} {name : Str} {apos cpos : Pos} {T id : String} {r : V → List V → Hp → VK → Prop} {rd : RMD}
theorem de_mt0 (pa : PlainAttrs T) (slot : Slot T name id) (hty : typeOf (.builtin id) = pure (.type "method_descriptor")) (hm : MtR X id r) (hl : LiftM X.K r rd) (ho : DE X W o to)
    (hbase : attributeBase o name X.env (eval o X.env) = eval o X.env := by rfl) (hline : (apos.endLine == cpos.line) = true := by rfl) : DE X W (.Call (.Attribute o name apos) [] [] cpos) (dMt T rd to dNil) :=
  PE.cons (pe_me0 pa slot hty hm ho hbase hline) fun σ H Q ⟨sd, M, E, Qd, r, rs, q, pv, px⟩ =>
    subE r rs px q fun v d H1 M1 l1 r1 rs1 px1 f1 q1 => ⟨tyD_ok r1 f1 q1.1, hl H1 M1 v [] d [] Qd Q r1 f1 .nil q1.2 (pv.mono l1)⟩
theorem de_mt (pa : PlainAttrs T) (slot : Slot T name id) (hty : typeOf (.builtin id) = pure (.type "method_descriptor")) (hm : MtR X id r) (hl : LiftM X.K r rd) (ho : DE X W o to) (ha : DA X W (e :: es) t)
    (hbase : attributeBase o name X.env (eval o X.env) = eval o X.env := by rfl)
    (hfew : ((backTo cpos (starEach (e :: es) X.env)).all (fun x => !x.1) && (backToKw cpos (keywordEach [] X.env)).all (fun x => x.1.isSome)
      && decide ((e :: es).length + ([] : List Keyword).length + (if ([] : List Keyword).isEmpty then 0 else 1) < 30)) = true := by rfl)
    (hline : (apos.endLine == cpos.line) = true := by rfl) (hs : starEach (e :: es) X.env = (false, eval e X.env) :: starEach es X.env := by rfl) (hplain : (backTo cpos (starEach es X.env)).any (·.1) = false := by rfl) :
    DE X W (.Call (.Attribute o name apos) (e :: es) [] cpos) (dMt T rd to t) :=
  PE.cons (pe_me pa slot hty hm ho ha hbase hfew hline hs hplain) fun σ H Q ⟨sd, M, E, Qd, r, rs, q, pv, px⟩ =>
    subE r rs px q fun v d H1 M1 l1 r1 rs1 px1 f1 q1 => ⟨tyD_ok r1 f1 q1.1, subA r1 rs1 px1 q1.2 fun vs ds H2 M2 l2 r2 _ _ f2 q2 => hl H2 M2 v vs d ds Qd Q r2 (f1.mono l2) f2 q2 (pv.mono (l1.trans l2))⟩
end
/-! ### calls of defs -/
abbrev DSp := List DV → DM → (DX → DM → Prop) → DVK → Prop
def lSp (K : PySem.W.Frag) (sp : DSp) : Sp := fun vs H Q E => ∃ ds M Ed Qd, Rel K H M ∧ Fzs K H M vs ds ∧ sp ds M Ed Qd ∧ PostV K H M Qd Q ∧ ∀ x cls dx H' M', Le H M H' M' → Rel K H' M' → XOk K H' M' x cls dx → Ed x M' → E cls dx H'
def noX : DX → DM → Prop := fun _ _ => False
def dCall (sp : DSp) (t : TAD) : TED := fun sd M E Q => t sd M E fun ds M1 => sp ds M1 noX Q
section
variable {X : Cx} {W : WX} {k : Nat} {f : Addr} {fd : FuncData} {ps : List Str} {sp : DSp} {x : Str} {p pos : Pos} {e : Expr} {es : List Expr} {t : TAD} {CX : CXT}
theorem de_call (F : FnOk X.prog X.w X.K X.mg X.base CX0 k f fd ps (lSp X.K sp)) (hr : Room k X.A) (hg : Gl X x) (hm : X.mg x = some (.ref f)) (hk : PySem.W.keepIn X.K (.ref f) = true) (hb : Binds X.K fd ps [])
    (ha : DA X W (e :: es) t) (hdb : (x == ("__debug__" : Str)) = false := by decide) (he : starEach (e :: es) X.env = (false, eval e X.env) :: starEach es X.env := by rfl) (hpl : (backTo pos (starEach es X.env)).any (·.1) = false := by rfl) :
    DE X W (.Call (.Name x p) (e :: es) [] pos) (dCall sp t) :=
  PE.cons (pe_call F hr hg hm hk hb .nil pass0 ha hdb he hpl) fun σ H Q ⟨sd, M, E, Qd, r, rs, q, pv, px⟩ =>
    subA r rs px q fun vs ds H1 M1 l1 r1 _ _ f1 q1 => by
      show lSp X.K sp (vs ++ []) H1 Q E0
      rw [List.append_nil]
      exact ⟨ds, M1, noX, Qd, r1, f1, q1, pv.mono l1, fun _ _ _ _ _ _ _ _ z => z.elim⟩
end
/-! ### targets -/
/-- only the slots at is have changed -/
def Sm (is : List Nat) (σ σ' : L2.St) : Prop := σ'.length = σ.length ∧ ∀ i, i ∉ is → σ'[i]? = σ[i]?
theorem Sm.trans {is js : List Nat} {σ σ1 σ2 : L2.St} (a : Sm is σ σ1) (b : Sm js σ1 σ2) : Sm (is ++ js) σ σ2 :=
  ⟨b.1.trans a.1, fun i h => (b.2 i fun z => h (List.mem_append_right _ z)).trans (a.2 i fun z => h (List.mem_append_left _ z))⟩
abbrev TGD := DV → DSt → DM → (DSt → DM → Prop) → Prop
abbrev TGDs := List DV → DSt → DM → (DSt → DM → Prop) → Prop
def PostG (K : PySem.W.Frag) (is : List Nat) (σ : L2.St) (H : Hp) (M : DM) (Qd : DSt → DM → Prop) (Q : L2.St → Hp → Prop) : Prop := ∀ σ' sd' H' M', Le H M H' M' → Rel K H' M' → RelS K H' M' σ' sd' → Sm is σ σ' → Qd sd' M' → Q σ' H'
def lG (K : PySem.W.Frag) (is : List Nat) (g : TGD) : TG := fun v σ H Q => ∃ d sd M Qd, Rel K H M ∧ RelS K H M σ sd ∧ Fz K H M v d ∧ g d sd M Qd ∧ PostG K is σ H M Qd Q
def lGs (K : PySem.W.Frag) (is : List Nat) (g : TGDs) : TGs := fun vs σ H Q => ∃ ds sd M Qd, Rel K H M ∧ RelS K H M σ sd ∧ Fzs K H M vs ds ∧ g ds sd M Qd ∧ PostG K is σ H M Qd Q
def DG (X : Cx) (tg : Expr) (is : List Nat) (g : TGD) : Prop := PG X tg (lG X.K is g)
def DGs (X : Cx) (tg : List Expr) (is : List Nat) (g : TGDs) : Prop := PGs X tg (lGs X.K is g)
def gNm (i : Nat) : TGD := fun d sd M Q => Q (setS sd i d) M
def gNilD : TGDs := fun ds sd M Q => match ds with
  | [] => Q sd M
  | _ => False
def gConsD (g : TGD) (gs : TGDs) : TGDs := fun ds sd M Q => match ds with
  | d :: r => g d sd M fun sd1 M1 => gs r sd1 M1 Q
  | _ => False
def gTp (n : Nat) (gs : TGDs) : TGD := fun d sd M Q => match d with
  | .tup ds => ds.length = n ∧ gs ds sd M Q
  | .tupW ds => ds.length = n ∧ gs ds sd M Q
  | _ => False
section
variable {X : Cx} {W : WX} {pos : Pos}
theorem PG.cons {e : Expr} {t t' : TG} (h : PG X e t) (i : ∀ v σ H Q, t' v σ H Q → t v σ H Q) : PG X e t' := ⟨fun pins s σ H v u Q I r q => h.run pins s σ H v u Q I r (i v σ H Q q)⟩
theorem PGs.cons' {e : List Expr} {t t' : TGs} (h : PGs X e t) (i : ∀ v σ H Q, t' v σ H Q → t v σ H Q) : PGs X e t' := ⟨fun pins s σ H v u Q I r q => h.run pins s σ H v u Q I r (i v σ H Q q)⟩
theorem dg_name {i : Nat} {x : Str} (hN : X.N.Nodup) (hi : X.N[i]? = some x) (hx : Loc X.env.scope x) (hf : X.fn x = true ∨ X.env.scope.names.lookup x = some .local := by first | exact .inl rfl | exact .inr rfl | assumption) : DG X (.Name x pos) [i] (gNm i) :=
  PG.cons (pg_name hN hi hx hf) fun v σ H Q ⟨d, sd, M, Qd, r, rs, f, q, pg⟩ => by
    refine pg _ _ H M .refl r (rs.set (i := i) f) ⟨by simp, fun j hj => ?_⟩ (by rw [← setS_eq]; exact q)
    rw [List.getElem?_set_ne]
    exact fun e => hj (by rw [e]; exact List.mem_singleton_self _)
theorem dgs_nil : DGs X [] [] gNilD := PGs.cons' pgs_nil fun v σ H Q ⟨ds, sd, M, Qd, r, rs, f, q, pg⟩ => by
  cases f with
  | nil => exact ⟨rfl, pg _ _ H M .refl r rs ⟨rfl, fun _ _ => rfl⟩ q⟩
  | cons _ _ => exact q.elim
theorem dgs_cons {e : Expr} {es : List Expr} {is js : List Nat} {g : TGD} {gs : TGDs} (h1 : DG X e is g) (h2 : DGs X es js gs)
    (hs : (assignEach (e :: es) X.env).map (·.2) = assign e X.env :: (assignEach es X.env).map (·.2) := by rfl) : DGs X (e :: es) (is ++ js) (gConsD g gs) :=
  PGs.cons' (pgs_cons h1 h2 hs) fun v σ H Q ⟨ds, sd, M, Qd, r, rs, f, q, pg⟩ => by
    cases f with
    | nil => exact q.elim
    | cons f fs =>
      refine ⟨_, _, rfl, _, sd, M, _, r, rs, f, q, fun σ1 sd1 H1 M1 l1 r1 rs1 s1 q1 => ?_⟩
      exact ⟨_, sd1, M1, Qd, r1, rs1, fs.mono l1, q1, fun σ2 sd2 H2 M2 l2 r2 rs2 s2 q2 => pg _ _ _ _ (l1.trans l2) r2 rs2 (s1.trans s2) q2⟩
theorem dg_tup {es : List Expr} {k : Nat} {is : List Nat} {gs : TGDs} {n : Nat} (hc : X.calm = true) (h : DGs X es is gs)
    (hn : (assignEach es X.env).length = n := by rfl) (hst : (assignEach es X.env).findIdx? (·.1) = none := by rfl) : DG X (.Tuple es k pos) is (gTp n gs) :=
  PG.cons (pg_tup hc h hn hst) fun v σ H Q ⟨d, sd, M, Qd, r, rs, f, q, pg⟩ => by
    unfold gTp at q
    split at q
    · obtain ⟨a, vs, rfl, s, z⟩ := f.tup_inv
      exact ⟨a, vs, rfl, s, by rw [z.length]; exact q.1, _, sd, M, Qd, r, rs, z, q.2, pg⟩
    · obtain ⟨a, vs, rfl, s, z⟩ := f.tupW_inv
      exact ⟨a, vs, rfl, s, by rw [z.length]; exact q.1, _, sd, M, Qd, r, rs, z, q.2, pg⟩
    · exact q.elim
end
end DL
set_option Elab.async false
set_option linter.all false
set_option maxRecDepth 100000
set_option maxHeartbeats 4000000
namespace DL
open PySem PySem.Spec PyProof.Rows L2
/-! ### statements -/
structure DEnds where
  nx : DSt → DM → Prop
  rt : DVK
  bk : DSt → DM → Prop := fun _ _ => False
  ct : DSt → DM → Prop := fun _ _ => False
  ex : EK := fun _ _ _ => False
abbrev TSD := DEnds → DSt → DM → Prop
structure PostS (K : PySem.W.Frag) (H : Hp) (M : DM) (Dd : DEnds) (D : Ends) : Prop where
  nx : ∀ σ' sd' H' M', Le H M H' M' → Rel K H' M' → RelS K H' M' σ' sd' → Dd.nx sd' M' → D.nx σ' H'
  rt : PostV K H M Dd.rt D.rt
  bk : ∀ σ' sd' H' M', Le H M H' M' → Rel K H' M' → RelS K H' M' σ' sd' → Dd.bk sd' M' → D.bk σ' H'
  ct : ∀ σ' sd' H' M', Le H M H' M' → Rel K H' M' → RelS K H' M' σ' sd' → Dd.ct sd' M' → D.ct σ' H'
theorem PostS.mono {K : PySem.W.Frag} {H H' : Hp} {M M' : DM} {Dd : DEnds} {D : Ends} (l : Le H M H' M') (h : PostS K H M Dd D) : PostS K H' M' Dd D :=
  ⟨fun σ' sd' H2 M2 l2 => h.nx σ' sd' H2 M2 (l.trans l2), h.rt.mono l, fun σ' sd' H2 M2 l2 => h.bk σ' sd' H2 M2 (l.trans l2), fun σ' sd' H2 M2 l2 => h.ct σ' sd' H2 M2 (l.trans l2)⟩
def lS (K : PySem.W.Frag) (W : WX) (t : TSD) : TS := fun D σ H => ∃ sd M Dd, Rel K H M ∧ RelS K H M σ sd ∧ t Dd sd M ∧ PostS K H M Dd D ∧ PostX K W H M Dd.ex
def DS (X : Cx) (W : WX) (st : Stmt) (t : TSD) : Prop := PS X st (lS X.K W t)
def DSs (X : Cx) (W : WX) (st : List Stmt) (t : TSD) : Prop := PSs X st (lS X.K W t)
theorem PS.cons {X : Cx} {e : Stmt} {t t' : TS} (h : PS X e t) (i : ∀ D σ H, t' D σ H → t D σ H) : PS X e t' := ⟨fun pins s σ H D I q => h.run pins s σ H D I (i D σ H q)⟩
theorem PSs.cons' {X : Cx} {e : List Stmt} {t t' : TS} (h : PSs X e t) (i : ∀ D σ H, t' D σ H → t D σ H) : PSs X e t' := ⟨fun pins s σ H D I q => h.run pins s σ H D I (i D σ H q)⟩
def sNext : TSD := fun D sd M => D.nx sd M
def sSeq (t u : TSD) : TSD := fun D sd M => t { D with nx := u D } sd M
def sDrop (te : TED) : TSD := fun D sd M => te sd M D.ex fun _ M1 => D.nx sd M1
def sRet (te : TED) : TSD := fun D sd M => te sd M D.ex D.rt
/-- what is handed back is not changed any more -/
def sRetF (te : TED) : TSD := fun D sd M => te sd M D.ex fun d M1 => D.rt (fz M1 d) (fzM M1 d)
def sRetN : TSD := fun D _ M => D.rt .non M
def sIf (c : TTD) (t u : TSD) : TSD := fun D sd M => c sd M D.ex fun b M1 => if b = true then t D sd M1 else u D sd M1
def sAsg (te : TED) (g : TGD) : TSD := fun D sd M => te sd M D.ex fun x M1 => g x sd M1 D.nx
def sBrk : TSD := fun D sd M => D.bk sd M
def sCnt : TSD := fun D sd M => D.ct sd M
section
variable {X : Cx} {W : WX} {st : Stmt} {rest : List Stmt} {t u : TSD} {e : Expr} {te : TED} {pos : Pos}
theorem dss_nil : DSs X W [] sNext := PSs.cons' pss_nil fun D σ H ⟨sd, M, Dd, r, rs, q, ps, px⟩ => ps.nx σ sd H M .refl r rs q
theorem dss_cons (h1 : DS X W st t) (h2 : DSs X W rest u) : DSs X W (st :: rest) (sSeq t u) := PSs.cons' (pss_cons h1 h2) fun D σ H ⟨sd, M, Dd, r, rs, q, ps, px⟩ =>
  ⟨sd, M, { Dd with nx := u Dd }, r, rs, q, ⟨fun σ' sd' H' M' l r' rs' q' => ⟨sd', M', Dd, r', rs', q', ps.mono l, px.mono l⟩, ps.rt, ps.bk, ps.ct⟩, px⟩
theorem dss_one (h1 : DS X W st t) : DSs X W [st] t := PSs.cons' (pss_one h1) fun D σ H q => q
theorem ds_pass : DS X W (.Pass pos) sNext := PS.cons ps_pass fun D σ H ⟨sd, M, Dd, r, rs, q, ps, px⟩ => ps.nx σ sd H M .refl r rs q
theorem ds_break : DS X W (.Break pos) sBrk := PS.cons ps_break fun D σ H ⟨sd, M, Dd, r, rs, q, ps, px⟩ => ps.bk σ sd H M .refl r rs q
theorem ds_cont : DS X W (.Continue pos) sCnt := PS.cons ps_continue fun D σ H ⟨sd, M, Dd, r, rs, q, ps, px⟩ => ps.ct σ sd H M .refl r rs q
theorem ds_expr (he : DE X W e te) (hs : swapsWith e none pos.line X.env = pure false := by rfl) : DS X W (.Expr e pos) (sDrop te) := PS.cons (ps_expr he hs) fun D σ H ⟨sd, M, Dd, r, rs, q, ps, px⟩ =>
  subE r rs px q fun v d H1 M1 l1 r1 rs1 px1 f1 q1 => ps.nx σ sd H1 M1 l1 r1 rs1 q1
theorem ds_ret (he : DE X W e te) : DS X W (.Return (some e) pos) (sRet te) := PS.cons (ps_ret he) fun D σ H ⟨sd, M, Dd, r, rs, q, ps, px⟩ =>
  subE r rs px q fun v d H1 M1 l1 r1 rs1 px1 f1 q1 => ps.rt v d H1 M1 l1 r1 f1 q1
theorem ds_retF (he : DE X W e te) : DS X W (.Return (some e) pos) (sRetF te) := PS.cons (ps_ret he) fun D σ H ⟨sd, M, Dd, r, rs, q, ps, px⟩ =>
  subE r rs px q fun v d H1 M1 l1 r1 rs1 px1 f1 q1 => by
    obtain ⟨a, b, c⟩ := fz_ok r1 f1
    exact ps.rt v _ H1 _ (l1.trans a) b c q1
theorem ds_retN : DS X W (.Return none pos) sRetN := PS.cons ps_retN fun D σ H ⟨sd, M, Dd, r, rs, q, ps, px⟩ => ps.rt _ _ H M .refl r .non q
theorem ds_if {c : Expr} {a b : List Stmt} {tc : TTD} (hc : DT X W c tc) (ha : DSs X W a t) (hb : DSs X W b u) : DS X W (.If c a b pos) (sIf tc t u) := PS.cons (ps_if hc ha hb) fun D σ H ⟨sd, M, Dd, r, rs, q, ps, px⟩ =>
  subT r rs px q fun b H1 M1 l1 r1 rs1 px1 q1 => by
    cases b with
    | true => exact ⟨sd, M1, Dd, r1, rs1, q1, ps.mono l1, px1⟩
    | false => exact ⟨sd, M1, Dd, r1, rs1, q1, ps.mono l1, px1⟩
theorem asg_of {K : PySem.W.Frag} {W : WX} {te : TED} {g : TGD} {is : List Nat} {D : Ends} {σ : L2.St} {H : Hp} : lS K W (sAsg te g) D σ H → tAsg (lE K W te) (lG K is g) D σ H :=
  fun ⟨sd, M, Dd, r, rs, q, ps, px⟩ => subE r rs px q fun v d H1 M1 l1 r1 rs1 px1 f1 q1 =>
    ⟨d, sd, M1, Dd.nx, r1, rs1, f1, q1, fun σ' sd' H' M' l r' rs' _ q' => ps.nx σ' sd' H' M' (l1.trans l) r' rs' q'⟩
theorem ds_asg {tg : Expr} {g : TGD} {is : List Nat} (he : DE X W e te) (hg : DG X tg is g) (hs : swapsWithSole [tg] e pos.line X.env = pure false := by rfl) (hw : swappedStores [tg] e X.env = pure none := by rfl)
    (h1 : (assignEach [tg] X.env).map (·.2) = [assign tg X.env] := by rfl) : DS X W (.Assign [tg] e pos) (sAsg te g) := PS.cons (ps_asg he hg hs hw h1) fun D σ H => asg_of
theorem name_of {K : PySem.W.Frag} {W : WX} {te : TED} {i : Nat} {D : Ends} {σ : L2.St} {H : Hp} : lS K W (sAsg te (gNm i)) D σ H → tAsg (lE K W te) (gName i) D σ H :=
  fun ⟨sd, M, Dd, r, rs, q, ps, px⟩ => subE r rs px q fun v d H1 M1 l1 r1 rs1 px1 f1 q1 =>
    ps.nx _ _ H1 M1 l1 r1 (rs1.set (i := i) f1) (by rw [← setS_eq]; exact q1)
theorem ds_set {i : Nat} {x : Str} {pos' : Pos} (hN : X.N.Nodup) (hi : X.N[i]? = some x) (hx : Loc X.env.scope x) (he : DE X W e te) (hs : swapsWith e (some (.Name x pos')) pos.line X.env = pure false := by rfl) (hf : X.fn x = true ∨ X.env.scope.names.lookup x = some .local := by first | exact .inl rfl | exact .inr rfl | assumption) :
    DS X W (.Assign [.Name x pos'] e pos) (sAsg te (gNm i)) := PS.cons (ps_set hN hi hx he hs hf) fun D σ H => name_of
/-- a, b = x, y -/
def sPar (i j : Nat) (ta : TAD) : TSD := fun D sd M => ta sd M D.ex fun ds M1 => match ds with
  | [a, b] => D.nx (setS (setS sd i a) j b) M1
  | _ => False
theorem ds_par {i j : Nat} {x y : Str} {a b : Expr} {ta : TAD} {px py pt : Pos} {kt k2 pt2} (hc : X.calm = true) (hN : X.N.Nodup) (hi : X.N[i]? = some x) (hj : X.N[j]? = some y) (hij : i ≠ j)
    (hx : X.env.scope.names.lookup x = some .local) (hy : X.env.scope.names.lookup y = some .local) (ha : DA X W [a, b] ta)
    (hw : swappedStores [.Tuple [.Name x px, .Name y py] kt pt] (.Tuple [a, b] k2 pt2) X.env = pure (some [x, y]))
    (hs : swapsWithSole [.Tuple [.Name x px, .Name y py] kt pt] (.Tuple [a, b] k2 pt2) pos.line X.env = pure false := by rfl) :
    DS X W (.Assign [.Tuple [.Name x px, .Name y py] kt pt] (.Tuple [a, b] k2 pt2) pos) (sPar i j ta) := PS.cons (ps_par hc hN hi hj hij hx hy ha hw hs) fun D σ H ⟨sd, M, Dd, r, rs, q, ps, px⟩ =>
  subA r rs px q fun vs ds H1 M1 l1 r1 rs1 px1 f1 q1 => by
    split at q1
    · obtain ⟨v, w, rfl, f, g⟩ := f1.two
      refine ⟨v, w, rfl, ps.nx _ _ H1 M1 l1 r1 ((rs1.set (i := i) f).set (i := j) g) ?_⟩
      rw [← setS_eq, ← setS_eq]
      exact q1
    · exact q1.elim
/-- o[i] = e, a list's cell -/
def setItemD (o i v : DV) (M : DM) (Q : DM → Prop) : Prop := match o, i with
  | .ref a, .int k => atSeq (seqD M (.ref a)) fun ds => atO (ixN ds.length k) fun j => Q (put M a (.lst (ds.set j v)))
  | _, _ => False
def gSubD (to ti : TED) : TGD := fun d sd M Q => to sd M (fun _ _ _ => False) fun o M1 => ti sd M1 (fun _ _ _ => False) fun i M2 => setItemD o i d M2 fun M3 => Q sd M3
theorem dg_sub {o i : Expr} {to ti : TED} (ho : DE X (fun _ _ _ _ => False) o to) (hi : DE X (fun _ _ _ _ => False) i ti)
    (ha : ∀ v, assign (.Subscript o i pos) X.env v = (do
      let ov ← holding [v] (eval o X.env)
      let iv ← holding [v, ov] (eval i X.env)
      standAt pos
      holding [v, ov, iv] (setItem ov iv v)
      release [v, ov, iv] []) := by intro _; rfl) : DG X (.Subscript o i pos) [] (gSubD to ti) :=
  PG.cons (pg_sub ho hi set_list ha) fun v σ H Q ⟨d, sd, M, Qd, r, rs, f, q, pg⟩ =>
    subE (E := fun _ _ _ => False) r rs (fun _ _ _ _ _ _ _ _ _ _ _ z => z.elim) q fun ov od H1 M1 l1 r1 rs1 px1 f1 q1 => subE r1 rs1 px1 q1 fun iv idx H2 M2 l2 r2 rs2 px2 f2 q2 => by
      unfold setItemD at q2
      split at q2
      · obtain ⟨ds, e, q3⟩ := atSeq_of q2
        obtain ⟨j, ej, q4⟩ := atO_of q3
        obtain ⟨hm, ws, hh, z⟩ := cell_lst r2 e
        have fv : Fz X.K H2 M2 v d := f.mono (l1.trans l2)
        refine ⟨_, ws, _, j, f1.ref_inv, f2.int_inv, hh, by rw [z.length]; exact ej, ?_⟩
        exact pg σ sd _ _ ((l1.trans l2).trans (le_put hm)) (r2.put hm (d := .lst _) ⟨_, upd_same, (z.mono (le_put hm)).set j (fv.mono (le_put hm))⟩) (rs2.mono (le_put hm)) ⟨rfl, fun _ _ => rfl⟩ q4
      · exact q2.elim
end
/-! ### what is walked -/
abbrev TID := DSt → DM → EK → (List DV → (DM → Prop) → DM → Prop) → Prop
/-- the iterator yields these items, while chk stands -/
def ItOk (K : PySem.W.Frag) (J : It) (ds : List DV) (chk : DM → Prop) (H1 : Hp) (M1 : DM) : Prop := ∀ i H M, Le H1 M1 H M → Rel K H M → chk M →
  (∀ d, ds[i]? = some d → J.go i H ∧ ∀ x H', J.yld i H x H' → Le H M H' M ∧ Rel K H' M ∧ Fz K H' M x d) ∧ (ds.length ≤ i → J.stop i H)
def lI (K : PySem.W.Frag) (W : WX) (wi : TID) : TI := fun σ H R => ∃ sd M E Rd, Rel K H M ∧ RelS K H M σ sd ∧ wi sd M E Rd ∧ PostX K W H M E ∧
  ∀ J H' M' ds chk, Le H M H' M' → Rel K H' M' → ItOk K J ds chk H' M' → Rd ds chk M' → R J H'
def DI (X : Cx) (W : WX) (tg iter : Expr) (wi : TID) : Prop := PI X tg iter (lI X.K W wi)
theorem PI.cons {X : Cx} {tg e : Expr} {t t' : TI} (h : PI X tg e t) (i : ∀ σ H R, t' σ H R → t σ H R) : PI X tg e t' := ⟨fun pins s σ H R I q => h.run pins s σ H R I (i σ H R q)⟩
/-- a list or a tuple -/
def iSeqA (K : PySem.W.Frag) (tl : TE) : TI := fun σ H R => tl σ H fun x H1 => ∃ a, x = .ref a ∧ (((∃ xs, SqL K H1 a xs) ∧ R (Itl K a) H1) ∨ ((∃ xs, SqT K H1 a xs) ∧ R (Itt K a) H1))
theorem pi_seq {X : Cx} {tg l : Expr} {tl : TE} (hl : PE X l tl) : PI X tg l (iSeqA X.K tl) := by
  refine ⟨fun pins s σ H R I h => ?_⟩
  refine thn (hl.run pins s σ H _ I h) fun v s1 ⟨x, H1, I1, r1, q1⟩ => ?_
  obtain ⟨a, e, ⟨⟨xs, hq⟩, q⟩ | ⟨⟨xs, hq⟩, q⟩⟩ := q1
  · subst e
    cases r1
    obtain ⟨its, rv, p, hz⟩ := I1.list hq
    refine wpAny_pyIter_list p.isList ?_
    refine ⟨s1.heap.objs.size, [s1.heap.objs.size], _, _, H1, rfl, I1.kept (t' := s1.toks) fun b o e => Heap.get?_push_of_some _ e, turn_list a _, ⟨_, Heap.get?_push_size _ rfl, rfl, rfl⟩, fun b hb => ?_, q⟩
    have e : b = s1.heap.objs.size := by simpa using hb
    subst e
    exact I1.fpOk (Nat.le_refl _) (I1.hok.fresh (Nat.le_refl _))
  · subst e
    cases r1
    obtain ⟨its, rv, p, hz⟩ := I1.tuple hq
    refine wpAny_pyIter_tuple (show s1.heap.IsTuple a its.toArray from p) ?_
    refine ⟨s1.heap.objs.size, [s1.heap.objs.size], _, _, H1, rfl, I1.kept (t' := s1.toks) fun b o e => Heap.get?_push_of_some _ e, turn_tuple a _, ⟨_, Heap.get?_push_size _ rfl, rfl, rfl⟩, fun b hb => ?_, q⟩
    have e : b = s1.heap.objs.size := by simpa using hb
    subst e
    exact I1.fpOk (Nat.le_refl _) (I1.hok.fresh (Nat.le_refl _))
def iSeqD (te : TED) : TID := fun sd M E R => te sd M E fun d M1 => atSeq (seqD M1 d) fun ds => R ds (fun M2 => seqD M2 d = some ds) M1
theorem itok_list {K : PySem.W.Frag} {a : Addr} {d : DV} {ds : List DV} {H1 : Hp} {M1 : DM} (f : Fz K H1 M1 (.ref a) d) (ht : isT d = false) : ItOk K (Itl K a) ds (fun M2 => seqD M2 d = some ds) H1 M1 := fun i H M l r e => by
  obtain ⟨a', vs, ea, s, z⟩ := seqD_sp r (f.mono l) e
  cases ea
  rw [ht] at s
  have s' : SqL K H a vs := by
    rcases s with s | s
    · exact s.2
    · cases s.1
  refine ⟨fun x hx => ?_, fun hi => ⟨vs, s', by rw [z.length]; exact hi⟩⟩
  obtain ⟨v, hv, fv⟩ := z.get' hx
  exact ⟨⟨vs, v, s', hv⟩, fun y H' ⟨eH, q⟩ => by
    subst eH
    have := q vs s'
    rw [hv] at this
    cases this
    exact ⟨.refl, r, fv⟩⟩
theorem itok_tup {K : PySem.W.Frag} {a : Addr} {d : DV} {ds : List DV} {H1 : Hp} {M1 : DM} (f : Fz K H1 M1 (.ref a) d) (ht : isT d = true) : ItOk K (Itt K a) ds (fun M2 => seqD M2 d = some ds) H1 M1 := fun i H M l r e => by
  obtain ⟨a', vs, ea, s, z⟩ := seqD_sp r (f.mono l) e
  cases ea
  rw [ht] at s
  have s' : SqT K H a vs := by
    rcases s with s | s
    · cases s.1
    · exact s.2
  refine ⟨fun x hx => ?_, fun hi => ⟨vs, s', by rw [z.length]; exact hi⟩⟩
  obtain ⟨v, hv, fv⟩ := z.get' hx
  exact ⟨⟨vs, v, s', hv⟩, fun y H' ⟨eH, q⟩ => by
    subst eH
    have := q vs s'
    rw [hv] at this
    cases this
    exact ⟨.refl, r, fv⟩⟩
def rangeD (lo : Int) (n : Nat) : List DV := (List.range n).map fun i => .int (lo + (i : Nat))
def iR1 (ta : TAD) : TID := fun sd M E R => ta sd M E fun ds M1 => match ds with
  | [.int j] => (-(2 ^ 62) ≤ j ∧ j < 2 ^ 62) ∧ R (rangeD 0 j.toNat) (fun _ => True) M1
  | _ => False
def iR2 (ta : TAD) : TID := fun sd M E R => ta sd M E fun ds M1 => match ds with
  | [.int i, .int j] => (-(2 ^ 62) ≤ i ∧ i < 2 ^ 62 ∧ -(2 ^ 62) ≤ j ∧ j < 2 ^ 62) ∧ R (rangeD i (j - i).toNat) (fun _ => True) M1
  | _ => False
theorem itok_range {K : PySem.W.Frag} {lo : Int} {n : Nat} {H1 : Hp} {M1 : DM} : ItOk K (Itr lo n) (rangeD lo n) (fun _ => True) H1 M1 := fun i H M l r _ => by
  refine ⟨fun d hd => ?_, fun hi => by unfold rangeD at hi; rw [List.length_map, List.length_range] at hi; exact hi⟩
  unfold rangeD at hd
  rw [List.getElem?_map] at hd
  cases q : (List.range n)[i]? with
  | none => rw [q] at hd; cases hd
  | some k =>
    rw [q] at hd
    obtain ⟨hl, hk⟩ := List.getElem?_eq_some_iff.mp q
    rw [List.getElem_range] at hk
    rw [List.length_range] at hl
    subst hk
    cases hd
    exact ⟨hl, fun x H' ⟨e1, e2⟩ => by subst e1; subst e2; exact ⟨.refl, r, .int _⟩⟩
section
variable {X : Cx} {W : WX} {tg l : Expr} {te : TED} {a b : Expr} {ta : TAD} {p pos : Pos}
theorem di_seq (hl : DE X W l te) : DI X W tg l (iSeqD te) := PI.cons (pi_seq hl) fun σ H R ⟨sd, M, E, Rd, r, rs, q, px, k⟩ =>
  subE r rs px q fun v d H1 M1 l1 r1 rs1 px1 f1 q1 => by
    obtain ⟨ds, e, q2⟩ := atSeq_of q1
    obtain ⟨a, vs, rfl, s, z⟩ := seqD_sp r1 f1 e
    refine ⟨a, rfl, ?_⟩
    rcases s with s | s
    · exact .inl ⟨⟨vs, s.2⟩, k _ H1 M1 ds _ l1 r1 (itok_list f1 s.1) q2⟩
    · exact .inr ⟨⟨vs, s.2⟩, k _ H1 M1 ds _ l1 r1 (itok_tup f1 s.1) q2⟩
theorem di_range1 (hg : Gl X "range") (hm : X.mg "range" = none) (ha : DA X W [a] ta) (hs : starEach [a] X.env = [(false, eval a X.env)] := by rfl) : DI X W tg (.Call (.Name "range" p) [a] [] pos) (iR1 ta) :=
  PI.cons (pi_range1 hg hm ha hs) fun σ H R ⟨sd, M, E, Rd, r, rs, q, px, k⟩ => subA r rs px q fun vs ds H1 M1 l1 r1 _ _ f1 q1 => by
    split at q1
    · obtain ⟨v, rfl, f⟩ := f1.one
      rw [f.int_inv]
      exact ⟨_, rfl, q1.1.1, q1.1.2, k _ H1 M1 _ _ l1 r1 itok_range q1.2⟩
    · exact q1.elim
theorem di_range2 (hg : Gl X "range") (hm : X.mg "range" = none) (ha : DA X W [a, b] ta) (hs : starEach [a, b] X.env = [(false, eval a X.env), (false, eval b X.env)] := by rfl) (hs2 : starEach [b] X.env = [(false, eval b X.env)] := by rfl) : DI X W tg (.Call (.Name "range" p) [a, b] [] pos) (iR2 ta) :=
  PI.cons (pi_range2 hg hm ha hs hs2) fun σ H R ⟨sd, M, E, Rd, r, rs, q, px, k⟩ => subA r rs px q fun vs ds H1 M1 l1 r1 _ _ f1 q1 => by
    split at q1
    · obtain ⟨v, w, rfl, f, g⟩ := f1.two
      rw [f.int_inv, g.int_inv]
      exact ⟨_, _, rfl, q1.1, k _ H1 M1 _ _ l1 r1 itok_range q1.2⟩
    · exact q1.elim
end
/-! ### for -/
def forGo (g : TGD) (tb : TSD) (D : DEnds) (chk : DM → Prop) : List DV → DSt → DM → Prop
  | [], sd, M => chk M ∧ D.nx sd M
  | x :: xs, sd, M => chk M ∧ g x sd M fun sd2 M2 => tb { D with nx := forGo g tb D chk xs, ct := forGo g tb D chk xs, bk := D.nx } sd2 M2
def sFor (wi : TID) (g : TGD) (tb : TSD) : TSD := fun D sd M => wi sd M D.ex fun items chk M1 => forGo g tb D chk items sd M1
theorem for_of {K : PySem.W.Frag} {W : WX} {wi : TID} {g : TGD} {is : List Nat} {tb : TSD} {D : Ends} {σ : L2.St} {H : Hp} : lS K W (sFor wi g tb) D σ H → tFor (lI K W wi) (lG K is g) (lS K W tb) D σ H :=
  fun ⟨sd, M, Dd, r, rs, q, ps, px⟩ => ⟨sd, M, Dd.ex, _, r, rs, q, px, fun J H1 M1 ds chk l1 r1 it q1 => by
    refine ⟨fun i m σ H2 => ∃ sd M2, Le H1 M1 H2 M2 ∧ Rel K H2 M2 ∧ RelS K H2 M2 σ sd ∧ i + m = ds.length ∧ forGo g tb Dd chk (ds.drop i) sd M2,
      ⟨ds.length, sd, M1, .refl, r1, rs.mono l1, by omega, q1⟩, fun i m σ H2 ⟨sd2, M2, l2, r2, rs2, em, q2⟩ => ?_⟩
    by_cases hi : i < ds.length
    · have hx : ds[i]? = some ds[i] := List.getElem?_eq_getElem hi
      rw [List.drop_eq_getElem_cons hi] at q2
      obtain ⟨ck, q3⟩ := q2
      obtain ⟨go, yl⟩ := (it i H2 M2 l2 r2 ck).1 _ hx
      refine .inr ⟨go, fun σ' H' => ∃ sd' M', Le H1 M1 H' M' ∧ Rel K H' M' ∧ RelS K H' M' σ' sd' ∧ forGo g tb Dd chk (ds.drop (i + 1)) sd' M', fun σ' H' ⟨sd', M', a, b, c, d⟩ => ⟨m - 1, by omega, sd', M', a, b, c, by omega, d⟩, fun x H' hy => ?_⟩
      obtain ⟨l3, r3, f3⟩ := yl x H' hy
      refine ⟨_, sd2, M2, _, r3, rs2.mono l3, f3, q3, fun σ4 sd4 H4 M4 l4 r4 rs4 _ q4 => ?_⟩
      have lt := ((l1.trans l2).trans l3).trans l4
      refine ⟨sd4, M4, _, r4, rs4, q4, ⟨fun σ5 sd5 H5 M5 l5 r5 rs5 q5 => ⟨sd5, M5, ((l2.trans l3).trans l4).trans l5, r5, rs5, q5⟩, ps.rt.mono lt, fun σ5 sd5 H5 M5 l5 r5 rs5 q5 => ps.nx σ5 sd5 H5 M5 (lt.trans l5) r5 rs5 q5, fun σ5 sd5 H5 M5 l5 r5 rs5 q5 => ⟨sd5, M5, ((l2.trans l3).trans l4).trans l5, r5, rs5, q5⟩⟩, px.mono lt⟩
    · rw [List.drop_eq_nil_of_le (by omega)] at q2
      obtain ⟨ck, q3⟩ := q2
      exact .inl ⟨(it i H2 M2 l2 r2 ck).2 (by omega), ps.nx σ sd2 H2 M2 (l1.trans l2) r2 rs2 q3⟩⟩
theorem ds_for {X : Cx} {W : WX} {tg iter : Expr} {body : List Stmt} {wi : TID} {g : TGD} {is : List Nat} {tb : TSD} {pos : Pos} (hp : PassesOwn (model X.prog X.w) X.A X.env X.xe) (hc : X.calm = true) (hi : DI X W tg iter wi) (hg : DG X tg is g) (hb : DSs X W body tb)
    (hs : ∀ x, foldedSetIterable iter X.env x = pure x := by intro _; rfl) : DS X W (.For tg iter body [] pos) (sFor wi g tb) := PS.cons (ps_for hp hc hi hg hb hs) fun D σ H => for_of
/-! ### comprehensions -/
def unset : DSt → Nat → DSt
  | [], _ => []
  | _ :: r, 0 => none :: r
  | x :: r, i + 1 => x :: unset r i
theorem unset_eq : ∀ (sd : DSt) (i : Nat), unset sd i = sd.set i none
  | [], _ => rfl
  | _ :: _, 0 => rfl
  | x :: r, i + 1 => by
    rw [List.set_cons_succ, ← unset_eq r i]
    rfl
def wipeD (sd : DSt) : List Nat → DSt
  | [] => sd
  | v :: vs => unset (wipeD sd vs) v
theorem RelS.wipe {K : PySem.W.Frag} {H : Hp} {M : DM} {σ : L2.St} {sd : DSt} (h : RelS K H M σ sd) : ∀ vs : List Nat, RelS K H M (L2.wipe σ vs) (wipeD sd vs)
  | [] => h
  | v :: vs => by
    have := (RelS.wipe h vs).unset (i := v)
    rw [← unset_eq] at this
    exact this
theorem wipe_ext {σ σ' : L2.St} (hl : σ'.length = σ.length) : ∀ {vs : List Nat}, (∀ i : Nat, i ∉ vs → σ'[i]? = σ[i]?) → ∀ i : Nat, (L2.wipe σ' vs)[i]? = (L2.wipe σ vs)[i]? := by
  intro vs h i
  by_cases hi : i ∈ vs
  · by_cases hs : i < σ.length
    · have key : ∀ (τ : L2.St), i < τ.length → ∀ ws : List Nat, i ∈ ws → (L2.wipe τ ws)[i]? = some none := by
        intro τ ht ws
        induction ws with
        | nil => intro z; cases z
        | cons w ws ih =>
          intro z
          show ((L2.wipe τ ws).set w none)[i]? = some none
          by_cases hw : w = i
          · subst hw
            exact List.getElem?_set_self (by rw [wipe_length]; exact ht)
          · rw [List.getElem?_set_ne hw]
            rcases List.mem_cons.mp z with e | e
            · exact absurd e.symm hw
            · exact ih e
      rw [key σ' (by omega) vs hi, key σ hs vs hi]
    · rw [List.getElem?_eq_none (by rw [wipe_length]; omega), List.getElem?_eq_none (by rw [wipe_length]; omega)]
  · have key : ∀ (τ : L2.St) (ws : List Nat), i ∉ ws → (L2.wipe τ ws)[i]? = τ[i]? := by
      intro τ ws
      induction ws with
      | nil => intro _; rfl
      | cons w ws ih =>
        intro z
        show ((L2.wipe τ ws).set w none)[i]? = τ[i]?
        rw [List.getElem?_set_ne (fun e => z (by rw [e]; exact List.mem_cons_self ..))]
        exact ih fun e => z (List.mem_cons_of_mem _ e)
    rw [key σ' vs hi, key σ vs hi, h i hi]
theorem Sm.wipe {is vs : List Nat} {σ σ' : L2.St} (s : Sm is (L2.wipe σ vs) σ') (h : ∀ i ∈ is, i ∈ vs) : L2.wipe σ' vs = L2.wipe σ vs := by
  have e : ∀ i : Nat, (L2.wipe σ' vs)[i]? = (L2.wipe (L2.wipe σ vs) vs)[i]? := wipe_ext s.1 fun i hi => s.2 i fun z => hi (h i z)
  have e2 : ∀ i : Nat, (L2.wipe (L2.wipe σ vs) vs)[i]? = (L2.wipe σ vs)[i]? := by
    intro i
    by_cases hi : i ∈ vs
    · by_cases hs : i < σ.length
      · have key : ∀ (τ : L2.St), i < τ.length → ∀ ws : List Nat, i ∈ ws → (L2.wipe τ ws)[i]? = some none := by
          intro τ ht ws
          induction ws with
          | nil => intro z; cases z
          | cons w ws ih =>
            intro z
            show ((L2.wipe τ ws).set w none)[i]? = some none
            by_cases hw : w = i
            · subst hw
              exact List.getElem?_set_self (by rw [wipe_length]; exact ht)
            · rw [List.getElem?_set_ne hw]
              rcases List.mem_cons.mp z with e | e
              · exact absurd e.symm hw
              · exact ih e
        rw [key _ (by rw [wipe_length]; exact hs) vs hi, key σ hs vs hi]
      · rw [List.getElem?_eq_none (by rw [wipe_length, wipe_length]; omega), List.getElem?_eq_none (by rw [wipe_length]; omega)]
    · exact wipe_out hi
  exact List.ext_getElem? fun i => (e i).trans (e2 i)
def noE : EK := fun _ _ _ => False
/-- one turn of a comprehension: the element, or nothing -/
def lcStep (g : TGD) (tt : TTD) (te : TED) (sdw : DSt) (x : DV) (M : DM) (Ky : DVK) (Kn : DM → Prop) : Prop :=
  g x sdw M fun sd2 M2 => tt sd2 M2 noE fun b M3 => if b = true then te sd2 M3 noE Ky else Kn M3
/-- the new list is the cell p -/
def lcGo (g : TGD) (tt : TTD) (te : TED) (sdw : DSt) (chk : DM → Prop) (p : Addr) (R : DM → Prop) : List DV → DM → Prop
  | [], M => chk M ∧ R M
  | x :: xs, M => chk M ∧ lcStep g tt te sdw x M (fun y M4 => atSeq (seqD M4 (.ref p)) fun acc => acc.length < sizeLine ∧ lcGo g tt te sdw chk p R xs (put M4 p (.lst (acc ++ [y])))) (fun M3 => lcGo g tt te sdw chk p R xs M3)
def dLcR (wi : TID) (g : TGD) (tt : TTD) (te : TED) (vs : List Nat) (R : Addr → DVK → DM → Prop) : TED := fun sd M E Q => wi sd M E fun items chk M1 => ∀ p, M1 p = none → lcGo g tt te (wipeD sd vs) chk p (R p Q) items (put M1 p (.lst []))
/-- the list is not changed any more; it may still be -/
def rFz (p : Addr) (Q : DVK) (M : DM) : Prop := atSeq (seqD M (.ref p)) fun acc => Q (.lst acc) (drop M p)
def rMu (p : Addr) (Q : DVK) (M : DM) : Prop := Q (.ref p) M
abbrev dLc (wi : TID) (g : TGD) (tt : TTD) (te : TED) (vs : List Nat) : TED := dLcR wi g tt te vs rFz
abbrev dLcM (wi : TID) (g : TGD) (tt : TTD) (te : TED) (vs : List Nat) : TED := dLcR wi g tt te vs rMu
def ROk (R : Addr → DVK → DM → Prop) : Prop := ∀ (K : PySem.W.Frag) (p : Addr) (Qd : DVK) (Q : VK) (H : Hp) (M : DM), Rel K H M → R p Qd M → PostV K H M Qd Q → Q (.ref p) H
theorem rFz_ok : ROk rFz := fun K p Qd Q H M r h pv => by
  obtain ⟨acc, e, q⟩ := atSeq_of h
  obtain ⟨hm, vs, hh, z⟩ := cell_lst r e
  exact pv _ _ H _ le_drop r.drop (.lst hh drop_same (z.mono le_drop)) q
theorem rMu_ok : ROk rMu := fun K p Qd Q H M r h pv => pv _ _ H M .refl r (.ref p) h
theorem w0x {K : PySem.W.Frag} {H : Hp} {M : DM} : PostX K W0 H M noE := fun _ _ _ _ _ _ _ _ _ _ _ z => z.elim
theorem lc_of {K : PySem.W.Frag} {W : WX} {wi : TID} {g : TGD} {is : List Nat} {tt : TTD} {te : TED} {vs : List Nat} {R : Addr → DVK → DM → Prop} (ok : ROk R) (hv : ∀ i ∈ is, i ∈ vs) {σ : L2.St} {H : Hp} {Q : VK} :
    lE K W (dLcR wi g tt te vs R) σ H Q → tLc (lI K W wi) (lG K is g) (lT K W0 tt) (lE K W0 te) vs σ H Q :=
  fun ⟨sd, M, E, Qd, r, rs, q, pv, px⟩ => ⟨sd, M, E, _, r, rs, q, px, fun J H1 M1 ds chk l1 r1 it q1 => fun D hD => by
    have q2 := q1 D (r1.free hD)
    refine ⟨fun i m H2 => ∃ M2, Le H1 M1 H2 M2 ∧ Rel K H2 M2 ∧ i + m = ds.length ∧ lcGo g tt te (wipeD sd vs) chk D (R D Qd) (ds.drop i) M2,
      ⟨ds.length, _, le_newc hD, r1.newc hD (c := .lst []) ⟨[], upd_same, .nil⟩, by omega, q2⟩, fun i m H2 ⟨M2, l2, r2, em, q3⟩ => ?_⟩
    by_cases hi : i < ds.length
    · have hx : ds[i]? = some ds[i] := List.getElem?_eq_getElem hi
      rw [List.drop_eq_getElem_cons hi] at q3
      obtain ⟨ck, q4⟩ := q3
      obtain ⟨go, yl⟩ := (it i H2 M2 l2 r2 ck).1 _ hx
      refine .inr ⟨go, fun H' => ∃ M', Le H1 M1 H' M' ∧ Rel K H' M' ∧ lcGo g tt te (wipeD sd vs) chk D (R D Qd) (ds.drop (i + 1)) M', fun H' ⟨M', a, b, c⟩ => ⟨m - 1, by omega, M', a, b, by omega, c⟩, fun x H' hy => ?_⟩
      obtain ⟨l3, r3, f3⟩ := yl x H' hy
      have rsw : RelS K H' M2 (L2.wipe σ vs) (wipeD sd vs) := (rs.mono ((l1.trans l2).trans l3)).wipe vs
      refine ⟨_, _, M2, _, r3, rsw, f3, q4, fun σ4 sd4 H4 M4 l4 r4 rs4 s4 q5 => ⟨s4.wipe hv, ?_⟩⟩
      refine subT r4 rs4 w0x q5 fun b H5 M5 l5 r5 rs5 px5 q6 => ?_
      cases b with
      | true =>
        refine subE r5 rs5 w0x q6 fun y d H6 M6 l6 r6 rs6 px6 f6 q7 => ?_
        obtain ⟨acc, ea, hz, q8⟩ := atSeq_of q7
        obtain ⟨hm, ws, hh, z⟩ := cell_lst r6 ea
        refine ⟨ws, hh, by rw [z.length]; exact hz, _, ((((l2.trans l3).trans l4).trans l5).trans l6).trans (le_put hm), r6.put hm (d := .lst _) ⟨_, upd_same, ?_⟩, q8⟩
        exact (z.mono (le_put hm)).append (.cons (f6.mono (le_put hm)) .nil)
      | false => exact ⟨M5, (((l2.trans l3).trans l4).trans l5), r5, q6⟩
    · rw [List.drop_eq_nil_of_le (by omega)] at q3
      obtain ⟨ck, q4⟩ := q3
      exact .inl ⟨(it i H2 M2 l2 r2 ck).2 (by omega), ok K D Qd Q H2 M2 r2 q4 (pv.mono (l1.trans l2))⟩⟩
def DTs (X : Cx) (W : WX) (ifs : List Expr) (t : TTD) : Prop := PTs X ifs (lT X.K W t)
theorem PTs.cons' {X : Cx} {e : List Expr} {t t' : TT} (h : PTs X e t) (i : ∀ σ H Q, t' σ H Q → t σ H Q) : PTs X e t' := ⟨fun pins s σ H Q I q => h.run pins s σ H Q I (i σ H Q q)⟩
def dYes : TTD := fun _ M _ Q => Q true M
section
variable {X : Cx} {W : WX} {elt tg iter : Expr} {ifs : List Expr} {scope : Scope} {own : List (Str × Nat)} {pos spos : Pos} {wi : TID} {g : TGD} {is : List Nat} {tt : TTD} {te : TED} {R : Addr → DVK → DM → Prop}
theorem dts_nil : DTs X W [] dYes := PTs.cons' pts_nil fun σ H Q ⟨sd, M, E, Qd, r, rs, q, pv, px⟩ => pv true H M .refl r q
theorem dts_one {c : Expr} {t : TTD} (h : DT X W c t) : DTs X W [c] t := PTs.cons' (pts_one h) fun σ H Q q => q
theorem de_lc (ok : ROk R) (hc : X.calm = true) (hN : X.N.Nodup) (hi : DI X W tg iter wi) (hok : BlkOk X.N X.env.scope scope own)
    (hg : ∀ (s : Shared) (H : Hp) (C : Addr) (cl : List (Str × Addr)) (fp : List Addr), DG (X.blk s H scope (compEnvC scope cl C X.env) fp) tg is g) (ht : ∀ (s : Shared) (H : Hp) (C : Addr) (cl : List (Str × Addr)) (fp : List Addr), DTs (X.blk s H scope (compEnvC scope cl C X.env) fp) W0 ifs tt)
    (he : ∀ (s : Shared) (H : Hp) (C : Addr) (cl : List (Str × Addr)) (fp : List Addr), DE (X.blk s H scope (compEnvC scope cl C X.env) fp) W0 elt te) (hv : ∀ i ∈ is, i ∈ own.map (·.2) := by decide) (hs : ∀ x, foldedSetIterable iter X.env x = pure x := by intro _; rfl) :
    DE X W (.ListComp elt [⟨tg, iter, ifs, 0⟩] scope pos) (dLcR wi g tt te (own.map (·.2)) R) :=
  PE.cons (pe_lc (g := lG X.K is g) (tt := lT X.K W0 tt) (te := lE X.K W0 te) hc hN hi hok hg ht he hs) fun σ H Q => lc_of ok hv
theorem ds_setLc {i : Nat} {y : Str} {py : Pos} (ok : ROk R) (hc : X.calm = true) (hN : X.N.Nodup) (hy : X.N[i]? = some y) (hyl : X.env.scope.names.lookup y = some .local)
    (hsw : swapsWith (.ListComp elt [⟨tg, iter, ifs, 0⟩] scope pos) (some (.Name y py)) spos.line X.env = pure true) (hi : DI X W tg iter wi) (hok : BlkOk X.N X.env.scope scope own)
    (hg : ∀ (s : Shared) (H : Hp) (C : Addr) (cl : List (Str × Addr)) (fp : List Addr), DG (X.blk s H scope (compEnvC scope cl C X.env) fp) tg is g) (ht : ∀ (s : Shared) (H : Hp) (C : Addr) (cl : List (Str × Addr)) (fp : List Addr), DTs (X.blk s H scope (compEnvC scope cl C X.env) fp) W0 ifs tt)
    (he : ∀ (s : Shared) (H : Hp) (C : Addr) (cl : List (Str × Addr)) (fp : List Addr), DE (X.blk s H scope (compEnvC scope cl C X.env) fp) W0 elt te) (hv : ∀ i ∈ is, i ∈ own.map (·.2) := by decide) (hs : ∀ x, foldedSetIterable iter X.env x = pure x := by intro _; rfl) :
    DS X W (.Assign [.Name y py] (.ListComp elt [⟨tg, iter, ifs, 0⟩] scope pos) spos) (sAsg (dLcR wi g tt te (own.map (·.2)) R) (gNm i)) :=
  PS.cons (ps_setLc (g := lG X.K is g) (tt := lT X.K W0 tt) (te := lE X.K W0 te) hc hN hy hyl hsw hi hok hg ht he hs) fun D σ H ⟨sd, M, Dd, r, rs, q, ps, px⟩ => by
    refine lc_of (K := X.K) (W := W) (is := is) ok hv ⟨sd, M, Dd.ex, _, r, rs, q, fun v d H1 M1 l1 r1 f1 q1 => ?_, px⟩
    exact ps.nx _ _ H1 M1 l1 r1 ((rs.mono l1).set (i := i) f1) (by rw [← setS_eq]; exact q1)
end
end DL
set_option Elab.async false
set_option linter.all false
set_option maxRecDepth 100000
set_option maxHeartbeats 4000000
namespace DL
open PySem PySem.Spec PyProof.Rows L2
/-! ### a def -/
/-- some cells are not told any more -/
def SubM (M M' : DM) : Prop := ∀ a c, M' a = some c → M a = some c
theorem SubM.refl (M : DM) : SubM M M := fun _ _ h => h
theorem SubM.trans {M M1 M2 : DM} (a : SubM M M1) (b : SubM M1 M2) : SubM M M2 := fun x c h => a x c (b x c h)
theorem subM_put {M : DM} {p : Addr} {c : Cell} (h : M p = none) : SubM (put M p c) M := fun a d e => by rw [put_ne (ne_put e h)]; exact e
theorem SubM.le {H : Hp} {M M' : DM} (h : SubM M M') : Le H M H M' := ⟨fun _ _ e _ => e, fun b o e n => by
  cases q : M' b with
  | none => rfl
  | some c => rw [h b c q] at n; cases n⟩
theorem SubM.rel {K : PySem.W.Frag} {H : Hp} {M M' : DM} (h : SubM M M') (r : Rel K H M) : Rel K H M' := fun a c e => (r a c (h a c e)).step h.le rfl
def Fnl (Q : DVK) : DVK := fun d M => ∃ M', SubM M M' ∧ Q d M'
theorem fin_id {Q : DVK} {d : DV} {M : DM} (h : Q d M) : Fnl Q d M := ⟨M, .refl M, h⟩
def startD (N : List Str) (ds : List DV) : DSt := ds.map some ++ List.replicate (N.length - ds.length) none
theorem startD_rel {K : PySem.W.Frag} {H : Hp} {M : DM} {N : List Str} {vs : List V} {ds : List DV} (f : Fzs K H M vs ds) : RelS K H M (L2.start N vs) (startD N ds) := by
  unfold L2.start startD
  refine ⟨by rw [List.length_append, List.length_append, List.length_map, List.length_map, f.length, List.length_replicate, List.length_replicate], fun i d h => ?_⟩
  by_cases hi : i < ds.length
  · rw [List.getElem?_append_left (by rw [List.length_map]; exact hi), List.getElem?_map] at h
    cases q : ds[i]? with
    | none => rw [q] at h; cases h
    | some e =>
      rw [q] at h
      cases h
      obtain ⟨v, hv, fv⟩ := f.get' q
      refine ⟨v, ?_, fv⟩
      rw [List.getElem?_append_left (by rw [List.length_map, f.length]; exact hi), List.getElem?_map, hv]
      rfl
  · rw [List.getElem?_append_right (by rw [List.length_map]; omega), List.getElem?_replicate] at h
    split at h <;> cases h
theorem _root_.L2.Fun.dl {P : Program} {w : World} {K : PySem.W.Frag} {mg : Str → Option Value} {base : Heap} {x qual : Str} {st : Stmt} {f : Addr} {fd : FuncData} {N ps : List Str} {k : Nat} {sp : DSp} {t : TSD} (F : Fun K x qual st f fd) (S : FnScope N ps (defScope st))
    (len : ∀ ds M E Q, sp ds M E Q → ds.length = ps.length)
    (hd : ∀ (cdv : Value) (A : Around) (outer : List Env) (s : Shared) (H : Hp) (E : XK), Room k (A.deeper (envOfC qual (defScope st) s.heap.objs.size f cdv)) →
      DSs (cxOf CX0 P w K mg base N qual (defScope st) f cdv A outer s H E).nox W0 (defBody st) t)
    (hr : ∀ ds M E Q, sp ds M E Q → t { nx := fun _ M' => Fnl Q .non M', rt := Fnl Q } (startD N ds) M) : FnOk P w K mg base CX0 (k + 1) f fd ps (lSp K sp) := by
  refine F.ok S (fun vs H Q E ⟨ds, M, Ed, Qd, r, f1, q, _⟩ => by rw [f1.length]; exact len _ _ _ _ q) (fun cdv A outer s H vs Q E hrm ⟨ds, M, Ed, Qd, r, f1, q, pv, px⟩ => ?_)
  refine ⟨_, hd cdv A outer s H E hrm, startD N ds, M, _, r, startD_rel f1, hr ds M Ed Qd q, ⟨?_, ?_, fun _ _ _ _ _ _ _ z => z.elim, fun _ _ _ _ _ _ _ z => z.elim⟩, fun _ _ _ _ _ _ _ _ _ _ _ z => z.elim⟩
  · rintro σ' sd' H' M' l r' rs' ⟨M2, sm, q2⟩
    exact pv _ _ H' M2 (l.trans sm.le) (sm.rel r') .non q2
  · rintro v d H' M' l r' f' ⟨M2, sm, q2⟩
    exact pv v d H' M2 (l.trans sm.le) (sm.rel r') (f'.mono sm.le) q2
/-! ### while -/
def whGo (c : TTD) (tb : TSD) (D : DEnds) : Nat → DSt → DM → Prop
  | 0, _, _ => False
  | n + 1, sd, M => c sd M D.ex fun b M1 => if b = true then tb { D with nx := whGo c tb D n, ct := whGo c tb D n, bk := D.nx } sd M1 else D.nx sd M1
def sWhile (c : TTD) (tb : TSD) : TSD := fun D sd M => ∃ n, whGo c tb D n sd M
theorem ds_while {X : Cx} {W : WX} {c : Expr} {body : List Stmt} {tc : TTD} {tb : TSD} {pos : Pos} (hp : PassesOwn (model X.prog X.w) X.A X.env X.xe) (hc : DT X W c tc) (hb : DSs X W body tb) : DS X W (.While c body [] pos) (sWhile tc tb) :=
  PS.cons (ps_while hp hc hb) fun D σ H ⟨sd, M, Dd, r, rs, ⟨n, q⟩, ps, px⟩ => by
    refine ⟨fun m σ' H' => ∃ sd' M', Le H M H' M' ∧ Rel X.K H' M' ∧ RelS X.K H' M' σ' sd' ∧ whGo tc tb Dd m sd' M', ⟨n, sd, M, .refl, r, rs, q⟩, fun m σ2 H2 ⟨sd2, M2, l2, r2, rs2, q2⟩ => ?_⟩
    cases m with
    | zero => exact q2.elim
    | succ m =>
      refine subT r2 rs2 (px.mono l2) q2 fun b H3 M3 l3 r3 rs3 px3 q3 => ?_
      have lt := l2.trans l3
      cases b with
      | true =>
        refine ⟨fun σ' H' => ∃ sd' M', Le H M H' M' ∧ Rel X.K H' M' ∧ RelS X.K H' M' σ' sd' ∧ whGo tc tb Dd m sd' M', fun σ' H' z => ⟨m, Nat.lt_succ_self m, z⟩, ?_⟩
        exact ⟨sd2, M3, _, r3, rs3, q3, ⟨fun σ5 sd5 H5 M5 l5 r5 rs5 q5 => ⟨sd5, M5, lt.trans l5, r5, rs5, q5⟩, ps.rt.mono lt, fun σ5 sd5 H5 M5 l5 r5 rs5 q5 => ps.nx σ5 sd5 H5 M5 (lt.trans l5) r5 rs5 q5, fun σ5 sd5 H5 M5 l5 r5 rs5 q5 => ⟨sd5, M5, lt.trans l5, r5, rs5, q5⟩⟩, px3⟩
      | false => exact ps.nx σ2 sd2 H3 M3 lt r3 rs3 q3
/-! ### comprehensions of two clauses -/
def lc2In (g1 : TGD) (tt1 : TTD) (te : TED) (sdw : DSt) (chk : DM → Prop) (p : Addr) (Nx : DM → Prop) : List DV → DM → Prop := lcGo g1 tt1 te sdw chk p Nx
def lc2Go (g : TGD) (tt : TTD) (wi1 : TID) (g1 : TGD) (tt1 : TTD) (te : TED) (sdw : DSt) (vs1 : List Nat) (chk : DM → Prop) (p : Addr) (R : DM → Prop) : List DV → DM → Prop
  | [], M => chk M ∧ R M
  | x :: xs, M => chk M ∧ g x sdw M fun sd2 M2 => tt sd2 M2 noE fun b M3 => if b = true then wi1 sd2 M3 noE fun items1 chk1 M4 => lcGo g1 tt1 te (wipeD sd2 vs1) chk1 p (lc2Go g tt wi1 g1 tt1 te sdw vs1 chk p R xs) items1 M4
      else lc2Go g tt wi1 g1 tt1 te sdw vs1 chk p R xs M3
def dLc2R (wi : TID) (g : TGD) (tt : TTD) (wi1 : TID) (g1 : TGD) (tt1 : TTD) (te : TED) (vs vs1 : List Nat) (R : Addr → DVK → DM → Prop) : TED :=
  fun sd M E Q => wi sd M E fun items chk M1 => ∀ p, M1 p = none → lc2Go g tt wi1 g1 tt1 te (wipeD sd vs) vs1 chk p (R p Q) items (put M1 p (.lst []))
theorem lc2_of {K : PySem.W.Frag} {W : WX} {wi wi1 : TID} {g g1 : TGD} {is is1 : List Nat} {tt tt1 : TTD} {te : TED} {vs vs1 : List Nat} {R : Addr → DVK → DM → Prop} (ok : ROk R) (hv : ∀ i ∈ is, i ∈ vs) (hv1 : ∀ i ∈ is1, i ∈ vs1) {σ : L2.St} {H : Hp} {Q : VK} :
    lE K W (dLc2R wi g tt wi1 g1 tt1 te vs vs1 R) σ H Q → tLc2 (lI K W wi) (lG K is g) (lT K W0 tt) (lI K W0 wi1) (lG K is1 g1) (lT K W0 tt1) (lE K W0 te) vs vs1 σ H Q :=
  fun ⟨sd, M, E, Qd, r, rs, q, pv, px⟩ => ⟨sd, M, E, _, r, rs, q, px, fun J H1 M1 ds chk l1 r1 it q1 => fun D hD => by
    have q2 := q1 D (r1.free hD)
    refine ⟨fun i m H2 => ∃ M2, Le H1 M1 H2 M2 ∧ Rel K H2 M2 ∧ i + m = ds.length ∧ lc2Go g tt wi1 g1 tt1 te (wipeD sd vs) vs1 chk D (R D Qd) (ds.drop i) M2,
      ⟨ds.length, _, le_newc hD, r1.newc hD (c := .lst []) ⟨[], upd_same, .nil⟩, by omega, q2⟩, fun i m H2 ⟨M2, l2, r2, em, q3⟩ => ?_⟩
    by_cases hi : i < ds.length
    · have hx : ds[i]? = some ds[i] := List.getElem?_eq_getElem hi
      rw [List.drop_eq_getElem_cons hi] at q3
      obtain ⟨ck, q4⟩ := q3
      obtain ⟨go, yl⟩ := (it i H2 M2 l2 r2 ck).1 _ hx
      refine .inr ⟨go, fun H' => ∃ M', Le H1 M1 H' M' ∧ Rel K H' M' ∧ lc2Go g tt wi1 g1 tt1 te (wipeD sd vs) vs1 chk D (R D Qd) (ds.drop (i + 1)) M', fun H' ⟨M', a, b, c⟩ => ⟨m - 1, by omega, M', a, b, by omega, c⟩, fun x H' hy => ?_⟩
      obtain ⟨l3, r3, f3⟩ := yl x H' hy
      have rsw : RelS K H' M2 (L2.wipe σ vs) (wipeD sd vs) := (rs.mono ((l1.trans l2).trans l3)).wipe vs
      refine ⟨_, _, M2, _, r3, rsw, f3, q4, fun σ4 sd4 H4 M4 l4 r4 rs4 s4 q5 => ⟨s4.wipe hv, ?_⟩⟩
      refine subT r4 rs4 w0x q5 fun b H5 M5 l5 r5 rs5 px5 q6 => ?_
      cases b with
      | true =>
        have lt5 := ((l2.trans l3).trans l4).trans l5
        refine ⟨sd4, M5, noE, _, r5, rs5, q6, w0x, fun J1 H6 M6 ds1 chk1 l6 r6 it1 q7 => ?_⟩
        refine ⟨fun j k H7 => ∃ M7, Le H6 M6 H7 M7 ∧ Rel K H7 M7 ∧ j + k = ds1.length ∧ lcGo g1 tt1 te (wipeD sd4 vs1) chk1 D (lc2Go g tt wi1 g1 tt1 te (wipeD sd vs) vs1 chk D (R D Qd) (ds.drop (i + 1))) (ds1.drop j) M7,
          ⟨ds1.length, M6, .refl, r6, by omega, q7⟩, fun j k H7 ⟨M7, l7, r7, em7, q8⟩ => ?_⟩
        by_cases hj : j < ds1.length
        · have hx1 : ds1[j]? = some ds1[j] := List.getElem?_eq_getElem hj
          rw [List.drop_eq_getElem_cons hj] at q8
          obtain ⟨ck1, q9⟩ := q8
          obtain ⟨go1, yl1⟩ := (it1 j H7 M7 l7 r7 ck1).1 _ hx1
          refine .inr ⟨go1, fun H' => ∃ M', Le H6 M6 H' M' ∧ Rel K H' M' ∧ lcGo g1 tt1 te (wipeD sd4 vs1) chk1 D (lc2Go g tt wi1 g1 tt1 te (wipeD sd vs) vs1 chk D (R D Qd) (ds.drop (i + 1))) (ds1.drop (j + 1)) M', fun H' ⟨M', a, b, c⟩ => ⟨k - 1, by omega, M', a, b, by omega, c⟩, fun x1 H8 hy1 => ?_⟩
          obtain ⟨l8, r8, f8⟩ := yl1 x1 H8 hy1
          have rsw1 : RelS K H8 M7 (L2.wipe σ4 vs1) (wipeD sd4 vs1) := (rs5.mono ((l6.trans l7).trans l8)).wipe vs1
          refine ⟨_, _, M7, _, r8, rsw1, f8, q9, fun σ9 sd9 H9 M9 l9 r9 rs9 s9 q10 => ⟨s9.wipe hv1, ?_⟩⟩
          refine subT r9 rs9 w0x q10 fun b1 H10 M10 l10 r10 rs10 px10 q11 => ?_
          cases b1 with
          | true =>
            refine subE r10 rs10 w0x q11 fun y d H11 M11 l11 r11 rs11 px11 f11 q12 => ?_
            obtain ⟨acc, ea, hz, q13⟩ := atSeq_of q12
            obtain ⟨hm, ws, hh, z⟩ := cell_lst r11 ea
            refine ⟨ws, hh, by rw [z.length]; exact hz, _, ((((l7.trans l8).trans l9).trans l10).trans l11).trans (le_put hm), r11.put hm (d := .lst _) ⟨_, upd_same, ?_⟩, q13⟩
            exact (z.mono (le_put hm)).append (.cons (f11.mono (le_put hm)) .nil)
          | false => exact ⟨M10, ((l7.trans l8).trans l9).trans l10, r10, q11⟩
        · rw [List.drop_eq_nil_of_le (as := ds1) (i := j) (by omega)] at q8
          obtain ⟨ck1, q9⟩ := q8
          exact .inl ⟨(it1 j H7 M7 l7 r7 ck1).2 (by omega), M7, (lt5.trans l6).trans l7, r7, q9⟩
      | false => exact ⟨M5, ((l2.trans l3).trans l4).trans l5, r5, q6⟩
    · rw [List.drop_eq_nil_of_le (by omega)] at q3
      obtain ⟨ck, q4⟩ := q3
      exact .inl ⟨(it i H2 M2 l2 r2 ck).2 (by omega), ok K D Qd Q H2 M2 r2 q4 (pv.mono (l1.trans l2))⟩⟩
section
variable {X : Cx} {W : WX} {elt tg iter tg1 iter1 : Expr} {ifs ifs1 : List Expr} {scope : Scope} {own : List (Str × Nat)} {pos spos : Pos} {wi wi1 : TID} {g g1 : TGD} {is is1 : List Nat} {tt tt1 : TTD} {te : TED} {R : Addr → DVK → DM → Prop} {vs1 : List Nat}
theorem de_lc2 (ok : ROk R) (hc : X.calm = true) (hN : X.N.Nodup) (hi : DI X W tg iter wi) (hok : BlkOk X.N X.env.scope scope own)
    (hg : ∀ (s : Shared) (H : Hp) (C : Addr) (cl : List (Str × Addr)) (fp : List Addr), DG (X.blk s H scope (compEnvC scope cl C X.env) fp) tg is g) (ht : ∀ (s : Shared) (H : Hp) (C : Addr) (cl : List (Str × Addr)) (fp : List Addr), DTs (X.blk s H scope (compEnvC scope cl C X.env) fp) W0 ifs tt)
    (hi1 : ∀ (s : Shared) (H : Hp) (C : Addr) (cl : List (Str × Addr)) (fp : List Addr), DI (X.blk s H scope (compEnvC scope cl C X.env) fp) W0 tg1 iter1 wi1)
    (hg1 : ∀ (s : Shared) (H : Hp) (C : Addr) (cl : List (Str × Addr)) (fp : List Addr), DG (X.blk s H scope (compEnvC scope cl C X.env) fp) tg1 is1 g1) (ht1 : ∀ (s : Shared) (H : Hp) (C : Addr) (cl : List (Str × Addr)) (fp : List Addr), DTs (X.blk s H scope (compEnvC scope cl C X.env) fp) W0 ifs1 tt1)
    (he : ∀ (s : Shared) (H : Hp) (C : Addr) (cl : List (Str × Addr)) (fp : List Addr), DE (X.blk s H scope (compEnvC scope cl C X.env) fp) W0 elt te) (hv : ∀ i ∈ is, i ∈ own.map (·.2) := by decide) (hv1 : ∀ i ∈ is1, i ∈ vs1 := by decide) (hv2 : ∀ i ∈ vs1, i ∈ own.map (·.2) := by decide)
    (hs : ∀ x, foldedSetIterable iter X.env x = pure x := by intro _; rfl) (hs1 : ∀ env x, foldedSetIterable iter1 env x = pure x := by intro _ _; rfl) :
    DE X W (.ListComp elt [⟨tg, iter, ifs, 0⟩, ⟨tg1, iter1, ifs1, 0⟩] scope pos) (dLc2R wi g tt wi1 g1 tt1 te (own.map (·.2)) vs1 R) :=
  PE.cons (pe_lc2 (g := lG X.K is g) (tt := lT X.K W0 tt) (wi1 := lI X.K W0 wi1) (g1 := lG X.K is1 g1) (tt1 := lT X.K W0 tt1) (te := lE X.K W0 te) hc hN hi hok hv2 hg ht hi1 hg1 ht1 he hs hs1) fun σ H Q => lc2_of ok hv hv1
theorem ds_setLc2 {i : Nat} {y : Str} {py : Pos} (ok : ROk R) (hc : X.calm = true) (hN : X.N.Nodup) (hy : X.N[i]? = some y) (hyl : X.env.scope.names.lookup y = some .local)
    (hsw : swapsWith (.ListComp elt [⟨tg, iter, ifs, 0⟩, ⟨tg1, iter1, ifs1, 0⟩] scope pos) (some (.Name y py)) spos.line X.env = pure true) (hi : DI X W tg iter wi) (hok : BlkOk X.N X.env.scope scope own)
    (hg : ∀ (s : Shared) (H : Hp) (C : Addr) (cl : List (Str × Addr)) (fp : List Addr), DG (X.blk s H scope (compEnvC scope cl C X.env) fp) tg is g) (ht : ∀ (s : Shared) (H : Hp) (C : Addr) (cl : List (Str × Addr)) (fp : List Addr), DTs (X.blk s H scope (compEnvC scope cl C X.env) fp) W0 ifs tt)
    (hi1 : ∀ (s : Shared) (H : Hp) (C : Addr) (cl : List (Str × Addr)) (fp : List Addr), DI (X.blk s H scope (compEnvC scope cl C X.env) fp) W0 tg1 iter1 wi1)
    (hg1 : ∀ (s : Shared) (H : Hp) (C : Addr) (cl : List (Str × Addr)) (fp : List Addr), DG (X.blk s H scope (compEnvC scope cl C X.env) fp) tg1 is1 g1) (ht1 : ∀ (s : Shared) (H : Hp) (C : Addr) (cl : List (Str × Addr)) (fp : List Addr), DTs (X.blk s H scope (compEnvC scope cl C X.env) fp) W0 ifs1 tt1)
    (he : ∀ (s : Shared) (H : Hp) (C : Addr) (cl : List (Str × Addr)) (fp : List Addr), DE (X.blk s H scope (compEnvC scope cl C X.env) fp) W0 elt te) (hv : ∀ i ∈ is, i ∈ own.map (·.2) := by decide) (hv1 : ∀ i ∈ is1, i ∈ vs1 := by decide) (hv2 : ∀ i ∈ vs1, i ∈ own.map (·.2) := by decide)
    (hs : ∀ x, foldedSetIterable iter X.env x = pure x := by intro _; rfl) (hs1 : ∀ env x, foldedSetIterable iter1 env x = pure x := by intro _ _; rfl) :
    DS X W (.Assign [.Name y py] (.ListComp elt [⟨tg, iter, ifs, 0⟩, ⟨tg1, iter1, ifs1, 0⟩] scope pos) spos) (sAsg (dLc2R wi g tt wi1 g1 tt1 te (own.map (·.2)) vs1 R) (gNm i)) :=
  PS.cons (ps_setLc2 (g := lG X.K is g) (tt := lT X.K W0 tt) (wi1 := lI X.K W0 wi1) (g1 := lG X.K is1 g1) (tt1 := lT X.K W0 tt1) (te := lE X.K W0 te) hc hN hy hyl hsw hi hok hv2 hg ht hi1 hg1 ht1 he hs hs1) fun D σ H ⟨sd, M, Dd, r, rs, q, ps, px⟩ => by
    refine lc2_of (K := X.K) (W := W) (is := is) (is1 := is1) ok hv hv1 ⟨sd, M, Dd.ex, _, r, rs, q, fun v d H1 M1 l1 r1 f1 q1 => ?_, px⟩
    exact ps.nx _ _ H1 M1 l1 r1 ((rs.mono l1).set (i := i) f1) (by rw [← setS_eq]; exact q1)
end
end DL
set_option Elab.async false
set_option linter.all false
set_option maxRecDepth 100000
set_option maxHeartbeats 4000000
namespace DL
open PySem PySem.Spec PyProof.Rows L2
/-! ### enumerate of a tuple -/
set_option maxHeartbeats 1000000 in
theorem enum_newB {v : Value} {o : Obj} {H : Heap → Prop} (B : Begins v o H) :
    Meets (Builtin.«enumerate.__new__» ⟨[.type "enumerate", v], []⟩) (fun _ R s => H s.heap ∧
      R (.ok (.ret (.ref (s.heap.push o).objs.size))) { s with heap := (s.heap.push o).push { cls := .type "enumerate", data := .fields #[.none, .bool false, .ref s.heap.objs.size, rawInt 0, .none, .none] } }) :=
  .of_wp fun prog w A R s h => by
    obtain ⟨hp, g, d, tk, os⟩ := s; obtain ⟨h1, h⟩ := h
    have hsub := sub_enumerate
    have q1 : ∀ {A' : Around} {E : Value → Shared → Prop} {Q : Value → Shared → Prop}, Q (.ref hp.objs.size) ⟨hp.push o, g, d, tk, os⟩ → wpAny (model prog w) A' (pyIter v) Q E ⟨hp, g, d, tk, os⟩ :=
      fun q => B.iter prog w _ _ ⟨hp, g, d, tk, os⟩ _ h1 q
    wp_walk using q1
    refine wpAny_stack_any fun st => wpAny_pure ?_
    split
    · rename_i c _ _ _ _ _
      cases (c == Value.type "enumerate")
      · wp_walk using q1
        exact ⟨_, rfl, h⟩
      · wp_walk using q1
        exact ⟨_, rfl, h⟩
    · wp_walk using q1
      exact ⟨_, rfl, h⟩
section
variable {prog : Program} {w : World} {A : Around} {E : Value → Shared → Prop} {s : Shared}
theorem enum_call {v : Value} {o : Obj} {H : Heap → Prop} {Q : Value → Shared → Prop} (B : Begins v o H) (h1 : H s.heap)
    (h : ∀ h', IsEnum h' (s.heap.objs.size + 1) s.heap.objs.size 0 .none → h'.get? s.heap.objs.size = some o → h'.objs.size = s.heap.objs.size + 2 →
      (∀ b o, s.heap.get? b = some o → h'.get? b = some o) → Q (.ref (s.heap.objs.size + 1)) { s with heap := h' }) :
    wpAny (model prog w) A (call (.type "enumerate") [v]) Q E s := by
  refine callType_new F.called_enumerate (by decide) (F.typeCall_enumerate_1 _) (F.newCall_enumerate_1 _) (fun obj => F.args_object_init_2 obj _) F.entry_enumerate_new
    (enum_newB B) ⟨h1, ?_⟩
  have hz : (s.heap.push o).objs.size = s.heap.objs.size + 1 := Heap.size_push ..
  show _ ∧ _
  rw [hz]
  have he : IsEnum ((s.heap.push o).push { cls := .type "enumerate", data := .fields #[.none, .bool false, .ref s.heap.objs.size, rawInt 0, .none, .none] }) (s.heap.objs.size + 1) s.heap.objs.size 0 .none := by
    have := Heap.get?_push_size (s.heap.push o) (o := { cls := .type "enumerate", data := .fields #[.none, .bool false, .ref s.heap.objs.size, rawInt 0, .none, .none] }) rfl
    rw [hz] at this; exact this
  refine ⟨⟨_, he, rfl⟩, h _ he (Heap.get?_push_of_some _ (Heap.get?_push_size _ B.free)) (by rw [Heap.size_push, hz]) fun b o x => Heap.get?_push_of_some _ (Heap.get?_push_of_some _ x)⟩
end
/-- the tuple at a, item by item, in new pairs with the turn's number -/
def IteT (K : PySem.W.Frag) (a : Addr) : It :=
  ⟨fun i H => ∃ (xs : List V) (x : V), SqT K H a xs ∧ xs[i]? = some x, fun i H v H' => ∃ T x, v = .ref T ∧ H T = none ∧ H' = upd H T (.tup [.int (i : Nat), x]) ∧ ∀ xs, SqT K H a xs → xs[i]? = some x, fun i H => ∃ xs : List V, SqT K H a xs ∧ xs.length ≤ i⟩
theorem turn_enumT {P : Program} {w : World} {K : PySem.W.Frag} {elts : List Expr} {kk : Nat} {tpos : Pos} (a e it : Addr) (hea : e ≠ a) (hia : a ≠ it) :
    Turn P w K (.Tuple elts kk tpos) (IteT K a) [e, it] e (fun i h => (∃ old, IsEnum h e it ((i : Nat) : Int) old) ∧ h.IsTupleIter it a i ∧ e ≠ it) where
  mem := by simp
  obj := fun i h st b hb => by
    obtain ⟨⟨old, he⟩, ⟨o, ho, hc, hd⟩, _⟩ := st
    have e' : b = e ∨ b = it := by simpa using hb
    rcases e' with z | z
    · rw [z]; exact ⟨_, he, fun v q => nomatch q⟩
    · rw [z]; exact ⟨o, ho, fun v q => by rw [hd] at q; cases q⟩
  keep := fun i h h' st k => let ⟨⟨old, he⟩, hi, hne⟩ := st; ⟨⟨old, k e (by simp) _ he⟩, hi.at fun o q => k it (by simp) o q, hne⟩
  item := by
    intro X hP hw hK hc i pins s σ H E I hf st hg
    subst hP hw hK
    obtain ⟨⟨old, he⟩, hit, hne⟩ := st
    obtain ⟨xs, x, hq, hx⟩ := hg
    obtain ⟨its, rv, p, hz⟩ := I.tuple hq
    obtain ⟨u, hu, ru⟩ := rv.get hx
    have hel : e < s.heap.objs.size := Heap.lt_size he
    have hil : it < s.heap.objs.size := by obtain ⟨_, q, _⟩ := hit; exact Heap.lt_size q
    have hlt : i < its.toArray.size := by
      have := (List.getElem?_eq_some_iff.mp hu).1
      simpa using this
    have D := Draws.tuple (prog := X.prog) (w := X.w) (A := X.A.in1) (I.ok.hd hc) it a hia its.toArray
    refine wpAny_pyNext_enum_itemD D he ⟨hit, p⟩ hlt hne (by simp only [List.mem_cons, List.mem_singleton, List.not_mem_nil, or_false, not_or]; exact ⟨hne, hea⟩) fun y h' tk hy ho hit' hT hsz hk => ?_
    have ey : y = u := by
      have hy' : its.toArray[i]? = some y := hy
      rw [List.getElem?_toArray, hu] at hy'
      exact (Option.some.inj hy').symm
    subst ey
    refine ⟨_, rfl, wpAny_letOwnedTupleGo_enum (s := { s with heap := h', toks := tk + 1 }) ho fun h'' he' sb => ?_⟩
    have hT2 : h''.get? s.heap.objs.size = some { cls := .type "tuple", data := .seq #[.int i tk, y] } := (sb.2 _ (Nat.ne_of_gt hel)).trans hT
    have new : ObjOk X.prog X.w (upd H s.heap.objs.size (.tup [.int (i : Nat), x])) h'' s.heap.objs.size (.tup [.int (i : Nat), x]) :=
      ⟨by show 2 ≤ sizeLine; decide, [.int i tk, y], .cons ⟨_, rfl⟩ (.cons ru .nil), ⟨_, hT2, rfl, _, rfl⟩⟩
    have I1 : Inv X pins σ (upd H s.heap.objs.size (.tup [.int (i : Nat), x])) { s with heap := h'', toks := tk + 1 } :=
      I.turnedNew (ch := [e, it]) (fun b ob hb q => (sb.2 b (fun z => hb (by simp [z]))).trans (hk b ob (fun z => hb (by simp [z])) (fun z => hb (by simp [z])) q)) hf (Nat.le_refl _) new
    refine ⟨.ref s.heap.objs.size, _, I1, rfl, ⟨_, x, rfl, I.hok.fresh (Nat.le_refl _), rfl, fun ys hy => by rw [I.tuple_inj hy hq]; exact hx⟩, ⟨⟨y, ?_⟩, hit'.1.at fun o q => (sb.2 it (Ne.symm hne)).trans q, hne⟩, fun b hb => ?_⟩
    · have e1 : ((i + 1 : Nat) : Int) = (i : Int) + 1 := by omega
      rw [e1]; exact he'
    · have hb' : b < s.heap.objs.size := by
        have e' : b = e ∨ b = it := by simpa using hb
        rcases e' with z | z
        · rw [z]; exact hel
        · rw [z]; exact hil
      rw [upd_ne (Nat.ne_of_lt hb')]
      exact (hf b hb).1
  done := by
    intro X hP hw hK hc i pins s σ H E I hf st hg
    subst hP hw hK
    obtain ⟨⟨old, he⟩, hit, hne⟩ := st
    obtain ⟨xs, hq, hx⟩ := hg
    obtain ⟨its, rv, p, hz⟩ := I.tuple hq
    obtain ⟨f0, f1, f2, f3, f4, f5⟩ := hf it (by simp)
    have hl := rv.length
    have D : Draws X.prog X.w X.A.in1 it [it, a] 0 (fun _ _ => True) (fun _ h => h.IsTupleIter it a i ∧ h.IsTuple a its.toArray) :=
      { live := fun _ _ st => let ⟨o, ho, _⟩ := st.1; ⟨o, ho⟩
        frame := fun _ _ _ st hk => ⟨st.1.at fun o e => hk it (by simp) o e, st.2.at fun o e => hk a (by simp) o e⟩
        item := fun j s Q E hj st hQ => absurd hj (Nat.not_lt_zero _)
        done := fun s Q E st hE => wpAny_nextOf_tuple_end (I.ok.hd hc) st.1 st.2 (by simp; omega) hE }
    exact wpAny_pyNext_enum_endD D he ⟨hit, p⟩ fun h' eb => ⟨rfl, I.turned (t' := s.toks) (fun b o hb q => eb b o hb q) f0 f1 f3 f4 f5⟩
  self := fun A i s Q E st h => let ⟨⟨_, he⟩, _⟩ := st; wpAny_pyIter_enum he h
/-- enumerate of a list or a tuple -/
def iEnumA (K : PySem.W.Frag) (ta : TA) : TI := fun σ H R => ta σ H fun vs H1 => ∃ a, vs = [.ref a] ∧ (((∃ xs, SqL K H1 a xs) ∧ R (Ite K a) H1) ∨ ((∃ xs, SqT K H1 a xs) ∧ R (IteT K a) H1))
theorem pi_enumA {X : Cx} {e : Expr} {ta : TA} {p pos tpos : Pos} {elts : List Expr} {kk : Nat} (hg : Gl X "enumerate") (hm : X.mg "enumerate" = none) (ha : PA X [e] ta) (hs : starEach [e] X.env = [(false, eval e X.env)] := by rfl) :
    PI X (.Tuple elts kk tpos) (.Call (.Name "enumerate" p) [e] [] pos) (iEnumA X.K ta) := by
  refine ⟨fun pins s σ H R I h => ?_⟩
  refine Call_ (ld_blt I hg hm boot_enumerate (PyProof.Rows.callWith_type1 (thn (ha.run pos pins s σ H _ I h) fun us s1 ⟨vs, H1, I1, r1, q1⟩ => ?_) hs rfl))
  obtain ⟨a, ex, q1⟩ := q1
  subst ex
  cases r1 with
  | cons r rr =>
    cases rr
    cases r
    rcases q1 with ⟨⟨xs, hq⟩, q⟩ | ⟨⟨xs, hq⟩, q⟩
    · obtain ⟨its, rv, p', hz⟩ := I1.list hq
      refine call_enumerate_list p'.isList fun h' he hit hsz hk => wpAny_pyIter_enum he ?_
      have I2 : Inv X pins σ H1 { s1 with heap := h' } := I1.kept (t' := s1.toks) hk
      refine ⟨s1.heap.objs.size + 1, [s1.heap.objs.size + 1, s1.heap.objs.size], _, _, H1, rfl, I2, turn_enum a (s1.heap.objs.size + 1) s1.heap.objs.size, ⟨⟨.none, he⟩, hit, Nat.succ_ne_self _⟩, fun b hb => ?_, q⟩
      have e' : b = s1.heap.objs.size + 1 ∨ b = s1.heap.objs.size := by simpa using hb
      have hle : s1.heap.objs.size ≤ b := by
        rcases e' with z | z
        · rw [z]; exact Nat.le_add_right _ _
        · rw [z]; exact Nat.le_refl _
      exact I1.fpOk hle (I1.hok.fresh hle)
    · obtain ⟨its, rv, p', hz⟩ := I1.tuple hq
      have hal : a < s1.heap.objs.size := p'.lt
      refine enum_call (begins_tuple a its.toArray) p' fun h' he hit hsz hk => wpAny_pyIter_enum he ?_
      have I2 : Inv X pins σ H1 { s1 with heap := h' } := I1.kept (t' := s1.toks) hk
      refine ⟨s1.heap.objs.size + 1, [s1.heap.objs.size + 1, s1.heap.objs.size], _, _, H1, rfl, I2, turn_enumT a (s1.heap.objs.size + 1) s1.heap.objs.size (Nat.ne_of_gt (Nat.lt_succ_of_lt hal)) (Nat.ne_of_lt hal), ⟨⟨.none, he⟩, ⟨_, hit, rfl, rfl⟩, Nat.succ_ne_self _⟩, fun b hb => ?_, q⟩
      have e' : b = s1.heap.objs.size + 1 ∨ b = s1.heap.objs.size := by simpa using hb
      have hle : s1.heap.objs.size ≤ b := by
        rcases e' with z | z
        · rw [z]; exact Nat.le_add_right _ _
        · rw [z]; exact Nat.le_refl _
      exact I1.fpOk hle (I1.hok.fresh hle)
def enumL (ds : List DV) : List DV := ds.zipIdx.map fun p => .tupW [.int (p.2 : Nat), p.1]
def iEnumD (ta : TAD) : TID := fun sd M E R => ta sd M E fun es M1 => match es with
  | [d] => atSeq (seqD M1 d) fun ds => R (enumL ds) (fun M2 => seqD M2 d = some ds) M1
  | _ => False
theorem enumL_get {ds : List DV} {i : Nat} {d : DV} (h : (enumL ds)[i]? = some d) : ∃ x, ds[i]? = some x ∧ d = .tupW [.int (i : Nat), x] := by
  unfold enumL at h
  rw [List.getElem?_map, List.getElem?_zipIdx] at h
  cases e : ds[i]? with
  | none => rw [e] at h; cases h
  | some x =>
    rw [e] at h
    refine ⟨x, rfl, ?_⟩
    have := (Option.some.inj h).symm
    simpa using this
theorem enumL_length (ds : List DV) : (enumL ds).length = ds.length := by unfold enumL; rw [List.length_map, List.length_zipIdx]
theorem itok_enumL {K : PySem.W.Frag} {a : Addr} {d : DV} {ds : List DV} {H1 : Hp} {M1 : DM} (f : Fz K H1 M1 (.ref a) d) (ht : isT d = false) : ItOk K (Ite K a) (enumL ds) (fun M2 => seqD M2 d = some ds) H1 M1 := fun i H M l r e => by
  obtain ⟨a', vs, ea, s, z⟩ := seqD_sp r (f.mono l) e
  cases ea
  rw [ht] at s
  have s' : SqL K H a vs := by
    rcases s with s | s
    · exact s.2
    · cases s.1
  refine ⟨fun x hx => ?_, fun hi => ⟨vs, s', by rw [z.length, ← enumL_length]; exact hi⟩⟩
  obtain ⟨y, hy, rfl⟩ := enumL_get hx
  obtain ⟨v, hv, fv⟩ := z.get' hy
  exact ⟨⟨vs, v, s', hv⟩, fun u H' ⟨T, w, e1, nT, e2, q⟩ => by
    subst e1 e2
    have ew := q vs s'
    rw [hv] at ew
    cases ew
    exact new_tupW r (.cons (.int _) (.cons fv .nil)) nT⟩
theorem itok_enumT {K : PySem.W.Frag} {a : Addr} {d : DV} {ds : List DV} {H1 : Hp} {M1 : DM} (f : Fz K H1 M1 (.ref a) d) (ht : isT d = true) : ItOk K (IteT K a) (enumL ds) (fun M2 => seqD M2 d = some ds) H1 M1 := fun i H M l r e => by
  obtain ⟨a', vs, ea, s, z⟩ := seqD_sp r (f.mono l) e
  cases ea
  rw [ht] at s
  have s' : SqT K H a vs := by
    rcases s with s | s
    · cases s.1
    · exact s.2
  refine ⟨fun x hx => ?_, fun hi => ⟨vs, s', by rw [z.length, ← enumL_length]; exact hi⟩⟩
  obtain ⟨y, hy, rfl⟩ := enumL_get hx
  obtain ⟨v, hv, fv⟩ := z.get' hy
  exact ⟨⟨vs, v, s', hv⟩, fun u H' ⟨T, w, e1, nT, e2, q⟩ => by
    subst e1 e2
    have ew := q vs s'
    rw [hv] at ew
    cases ew
    exact new_tupW r (.cons (.int _) (.cons fv .nil)) nT⟩
theorem di_enum {X : Cx} {W : WX} {e : Expr} {ta : TAD} {p pos tpos : Pos} {elts : List Expr} {kk : Nat} (hg : Gl X "enumerate") (hm : X.mg "enumerate" = none) (ha : DA X W [e] ta) (hs : starEach [e] X.env = [(false, eval e X.env)] := by rfl) :
    DI X W (.Tuple elts kk tpos) (.Call (.Name "enumerate" p) [e] [] pos) (iEnumD ta) := PI.cons (pi_enumA hg hm ha hs) fun σ H R ⟨sd, M, E, Rd, r, rs, q, px, k⟩ =>
  subA r rs px q fun vs es H1 M1 l1 r1 rs1 px1 f1 q1 => by
    split at q1
    · obtain ⟨v, rfl, f⟩ := f1.one
      obtain ⟨ds, e, q2⟩ := atSeq_of q1
      obtain ⟨a, vs, rfl, s, z⟩ := seqD_sp r1 f e
      refine ⟨a, rfl, ?_⟩
      rcases s with s | s
      · exact .inl ⟨⟨vs, s.2⟩, k _ H1 M1 _ _ l1 r1 (itok_enumL f s.1) q2⟩
      · exact .inr ⟨⟨vs, s.2⟩, k _ H1 M1 _ _ l1 r1 (itok_enumT f s.1) q2⟩
    · exact q1.elim
end DL
set_option Elab.async false
set_option linter.all false
set_option maxRecDepth 100000
set_option maxHeartbeats 4000000
namespace DL
open PySem PySem.Spec PyProof.Rows L2
section
variable {X : Cx} {W : WX} {x z : Str} {p : Pos} {t : Tok} {i : Int} {a : Addr} {vs : List V} {ds : List DV}
theorem de_gstr (hg : Gl X x) (hm : X.mg x = some (.str z t)) (hd : (x == ("__debug__" : Str)) = false := by decide) : DE X W (.Name x p) (dC (.str z)) := de_glob (v := .str z) hg hm ⟨t, rfl⟩ (fun _ _ => .str _) hd
theorem de_gint (hg : Gl X x) (hm : X.mg x = some (.int i t)) (hd : (x == ("__debug__" : Str)) = false := by decide) : DE X W (.Name x p) (dC (.int i)) := de_glob (v := .int i) hg hm ⟨t, rfl⟩ (fun _ _ => .int _) hd
/-- a tuple of the written part -/
structure KT (K : PySem.W.Frag) (a : Addr) (d : DV) : Prop where
  fz : ∀ H M, Fz K H M (.ref a) d
theorem de_gtup {d : DV} (hg : Gl X x) (hm : X.mg x = some (.ref a)) (hk : KT X.K a d) (hd : (x == ("__debug__" : Str)) = false := by decide) : DE X W (.Name x p) (dC d) := de_glob (v := .ref a) hg hm rfl hk.fz hd
end
theorem hu64 {k : Nat} {A : Around} (hr : Room k A) : A.units + 64 < cLine := hr.units
theorem hu65 {k : Nat} {A : Around} (hr : Room (k + 1) A) : A.units + 65 < cLine := by
  have := hr.un
  omega
end DL
set_option Elab.async false
set_option linter.all false
set_option maxRecDepth 100000
set_option maxHeartbeats 4000000
namespace DL
open PySem PySem.Spec PyProof.Rows L2
theorem eqD_int (i j : Int) : eqD (.int i) (.int j) = decide (i = j) := by
  unfold eqD toPy PyData.eqv
  by_cases h : i = j
  · subst h; simp
  · simp [h]
theorem eqD_str (x y : Str) : eqD (.str x) (.str y) = decide (x = y) := by
  unfold eqD toPy PyData.eqv
  by_cases h : x = y
  · subst h; simp
  · simp [h]
theorem eqD_bl (a b : Bool) : eqD (.bl a) (.bl b) = decide (a = b) := by
  unfold eqD toPy PyData.eqv
  cases a <;> cases b <;> rfl
theorem eqR_int (neg : Bool) (i j : Int) (M : DM) (Q : DVK) : eqR neg (.int i) (.int j) M Q = Q (.bl (if neg then !decide (i = j) else decide (i = j))) M := by
  unfold eqR
  rw [eqD_int]
  exact propext ⟨fun h => h.2, fun h => ⟨.inl rfl, h⟩⟩
theorem eqR_str (neg : Bool) (x y : Str) (M : DM) (Q : DVK) : eqR neg (.str x) (.str y) M Q = Q (.bl (if neg then !decide (x = y) else decide (x = y))) M := by
  unfold eqR
  rw [eqD_str]
  exact propext ⟨fun h => h.2, fun h => ⟨.inl rfl, h⟩⟩
theorem eqR_bl (neg : Bool) (x y : Bool) (M : DM) (Q : DVK) : eqR neg (.bl x) (.bl y) M Q = Q (.bl (if neg then !decide (x = y) else decide (x = y))) M := by
  unfold eqR
  rw [eqD_bl]
  exact propext ⟨fun h => h.2, fun h => ⟨.inl rfl, h⟩⟩
/-! ### comprehensions whose steps change no cell -/
theorem lc_pure {g : TGD} {tt : TTD} {te : TED} {sdw : DSt} {chk : DM → Prop} {p : Addr} {Q : DVK} {M : DM} (f : DV → Option DV) (hp : M p = none) (hc : ∀ acc, chk (put M p (.lst acc))) :
    ∀ (items acc : List DV), (∀ x ∈ items, ∀ (acc : List DV) (Ky : DVK) (Kn : DM → Prop), (∀ y, f x = some y → Ky y (put M p (.lst acc))) → (f x = none → Kn (put M p (.lst acc))) → lcStep g tt te sdw x (put M p (.lst acc)) Ky Kn) →
    acc.length + items.length ≤ sizeLine → Q (.lst (acc ++ items.filterMap f)) M → lcGo g tt te sdw chk p (rFz p Q) items (put M p (.lst acc))
  | [], acc, _, _, q => by
    refine ⟨hc acc, ?_⟩
    unfold rFz
    rw [seqD_ref put_same]
    show Q (.lst acc) (drop (put M p (.lst acc)) p)
    rw [drop_put hp]
    simpa using q
  | x :: xs, acc, hs, hl, q => by
    refine ⟨hc acc, hs x (List.mem_cons_self ..) acc _ _ (fun y hy => ?_) (fun hy => ?_)⟩
    · rw [seqD_ref put_same]
      refine ⟨by rw [List.length_cons] at hl; omega, ?_⟩
      rw [put_put]
      refine lc_pure f hp hc xs (acc ++ [y]) (fun z hz => hs z (List.mem_cons_of_mem _ hz)) (by rw [List.length_append]; simp only [List.length_cons, List.length_nil] at hl ⊢; omega) ?_
      rw [List.filterMap_cons_some hy] at q
      simpa using q
    · refine lc_pure f hp hc xs acc (fun z hz => hs z (List.mem_cons_of_mem _ hz)) (by rw [List.length_cons] at hl; omega) ?_
      rw [List.filterMap_cons_none hy] at q
      exact q
/-- every step gives an item -/
theorem lc_map {g : TGD} {tt : TTD} {te : TED} {sdw : DSt} {chk : DM → Prop} {p : Addr} {Q : DVK} {M : DM} {items : List DV} (f : DV → DV) (hp : M p = none) (hc : ∀ acc, chk (put M p (.lst acc)))
    (hs : ∀ x ∈ items, ∀ (acc : List DV) (Ky : DVK) (Kn : DM → Prop), Ky (f x) (put M p (.lst acc)) → lcStep g tt te sdw x (put M p (.lst acc)) Ky Kn)
    (hl : items.length ≤ sizeLine) (q : Q (.lst (items.map f)) M) : lcGo g tt te sdw chk p (rFz p Q) items (put M p (.lst [])) := by
  refine lc_pure (fun x => some (f x)) hp hc items [] (fun x hx acc Ky Kn h1 h2 => hs x hx acc Ky Kn (h1 _ rfl)) (by simpa using hl) ?_
  rw [List.filterMap_eq_map']
  exact q
theorem lc_filter {g : TGD} {tt : TTD} {te : TED} {sdw : DSt} {chk : DM → Prop} {p : Addr} {Q : DVK} {M : DM} {items : List DV} (f : DV → Bool) (hp : M p = none) (hc : ∀ acc, chk (put M p (.lst acc)))
    (hs : ∀ x ∈ items, ∀ (acc : List DV) (Ky : DVK) (Kn : DM → Prop), (f x = true → Ky x (put M p (.lst acc))) → (f x = false → Kn (put M p (.lst acc))) → lcStep g tt te sdw x (put M p (.lst acc)) Ky Kn)
    (hl : items.length ≤ sizeLine) (q : Q (.lst (items.filter f)) M) : lcGo g tt te sdw chk p (rFz p Q) items (put M p (.lst [])) := by
  refine lc_pure (fun x => if f x = true then some x else none) hp hc items [] (fun x hx acc Ky Kn h1 h2 => hs x hx acc Ky Kn (fun h => h1 x (if_pos h)) (fun h => h2 (if_neg (by rw [h]; decide)))) (by simpa using hl) ?_
  have : items.filterMap (fun x => if f x = true then some x else none) = items.filter f := by
    rw [← List.filterMap_eq_filter]
    rfl
  rw [this]
  exact q
/-- two clauses: the inner items are told by the outer ones -/
theorem lc2_pure {g g1 : TGD} {tt tt1 : TTD} {wi1 : TID} {te : TED} {sdw : DSt} {vs1 : List Nat} {chk : DM → Prop} {p : Addr} {Q : DVK} {M : DM} (f : DV → List DV) (hp : M p = none) (hc : ∀ acc, chk (put M p (.lst acc))) :
    ∀ (items acc : List DV), (∀ x ∈ items, ∀ (acc : List DV) (Nx : DM → Prop), acc.length + (f x).length ≤ sizeLine → Nx (put M p (.lst (acc ++ f x))) →
      g x sdw (put M p (.lst acc)) fun sd2 M2 => tt sd2 M2 noE fun b M3 => if b = true then wi1 sd2 M3 noE fun items1 chk1 M4 => lcGo g1 tt1 te (wipeD sd2 vs1) chk1 p Nx items1 M4 else Nx M3) →
    acc.length + (items.map fun x => (f x).length).sum ≤ sizeLine → Q (.lst (acc ++ items.flatMap f)) M → lc2Go g tt wi1 g1 tt1 te sdw vs1 chk p (rFz p Q) items (put M p (.lst acc))
  | [], acc, _, _, q => by
    refine ⟨hc acc, ?_⟩
    unfold rFz
    rw [seqD_ref put_same]
    show Q (.lst acc) (drop (put M p (.lst acc)) p)
    rw [drop_put hp]
    simpa using q
  | x :: xs, acc, hs, hl, q => by
    rw [List.map_cons, List.sum_cons] at hl
    have h1 := hs x (List.mem_cons_self ..) acc (lc2Go g tt wi1 g1 tt1 te sdw vs1 chk p (rFz p Q) xs) (by omega)
      (lc2_pure f hp hc xs (acc ++ f x) (fun z hz => hs z (List.mem_cons_of_mem _ hz)) (by rw [List.length_append]; omega) (by simpa using q))
    exact ⟨hc acc, h1⟩
/-- the inner loop of two clauses, each step an item -/
theorem lcIn_map {g : TGD} {tt : TTD} {te : TED} {sdw : DSt} {chk : DM → Prop} {p : Addr} {Nx : DM → Prop} {M : DM} (f : DV → DV) (hc : ∀ acc, chk (put M p (.lst acc))) :
    ∀ (items acc : List DV), (∀ x ∈ items, ∀ (acc : List DV) (Ky : DVK) (Kn : DM → Prop), Ky (f x) (put M p (.lst acc)) → lcStep g tt te sdw x (put M p (.lst acc)) Ky Kn) →
    acc.length + items.length ≤ sizeLine → Nx (put M p (.lst (acc ++ items.map f))) → lcGo g tt te sdw chk p Nx items (put M p (.lst acc))
  | [], acc, _, _, q => ⟨hc acc, by simpa using q⟩
  | x :: xs, acc, hs, hl, q => by
    refine ⟨hc acc, hs x (List.mem_cons_self ..) acc _ _ ?_⟩
    rw [seqD_ref put_same]
    refine ⟨by rw [List.length_cons] at hl; omega, ?_⟩
    rw [put_put]
    exact lcIn_map f hc xs (acc ++ [f x]) (fun z hz => hs z (List.mem_cons_of_mem _ hz)) (by rw [List.length_append]; simp only [List.length_cons, List.length_nil] at hl ⊢; omega) (by simpa using q)
/-! ### texts by their signs -/
theorem sLen (x : Str) : x.length = x.cps.toList.length := by
  show x.cps.size = _
  simp
theorem cut_1_cps (x : Str) : (cutS x none (some 1)).cps.toList = x.cps.toList.take 1 := by
  unfold cutS
  simp only [HT.sIx_none]
  rw [show HT.sIx x.length x.length (some 1) = min 1 x.length from HT.sIx_nat _ _ 1]
  show (List.take (min 1 x.length - 0) (List.drop 0 x.cps.toList)) = _
  rw [List.drop_zero, Nat.sub_zero, sLen]
  cases x.cps.toList with
  | nil => rfl
  | cons a r => rw [show min 1 (a :: r).length = 1 by simp]
theorem cut1_cps (x : Str) : (cutS x (some 1) none).cps.toList = x.cps.toList.drop 1 := by
  unfold cutS
  simp only [HT.sIx_none]
  rw [show HT.sIx x.length 0 (some 1) = min 1 x.length from HT.sIx_nat _ _ 1]
  show (List.take (x.length - min 1 x.length) (List.drop (min 1 x.length) x.cps.toList)) = _
  rw [sLen]
  cases x.cps.toList with
  | nil => rfl
  | cons a r =>
    rw [show min 1 (a :: r).length = 1 by simp]
    rw [List.drop_succ_cons, List.drop_zero, List.length_cons, Nat.add_sub_cancel]
    exact List.take_length
theorem app_cps (x y : Str) : (x ++ y).cps.toList = x.cps.toList ++ y.cps.toList := by
  show (x.cps ++ y.cps).toList = _
  simp
theorem app_len (x y : Str) : (x ++ y).length = x.length + y.length := by
  rw [sLen, app_cps, List.length_append, ← sLen, ← sLen]
end DL
set_option Elab.async false
set_option linter.all false
set_option maxRecDepth 100000
set_option maxHeartbeats 4000000
/-! DL: sets of nested tuples, of texts; what is known of them (the table's own laws are HandS.TupSets's). -/
namespace DL
open PySem PySem.Spec PyProof.Rows L2
/-- the tuple at b is the key k -/
def IsN (h : Heap) (k : NestedKey) (b : Addr) : Prop := NestedIs h k (.ref b) ∧ k.depth ≤ 8
def rowsN (w : World) (L : List (Addr × NestedKey)) : List (Int × Value) := L.map fun p => (p.2.hash w, Value.ref p.1)
def hashN (w : World) (L : List (Addr × NestedKey)) : List Int := L.map fun p => p.2.hash w
section
variable {P : Program} {w : World} {A : Around} {E : Value → Shared → Prop} {s : Shared}
/-! ### small questions -/
mutual
theorem ofAClass_key : ∀ (k : NestedKey) (v : Value) (n : Nat) (s : Shared) (Q : Bool → Shared → Prop), NestedIs s.heap k v → k.depth ≤ n → Q false s → wpAny (model P w) A (ofAClassStatement n v) Q E s
  | .none, _, n, s, Q, x, _, q => by cases x; cases n <;> exact wpAny_pure q
  | .num i, _, n, s, Q, x, _, q => by cases x <;> (cases n <;> exact wpAny_pure q)
  | .text y, _, n, s, Q, x, _, q => by cases x; cases n <;> exact wpAny_pure q
  | .tup ks, _, n, s, Q, x, hn, q => by
    cases x with
    | @tup a o vs m _ hg hc hd hk =>
      simp only [NestedKey.depth] at hn
      cases n with
      | zero => omega
      | succ n =>
        unfold ofAClassStatement
        refine wpAny_bind (wpAny_typeOf (T := "tuple") ⟨o, hg, hc⟩ ?_)
        dsimp only
        have e : (("tuple" : String) == "tuple") = true := by decide
        simp only [e, if_true, Bool.not_true, Bool.false_eq_true, if_false]
        try refine wpAny_bind (wpAny_pure ?_)
        try simp only [Bool.not_true, Bool.false_eq_true, if_false]
        show wpAny _ _ (seqItems? (.ref a) >>= _) _ _ s
        refine wpAny_bind (wpAny_seqItems hg hd ?_)
        dsimp only
        refine wpAny_bind ?_
        show wpAny _ _ (forIn vs _ _) _ _ s
        rw [← Array.forIn_toList]
        have all := ofAClass_keys ks vs.toList n s hk (by omega)
        refine wpAny_forIn_list _ (fun rest r s' => r.1 = none ∧ s' = s ∧ ∀ v ∈ rest, ∀ (Q : Bool → Shared → Prop), Q false s → wpAny (model P w) A (ofAClassStatement n v) Q E s) _ ?_ ?_ _ _ ⟨rfl, rfl, all⟩
        · rintro v rest r s' ⟨hr, rfl, hall⟩
          refine wpAny_bind (hall v List.mem_cons_self _ ?_)
          simp only [Bool.false_eq_true, if_false]
          exact wpAny_pure ⟨rfl, rfl, fun u hu' => hall u (List.mem_cons_of_mem _ hu')⟩
        · rintro ⟨r1, r2⟩ s' ⟨hr, rfl, _⟩
          simp only at hr
          subst hr
          exact wpAny_pure q
theorem ofAClass_keys : ∀ (ks : List NestedKey) (vs : List Value) (n : Nat) (s : Shared), NestedAll s.heap ks vs → NestedKey.depthAll ks ≤ n → ∀ v ∈ vs, ∀ (Q : Bool → Shared → Prop), Q false s → wpAny (model P w) A (ofAClassStatement n v) Q E s
  | [], _, n, s, x, _, v, hv, Q, q => by cases x; cases hv
  | k :: ks, _, n, s, x, hn, v, hv, Q, q => by
    cases x with
    | cons x1 x2 =>
      simp only [NestedKey.depthAll] at hn
      rcases List.mem_cons.mp hv with e | hv
      · rw [e]; exact ofAClass_key k _ n s Q x1 (by omega) q
      · exact ofAClass_keys ks _ n s x2 (by omega) v hv Q q
end
mutual
theorem hashBy_key : ∀ (k : NestedKey) (v : Value) (n : Nat) (s : Shared) (Q : Bool → Shared → Prop), NestedIs s.heap k v → k.depth ≤ n → (∀ b, Q b s) → wpAny (model P w) A (hashByValue n v) Q E s
  | .none, _, n, s, Q, x, _, q => by cases x; cases n <;> exact wpAny_pure (q _)
  | .num i, _, n, s, Q, x, _, q => by cases x <;> (cases n <;> exact wpAny_pure (q _))
  | .text y, _, n, s, Q, x, _, q => by cases x; cases n <;> exact wpAny_pure (q _)
  | .tup ks, _, n, s, Q, x, hn, q => by
    cases x with
    | @tup a o vs m _ hg hc hd hk =>
      simp only [NestedKey.depth] at hn
      cases n with
      | zero => omega
      | succ n =>
        unfold hashByValue
        refine wpAny_bind (wpAny_specialOf (T := "tuple") ⟨o, hg, hc⟩ F.slot_tuple_hash.lookup ?_)
        show wpAny _ _ (seqItems? (.ref a) >>= _) _ _ s
        refine wpAny_bind (wpAny_seqItems hg hd ?_)
        refine wpAny_bind ?_
        show wpAny _ _ (forIn vs _ _) _ _ s
        rw [← Array.forIn_toList]
        have all := hashBy_keys ks vs.toList n s hk (by omega)
        refine wpAny_forIn_list _ (fun rest r s' => r.1 = none ∧ s' = s ∧ ∀ v ∈ rest, ∀ (Q : Bool → Shared → Prop), (∀ b, Q b s) → wpAny (model P w) A (hashByValue n v) Q E s) _ ?_ ?_ _ _ ⟨rfl, rfl, all⟩
        · rintro v rest r s' ⟨hr, rfl, hall⟩
          refine wpAny_bind (hall v List.mem_cons_self _ fun b => ?_)
          cases b with
          | true =>
            simp only [Bool.not_true, Bool.false_eq_true, if_false]
            exact wpAny_pure ⟨rfl, rfl, fun u hu' => hall u (List.mem_cons_of_mem _ hu')⟩
          | false =>
            simp only [Bool.not_false, if_true]
            exact wpAny_pure (wpAny_pure (q _))
        · rintro ⟨r1, r2⟩ s' ⟨hr, rfl, _⟩
          simp only at hr
          subst hr
          exact wpAny_pure (q _)
theorem hashBy_keys : ∀ (ks : List NestedKey) (vs : List Value) (n : Nat) (s : Shared), NestedAll s.heap ks vs → NestedKey.depthAll ks ≤ n → ∀ v ∈ vs, ∀ (Q : Bool → Shared → Prop), (∀ b, Q b s) → wpAny (model P w) A (hashByValue n v) Q E s
  | [], _, n, s, x, _, v, hv, Q, q => by cases x; cases hv
  | k :: ks, _, n, s, x, hn, v, hv, Q, q => by
    cases x with
    | cons x1 x2 =>
      simp only [NestedKey.depthAll] at hn
      rcases List.mem_cons.mp hv with e | hv
      · rw [e]; exact hashBy_key k _ n s Q x1 (by omega) q
      · exact hashBy_keys ks _ n s x2 (by omega) v hv Q q
end
/-- a search among such tuples shows nothing -/
theorem seen_key {k : NestedKey} {b : Addr} {Q : Bool → Shared → Prop} (hk : IsN s.heap k b) {ys : List Value} (hy : ∀ y ∈ ys, ∃ k' c, y = Value.ref c ∧ IsN s.heap k' c) (h : Q false s) :
    wpAny (model P w) A (searchCouldBeSeen (.ref b) ys) Q E s := by
  unfold searchCouldBeSeen
  refine wpAny_bind ?_
  refine wpAny_forIn_list _ (fun rest r s' => r.1 = none ∧ s' = s ∧ ∀ y ∈ rest, ∃ k' c, y = Value.ref c ∧ IsN s.heap k' c) _ ?_ ?_ _ _ ⟨rfl, rfl, hy⟩
  · rintro v rest r s' ⟨hr, rfl, hall⟩
    obtain ⟨k', c, rfl, hc⟩ := hall v List.mem_cons_self
    have rest' : ∀ y ∈ rest, ∃ k' c, y = Value.ref c ∧ IsN s'.heap k' c := fun u hu' => hall u (List.mem_cons_of_mem _ hu')
    dsimp only
    by_cases hv : (b == c || (carriedByValue (.ref b) && carriedByValue (.ref c))) = true
    · refine wp_if_pos hv ?_
      exact wpAny_pure ⟨rfl, rfl, rest'⟩
    · refine wp_if_neg hv ?_
      refine wpAny_bind (quiet_key k _ 8 s' hk.1 hk.2 _ _ _ ?_)
      simp only [Bool.not_true, Bool.false_eq_true, if_false]
      refine wpAny_bind (quiet_key k' _ 8 s' hc.1 hc.2 _ _ _ ?_)
      simp only [Bool.not_true, Bool.false_eq_true, if_false]
      refine wpAny_bind (ofAClass_key k _ 8 s' _ hk.1 hk.2 ?_)
      simp only [Bool.false_eq_true, if_false]
      refine wpAny_bind (ofAClass_key k' _ 8 s' _ hc.1 hc.2 ?_)
      simp only [Bool.false_eq_true, if_false]
      exact wpAny_pure ⟨rfl, rfl, rest'⟩
  · rintro ⟨r1, r2⟩ s' ⟨hr, rfl, _⟩
    simp only at hr
    subst hr
    exact wpAny_pure h
/-! ### the set of tuples -/
structure NS (P : Program) (w : World) (h : Heap) (a : Addr) (L : List (Addr × NestedKey)) (es : Array (Int × Value)) (ep : Nat) (t : SetTable) : Prop where
  ob : ∃ o, h.get? a = some o ∧ o.ExactSet ∧ o.data = .set es ep t
  rows : es.toList = rowsN w L
  tab : TabOk t (hashN w L)
  nd : (L.map (·.2)).Nodup
  tup : ∀ p ∈ L, IsN h p.2 p.1
  led : w.params.followText "set-order" = true ∨ t.led = true
  room : L.length * 5 < t.mask * 3
  few : L.length < 64
variable {a : Addr} {L : List (Addr × NestedKey)} {es : Array (Int × Value)} {ep : Nat} {t : SetTable}
theorem rowsN_len {es : Array (Int × Value)} (h : es.toList = rowsN w L) : es.size = L.length := by
  have h := congrArg List.length h
  unfold rowsN at h
  rw [Array.length_toList, List.length_map] at h
  exact h
theorem NS.fits (R : NS P w s.heap a L es ep t) : t.fits es.size = true := by
  have h1 := R.tab.sz
  unfold hashN at h1
  rw [List.length_map] at h1
  have h2 := rowsN_len R.rows
  have h3 := R.room
  unfold SetTable.fits SetTable.fill
  rw [R.tab.dm, Bool.and_eq_true, beq_iff_eq, decide_eq_true_eq]
  show t.place.size = es.size ∧ t.place.size + 0 ≤ t.mask
  omega
theorem NS.entry (R : NS P w s.heap a L es ep t) {i : Nat} {p : Addr × NestedKey} (h : L[i]? = some p) : es[i]? = some (p.2.hash w, Value.ref p.1) := by
  rw [← Array.getElem?_toList, R.rows]
  unfold rowsN
  rw [List.getElem?_map, h] <;> rfl
theorem NS.gw (R : NS P w s.heap a L es ep t) : ¬ t.gaveWay = true := by
  unfold SetTable.gaveWay
  rw [mask_odd R.tab.mok]
  decide
/-- the search, from the c-th step of the way on -/
theorem nsearch_from (R : NS P w s.heap a L es ep t) {x : Addr} {k : NestedKey} (hx : IsN s.heap k x) (hu : A.units + 8 < cLine) {K : Nat} (hKf : K < 10 * SetTable.turns t.mask)
    (hK : way t.mask (k.hash w) K ∉ t.place.toList) (hKb : ∀ c, c < K → way t.mask (k.hash w) c ∈ t.place.toList) {Q : SetFound → Shared → Prop}
    (hin : k ∈ L.map (·.2) → Q (.there none) s) (hout : k ∉ L.map (·.2) → Q (.free (way t.mask (k.hash w) K) false) s) :
    ∀ (f c : Nat) (stand : Option SetTable.Probe), stand.getD (t.probeStart (k.hash w)) = nth t.mask (runAt t.mask (SetTable.bits (k.hash w) % (t.mask + 1)) (SetTable.bits (k.hash w))) c → c ≤ K → K - c < f →
      (∀ (i : Nat) p, L[i]? = some p → p.2 = k → ∃ c', c ≤ c' ∧ c' < K ∧ t.place.toList[i]? = some (way t.mask (k.hash w) c')) →
      wpAny (model P w) A (setSearchFrom a (.ref x) (k.hash w) true f stand) Q E s
  | 0, c, stand, _, _, hf, _ => absurd hf (Nat.not_lt_zero _)
  | f + 1, c, stand, hst, hc, hf, hre => by
    obtain ⟨o, ho, hex, hd⟩ := R.ob
    rw [setSearchFrom_succ]
    refine wpAny_bind (wpAny_setState_of ho hd R.fits ?_)
    dsimp only
    refine wp_if_neg R.gw ?_
    try refine wpAny_bind (wpAny_pure ?_)
    have hnd : (nth t.mask (runAt t.mask (SetTable.bits (k.hash w) % (t.mask + 1)) (SetTable.bits (k.hash w))) c).dummy = none := by
      have key : ∀ (n : Nat) (p : SetTable.Probe), p.dummy = none → (nth t.mask p n).dummy = none := by
        intro n
        induction n with
        | zero => intro p h; exact h
        | succ n ih =>
          intro p h
          refine ih (adv t.mask p) ?_
          unfold adv
          split <;> exact h
      exact key c _ rfl
    generalize hpr0 : nth t.mask (runAt t.mask (SetTable.bits (k.hash w) % (t.mask + 1)) (SetTable.bits (k.hash w))) c = p0 at hst hnd
    have e1 : ∀ q, (nth t.mask p0 q).j = way t.mask (k.hash w) (c + q) := fun q => by
      rw [← hpr0]
      exact congrArg SetTable.Probe.j (nth_add t.mask c _ q).symm
    have hw : ∀ {i : Nat} {p : Addr × NestedKey}, L[i]? = some p → (fun i => (es[i]?.map (·.1)).getD 0) i = p.2.hash w := fun {i p} hp => by
      show (es[i]?.map (·.1)).getD 0 = _
      rw [R.entry hp] <;> rfl
    rcases go_spec t R.tab.ris R.tab.dm (fun i => (es[i]?.map (·.1)).getD 0) (k.hash w) (10 * SetTable.turns t.mask) (K - c) p0 hnd (by omega) (fun q hq => by rw [e1]; exact hKb (c + q) (by omega)) (by rw [e1, show c + (K - c) = K by omega]; exact hK) with
      ⟨q, i, hq, hi, hh, hno, hpr⟩ | ⟨hno, hpr⟩
    · have hpr' : t.probe (fun i => (es[i]?.map (·.1)).getD 0) (k.hash w) (stand.getD (t.probeStart (k.hash w))) = some (.candidate (way t.mask (k.hash w) (c + q)) i (nth t.mask p0 (q + 1))) := by
        rw [hst, ← e1]
        exact hpr
      rw [hpr']
      dsimp only
      rw [e1] at hi
      have hil : i < L.length := by
        have h1 : i < t.place.toList.length := (List.getElem?_eq_some_iff.mp hi).1
        have h2 := R.tab.sz
        unfold hashN at h2
        rw [List.length_map] at h2
        rw [Array.length_toList] at h1
        omega
      obtain ⟨p, hp⟩ : ∃ p, L[i]? = some p := ⟨_, List.getElem?_eq_getElem hil⟩
      have hmem : p ∈ L := List.mem_of_getElem? hp
      have hpt := R.tup p hmem
      have rest : wpAny (model P w) A (searchRest a (.ref x) (k.hash w) true f es t (way t.mask (k.hash w) (c + q)) i (nth t.mask p0 (q + 1))) Q E s := by
        unfold searchRest
        rw [R.entry hp]
        dsimp only
        refine wpAny_bind (wpAny_holding ((nestedKind P w).eqBool hu hpt hx ?_))
        refine wpAny_bind (wpAny_setState_of ho hd R.fits ?_)
        dsimp only
        by_cases hkk : p.2 = k
        · refine wp_if_pos (by simp [hkk]) ?_
          exact wpAny_pure (hin (List.mem_map.mpr ⟨p, hmem, hkk⟩))
        · refine wp_if_neg (by simp [hkk]) ?_
          try refine wpAny_bind (wpAny_pure ?_)
          rw [sameMem]
          dsimp only
          have hsl : t.slot (way t.mask (k.hash w) (c + q)) = .live i := slot_live R.tab.ris hi
          simp only [if_true, hsl, R.entry hp]
          refine wpAny_bind (wpAny_isSame_ref_self (wpAny_bind (wpAny_pure ?_)))
          simp only [if_true]
          refine wp_if_neg (by simp [hkk]) ?_
          refine nsearch_from R hx hu hKf hK hKb hin hout f (c + (q + 1)) _ (by rw [← hpr0]; exact (nth_add t.mask c _ (q + 1)).symm) (by omega) (by omega) fun i0 p1 h0 hk0 => ?_
          obtain ⟨c', a1, a2, a3⟩ := hre i0 p1 h0 hk0
          refine ⟨c', ?_, a2, a3⟩
          rcases Nat.lt_trichotomy c' (c + q) with z | z | z
          · refine absurd ((hw h0).trans (congrArg (NestedKey.hash w) hk0)) (hno (c' - c) i0 (by omega) ?_)
            rw [e1, show c + (c' - c) = c' by omega]
            exact a3
          · rw [z] at a3
            have s0 := slot_live R.tab.ris a3
            rw [hsl] at s0
            injection s0 with s0
            rw [← s0, hp] at h0
            exact absurd ((congrArg Prod.snd (Option.some.inj h0)).trans hk0) hkk
          · omega
      by_cases hl : t.led = true
      · refine wp_if_neg (by simp [hl]) ?_
        try refine wpAny_bind (wpAny_pure ?_)
        exact rest
      · refine wp_if_pos (by simp [hl]) ?_
        refine wpAny_bind (seen_key hx (fun y hy => ?_) ?_)
        · obtain ⟨e, he, ee⟩ := List.mem_map.mp hy
          have he1 : e ∈ es ∧ e.1 = k.hash w := by simpa using he
          have he2 : e ∈ es.toList := by simpa using he1.1
          rw [R.rows] at he2
          obtain ⟨p2, hp2, e2⟩ := List.mem_map.mp he2
          exact ⟨p2.2, p2.1, by rw [← ee, ← e2], R.tup p2 hp2⟩
        · refine wp_if_neg (by decide) ?_
          try refine wpAny_bind (wpAny_pure ?_)
          exact rest
    · have hpr' : t.probe (fun i => (es[i]?.map (·.1)).getD 0) (k.hash w) (stand.getD (t.probeStart (k.hash w))) = some (.empty (way t.mask (k.hash w) K) none) := by
        have e2 : way t.mask (k.hash w) K = (nth t.mask p0 (K - c)).j := by rw [e1, show c + (K - c) = K by omega]
        rw [hst, e2]
        exact hpr
      rw [hpr']
      dsimp only
      refine wpAny_pure (hout fun hm => ?_)
      obtain ⟨p1, h0, hk0⟩ := List.mem_map.mp hm
      obtain ⟨i0, hi0, e0⟩ := List.getElem_of_mem h0
      have h00 : L[i0]? = some p1 := by rw [List.getElem?_eq_getElem hi0, e0]
      obtain ⟨c', a1, a2, a3⟩ := hre i0 p1 h00 hk0
      refine hno (c' - c) i0 (by omega) ?_ ((hw h00).trans (congrArg (NestedKey.hash w) hk0))
      rw [e1, show c + (c' - c) = c' by omega]
      exact a3
theorem nsearch_at (R : NS P w s.heap a L es ep t) {x : Addr} {k : NestedKey} (hx : IsN s.heap k x) (hu : A.units + 8 < cLine) {Q : SetFound → Shared → Prop}
    (hin : k ∈ L.map (·.2) → Q (.there none) s)
    (hout : ∀ K, k ∉ L.map (·.2) → way t.mask (k.hash w) K ∉ t.place.toList → (∀ c, c < K → way t.mask (k.hash w) c ∈ t.place.toList) → Q (.free (way t.mask (k.hash w) K) false) s) :
    wpAny (model P w) A (setSearch a (.ref x) (k.hash w) true) Q E s := by
  have hroom := R.room
  obtain ⟨K, hKf, hK, hKb⟩ := R.tab.first (by unfold hashN; rw [List.length_map]; omega) (k.hash w)
  have hbig : K < 100000 := by
    have : 10 * SetTable.turns t.mask ≤ 1420 := by
      unfold SetTable.turns
      rcases R.tab.mok with e | e | e <;> omega
    omega
  unfold setSearch
  refine nsearch_from R hx hu hKf hK hKb hin (fun hn => hout K hn hK hKb) 100000 0 none rfl (Nat.zero_le _) (by omega) fun i p hp hk => ?_
  have hi : (hashN w L)[i]? = some (k.hash w) := by
    unfold hashN
    rw [List.getElem?_map, hp, ← hk] <;> rfl
  have hil : i < t.place.toList.length := by
    have h1 : i < L.length := (List.getElem?_eq_some_iff.mp hp).1
    have h2 := R.tab.sz
    unfold hashN at h2
    rw [List.length_map] at h2
    rw [Array.length_toList]
    omega
  have hj := List.getElem?_eq_getElem hil
  obtain ⟨c, hc, e⟩ := R.tab.before hK hi hj
  exact ⟨c, Nat.zero_le _, hc, by rw [hj, e]⟩
end
end DL
set_option Elab.async false
set_option linter.all false
set_option maxRecDepth 100000
set_option maxHeartbeats 4000000
namespace DL
open PySem PySem.Spec PyProof.Rows L2
section
variable {P : Program} {w : World} {A : Around} {E : Value → Shared → Prop} {s : Shared}
theorem isN_same {h h' : Heap} {k : NestedKey} {a b : Addr} {o : Obj} {es : Array (Int × Value)} {ep : Nat} {t : SetTable} (hb : IsN h k b) (ho : h.get? a = some o) (hd : o.data = .set es ep t) (hs : Heap.SameBut a h h') : IsN h' k b :=
  ⟨NestedIs.at (fun b ob vs n hb hc => by
    refine (hs.2 b fun e => ?_).trans hb
    subst e
    rw [ho] at hb
    cases hb
    rw [hd] at hc
    cases hc) k _ hb.1, hb.2⟩
theorem isN_keep {h h' : Heap} {k : NestedKey} {b : Addr} (x : IsN h k b) (hk : ∀ c o, h.get? c = some o → h'.get? c = some o) : IsN h' k b := ⟨NestedIs.at (fun a o _ _ e _ => hk a o e) k _ x.1, x.2⟩
theorem orderN (L : List (Addr × NestedKey)) (es : Array (Int × Value)) (order : Array Nat) (hr : es.toList = rowsN w L) (hp : order.toList.Perm (List.range L.length)) :
    ∃ L2, (order.filterMap (es[·]?)).toList = rowsN w L2 ∧ L2.Perm L ∧ hashN w L2 = order.toList.map fun i => (es.map (·.1)).getD i 0 := by
  have hsz := rowsN_len hr
  have ent : ∀ (i : Nat) (h : i < L.length), es[i]? = some ((L[i]).2.hash w, Value.ref (L[i]).1) := fun i h => by
    rw [← Array.getElem?_toList, hr]
    unfold rowsN
    rw [List.getElem?_map, List.getElem?_eq_getElem h] <;> rfl
  have key : ∀ l : List Nat, (∀ i ∈ l, i < L.length) → ∃ L2 : List (Addr × NestedKey), l.filterMap (fun i => es[i]?) = rowsN w L2 ∧ L2 = l.filterMap (fun i => L[i]?) ∧ hashN w L2 = l.map fun i => (es.map (·.1)).getD i 0 := by
    intro l
    induction l with
    | nil => intro _; exact ⟨[], rfl, rfl, rfl⟩
    | cons i l ih =>
      intro hl
      have hi := hl i List.mem_cons_self
      obtain ⟨L2, e1, e2, e3⟩ := ih fun j hj => hl j (List.mem_cons_of_mem _ hj)
      refine ⟨L[i] :: L2, ?_, ?_, ?_⟩
      · rw [List.filterMap_cons_some (ent i hi), e1] <;> rfl
      · rw [List.filterMap_cons_some (List.getElem?_eq_getElem hi), e2]
      · have e5 : (es.map (·.1))[i]? = some ((L[i]).2.hash w) := by rw [Array.getElem?_map, ent i hi] <;> rfl
        have e4 : (es.map (·.1)).getD i 0 = (L[i]).2.hash w := by simp [Array.getD_eq_getD_getElem?, e5]
        rw [List.map_cons, ← e3, e4] <;> rfl
  obtain ⟨L2, e1, e2, e3⟩ := key order.toList fun i hi => List.mem_range.mp (hp.mem_iff.mp hi)
  refine ⟨L2, by first | (rw [Array.toList_filterMap]; exact e1) | simpa using e1, ?_, e3⟩
  rw [e2]
  refine (hp.filterMap _).trans (List.Perm.of_eq ?_)
  have key2 : ∀ n, n ≤ L.length → (List.range n).filterMap (fun i => L[i]?) = L.take n := by
    intro n
    induction n with
    | zero => intro _; rfl
    | succ n ih =>
      intro hn
      have hlt : n < L.length := hn
      rw [List.range_succ, List.filterMap_append, ih (Nat.le_of_lt hlt), List.take_succ, List.getElem?_eq_getElem hlt]
      rw [List.filterMap_cons_some (List.getElem?_eq_getElem hlt)] <;> rfl
  rw [key2 L.length (Nat.le_refl _), List.take_length]
variable {a : Addr} {L : List (Addr × NestedKey)} {es : Array (Int × Value)} {ep : Nat} {t : SetTable}
/-- the table laid anew, larger -/
theorem nrelay {o : Obj} (ho : s.heap.get? a = some o) (hex : o.ExactSet) (hd : o.data = .set es ep t) (hrows : es.toList = rowsN w L) (hsz : t.place.size = es.size) (hdm : t.dummies = #[]) (hfl : es.size ≤ t.mask)
    (nd : (L.map (·.2)).Nodup) (tup : ∀ p ∈ L, IsN s.heap p.2 p.1) (ld : w.params.followText "set-order" = true ∨ t.led = true) (few : L.length < 64) {wanted M : Nat}
    (hw : SetTable.sizeAbove wanted - 1 = M) (hM : MaskOk M) (hw2 : SetTable.sizeAbove wanted ≤ 128) (hn : L.length * 5 < M * 3) {Q : Unit → Shared → Prop}
    (hQ : ∀ h' L' es' ep' t', Heap.SameBut a s.heap h' → NS P w h' a L' es' ep' t' → L'.Perm L → Q () { s with heap := h' }) : wpAny (model P w) A (setRelay a wanted) Q E s := by
  have hsl := rowsN_len hrows
  have hfits : t.fits es.size = true := by
    unfold SetTable.fits SetTable.fill
    rw [hdm, Bool.and_eq_true, beq_iff_eq, decide_eq_true_eq]
    show t.place.size = es.size ∧ t.place.size + 0 ≤ t.mask
    omega
  obtain ⟨t', order, e, hp, T, em, el, ep', ed⟩ := relaid_ok t (hs := es.map (·.1)) (wanted := wanted) hw hM (by rw [Array.size_map, hsl]; omega)
  rw [Array.size_map, hsl] at hp
  obtain ⟨L2, r1, r2, r3⟩ := orderN L es order hrows hp
  rw [← r3] at T
  have hs2 : (order.filterMap (es[·]?)).size = es.size := by rw [rowsN_len r1, r2.length_eq, hsl]
  rw [setRelay_eq]
  refine wpAny_bind (wpAny_setState_of ho hd hfits ?_)
  dsimp only
  refine wp_if_neg (by rw [sizeLine_eq]; omega) ?_
  try refine wpAny_bind (wpAny_pure ?_)
  rw [e]
  dsimp only
  refine wpAny_bind ?_
  refine wp_if_neg (by rw [hs2]; simp) ?_
  try refine wpAny_bind (wpAny_pure ?_)
  refine wpAny_pure ?_
  dsimp only
  refine wpAny_storeSet_of ho hd ?_ (by rw [hs2, hsl, sizeLine_eq]; omega)
  have sb : Heap.SameBut a s.heap (s.heap.update a (Obj.putSet (order.filterMap (es[·]?)) t')) := Heap.SameBut.update ..
  refine hQ _ L2 (order.filterMap (es[·]?)) (ep + 1) t' sb ?_ r2
  refine ⟨⟨_, store_at ho hd, ⟨hex.1, hex.2.1, hex.2.2⟩, rfl⟩, r1, T, (r2.map (·.2)).nodup_iff.mpr nd, fun p hpm => isN_same (tup p (r2.mem_iff.mp hpm)) ho hd sb, by rw [el]; exact ld, ?_, by rw [r2.length_eq]; exact few⟩
  rw [r2.length_eq, em]
  exact hn
/-- a tuple added -/
theorem nadd (R : NS P w s.heap a L es ep t) {x : Addr} {k : NestedKey} (hx : IsN s.heap k x) (hu : A.units + 8 < cLine) (hfew : L.length + 1 < 64) {Q : Bool → Shared → Prop}
    (hQ : ∀ b h' L' es' ep' t', Heap.SameBut a s.heap h' → NS P w h' a L' es' ep' t' → (k ∈ L.map (·.2) → L' = L) → (k ∉ L.map (·.2) → L'.Perm ((x, k) :: L)) → Q b { s with heap := h' }) :
    wpAny (model P w) A (setAddHashed a (.ref x) (k.hash w)) Q E s := by
  obtain ⟨o, ho, hex, hd⟩ := R.ob
  have hsl := rowsN_len R.rows
  have hroom := R.room
  unfold setAddHashed
  refine wpAny_holding ?_
  rw [show (100000 : Nat) = 99999 + 1 from rfl, setAddHashedIn_succ]
  refine wpAny_bind (wpAny_setState_of ho hd R.fits ?_)
  dsimp only
  refine wp_if_neg (by simp [byScan, Value.scannable]) ?_
  try refine wpAny_bind (wpAny_pure ?_)
  refine wpAny_bind (nsearch_at R hx hu (fun hm => ?_) fun K hm hK hb => ?_)
  · dsimp only
    exact wpAny_pure (hQ false s.heap L es ep t (Heap.SameBut.refl a s.heap) R (fun _ => rfl) fun z => absurd hm z)
  · dsimp only
    refine wpAny_bind (wpAny_setState_of ho hd R.fits ?_)
    dsimp only
    obtain ⟨q1, q2, q3, q4, q5, q6, q7, q8, q9⟩ := R.tab.put hK hb
    generalize hpt : t.put (way t.mask (k.hash w) K) = pt at q1 q3 q4 q5 q6 q7 q8 q9 ⊢
    obtain ⟨t1, p⟩ := pt
    dsimp only at q1 q3 q4 q5 q6 q7 q8 q9 ⊢
    have hin : (SetTable.insertAt es (SetTable.below t.place (way t.mask (k.hash w) K)) (k.hash w, Value.ref x)).toList = rowsN w (L.take (SetTable.below t.place (way t.mask (k.hash w) K)) ++ (x, k) :: L.drop (SetTable.below t.place (way t.mask (k.hash w) K))) := by
      rw [SetTable.toList_insertAt, R.rows]
      unfold rowsN
      rw [List.map_append, List.map_cons, List.map_take, List.map_drop]
    have hhs : hashN w (L.take (SetTable.below t.place (way t.mask (k.hash w) K)) ++ (x, k) :: L.drop (SetTable.below t.place (way t.mask (k.hash w) K))) = (hashN w L).take (SetTable.below t.place (way t.mask (k.hash w) K)) ++ k.hash w :: (hashN w L).drop (SetTable.below t.place (way t.mask (k.hash w) K)) := by
      unfold hashN
      rw [List.map_append, List.map_cons, List.map_take, List.map_drop]
    rw [← hhs] at q3
    -- behind the question of its value
    have go : ∀ (t2 : SetTable), t2.place = t1.place → t2.dummies = t1.dummies → t2.mask = t1.mask → t2.led = t1.led → t2.fill = t1.fill →
        wpAny (model P w) A (do
          storeSet a (SetTable.insertAt es p (k.hash w, Value.ref x)) t2
          if (!false && t2.tooFull) = true then do
            setRelay a (SetTable.grown (es.size + 1))
            pure true
          else pure true) Q E s := by
      intro t2 z1 z2 z3 z4 z5
      subst q1
      have T2 : TabOk t2 (hashN w (L.take (SetTable.below t.place (way t.mask (k.hash w) K)) ++ (x, k) :: L.drop (SetTable.below t.place (way t.mask (k.hash w) K)))) :=
        ⟨by rw [z1]; exact q3.ris, by rw [z2]; exact q3.dm, by rw [z1]; exact q3.sz, by rw [z3]; exact q3.mok, fun y hy => by rw [z3]; rw [z1] at hy; exact q3.bd y hy, fun i h j h1 h2 => by
          rw [z1] at h2 ⊢
          rw [z3]
          exact q3.reach i h j h1 h2⟩
      generalize hpp : SetTable.below t.place (way t.mask (k.hash w) K) = p at q2 T2 hin ⊢
      have pm := put_perm L p (x, k)
      have hlen : (L.take p ++ (x, k) :: L.drop p).length = L.length + 1 := pm.length_eq
      have nd1 : ((L.take p ++ (x, k) :: L.drop p).map (·.2)).Nodup := by
        refine (pm.map (·.2)).nodup_iff.mpr ?_
        rw [List.map_cons]
        exact List.nodup_cons.mpr ⟨hm, R.nd⟩
      have hes : (SetTable.insertAt es p (k.hash w, Value.ref x)).size = L.length + 1 := by rw [rowsN_len hin, hlen]
      generalize SetTable.insertAt es p (k.hash w, Value.ref x) = es1 at hin hes ⊢
      generalize L.take p ++ (x, k) :: L.drop p = L1 at pm hlen T2 nd1 hin
      refine wpAny_bind (wpAny_storeSet_of ho hd ?_ (by rw [hes, sizeLine_eq]; omega))
      have sb : Heap.SameBut a s.heap (s.heap.update a (Obj.putSet es1 t2)) := Heap.SameBut.update ..
      have ho1 := store_at (es' := es1) (t' := t2) ho hd
      generalize s.heap.update a (Obj.putSet es1 t2) = h1 at sb ho1 ⊢
      have tup1 : ∀ p ∈ L1, IsN h1 p.2 p.1 := fun p hp => by
        rcases List.mem_cons.mp (pm.mem_iff.mp hp) with e | hp
        · rw [e]; exact isN_same hx ho hd sb
        · exact isN_same (R.tup p hp) ho hd sb
      have ld1 : w.params.followText "set-order" = true ∨ t2.led = true := by rw [z4, q5]; exact R.led
      have em2 : t2.mask = t.mask := z3.trans q4
      have ef2 : t2.fill = L.length + 1 := by
        rw [z5, q9]
        unfold hashN
        rw [List.length_map]
      by_cases hf : t2.tooFull = true
      · refine wp_if_pos (by simp [hf]) ?_
        have hfull : (L.length + 1) * 5 ≥ t2.mask * 3 := by
          have h := hf
          unfold SetTable.tooFull at h
          rw [decide_eq_true_eq, ef2] at h
          exact h
        rw [hsl]
        have hsz1 : t2.place.size = es1.size := by
          have h := T2.sz
          unfold hashN at h
          rw [List.length_map, hlen] at h
          rw [h, hes]
        have cases2 : (t.mask = 7 ∧ L.length = 4) ∨ (t.mask = 31 ∧ L.length = 18) := by
          rcases R.tab.mok with e | e | e
          · left; rw [em2, e] at hfull; rw [e] at hroom; exact ⟨e, by omega⟩
          · right; rw [em2, e] at hfull; rw [e] at hroom; exact ⟨e, by omega⟩
          · exfalso; rw [em2, e] at hfull; omega
        have go2 : ∀ M, SetTable.sizeAbove (SetTable.grown (L.length + 1)) - 1 = M → MaskOk M → SetTable.sizeAbove (SetTable.grown (L.length + 1)) ≤ 128 → (L.length + 1) * 5 < M * 3 →
            wpAny (model P w) A (setRelay a (SetTable.grown (L.length + 1))) (fun _ s' => wpAny (model P w) A (pure true) Q E s') E { s with heap := h1 } := fun M h1' h2' h3' h4' => by
          refine nrelay (s := { s with heap := h1 }) ho1 ⟨hex.1, hex.2.1, hex.2.2⟩ rfl hin hsz1 T2.dm (by rw [hes, em2]; rcases cases2 with ⟨e, e2⟩ | ⟨e, e2⟩ <;> omega) nd1 tup1 ld1 (by rw [hlen]; exact hfew) h1' h2' h3' (by rw [hlen]; exact h4') ?_
          intro h2 L2 es2 ep2 t2 sb2 R2 pm2
          exact wpAny_pure (hQ true h2 L2 es2 ep2 t2 (sb.trans sb2) R2 (fun z => absurd z hm) fun _ => pm2.trans pm)
        refine wpAny_bind ?_
        rcases cases2 with ⟨_, e2⟩ | ⟨_, e2⟩
        · exact go2 31 (by rw [e2, size_20]) (.inr (.inl rfl)) (by rw [e2, size_20]; decide) (by omega)
        · exact go2 127 (by rw [e2, size_76]) (.inr (.inr rfl)) (by rw [e2, size_76]; decide) (by omega)
      · refine wp_if_neg (by simp [hf]) ?_
        refine wpAny_pure (hQ true h1 L1 es1 (ep + 1) t2 sb ⟨⟨_, ho1, ⟨hex.1, hex.2.1, hex.2.2⟩, rfl⟩, hin, T2, nd1, tup1, ld1, ?_, by rw [hlen]; exact hfew⟩ (fun z => absurd z hm) fun _ => pm)
        have h := hf
        unfold SetTable.tooFull at h
        rw [decide_eq_true_eq, ef2] at h
        rw [hlen]
        omega
    have go' : ∀ b : Bool, wpAny (model P w) A (do
          storeSet a (SetTable.insertAt es p (k.hash w, Value.ref x)) (if b = true then t1 else { t1 with plain := false })
          if (!false && (if b = true then t1 else { t1 with plain := false }).tooFull) = true then do
            setRelay a (SetTable.grown (es.size + 1))
            pure true
          else pure true) Q E s := fun b => by
      cases b with
      | true => exact go t1 rfl rfl rfl rfl rfl
      | false => exact go { t1 with plain := false } rfl rfl rfl rfl rfl
    have h8 : k.depth ≤ 8 := hx.2
    by_cases hp1 : t1.plain = true
    · first
        | (refine wpAny_bind ?_; refine wp_if_pos hp1 ?_; refine hashBy_key k _ 8 s _ hx.1 h8 fun b => ?_; exact go' b)
        | (refine wp_if_pos hp1 (wpAny_bind (hashBy_key k _ 8 s _ hx.1 h8 fun b => ?_)); exact go' b)
    · first
        | (refine wpAny_bind ?_; refine wp_if_neg hp1 ?_; refine wpAny_pure ?_; exact go' true)
        | (refine wp_if_neg hp1 (wpAny_bind (wpAny_pure ?_)); exact go' true)
/-- set.add of a tuple -/
theorem nset_add (R : NS P w s.heap a L es ep t) {x : Addr} {k : NestedKey} (hx : IsN s.heap k x) (hu : A.units + 9 < cLine) (hfew : L.length + 1 < 64) {Q : Value → Shared → Prop}
    (hQ : ∀ h' L' es' ep' t' tk, Heap.SameBut a s.heap h' → NS P w h' a L' es' ep' t' → (k ∈ L.map (·.2) → L' = L) → (k ∉ L.map (·.2) → L'.Perm ((x, k) :: L)) → s.toks ≤ tk → Q .none { s with heap := h', toks := tk }) :
    wpAny (model P w) A (call (.builtin "set.add") [.ref a, .ref x]) Q E s := by
  obtain ⟨o, ho, hex, hd⟩ := R.ob
  refine wpAny_call_entry F.slot_set_add ⟨o, ho, hex.1⟩ F.entry_set_add ?_ (F.args_set_add_2 _ _)
  unfold Builtin.«set.add» Builtin.Frozenset.oneOther
  simp only [List.isEmpty_nil, bind_assoc]
  unfold Builtin.Frozenset.addrOf setAdd
  refine wpAny_bind (wpAny_pure ?_)
  try dsimp only
  refine wpAny_bind (wpAny_pure ?_)
  try dsimp only
  refine wpAny_bind ?_
  refine wpAny_holding ?_
  refine wpAny_bind ((nestedKind P w).pyHash (k := k) (by show A.in1.units + 8 < cLine; simp only [Around.in1_units]; omega) hx ?_)
  refine nadd (s := { s with toks := s.toks + (nestedKind P w).draws k }) R hx (by simp only [Around.in1_units]; omega) hfew fun b h' L' es' ep' t' sb r c1 c2 => ?_
  show wpAny _ _ (ret Value.none) _ _ _
  exact wpAny_pure ⟨_, rfl, hQ h' L' es' ep' t' _ sb r c1 c2 (Nat.le_add_right _ _)⟩
end
end DL
set_option Elab.async false
set_option linter.all false
set_option maxRecDepth 100000
set_option maxHeartbeats 4000000
/-! DL: sets of texts (the model's own scan: HandS.SetTxt0). -/
namespace DL
open PySem PySem.Spec PyProof.Rows L2 PySem.Froz
open PySem.W (EachIs alike alikeAll alike_all_cons AllAlike Sortable sorted_data list_sort_data each_mem)
/-- the set of the texts l at a -/
def TS1 (P : Program) (w : World) (h : Heap) (a : Addr) (l : List Str) : Prop :=
  ∃ D : SD, h.get? a = some (sObj "set" D) ∧ TxOk P w D l ∧ Ris D.2.2.place.toList ∧ (w.params.followText "set-order" = true ∨ D.2.2.led = true) ∧ l.Nodup
section
variable {P : Program} {w : World} {A : Around} {E : Value → Shared → Prop} {s : Shared} {a : Addr} {l : List Str} {k : Str} {u : Tok}
theorem tail_ris {ep : Nat} {es1 : Array (Int × Value)} {t2 : SetTable} {wd : Bool} (r : Ris t2.place.toList) (hl : w.params.followText "set-order" = true ∨ t2.led = true) :
    Ris (tailTx ep es1 t2 wd).2.2.place.toList ∧ (w.params.followText "set-order" = true ∨ (tailTx ep es1 t2 wd).2.2.led = true) := by
  unfold tailTx
  split
  · exact ⟨relayAll_ris t2 es1 _, hl.imp id fun z => by show (relayAll t2 es1 _).2.1.led = true; rw [relayAll_led]; exact z⟩
  · exact ⟨r, hl⟩
theorem add_ris {D : SD} {h : Int} {v : Value} (r : Ris D.2.2.place.toList) (hl : w.params.followText "set-order" = true ∨ D.2.2.led = true) :
    Ris (addTx h v D).2.2.place.toList ∧ (w.params.followText "set-order" = true ∨ (addTx h v D).2.2.led = true) := by
  unfold addTx
  have r1 := layNew_ris D.2.2 D.1 h v r
  have l1 := layNew_led D.2.2 D.1 h v
  refine tail_ris ?_ ?_
  · split
    · exact r1
    · exact r1
  · refine hl.imp id fun z => ?_
    split
    · exact l1.trans z
    · exact l1.trans z
/-- a text that is there already -/
theorem again_x {T : String} {D : SD} {Q : Bool → Shared → Prop} (ho : s.heap.get? a = some (sObj T D)) (F : TxOk P w D l) (hk : k ∈ l) (hb : l.length < scanBound)
    (h : Q false s) : wpAny (model P w) A (setAddHashed a (.str k u) (hashStr w k)) Q E s := by
  obtain ⟨es, ep, t⟩ := D
  have hd : (sObj T (es, ep, t)).data = .set es ep t := rfl
  have hf : t.fits es.size = true := F.fit
  have hel : ElemsOf (strKind P w) es.toList := F.el
  have hsz : es.size = l.length := F.sz
  have hb0 : es.size < scanBound := by omega
  have hkey : (strKind P w).is k (.str k u) = true := is_str k u
  unfold setAddHashed setAddHashedIn
  refine wpAny_holding (wpAny_bind (wpAny_setState_of ho hd hf ?_))
  dsimp only
  rw [byScan_of rfl hb0 hel]
  simp only [↓reduceIte]
  unfold setAddByScan
  refine wpAny_bind ?_
  refine wpAny_bind (wpAny_rule ?_)
  refine wpAny_bind (wpAny_setScan_of (knd := strKind P w) (k := k) hkey ho hd hf hel ?_)
  cases hr : List.findIdx? (fun e => (strKind P w).is k e.2) es.toList with
  | none =>
    obtain ⟨e, he, q⟩ := (F.mem k).mp hk
    have c := List.findIdx?_eq_none_iff.mp hr e he
    rw [q] at c
    cases c
  | some j =>
    dsimp only
    exact wpAny_pure (wpAny_pure h)
/-- set.add of a text -/
theorem tset_add (R : TS1 P w s.heap a l) (hb : l.length + 1 < scanBound) {Q : Value → Shared → Prop}
    (hQ : ∀ h' tk, (∀ b, b ≠ a → h'.get? b = s.heap.get? b) → TS1 P w h' a (if k ∈ l then l else k :: l) → s.toks ≤ tk → Q .none { s with heap := h', toks := tk }) :
    wpAny (model P w) A (call (.builtin "set.add") [.ref a, .str k u]) Q E s := by
  obtain ⟨D, ho, Z, r, hl, nd⟩ := R
  refine wpAny_call_entry F.slot_set_add ⟨_, ho, rfl⟩ F.entry_set_add ?_ (F.args_set_add_2 _ _)
  unfold Builtin.«set.add» Builtin.Frozenset.oneOther
  simp only [List.isEmpty_nil, bind_assoc]
  unfold Builtin.Frozenset.addrOf setAdd
  refine wpAny_bind (wpAny_pure ?_)
  try dsimp only
  refine wpAny_bind (wpAny_pure ?_)
  try dsimp only
  refine wpAny_bind ?_
  refine wpAny_holding ?_
  refine wpAny_bind ((strKind P w).pyHash (is_str k u) ?_)
  show wpAny _ _ (setAddHashed a (.str k u) (hashStr w k)) _ _ _
  by_cases hk : k ∈ l
  · refine again_x (s := { s with toks := s.toks + 1 }) ho Z hk (by omega) ?_
    show wpAny _ _ (ret Value.none) _ _ _
    refine wpAny_pure ⟨_, rfl, hQ s.heap _ (fun _ _ => rfl) ?_ (Nat.le_succ _)⟩
    rw [if_pos hk]
    exact ⟨D, ho, Z, r, hl, nd⟩
  · refine add_x (s := { s with toks := s.toks + 1 }) ho Z hk hb ?_
    show wpAny _ _ (ret Value.none) _ _ _
    refine wpAny_pure ⟨_, rfl, hQ (s.heap.update a fun _ => sObj "set" (addTx (hashStr w k) (.str k u) D)) _ (fun b hb => Heap.get?_update_ne _ _ _ _ hb) ?_ (Nat.le_succ _)⟩
    rw [if_neg hk]
    obtain ⟨r2, l2⟩ := add_ris (w := w) (h := hashStr w k) (v := .str k u) r hl
    exact ⟨_, get_upd _ ho rfl, add_ok u Z, r2, l2, List.nodup_cons.mpr ⟨hk, nd⟩⟩
/-! ### a list of the set's values, sorted -/
theorem each_perm {α β : Type} {R : α → β → Prop} {xs ys : List α} (p : xs.Perm ys) : ∀ {bs : List β}, EachIs R xs bs → ∃ bs', EachIs R ys bs' ∧ bs'.Perm bs := by
  induction p with
  | nil => intro bs h; exact ⟨bs, h, List.Perm.refl _⟩
  | cons x _ ih =>
    intro bs h
    cases h with
    | cons a t =>
      obtain ⟨bs', h1, h2⟩ := ih t
      exact ⟨_, .cons a h1, h2.cons _⟩
  | swap x y l =>
    intro bs h
    cases h with
    | cons a t =>
      cases t with
      | cons b t => exact ⟨_, .cons b (.cons a t), List.Perm.swap _ _ _⟩
  | trans _ _ ih1 ih2 =>
    intro bs h
    obtain ⟨b1, h1, p1⟩ := ih1 h
    obtain ⟨b2, h2, p2⟩ := ih2 h1
    exact ⟨b2, h2, p2.trans p1⟩
theorem each_and {α β : Type} {R S : α → β → Prop} : ∀ {xs : List α} {bs : List β}, EachIs R xs bs → EachIs S xs bs → EachIs (fun a b => R a b ∧ S a b) xs bs
  | _, _, .nil, _ => .nil
  | _, _, .cons a t, .cons b u => .cons ⟨a, b⟩ (each_and t u)
mutual
theorem reads_there {h : Heap} : ∀ (d : PyData) (v : Value) (as : List Addr), alike d d = true → Reads h v d as → ∀ a ∈ as, ∃ o, h.get? a = some o
  | .none, _, _, _, r, a, ha => by cases r; cases ha
  | .bool _, _, _, _, r, a, ha => by cases r; cases ha
  | .int _, _, _, _, r, a, ha => by cases r; cases ha
  | .str _, _, _, _, r, a, ha => by cases r; cases ha
  | .list xs, _, _, hal, r, a, ha => by
    cases r with
    | list h1 h2 h3 h4 =>
      rcases List.mem_cons.mp ha with e | ha
      · rw [e]; exact ⟨_, h1⟩
      · exact reads_all_there xs _ _ (by simpa [alike] using hal) h4 a ha
  | .tuple xs, _, _, hal, r, a, ha => by
    cases r with
    | tuple h1 h2 h3 h4 => exact reads_all_there xs _ _ (by simpa [alike] using hal) h4 a ha
  | .dict _, _, _, hal, _, _, _ => absurd hal (by simp [alike])
theorem reads_all_there {h : Heap} : ∀ (ds : List PyData) (vs : List Value) (as : List Addr), alikeAll ds ds = true → ReadsAll h vs ds as → ∀ a ∈ as, ∃ o, h.get? a = some o
  | [], _, _, _, r, a, ha => by cases r; cases ha
  | d :: ds, _, _, hal, r, a, ha => by
    cases r with
    | cons h1 h2 =>
      rcases List.mem_append.mp ha with ha | ha
      · exact reads_there d _ _ (alike_all_cons hal).1 h1 a ha
      · exact reads_all_there ds _ _ (alike_all_cons hal).2 h2 a ha
end
theorem sorted_setX {β : Type} {enc : β → PyData} {R : Value → β → Prop} {bs : List β} {es : Array (Int × Value)} {ep : Nat} {t : SetTable} {Q : Value → Shared → Prop} (hh : A.handled = none) (ha : SetAt s.heap a es ep t) (hf : t.fits es.size = true) (hsz : es.size < scanBound) (r : Ris t.place.toList)
    (hl : w.params.followText "set-order" = true ∨ t.led = true) (e : EachIs R (es.toList.map (·.2)) bs) (er : EachIs (fun v b => ∃ as, Reads s.heap v (enc b) as) (es.toList.map (·.2)) bs) (hal : AllAlike (bs.map enc)) (hk : Sortable (bs.map enc)) (hu : ∀ b, b ∈ bs → A.units + 2 + (enc b).depth < cLine)
    (hQ : ∀ s' p (out : List Value) (bs' : List β), (∀ b o, s.heap.get? b = some o → s'.heap.get? b = some o) → s'.gens = s.gens → s'.os = s.os → s.heap.objs.size ≤ p →
      (∃ c, s'.heap.get? p = some (seqObj "list" out.toArray c)) → EachIs R out bs' → bs'.Perm bs → Q (.ref p) s') :
    wpAny (model P w) A (call (.builtin "sorted") [.ref a]) Q E s := by
  refine Calls.call_function_entry kind_sorted plain_sorted entry_sorted (args_sorted1 _) ?_
  unfold Builtin.«sorted»
  refine wpAny_bind (m := checkCount "sorted" 1 1 _) (wpAny_pure ?_)
  refine wpAny_bind (collect_set (A := A.in1) hh ha hf hsz r hl fun s1 vs k1 hz g1 o1 pm => ?_)
  obtain ⟨bs1, e1, p1⟩ := each_perm pm.symm (each_and e er)
  have hlen : vs.length ≤ sizeLine := by
    rw [pm.length_eq, List.length_map, Array.length_toList]
    exact fits_of_scanBound hsz
  refine wpAny_bind (wpAny_newList ?_ hlen)
  have hoL : (s1.heap.push (seqObj "list" vs.toArray 0)).get? s1.heap.objs.size = some (seqObj "list" vs.toArray 0) := Heap.get?_push_size _ rfl
  have hal1 : AllAlike (bs1.map enc) := fun d hd d' hd' => hal d ((p1.map enc).mem_iff.mp hd) d' ((p1.map enc).mem_iff.mp hd')
  have hk1 : Sortable (bs1.map enc) := hk.imp (fun z d hd => z d ((p1.map enc).mem_iff.mp hd)) (fun z d hd => z d ((p1.map enc).mem_iff.mp hd))
  have er1 : EachIs (fun v b => ∃ as, Reads (s1.heap.push (seqObj "list" vs.toArray 0)) v (enc b) as ∧ s1.heap.objs.size ∉ as) vs bs1 := (each_mem e1).mono fun v b ⟨⟨_, as, q⟩, hb⟩ => by
    refine ⟨as, PyProof.Rows.Reads.keeps (fun b o x => Heap.get?_push_of_some _ (k1 b o x)) q, fun hm => ?_⟩
    obtain ⟨o, ho⟩ := reads_there _ _ _ (hal1 _ (List.mem_map.mpr ⟨b, hb, rfl⟩) _ (List.mem_map.mpr ⟨b, hb, rfl⟩)) q _ hm
    exact absurd (Heap.lt_size (k1 _ _ ho)) (Nat.lt_irrefl _)
  refine wpAny_bind (wpAny_holding (list_sort_data (s := { s1 with heap := s1.heap.push (seqObj "list" vs.toArray 0) }) (R := R) (enc := enc) hoL (e1.mono fun _ _ x => x.1) er1 hal1 hk1 (by rw [← e1.length]; exact hlen) (fun b hb => ?_) fun out hn eo => ?_))
  · have := hu b (p1.mem_iff.mp hb)
    simp only [Around.in1_units]
    omega
  · obtain ⟨c, hc⟩ := sortedHeap_at (vs := vs) (out := out.toArray) hoL
    refine wpAny_pure ⟨_, rfl, hQ _ s1.heap.objs.size out _ (fun b u x => ?_) g1 o1 hz ⟨c, hc⟩ eo ((List.mergeSort_perm _ _).trans p1)⟩
    have q := k1 b u x
    have hlt := Heap.lt_size q
    show (sortedHeap (s1.heap.push (seqObj "list" vs.toArray 0)) s1.heap.objs.size vs out.toArray).get? b = some u
    rw [sortedHeap_old (Nat.ne_of_lt hlt) (by rw [size_push']; exact Nat.lt_succ_of_lt hlt)]
    exact Heap.get?_push_of_some _ q
end
end DL
set_option Elab.async false
set_option linter.all false
set_option maxRecDepth 100000
set_option maxHeartbeats 4000000
/-! DL: set comprehensions, whatever the set's members are (the road is HandS.SetBool's). -/
namespace DL
open PySem PySem.Spec PyProof.Rows L2 PpSet
open PySem.W (EachIs alike alikeAll alike_all_cons AllAlike Sortable)
/-- the object that a new set is -/
abbrev newSetObj (w : World) : Obj := { cls := .type "set", dict := none, data := .set #[] 0 (.fresh 0 0 (!w.params.followText "set-order")) }
/-- what set.add asks, what it leaves -/
def AddOk (X : Cx) (Add : Addr → V → Hp → (Hp → Prop) → Prop) : Prop :=
  ∀ (Y : Cx), Y.prog = X.prog → Y.w = X.w → Y.K = X.K → Y.A = X.A → ∀ (pins : List (Addr × Obj)) (σ : L2.St) (H : Hp) (s : Shared) (E : Value → Shared → Prop) (D : Addr) (y : V) (u : Value) (Q : Value → Shared → Prop) (Nx : Hp → Prop),
    Inv Y pins σ H s → RelV y u → Add D y H Nx → (∀ s' H', Inv Y pins σ H' s' → Nx H' → Q .none s') → wpAny (model Y.prog Y.w) Y.A (call (.builtin "set.add") [.ref D, u]) Q E s
def NewOk (X : Cx) (O0 : Addr → HO) : Prop := ∀ (h : Heap) (H : Hp), ObjOk X.prog X.w H (h.push (newSetObj X.w)) h.objs.size (O0 h.objs.size)
def tScG (O0 : Addr → HO) (Add : Addr → V → Hp → (Hp → Prop) → Prop) (wi : TI) (g : TG) (tt : TT) (te : TE) (vs : List Nat) : TE := fun σ H Q => wi σ H fun J H1 => ∀ D, H1 D = none → ∃ W : Nat → Nat → Hp → Prop, (∃ m, W 0 m (upd H1 D (O0 D))) ∧ ∀ i m H, W i m H →
  (J.stop i H ∧ Q (.ref D) H) ∨ (J.go i H ∧ ∃ Nx : Hp → Prop, (∀ H', Nx H' → ∃ m', m' < m ∧ W (i + 1) m' H') ∧ ∀ x H', J.yld i H x H' → g x (L2.wipe σ vs) H' fun σ2 H2 => L2.wipe σ2 vs = L2.wipe σ vs ∧ tt σ2 H2 fun b H3 =>
    if b = true then te σ2 H3 fun y H4 => Add D y H4 Nx else Nx H3)
section
variable {X : Cx} {O0 : Addr → HO} {Add : Addr → V → Hp → (Hp → Prop) → Prop}
theorem scG_core {pins : List (Addr × Obj)} {s : Shared} {σ : L2.St} {H : Hp} {Q : VK} {elt tg iter : Expr} {ifs : List Expr} {scope : Scope} {own : List (PySem.Str × Nat)} {pos pos' : Pos} {wi : TI} {g : TG} {tt : TT} {te : TE} {use : Option (Value → Sem Unit)} {Qf : Value → Shared → Prop}
    (hnew : NewOk X O0) (hadd : AddOk X Add) (hc : X.calm = true) (hN : X.N.Nodup) (I : Inv X pins σ H s) (hi : PI X tg iter wi) (ok : BlkOk X.N X.env.scope scope own)
    (hg : ∀ (s : Shared) (H : Hp) (C : Addr) (cl : List (PySem.Str × Addr)) (fp : List Addr), PG (X.blk s H scope (compEnvC scope cl C X.env) fp) tg g) (ht : ∀ (s : Shared) (H : Hp) (C : Addr) (cl : List (PySem.Str × Addr)) (fp : List Addr), PTs (X.blk s H scope (compEnvC scope cl C X.env) fp) ifs tt)
    (he : ∀ (s : Shared) (H : Hp) (C : Addr) (cl : List (PySem.Str × Addr)) (fp : List Addr), PE (X.blk s H scope (compEnvC scope cl C X.env) fp) elt te) (hs : ∀ x, foldedSetIterable iter X.env x = pure x)
    (h : tScG O0 Add wi g tt te (own.map (·.2)) σ H Q)
    (hRR : ∀ D C s' m H', Inv X pins σ H' s' → Q (.ref D) H' → s'.heap.Ns C m → FpOk X pins H' C → compPost (model X.prog X.w) X.A X.xe use Qf (.ref D) C (.ok .next) s') :
    wpAny (model X.prog X.w) X.A (comprehension (.SetComp elt [⟨tg, iter, ifs, 0⟩] scope pos) scope X.env pos' (newSet (.type "set")) false (eval iter X.env) use) Qf X.xe s := by
  have hfree : ∀ y ∈ scope.names, y.2 = .free → ∃ c, X.env.cells.lookup y.1 = some c := fun y hy e => by
    rcases ok.free y hy e with k | k
    · exact I.ok.has _ (.inl k)
    · exact I.ok.has _ (.inr k)
  refine wpAny_comprehension_free (use := use) rfl hs (closure_ok hfree) ok.kind (fun y hy e => by rw [ok.uniq y hy, e])
    (thn (hi.run pins s σ H _ I h) fun xv s1 hx => thn hx fun itv s2 h2 => ?_)
  obtain ⟨it, fp, tn, J, H2, e, I2, T, st2, f2, q⟩ := h2
  subst e
  refine newSet_ok (newEnv_comp ?_)
  generalize hD : s2.heap.objs.size = D
  have hDn : H2 D = none := I2.hok.fresh (Nat.le_of_eq hD)
  obtain ⟨W, ⟨m0, w0⟩, turn⟩ := q D hDn
  generalize hs3 : ({ s2 with heap := s2.heap.push (newSetObj X.w) } : Shared) = s3
  have I3 : Inv X pins σ (upd H2 D (O0 D)) s3 := by
    rw [← hs3]
    refine I2.laid (t' := s2.toks) (fun b o e => Heap.get?_push_of_some _ e) (Nat.le_of_eq hD) ?_
    rw [← hD]
    exact hnew _ _
  have h3 : s3.heap = s2.heap.push (newSetObj X.w) := by rw [← hs3]
  have sz : ∀ b ∈ fp, b < s2.heap.objs.size := fun b hb => by
    obtain ⟨o, e, _⟩ := T.obj _ _ st2 b hb
    exact Heap.lt_size e
  have f3 : ∀ b ∈ fp, FpOk X pins (upd H2 D (O0 D)) b ∧ b < s3.heap.objs.size := fun b hb => by
    have hlt := sz b hb
    refine ⟨⟨?_, (f2 b hb).2⟩, by rw [h3, Heap.size_push]; exact Nat.lt_succ_of_lt hlt⟩
    rw [upd_ne (by rw [← hD]; exact Nat.ne_of_lt hlt)]
    exact (f2 b hb).1
  have st3 : tn 0 s3.heap := T.keep _ _ _ st2 fun b _ o e => by rw [h3]; exact Heap.get?_push_of_some _ e
  have I4 := block_start I3 ok hN f3
  have pg := hg s3 (upd H2 D (O0 D)) s3.heap.objs.size (cellsFrom (s3.heap.objs.size + 1) scope.names (cloFrom X.env.cells scope.names [])) fp
  have pt := ht s3 (upd H2 D (O0 D)) s3.heap.objs.size (cellsFrom (s3.heap.objs.size + 1) scope.names (cloFrom X.env.cells scope.names [])) fp
  have pe := he s3 (upd H2 D (O0 D)) s3.heap.objs.size (cellsFrom (s3.heap.objs.size + 1) scope.names (cloFrom X.env.cells scope.names [])) fp
  show codeAny _ _ (.compStart (.SetComp elt [⟨tg, iter, ifs, 0⟩] scope pos) 0 (.ref it) (.ref D) (compEnvC scope (cellsFrom (s3.heap.objs.size + 1) scope.names (cloFrom X.env.cells scope.names [])) s3.heap.objs.size X.env)) (compPost (model X.prog X.w) X.A X.xe use Qf (.ref D) s3.heap.objs.size) { s3 with heap := pushCells (s3.heap.push { cls := .type "dict", data := .dict #[] }) scope.names }
  have nfp : ∀ b ∈ fp, (upd H2 D (O0 D)) b = none := fun b hb => (f3 b hb).1.1
  generalize hce : compEnvC scope (cellsFrom (s3.heap.objs.size + 1) scope.names (cloFrom X.env.cells scope.names [])) s3.heap.objs.size X.env = ce at I4 pg pt pe ⊢
  have cL : ce.locals = s3.heap.objs.size := by subst hce; rfl
  generalize hH3 : upd H2 D (O0 D) = H3 at I3 I4 pg pt pe w0 nfp f3
  generalize hs4 : ({ s3 with heap := pushCells (s3.heap.push { cls := .type "dict", data := .dict #[] }) scope.names } : Shared) = s4 at I4 ⊢
  have st4 : tn 0 s4.heap := T.keep _ _ _ st3 fun b _ o e => by rw [← hs4]; exact pushCells_keeps _ _ _ _ (Heap.get?_push_of_some _ e)
  have stat : ∀ {σ' : L2.St} {H' : Hp} {s' : Shared}, Inv (X.blk s3 H3 scope ce fp) [] σ' H' s' → (∀ b ∈ fp, H' b = none) → ∀ b ∈ fp, FpOk (X.blk s3 H3 scope ce fp) [] H' b := fun {σ' H' s'} I' hn b hb =>
    ⟨hn b hb, (I'.ok.exf b hb).1, I'.ok.exfs b hb, .inl hb, fun x c e => (I'.ok.exf b hb).2 x c e, fun p hp => absurd (show p ∈ ([] : List (Addr × Obj)) ++ [] from hp) (by simp)⟩
  have loop : codeAny (model X.prog X.w) X.A (.compLoop (.SetComp elt [⟨tg, iter, ifs, 0⟩] scope pos) 0 (.ref it) (.ref D) ce) (compPost (model X.prog X.w) X.A X.xe use Qf (.ref D) s3.heap.objs.size) s4 := by
    refine compLoopS_any (fun n s' => ∃ i H', Inv (X.blk s3 H3 scope ce fp) [] (L2.wipe σ (own.map (·.2))) H' s' ∧ tn i s'.heap ∧ (∀ b ∈ fp, H' b = none) ∧ W i n H') ?_ m0 ⟨0, H3, I4, st4, nfp, w0⟩
    rintro n s5 ⟨i, H5, I5, st5, n5, w5⟩
    rcases turn i n H5 w5 with ⟨stop, qq⟩ | ⟨go, Nx, hNx, step⟩
    · have td := T.done (X.blk s3 H3 scope ce fp) rfl rfl rfl hc i [] s5 _ H5 (fun _ _ => False) I5 (stat I5 n5) st5 stop
      refine thnF td fun r s6 ⟨hr, I6⟩ => ?_
      subst hr
      have I7 : Inv X pins σ H5 s6 := I3.call' (ch := fp) I6.os I6.base I6.hok I6.bare fun b hb => ⟨(f3 b hb).1.2.2.2.1, (f3 b hb).1.2.1, (f3 b hb).1.2.2.2.2.1, (f3 b hb).1.2.2.2.2.2⟩
      have nC : H5 s3.heap.objs.size = none := by
        have z : H5 ce.locals = none := I6.free
        rw [cL] at z
        exact z
      obtain ⟨m, hn, _⟩ := I6.loc
      have hn : s6.heap.Ns ce.locals m := hn
      rw [cL] at hn
      exact hRR D s3.heap.objs.size s6 m H5 I7 qq hn (I3.fpOk (Nat.le_refl _) nC)
    · have ti := T.item (X.blk s3 H3 scope ce fp) rfl rfl rfl hc i [] s5 _ H5 (fun _ _ => False) I5 (stat I5 n5) st5 go
      refine thnF ti fun r s6 ⟨u, hr, h6⟩ => ?_
      subst hr
      refine thnF h6 fun _ s7 ⟨x, H7, I7, r7, y7, st7, n7⟩ => ?_
      have I7' := I7.pinned (stat I7 n7) (T.obj _ _ st7)
      refine thnF (pg.run _ s7 _ H7 x u _ I7' r7 (step x H7 y7)) fun _ s8 ⟨σ8, H8, I8, hw8, q8⟩ => ?_
      refine thnF (pt.run _ s8 σ8 H8 _ I8 q8) fun b s9 ⟨H9, I9, q9⟩ => ?_
      have fin : ∀ {s' : Shared} {H' : Hp}, Inv (X.blk s3 H3 scope ce fp) ([] ++ pinsAt fp s7.heap) σ8 H' s' → Nx H' → ∃ m, m < n ∧ ∃ i H', Inv (X.blk s3 H3 scope ce fp) [] (L2.wipe σ (own.map (·.2))) H' s' ∧ tn i s'.heap ∧ (∀ b ∈ fp, H' b = none) ∧ W i m H' := fun {s' H'} I' nx => by
        obtain ⟨m', hm, w'⟩ := hNx H' nx
        have pin' : ∀ b ∈ fp, ∀ o, s7.heap.get? b = some o → s'.heap.get? b = some o ∧ H' b = none := fun b hb o e =>
          let z := I'.pin (b, o) (List.mem_append_right _ (List.mem_append_right _ (mem_pinsAt hb e)))
          ⟨z.1, z.2.1⟩
        have hl : (L2.wipe σ (own.map (·.2))).length = σ8.length := by rw [← hw8, wipe_length]
        refine ⟨m', hm, i + 1, H', (I'.unpinned (pins := [])).weak hl (fun j v e => ?_), T.keep _ _ _ st7 fun b hb o e => (pin' b hb o e).1, fun b hb => ?_, w'⟩
        · rw [← hw8] at e
          exact (wipe_some e).1
        · obtain ⟨o, e, _⟩ := T.obj _ _ st7 b hb
          exact (pin' b hb o e).2
      cases b with
      | false =>
        simp only [Bool.false_eq_true, if_false] at q9 ⊢
        exact fin I9 q9
      | true =>
        simp only [if_true] at q9 ⊢
        refine thnF (pe.run _ s9 σ8 H9 _ I9 q9) fun z s10 ⟨yv, H10, I10, r10, ad⟩ => ?_
        exact hadd (X.blk s3 H3 scope ce fp) rfl rfl rfl rfl _ _ _ _ _ _ _ _ _ _ I10 r10 ad fun s11 H11 I11 nx => fin I11 nx
  exact PpSet.codeAny_compStart_set loop (T.self X.A 0 _ _ _ st4 loop)
theorem pe_scG {elt tg iter : Expr} {ifs : List Expr} {scope : Scope} {own : List (PySem.Str × Nat)} {pos : Pos} {wi : TI} {g : TG} {tt : TT} {te : TE} (hnew : NewOk X O0) (hadd : AddOk X Add) (hc : X.calm = true) (hN : X.N.Nodup) (hi : PI X tg iter wi) (ok : BlkOk X.N X.env.scope scope own)
    (hg : ∀ (s : Shared) (H : Hp) (C : Addr) (cl : List (PySem.Str × Addr)) (fp : List Addr), PG (X.blk s H scope (compEnvC scope cl C X.env) fp) tg g) (ht : ∀ (s : Shared) (H : Hp) (C : Addr) (cl : List (PySem.Str × Addr)) (fp : List Addr), PTs (X.blk s H scope (compEnvC scope cl C X.env) fp) ifs tt)
    (he : ∀ (s : Shared) (H : Hp) (C : Addr) (cl : List (PySem.Str × Addr)) (fp : List Addr), PE (X.blk s H scope (compEnvC scope cl C X.env) fp) elt te) (hs : ∀ x, foldedSetIterable iter X.env x = pure x := by intro _; rfl) :
    PE X (.SetComp elt [⟨tg, iter, ifs, 0⟩] scope pos) (tScG O0 Add wi g tt te (own.map (·.2))) := by
  refine ⟨fun pins s σ H Q I h => ?_⟩
  rw [eval_SetComp]
  refine scG_core hnew hadd hc hN I hi ok hg ht he hs h fun D C s' m H' I' q hn f => ⟨m, hn, fun h'' sb => ?_⟩
  obtain ⟨f0, f1, f2, f3, f4, f5⟩ := f
  exact ⟨.ref D, H', I'.turned (t' := s'.toks) (fun b o hb e => (sb.2 b hb).trans e) f0 f1 f3 f4 f5, rfl, q⟩
end
/-! ### the set as an object of the abstract heap -/
def TSO (P : Program) (w : World) (a : Addr) (l : List Str) : HO := .ext fun h => TS1 P w h a l
/-- the set of tuples, the tuples themselves left aside -/
def NS0 (P : Program) (w : World) (h : Heap) (a : Addr) (L : List (Addr × NestedKey)) : Prop :=
  ∃ (es : Array (Int × Value)) (ep : Nat) (t : SetTable), (∃ o, h.get? a = some o ∧ o.ExactSet ∧ o.data = .set es ep t) ∧ es.toList = rowsN w L ∧ TabOk t (hashN w L) ∧ (L.map (·.2)).Nodup ∧
    (w.params.followText "set-order" = true ∨ t.led = true) ∧ L.length * 5 < t.mask * 3 ∧ L.length < 64
def NSO (P : Program) (w : World) (a : Addr) (L : List (Addr × NestedKey)) : HO := .ext fun h => NS0 P w h a L
theorem NS.t0 {P : Program} {w : World} {h : Heap} {a : Addr} {L : List (Addr × NestedKey)} {es : Array (Int × Value)} {ep : Nat} {t : SetTable} (R : NS P w h a L es ep t) : NS0 P w h a L := ⟨es, ep, t, R.ob, R.rows, R.tab, R.nd, R.led, R.room, R.few⟩
theorem NS0.full {P : Program} {w : World} {h : Heap} {a : Addr} {L : List (Addr × NestedKey)} (R : NS0 P w h a L) (ht : ∀ p ∈ L, IsN h p.2 p.1) : ∃ es ep t, NS P w h a L es ep t := by
  obtain ⟨es, ep, t, h1, h2, h3, h4, h6, h7, h8⟩ := R
  exact ⟨es, ep, t, h1, h2, h3, h4, ht, h6, h7, h8⟩
theorem nso_new {P : Program} {w : World} {H : Hp} {h : Heap} {a : Addr} {L : List (Addr × NestedKey)} (R : NS0 P w h a L) : ObjOk P w H h a (NSO P w a L) := by
  have ⟨es, ep, t, ⟨o, ho, r⟩, q⟩ := R
  refine ⟨R, ⟨o, ho⟩, fun h1 h2 p k => ?_⟩
  have ⟨es', ep', t', ⟨o', ho', r'⟩, q'⟩ := p
  exact ⟨es', ep', t', ⟨o', k o' ho', r'⟩, q'⟩
theorem tso_new {P : Program} {w : World} {H : Hp} {h : Heap} {a : Addr} {l : List Str} (R : TS1 P w h a l) : ObjOk P w H h a (TSO P w a l) := by
  have ⟨D, ho, r⟩ := R
  refine ⟨R, ⟨_, ho⟩, fun h1 h2 p k => ?_⟩
  have ⟨D', ho', r'⟩ := p
  exact ⟨D', k _ ho', r'⟩
theorem nso_fresh (X : Cx) : NewOk X fun a => NSO X.prog X.w a [] := fun h H => nso_new ⟨#[], 0, _, ⟨_, Heap.get?_push_size _ rfl, ⟨rfl, rfl, rfl⟩, rfl⟩, rfl,
  ⟨List.Pairwise.nil, rfl, rfl, .inl rfl, fun x hx => (by cases hx), fun i h j hi => (by simp [hashN] at hi)⟩, List.nodup_nil, by
    show _ ∨ (!X.w.params.followText "set-order") = true
    cases X.w.params.followText "set-order"
    · exact .inr rfl
    · exact .inl rfl, by
    show 0 * 5 < 7 * 3
    decide, by
    show 0 < 64
    decide⟩
theorem tso_fresh (X : Cx) : NewOk X fun a => TSO X.prog X.w a [] := fun h H => tso_new ⟨(#[], 0, _), Heap.get?_push_size _ rfl, PySem.Froz.TxOk.nil (by rfl), List.Pairwise.nil, by
    show _ ∨ (!X.w.params.followText "set-order") = true
    cases X.w.params.followText "set-order"
    · exact .inr rfl
    · exact .inl rfl, List.nodup_nil⟩
/-! ### keys -/
mutual
def nk : DV → NestedKey
  | .non => .none
  | .int i => .num i
  | .str x => .text x
  | .tup ds => .tup (nks ds)
  | _ => .none
def nks : List DV → List NestedKey
  | [] => []
  | d :: ds => nk d :: nks ds
end
/-- data of numbers, texts, None and tuples -/
def okK : Nat → DV → Prop
  | _, .non => True
  | _, .int _ => True
  | _, .str _ => True
  | n + 1, .tup ds => ∀ d ∈ ds, okK n d
  | _, _ => False
theorem nks_depth {n : Nat} : ∀ ds : List DV, (∀ d ∈ ds, (nk d).depth ≤ n) → NestedKey.depthAll (nks ds) ≤ n
  | [], _ => by unfold nks; exact Nat.zero_le _
  | d :: ds, h => by
    unfold nks NestedKey.depthAll
    have h1 := h d (List.mem_cons_self ..)
    have h2 := nks_depth ds fun e he => h e (List.mem_cons_of_mem _ he)
    omega
theorem nk_depth : ∀ (n : Nat) (d : DV), okK n d → (nk d).depth ≤ n
  | n, .non, _ => by unfold nk; exact Nat.zero_le _
  | n, .int _, _ => by unfold nk; exact Nat.zero_le _
  | n, .str _, _ => by unfold nk; exact Nat.zero_le _
  | n + 1, .tup ds, h => by
    unfold nk NestedKey.depth
    have := nks_depth (n := n) ds fun d hd => nk_depth n d ((show ∀ d ∈ ds, okK n d from h) d hd)
    omega
  | 0, .tup _, h => h.elim
  | 0, .bl _, h => h.elim
  | 0, .lst _, h => h.elim
  | 0, .ty _, h => h.elim
  | 0, .ref _, h => h.elim
  | 0, .tupW _, h => h.elim
  | 0, .scr _, h => h.elim
  | 0, .dK _ _, h => h.elim
  | _ + 1, .bl _, h => h.elim
  | _ + 1, .lst _, h => h.elim
  | _ + 1, .ty _, h => h.elim
  | _ + 1, .ref _, h => h.elim
  | _ + 1, .tupW _, h => h.elim
  | _ + 1, .scr _, h => h.elim
  | _ + 1, .dK _ _, h => h.elim
theorem okK_okD : ∀ (n : Nat) (d : DV), okK n d → (∀ x, d = .str x → PyData.strOk x = true) → True := fun _ _ _ _ => trivial
section
variable {X : Cx} {pins : List (Addr × Obj)} {σ : L2.St} {H : Hp} {s : Shared} {M : DM}
theorem nks_is {n : Nat} : ∀ {vs : List V} {ds : List DV} {us : List Value}, (∀ v d u, Fz X.K H M v d → okK n d → RelV v u → NestedIs s.heap (nk d) u) → Fzs X.K H M vs ds → (∀ d ∈ ds, okK n d) → Vals vs us → NestedAll s.heap (nks ds) us
  | _, _, _, _, .nil, _, r => by cases r; unfold nks; exact .nil
  | _, _, _, k, .cons f fs, h, r => by
    cases r with
    | cons r1 r2 =>
      unfold nks
      exact .cons (k _ _ _ f (h _ (List.mem_cons_self ..)) r1) (nks_is k fs (fun d hd => h d (List.mem_cons_of_mem _ hd)) r2)
theorem nk_is (I : Inv X pins σ H s) : ∀ (n : Nat) (v : V) (d : DV) (u : Value), Fz X.K H M v d → okK n d → RelV v u → NestedIs s.heap (nk d) u
  | n, v, .non, u, f, _, r => by rw [f.non_inv] at r; cases r; unfold nk; exact .none
  | n, v, .int i, u, f, _, r => by rw [f.int_inv] at r; obtain ⟨t, rfl⟩ := r; unfold nk; exact .int _ _
  | n, v, .str i, u, f, _, r => by rw [f.str_inv] at r; obtain ⟨t, rfl⟩ := r; unfold nk; exact .text _ _
  | n + 1, v, .tup ds, u, f, h, r => by
    obtain ⟨a, vs, e, sq, z⟩ := f.tup_inv
    subst e
    cases r
    obtain ⟨its, rv, ⟨o, ho, hc, m, hd⟩, _⟩ := I.tuple sq
    unfold nk
    exact .tup ho hc hd (by simpa using nks_is (n := n) (fun v d u f h r => nk_is I n v d u f h r) z h rv)
  | 0, _, .tup _, _, _, h, _ => h.elim
  | 0, _, .bl _, _, _, h, _ => h.elim
  | 0, _, .lst _, _, _, h, _ => h.elim
  | 0, _, .ty _, _, _, h, _ => h.elim
  | 0, _, .ref _, _, _, h, _ => h.elim
  | 0, _, .tupW _, _, _, h, _ => h.elim
  | 0, _, .scr _, _, _, h, _ => h.elim
  | 0, _, .dK _ _, _, _, h, _ => h.elim
  | _ + 1, _, .bl _, _, _, h, _ => h.elim
  | _ + 1, _, .lst _, _, _, h, _ => h.elim
  | _ + 1, _, .ty _, _, _, h, _ => h.elim
  | _ + 1, _, .ref _, _, _, h, _ => h.elim
  | _ + 1, _, .tupW _, _, _, h, _ => h.elim
  | _ + 1, _, .scr _, _, _, h, _ => h.elim
  | _ + 1, _, .dK _ _, _, _, h, _ => h.elim
end
/-- the tuple v is the key of d -/
def KN (K : PySem.W.Frag) (H : Hp) (x : Addr) (k : NestedKey) : Prop := ∃ M d, Fz K H M (.ref x) d ∧ okK 8 d ∧ k = nk d
theorem KN.isN {X : Cx} {pins : List (Addr × Obj)} {σ : L2.St} {H : Hp} {s : Shared} {x : Addr} {k : NestedKey} (I : Inv X pins σ H s) (h : KN X.K H x k) : IsN s.heap k x := by
  obtain ⟨M, d, f, ok, rfl⟩ := h
  exact ⟨nk_is I 8 _ d _ f ok rfl, nk_depth 8 d ok⟩
/-! ### set.add in these terms -/
def AddT (P : Program) (w : World) : Addr → V → Hp → (Hp → Prop) → Prop := fun D y H Nx => ∃ x l, y = .str x ∧ H D = some (TSO P w D l) ∧ l.length + 1 < scanBound ∧ Nx (upd H D (TSO P w D (if x ∈ l then l else x :: l)))
theorem addT_ok (X : Cx) : AddOk X (AddT X.prog X.w) := fun Y e1 e2 e3 e4 pins σ H s E D y u Q Nx I r ⟨x, l, ey, hD, hl, nx⟩ hQ => by
  subst ey
  obtain ⟨tk, rfl⟩ := r
  rw [← e1, ← e2] at hD nx
  have R : TS1 Y.prog Y.w s.heap D l := (I.hok D _ hD).1
  refine tset_add R hl fun h' tk' hk R' ht => ?_
  have he : ∃ o, h'.get? D = some o := by
    obtain ⟨D', ho, _⟩ := id R'
    exact ⟨_, ho⟩
  exact hQ _ _ (I.write (e := D) (t' := tk') (by rw [hD]; trivial) (.inl rfl) (fun b u hb hu => (hk b hb).trans hu) he (tso_new R')) nx
def AddN (K : PySem.W.Frag) (P : Program) (w : World) : Addr → V → Hp → (Hp → Prop) → Prop := fun D y H Nx => ∃ x k L, y = .ref x ∧ H D = some (NSO P w D L) ∧ KN K H x k ∧ (∀ p ∈ L, KN K H p.1 p.2) ∧ L.length + 1 < 64 ∧
  ∀ L', (k ∈ L.map (·.2) → L' = L) → (k ∉ L.map (·.2) → L'.Perm ((x, k) :: L)) → Nx (upd H D (NSO P w D L'))
theorem addN_ok (X : Cx) (hu : X.A.units + 9 < cLine) : AddOk X (AddN X.K X.prog X.w) := fun Y e1 e2 e3 e4 pins σ H s E D y u Q Nx I r ⟨x, k, L, ey, hD, hx, hL, hl, nx⟩ hQ => by
  subst ey
  cases r
  rw [← e1, ← e2] at hD
  rw [← e3] at hx hL
  have R0 : NS0 Y.prog Y.w s.heap D L := (I.hok D _ hD).1
  obtain ⟨es, ep, t, R⟩ := R0.full fun p hp => (hL p hp).isN I
  refine nset_add R (hx.isN I) (by rw [e4]; exact hu) hl fun h' L' es' ep' t' tk sb R' c1 c2 ht => ?_
  have he : ∃ o, h'.get? D = some o := by
    obtain ⟨o, ho, _⟩ := R'.ob
    exact ⟨_, ho⟩
  have nx' := nx L' c1 c2
  rw [← e1, ← e2] at nx'
  exact hQ _ _ (I.write (e := D) (t' := tk) (by rw [hD]; trivial) (.inl rfl) (fun b u hb hu => (sb.2 b hb).trans hu) he (nso_new R'.t0)) nx'
end DL
set_option Elab.async false
set_option linter.all false
set_option maxRecDepth 100000
set_option maxHeartbeats 4000000
/-! DL: sorted({..}). -/
namespace DL
open PySem PySem.Spec PyProof.Rows L2 PpSet
open PySem.W (EachIs alike alikeAll alike_all_cons AllAlike Sortable)
mutual
theorem nk_data_depth : ∀ k : NestedKey, k.data.depth ≤ k.depth
  | .none => by unfold NestedKey.data PyData.depth; exact Nat.zero_le _
  | .num _ => by unfold NestedKey.data PyData.depth; exact Nat.zero_le _
  | .text _ => by unfold NestedKey.data PyData.depth; exact Nat.zero_le _
  | .tup ks => by
    unfold NestedKey.data PyData.depth NestedKey.depth
    exact Nat.succ_le_succ (nks_data_depth ks)
theorem nks_data_depth : ∀ ks : List NestedKey, PyData.depthAll (NestedKey.datas ks) ≤ NestedKey.depthAll ks
  | [] => by unfold NestedKey.datas PyData.depthAll; exact Nat.zero_le _
  | k :: ks => by
    unfold NestedKey.datas PyData.depthAll NestedKey.depthAll
    have := nk_data_depth k
    have := nks_data_depth ks
    omega
end
theorem nks_data {n : Nat} : ∀ ds : List DV, (∀ d ∈ ds, (nk d).data = toPy d) → NestedKey.datas (nks ds) = toPys ds
  | [], _ => by unfold nks NestedKey.datas toPys; rfl
  | d :: ds, h => by
    unfold nks NestedKey.datas toPys
    rw [h d (List.mem_cons_self ..), nks_data (n := n) ds fun e he => h e (List.mem_cons_of_mem _ he)]
theorem nk_data : ∀ (n : Nat) (d : DV), okK n d → (nk d).data = toPy d
  | n, .non, _ => by unfold nk NestedKey.data toPy; rfl
  | n, .int _, _ => by unfold nk NestedKey.data toPy; rfl
  | n, .str _, _ => by unfold nk NestedKey.data toPy; rfl
  | n + 1, .tup ds, h => by
    unfold nk NestedKey.data toPy
    rw [nks_data (n := n) ds fun d hd => nk_data n d ((show ∀ d ∈ ds, okK n d from h) d hd)]
  | 0, .tup _, h => h.elim
  | 0, .bl _, h => h.elim
  | 0, .lst _, h => h.elim
  | 0, .ty _, h => h.elim
  | 0, .ref _, h => h.elim
  | 0, .tupW _, h => h.elim
  | 0, .scr _, h => h.elim
  | 0, .dK _ _, h => h.elim
  | _ + 1, .bl _, h => h.elim
  | _ + 1, .lst _, h => h.elim
  | _ + 1, .ty _, h => h.elim
  | _ + 1, .ref _, h => h.elim
  | _ + 1, .tupW _, h => h.elim
  | _ + 1, .scr _, h => h.elim
  | _ + 1, .dK _ _, h => h.elim
theorem toPy_injs {n : Nat} : ∀ ds es : List DV, (∀ d ∈ ds, ∀ e, okK n d → okK n e → toPy d = toPy e → d = e) → (∀ d ∈ ds, okK n d) → (∀ d ∈ es, okK n d) → toPys ds = toPys es → ds = es
  | [], [], _, _, _, _ => rfl
  | [], _ :: _, _, _, _, h => by unfold toPys at h; cases h
  | _ :: _, [], _, _, _, h => by unfold toPys at h; cases h
  | d :: ds, e :: es, k, h1, h2, h => by
    unfold toPys at h
    injection h with a b
    rw [k d (List.mem_cons_self ..) e (h1 d (List.mem_cons_self ..)) (h2 e (List.mem_cons_self ..)) a,
      toPy_injs ds es (fun x hx => k x (List.mem_cons_of_mem _ hx)) (fun x hx => h1 x (List.mem_cons_of_mem _ hx)) (fun x hx => h2 x (List.mem_cons_of_mem _ hx)) b]
theorem toPy_inj : ∀ (n : Nat) (d e : DV), okK n d → okK n e → toPy d = toPy e → d = e
  | n, .non, e, _, h2, q => by
    cases n <;> (cases e <;> first | rfl | (unfold toPy at q; cases q; done) | exact h2.elim)
  | n, .int i, e, _, h2, q => by
    cases n <;> (cases e <;> first | (unfold toPy at q; cases q; first | rfl | done) | exact h2.elim)
  | n, .str i, e, _, h2, q => by
    cases n <;> (cases e <;> first | (unfold toPy at q; cases q; first | rfl | done) | exact h2.elim)
  | n + 1, .tup ds, .tup es, h1, h2, q => by
    unfold toPy at q
    injection q with q
    rw [toPy_injs (n := n) ds es (fun d _ e a b c => toPy_inj n d e a b c) h1 h2 q]
  | n + 1, .tup ds, .non, _, _, q => by unfold toPy at q; cases q
  | n + 1, .tup ds, .int _, _, _, q => by unfold toPy at q; cases q
  | n + 1, .tup ds, .str _, _, _, q => by unfold toPy at q; cases q
  | n + 1, .tup ds, .bl _, _, h, _ => h.elim
  | n + 1, .tup ds, .lst _, _, h, _ => h.elim
  | n + 1, .tup ds, .ty _, _, h, _ => h.elim
  | n + 1, .tup ds, .ref _, _, h, _ => h.elim
  | n + 1, .tup ds, .tupW _, _, h, _ => h.elim
  | n + 1, .tup ds, .scr _, _, h, _ => h.elim
  | n + 1, .tup ds, .dK _ _, _, h, _ => h.elim
  | 0, .tup _, _, h, _, _ => h.elim
  | 0, .bl _, _, h, _, _ => h.elim
  | 0, .lst _, _, h, _, _ => h.elim
  | 0, .ty _, _, h, _, _ => h.elim
  | 0, .ref _, _, h, _, _ => h.elim
  | 0, .tupW _, _, h, _, _ => h.elim
  | 0, .scr _, _, h, _, _ => h.elim
  | 0, .dK _ _, _, h, _, _ => h.elim
  | _ + 1, .bl _, _, h, _, _ => h.elim
  | _ + 1, .lst _, _, h, _, _ => h.elim
  | _ + 1, .ty _, _, h, _, _ => h.elim
  | _ + 1, .ref _, _, h, _, _ => h.elim
  | _ + 1, .tupW _, _, h, _, _ => h.elim
  | _ + 1, .scr _, _, h, _, _ => h.elim
  | _ + 1, .dK _ _, _, h, _, _ => h.elim
section
variable {K : PySem.W.Frag} {H : Hp} {M : DM}
theorem dpKs_of {n : Nat} : ∀ {vs : List V} {ds : List DV}, Fzs K H M vs ds → (∀ v d, Fz K H M v d → okK n d → Dp K H v (toPy d)) → (∀ d ∈ ds, okK n d) → DpAll K H vs (toPys ds)
  | _, _, .nil, _, _ => by unfold toPys; exact .nil
  | _, _, .cons f fs, k, h => by
    unfold toPys
    exact .cons (k _ _ f (h _ (List.mem_cons_self ..))) (dpKs_of fs k fun e he => h e (List.mem_cons_of_mem _ he))
theorem dpK_of : ∀ (n : Nat) (v : V) (d : DV), Fz K H M v d → okK n d → Dp K H v (toPy d)
  | n, v, .non, f, _ => by rw [f.non_inv]; unfold toPy; exact .non
  | n, v, .int b, f, _ => by rw [f.int_inv]; unfold toPy; exact .int b
  | n, v, .str b, f, _ => by rw [f.str_inv]; unfold toPy; exact .str b
  | n + 1, v, .tup ds, f, h => by
    obtain ⟨a, vs, e, s, z⟩ := f.tup_inv
    subst e
    unfold toPy
    exact .tup s (dpKs_of (n := n) z (fun v d f h => dpK_of n v d f h) h)
  | 0, _, .tup _, _, h => h.elim
  | 0, _, .bl _, _, h => h.elim
  | 0, _, .lst _, _, h => h.elim
  | 0, _, .ty _, _, h => h.elim
  | 0, _, .ref _, _, h => h.elim
  | 0, _, .tupW _, _, h => h.elim
  | 0, _, .scr _, _, h => h.elim
  | 0, _, .dK _ _, _, h => h.elim
  | _ + 1, _, .bl _, _, h => h.elim
  | _ + 1, _, .lst _, _, h => h.elim
  | _ + 1, _, .ty _, _, h => h.elim
  | _ + 1, _, .ref _, _, h => h.elim
  | _ + 1, _, .tupW _, _, h => h.elim
  | _ + 1, _, .scr _, _, h => h.elim
  | _ + 1, _, .dK _ _, _, h => h.elim
end
/-! ### sorted(set) -/
def rSortT (P : Program) (w : World) : List V → Hp → VK → Prop := fun vs H Q => ∃ D l, vs = [.ref D] ∧ H D = some (TSO P w D l) ∧ l.length < scanBound ∧ ∀ (ys : List Str) (p : Addr), (∀ y, y ∈ ys ↔ y ∈ l) → ys.length = l.length → H p = none → Q (.ref p) (upd H p (.lst (ys.map .str)))
def rSortN (K : PySem.W.Frag) (P : Program) (w : World) : List V → Hp → VK → Prop := fun vs H Q => ∃ D L, vs = [.ref D] ∧ H D = some (NSO P w D L) ∧ (∀ p ∈ L, KN K H p.1 p.2) ∧ AllAlike (L.map fun p => p.2.data) ∧ Sortable (L.map fun p => p.2.data) ∧
  ∀ (L' : List (Addr × NestedKey)) (p : Addr), L'.Perm L → H p = none → Q (.ref p) (upd H p (.lst (L'.map fun q => .ref q.1)))
theorem each_strs : ∀ {us : List Value} {ks : List Str}, EachIs (fun v (k : Str) => ∃ t, v = Value.str k t) us ks → Vals (ks.map V.str) us
  | _, _, .nil => .nil
  | _, _, .cons h t => .cons h (each_strs t)
theorem each_refs : ∀ {us : List Value} {L : List (Addr × NestedKey)}, EachIs (fun v (p : Addr × NestedKey) => v = Value.ref p.1) us L → Vals (L.map fun q => V.ref q.1) us
  | _, _, .nil => .nil
  | _, _, .cons h t => .cons h (each_refs t)
theorem each_rows {w : World} : ∀ L : List (Addr × NestedKey), EachIs (fun v (p : Addr × NestedKey) => v = Value.ref p.1) ((rowsN w L).map (·.2)) L
  | [] => .nil
  | p :: L => .cons rfl (each_rows L)
theorem each_of_mem {α β : Type} {R S : α → β → Prop} : ∀ {xs : List α} {bs : List β}, EachIs R xs bs → (∀ a b, b ∈ bs → R a b → S a b) → EachIs S xs bs
  | _, _, .nil, _ => .nil
  | _, _, .cons a t, h => .cons (h _ _ (List.mem_cons_self ..) a) (each_of_mem t fun x y hy => h x y (List.mem_cons_of_mem _ hy))
theorem elems_keys {P : Program} {w : World} : ∀ es : List (Int × Value), ElemsOf (PySem.strKind P w) es → ∃ ks : List Str, EachIs (fun v (k : Str) => ∃ t, v = Value.str k t) (es.map (·.2)) ks ∧ ∀ k, k ∈ ks ↔ ∃ e ∈ es, (PySem.strKind P w).is k e.2 = true
  | [], _ => ⟨[], .nil, fun k => by simp⟩
  | e :: es, h => by
    obtain ⟨ks, h1, h2⟩ := elems_keys es h.tail
    obtain ⟨⟨k, hk, _⟩, _⟩ := h.head
    obtain ⟨t, ht⟩ := Value.isStrOf_shape (show Value.isStrOf k e.2 = true from hk)
    refine ⟨k :: ks, .cons ⟨t, ht⟩ h1, fun k' => ?_⟩
    rw [List.mem_cons, h2 k']
    constructor
    · rintro (rfl | ⟨x, hx, q⟩)
      · exact ⟨e, List.mem_cons_self .., hk⟩
      · exact ⟨x, List.mem_cons_of_mem _ hx, q⟩
    · rintro ⟨x, hx, q⟩
      rcases List.mem_cons.mp hx with rfl | hx
      · exact .inl ((PySem.strKind P w).inj x.2 k' k q hk)
      · exact .inr ⟨x, hx, q⟩
section
variable {X : Cx}
theorem cr_sortT (hc : X.calm = true) (hu : X.A.units + 2 < cLine) : CallR X (.builtin "sorted") (rSortT X.prog X.w) := by
  intro pins s σ H vs us Q I r h
  obtain ⟨D, l, rfl, hD, hsb, q⟩ := h
  have R : TS1 X.prog X.w s.heap D l := (I.hok D _ hD).1
  obtain ⟨Z, ho, T, ris, hl, nd⟩ := R
  rw [Vals.ref1 r]
  obtain ⟨ks, e1, e2⟩ := elems_keys Z.1.toList T.el
  have hlen : ks.length = l.length := by rw [← e1.length, List.length_map, Array.length_toList, T.sz]
  refine sorted_setX (bs := ks) (enc := PyData.str) (I.ok.hd hc) ⟨_, ho, rfl, rfl⟩ T.fit ?_ ris hl e1 (e1.mono fun v k ⟨t, e⟩ => ⟨[], by rw [e]; exact .str _ _⟩) (AllAlike.of fun _ _ => by simp [alike]) (Sortable.others fun b => ⟨(fun e => nomatch e), (fun xs e => nomatch e)⟩) (fun b _ => by unfold PyData.depth; omega) fun s' p out ks' k g o hp ⟨c, hg⟩ hout pm => ?_
  · rw [T.sz]; exact hsb
  · have hn : H p = none := I.hok.fresh hp
    have hv : Vals (ks'.map V.str) out := each_strs hout
    have hz : (ks'.map V.str).length ≤ sizeLine := by rw [List.length_map, pm.length_eq, hlen]; exact fits_of_scanBound hsb
    have J : Inv X pins σ (upd H p (.lst (ks'.map V.str))) { s with heap := s'.heap, gens := s'.gens, drawn := s'.drawn, toks := s'.toks } :=
      I.call (ch := []) (Un.laid k hp hn) (I.hok.laid k hp ⟨hz, out, c, hv, hg⟩) (by rw [g]; exact I.bare) (fun _ z => nomatch z)
    have e : s' = { s with heap := s'.heap, gens := s'.gens, drawn := s'.drawn, toks := s'.toks } := by
      cases s'
      cases s
      cases o
      rfl
    rw [e]
    exact ⟨.ref p, _, J, rfl, q ks' p (fun y => by rw [pm.mem_iff, e2 y, ← T.mem y]) (by rw [pm.length_eq, hlen]) hn⟩
theorem cr_sortN (hc : X.calm = true) (hu : X.A.units + 10 < cLine) : CallR X (.builtin "sorted") (rSortN X.K X.prog X.w) := by
  intro pins s σ H vs us Q I r h
  obtain ⟨D, L, rfl, hD, hk, hal, hso, q⟩ := h
  have R0 : NS0 X.prog X.w s.heap D L := (I.hok D _ hD).1
  obtain ⟨es, ep, t, R⟩ := R0.full fun p hp => (hk p hp).isN I
  obtain ⟨o, ho, hex, hd⟩ := R.ob
  rw [Vals.ref1 r]
  have hes := rowsN_len R.rows
  have hfew := R.few
  have e1 : EachIs (fun v (p : Addr × NestedKey) => v = Value.ref p.1) (es.toList.map (·.2)) L := by rw [R.rows]; exact each_rows L
  refine sorted_setX (bs := L) (enc := fun p => p.2.data) (I.ok.hd hc) ⟨_, ho, hex.1, hd⟩ R.fits (by unfold scanBound; omega) R.tab.ris R.led e1 (each_of_mem e1 fun v p hp e => ?_) hal hso (fun b hb => ?_) fun s' p out L' k g os hp ⟨c, hg⟩ hout pm => ?_
  · obtain ⟨M, d, f, ok, ek⟩ := hk p hp
    rw [ek, nk_data 8 d ok]
    exact Dp.reads I _ _ _ (dpK_of 8 _ _ f ok) (by rw [e]; rfl)
  · have h1 := nk_data_depth b.2
    have h2 := (R.tup b hb).2
    omega
  · have hn : H p = none := I.hok.fresh hp
    have hz : (L'.map fun q => V.ref q.1).length ≤ sizeLine := by rw [List.length_map, pm.length_eq, sizeLine_eq]; omega
    have J : Inv X pins σ (upd H p (.lst (L'.map fun q => V.ref q.1))) { s with heap := s'.heap, gens := s'.gens, drawn := s'.drawn, toks := s'.toks } :=
      I.call (ch := []) (Un.laid k hp hn) (I.hok.laid k hp ⟨hz, out, c, each_refs hout, hg⟩) (by rw [g]; exact I.bare) (fun _ z => nomatch z)
    have e : s' = { s with heap := s'.heap, gens := s'.gens, drawn := s'.drawn, toks := s'.toks } := by
      cases s'
      cases s
      cases os
      rfl
    rw [e]
    exact ⟨.ref p, _, J, rfl, q L' p pm hn⟩
end
end DL
set_option Elab.async false
set_option linter.all false
set_option maxRecDepth 100000
set_option maxHeartbeats 4000000
/-! DL: sorted({..}) by contents. -/
namespace DL
open PySem PySem.Spec PyProof.Rows L2 PpSet
open PySem.W (EachIs alike alikeAll alike_all_cons AllAlike Sortable)
section
variable {K : PySem.W.Frag} {H H' : Hp} {M M' : DM} {D : Addr}
theorem rd_ext {f : Heap → Prop} {o : HO} {a : Addr} {u : HO} (h : H D = some (.ext f)) (hu : ∀ f, u ≠ .ext f) (r : Rd H a u) : Rd (upd H D o) a u := by
  have ne : a ≠ D := by
    rintro rfl
    rcases r with r | ⟨o', r⟩
    · rw [h] at r
      exact hu f (Option.some.inj r).symm
    · rw [h] at r
      cases r
  rcases r with r | ⟨o', r⟩
  · exact .inl (by rw [upd_ne ne]; exact r)
  · exact .inr ⟨o', by rw [upd_ne ne]; exact r⟩
theorem keep_ext {f : Heap → Prop} {o : HO} {a : Addr} {u : HO} (h : H D = some (.ext f)) (hu : ∀ f, u ≠ .ext f) (r : H a = some u) : upd H D o a = some u := by
  have ne : a ≠ D := fun e => by
    rw [e, h] at r
    exact hu f (Option.some.inj r).symm
  rw [upd_ne ne]
  exact r
theorem ne_frz {o : Obj} {u : HO} : ∀ f, HO.frz o u ≠ .ext f := fun _ z => by cases z
theorem ne_tup {vs : List V} : ∀ f, HO.tup vs ≠ .ext f := fun _ z => by cases z
theorem ne_lst {vs : List V} : ∀ f, HO.lst vs ≠ .ext f := fun _ z => by cases z
theorem ne_dK {vs : List (Key × V)} : ∀ f, HO.dK vs ≠ .ext f := fun _ z => by cases z
theorem rd_mov (k : ∀ a u, (∀ f, u ≠ HO.ext f) → H a = some u → H' a = some u) {a : Addr} {u : HO} (hu : ∀ f, u ≠ .ext f) (r : Rd H a u) : Rd H' a u := by
  rcases r with r | ⟨o', r⟩
  · exact .inl (k _ _ hu r)
  · exact .inr ⟨o', k _ _ ne_frz r⟩
theorem fz_mov (k : ∀ a u, (∀ f, u ≠ HO.ext f) → H a = some u → H' a = some u) {v : V} {d : DV} (h : Fz K H M v d) : Fz K H' M v d :=
  Fz.rec (motive_1 := fun v d _ => Fz K H' M v d) (motive_2 := fun vs ds _ => Fzs K H' M vs ds)
    .non .bl .int .str .ty .ref
    (fun h e n _ ih => .tup (k _ _ ne_frz h) e n ih)
    (fun h _ ih => .ktup h ih)
    (fun h n _ ih => .tupW (rd_mov k ne_tup h) n ih)
    (fun h n _ ih => .lst (k _ _ ne_lst h) n ih)
    (fun h n _ ih => .scr (rd_mov k ne_lst h) n ih)
    (fun h _ ih => .kscr h ih)
    (fun h n _ ih => .dK (k _ _ ne_dK h) n ih)
    .nil (fun _ _ i1 i2 => .cons i1 i2) h
theorem fz_ext {f : Heap → Prop} {o : HO} (h : H D = some (.ext f)) {v : V} {d : DV} (x : Fz K H M v d) : Fz K (upd H D o) M v d := fz_mov (fun _ _ hu r => keep_ext h hu r) x
theorem fzs_ext {f : Heap → Prop} {o : HO} (h : H D = some (.ext f)) : ∀ {vs : List V} {ds : List DV}, Fzs K H M vs ds → Fzs K (upd H D o) M vs ds
  | _, _, .nil => .nil
  | _, _, .cons a b => .cons (fz_ext h a) (fzs_ext h b)
theorem kvs_ext {κ : Type} {f : Heap → Prop} {o : HO} (h : H D = some (.ext f)) {a : List (κ × V)} {b : List (κ × DV)} (x : Kvs K H M a b) : Kvs K (upd H D o) M a b := Paired.mapP x fun _ _ z => ⟨z.1, fz_ext h z.2⟩
theorem rel_ext {f : Heap → Prop} {o : HO} (h : H D = some (.ext f)) (r : Rel K H M) : Rel K (upd H D o) M := fun a c e => by
  have q := r a c e
  have ne : a ≠ D := by
    rintro rfl
    obtain ⟨o', e', m⟩ := r.there e
    cases c with
    | lst ds => obtain ⟨vs, z, _⟩ := q; rw [h] at z; cases z
    | dK kvs => obtain ⟨vs, z, _⟩ := q; rw [h] at z; cases z
    | ins C fs => obtain ⟨dx, vs, z, _⟩ := q; rw [h] at z; cases z
  cases c with
  | lst ds => obtain ⟨vs, z, y⟩ := q; exact ⟨vs, by rw [upd_ne ne]; exact z, fzs_ext h y⟩
  | dK kvs => obtain ⟨vs, z, y⟩ := q; exact ⟨vs, by rw [upd_ne ne]; exact z, kvs_ext h y⟩
  | ins C fs => obtain ⟨dx, vs, z, y⟩ := q; exact ⟨dx, vs, by rw [upd_ne ne]; exact z, kvs_ext h y⟩
theorem le_ext {o : HO} (l : Le H M H' M') (h : H D = none) : Le H M (upd H' D o) M' :=
  ⟨fun b u e n => by rw [upd_ne (by rintro rfl; rw [h] at e; cases e)]; exact l.keep b u e n, fun b u e n => l.hid b u e n⟩
end
/-! ### the reading -/
def scGo (ok : List DV → DV → Prop) (g : TGD) (tt : TTD) (te : TED) (sdw : DSt) (chk : DM → Prop) (R : List DV → DM → Prop) : List DV → List DV → DM → Prop
  | [], acc, M => chk M ∧ R acc M
  | x :: xs, acc, M => chk M ∧ g x sdw M fun sd2 M2 => tt sd2 M2 noE fun b M3 => if b = true then te sd2 M3 noE fun y M4 => ok acc y ∧ scGo ok g tt te sdw chk R xs (y :: acc) M4 else scGo ok g tt te sdw chk R xs acc M3
def dSortSC (ok : List DV → DV → Prop) (fin : List DV → Prop) (wi : TID) (g : TGD) (tt : TTD) (te : TED) (vs : List Nat) : TED :=
  fun sd M E Q => wi sd M E fun items chk M1 => scGo ok g tt te (wipeD sd vs) chk (fun acc M2 => fin acc ∧ ∀ ys : List DV, (∀ y, y ∈ ys ↔ y ∈ acc) → ys.length ≤ acc.length → Q (.lst ys) M2) items [] M1
/-- what the set under way is known to be -/
structure SetI (K : PySem.W.Frag) (ok : List DV → DV → Prop) (fin : List DV → Prop) (O0 : Addr → HO) (Add : Addr → V → Hp → (Hp → Prop) → Prop) (r : List V → Hp → VK → Prop) (St : Addr → List DV → Hp → DM → Prop) : Prop where
  new : ∀ D H M, M D = none → St D [] (upd H D (O0 D)) M
  ext0 : ∀ D, ∃ f, O0 D = .ext f
  mono : ∀ D acc H M H' M', St D acc H M → Le H M H' M' → St D acc H' M'
  add : ∀ D acc H M y d (Nx : Hp → Prop), St D acc H M → Fz K H M y d → ok acc d → (∀ o, (∃ f, H D = some (.ext f)) → St D (d :: acc) (upd H D o) M → Nx (upd H D o)) → Add D y H Nx
  done : ∀ D acc H M Qd Q, Rel K H M → St D acc H M → fin acc → (∀ ys : List DV, (∀ y, y ∈ ys ↔ y ∈ acc) → ys.length ≤ acc.length → Qd (.lst ys) M) → PostV K H M Qd Q → r [.ref D] H Q
theorem sc_of {K : PySem.W.Frag} {W : WX} {ok : List DV → DV → Prop} {fin : List DV → Prop} {O0 : Addr → HO} {Add : Addr → V → Hp → (Hp → Prop) → Prop} {r : List V → Hp → VK → Prop} {St : Addr → List DV → Hp → DM → Prop} (S : SetI K ok fin O0 Add r St)
    {wi : TID} {g : TGD} {is : List Nat} {tt : TTD} {te : TED} {vs : List Nat} (hv : ∀ i ∈ is, i ∈ vs) {σ : L2.St} {H : Hp} {Q : VK} :
    lE K W (dSortSC ok fin wi g tt te vs) σ H Q → tScG O0 Add (lI K W wi) (lG K is g) (lT K W0 tt) (lE K W0 te) vs σ H fun x H1 => r [x] H1 Q :=
  fun ⟨sd, M, E, Qd, r0, rs, q, pv, px⟩ => ⟨sd, M, E, _, r0, rs, q, px, fun J H1 M1 ds chk l1 r1 it q1 => fun D hD => by
    have mD := r1.free hD
    refine ⟨fun i m H2 => ∃ acc M2, Le H1 M1 H2 M2 ∧ Rel K H2 M2 ∧ St D acc H2 M2 ∧ i + m = ds.length ∧ scGo ok g tt te (wipeD sd vs) chk (fun acc M2 => fin acc ∧ ∀ ys : List DV, (∀ y, y ∈ ys ↔ y ∈ acc) → ys.length ≤ acc.length → Qd (.lst ys) M2) (ds.drop i) acc M2,
      ⟨ds.length, [], M1, le_new hD mD, r1.new hD, S.new D H1 M1 mD, by omega, q1⟩, fun i m H2 ⟨acc, M2, l2, r2, st2, em, q3⟩ => ?_⟩
    by_cases hi : i < ds.length
    · have hx : ds[i]? = some ds[i] := List.getElem?_eq_getElem hi
      rw [List.drop_eq_getElem_cons hi] at q3
      obtain ⟨ck, q4⟩ := q3
      obtain ⟨go, yl⟩ := (it i H2 M2 l2 r2 ck).1 _ hx
      refine .inr ⟨go, fun H' => ∃ acc' M', Le H1 M1 H' M' ∧ Rel K H' M' ∧ St D acc' H' M' ∧ scGo ok g tt te (wipeD sd vs) chk (fun acc M2 => fin acc ∧ ∀ ys : List DV, (∀ y, y ∈ ys ↔ y ∈ acc) → ys.length ≤ acc.length → Qd (.lst ys) M2) (ds.drop (i + 1)) acc' M', fun H' ⟨acc', M', a, b, c, d⟩ => ⟨m - 1, by omega, acc', M', a, b, c, by omega, d⟩, fun x H' hy => ?_⟩
      obtain ⟨l3, r3, f3⟩ := yl x H' hy
      have rsw : RelS K H' M2 (L2.wipe σ vs) (wipeD sd vs) := (rs.mono ((l1.trans l2).trans l3)).wipe vs
      refine ⟨_, _, M2, _, r3, rsw, f3, q4, fun σ4 sd4 H4 M4 l4 r4 rs4 s4 q5 => ⟨s4.wipe hv, ?_⟩⟩
      refine subT r4 rs4 w0x q5 fun b H5 M5 l5 r5 rs5 px5 q6 => ?_
      cases b with
      | true =>
        refine subE r5 rs5 w0x q6 fun y d H6 M6 l6 r6 rs6 px6 f6 q7 => ?_
        obtain ⟨hk, q8⟩ := q7
        have l26 := (((l3.trans l4).trans l5).trans l6)
        refine S.add D acc H6 M6 y d _ (S.mono D acc _ _ _ _ st2 l26) f6 hk fun o ⟨f, hf⟩ st => ⟨d :: acc, M6, le_ext (l2.trans l26) hD, rel_ext hf r6, st, q8⟩
      | false => exact ⟨acc, M5, ((l2.trans l3).trans l4).trans l5, r5, S.mono D acc _ _ _ _ st2 ((l3.trans l4).trans l5), q6⟩
    · rw [List.drop_eq_nil_of_le (by omega)] at q3
      obtain ⟨ck, q4⟩ := q3
      exact .inl ⟨(it i H2 M2 l2 r2 ck).2 (by omega), S.done D acc H2 M2 Qd Q r2 st2 q4.1 q4.2 (pv.mono (l1.trans l2))⟩⟩
end DL
set_option Elab.async false
set_option linter.all false
set_option maxRecDepth 100000
set_option maxHeartbeats 4000000
/-! DL: sorted({..}) of texts, of nested tuples. -/
namespace DL
open PySem PySem.Spec PyProof.Rows L2 PpSet
open PySem.W (EachIs alike alikeAll alike_all_cons AllAlike Sortable)
section
variable {K : PySem.W.Frag} {P : Program} {w : World}
def okT (acc : List DV) (d : DV) : Prop := (∃ x, d = .str x) ∧ acc.length + 1 < 1000
def finT (_ : List DV) : Prop := True
def StT (P : Program) (w : World) (D : Addr) (acc : List DV) (H : Hp) (M : DM) : Prop := ∃ l : List Str, H D = some (TSO P w D l) ∧ M D = none ∧ (∀ y, y ∈ acc ↔ ∃ x ∈ l, y = .str x) ∧ l.length ≤ acc.length ∧ acc.length < 1000
theorem fzs_strs {H : Hp} {M : DM} : ∀ ys : List Str, Fzs K H M (ys.map V.str) (ys.map DV.str)
  | [] => .nil
  | y :: ys => .cons (.str y) (fzs_strs ys)
theorem setT : SetI K okT finT (fun a => TSO P w a []) (AddT P w) (rSortT P w) (StT P w) where
  new := fun D H M m => ⟨[], upd_same, m, fun y => by simp, Nat.le_refl _, by decide⟩
  ext0 := fun D => ⟨_, rfl⟩
  mono := fun D acc H M H' M' ⟨l, h, m, a, b, c⟩ le => ⟨l, le.keep _ _ h m, le.hid _ _ h m, a, b, c⟩
  add := fun D acc H M y d Nx ⟨l, h, m, a, b, c⟩ f ok nx => by
    obtain ⟨⟨x, rfl⟩, hz⟩ := ok
    refine ⟨x, l, f.str_inv, h, by unfold scanBound; omega, nx _ ⟨_, h⟩ ⟨_, upd_same, m, fun y => ?_, ?_, by rw [List.length_cons]; exact hz⟩⟩
    · rw [List.mem_cons, a y]
      by_cases hx : x ∈ l
      · rw [if_pos hx]
        exact ⟨fun z => z.elim (fun e => ⟨x, hx, e⟩) id, .inr⟩
      · rw [if_neg hx]
        constructor
        · rintro (e | ⟨z, hz, e⟩)
          · exact ⟨x, List.mem_cons_self .., e⟩
          · exact ⟨z, List.mem_cons_of_mem _ hz, e⟩
        · rintro ⟨z, hz, e⟩
          rcases List.mem_cons.mp hz with rfl | hz
          · exact .inl e
          · exact .inr ⟨z, hz, e⟩
    · rw [List.length_cons]
      split
      · omega
      · rw [List.length_cons]; omega
  done := fun D acc H M Qd Q r ⟨l, h, m, a, b, c⟩ _ q pv => by
    refine ⟨D, l, rfl, h, by unfold scanBound; omega, fun ys p hy hl hp => ?_⟩
    obtain ⟨le, r2, f⟩ := new_lst r (fzs_strs (K := K) (H := H) (M := M) ys) hp
    refine pv _ _ _ _ le r2 f (q (ys.map .str) (fun y => ?_) (by rw [List.length_map, hl]; exact b))
    rw [a y, List.mem_map]
    exact ⟨fun ⟨x, hx, e⟩ => ⟨x, (hy x).mp hx, e.symm⟩, fun ⟨x, hx, e⟩ => ⟨x, (hy x).mpr hx, e.symm⟩⟩
def okN (acc : List DV) (d : DV) : Prop := (∃ ds, d = .tup ds) ∧ okK 8 d ∧ acc.length + 1 < 64
def finN (acc : List DV) : Prop := AllAlike (acc.map toPy) ∧ ∀ d ∈ acc, ∃ x ds, d = .tup (x :: ds)
def StN (K : PySem.W.Frag) (P : Program) (w : World) (D : Addr) (acc : List DV) (H : Hp) (M : DM) : Prop :=
  ∃ L, H D = some (NSO P w D L) ∧ M D = none ∧ (∀ p ∈ L, ∃ d ∈ acc, Fz K H M (.ref p.1) d ∧ p.2 = nk d) ∧ (∀ d ∈ acc, okK 8 d ∧ ∃ p ∈ L, p.2 = nk d) ∧ L.length ≤ acc.length ∧ acc.length < 64
theorem nk_inj {d e : DV} (hd : okK 8 d) (he : okK 8 e) (h : nk d = nk e) : d = e := toPy_inj 8 d e hd he (by rw [← nk_data 8 d hd, ← nk_data 8 e he, h])
theorem pick_all {H : Hp} {M : DM} {acc : List DV} : ∀ L : List (Addr × NestedKey), (∀ p ∈ L, ∃ d ∈ acc, Fz K H M (.ref p.1) d ∧ p.2 = nk d) → ∃ ys, Fzs K H M (L.map fun q => V.ref q.1) ys ∧ ys.length = L.length ∧ (∀ y ∈ ys, y ∈ acc ∧ ∃ p ∈ L, p.2 = nk y) ∧ ∀ p ∈ L, ∃ y ∈ ys, p.2 = nk y
  | [], _ => ⟨[], .nil, rfl, fun y h => (by cases h), fun p h => (by cases h)⟩
  | p :: L, h => by
    obtain ⟨d, h1, h2, h3⟩ := h p (List.mem_cons_self ..)
    obtain ⟨ys, f, hl, h4, h5⟩ := pick_all L fun q hq => h q (List.mem_cons_of_mem _ hq)
    refine ⟨d :: ys, .cons h2 f, by rw [List.length_cons, List.length_cons, hl], fun y hy => ?_, fun q hq => ?_⟩
    · rcases List.mem_cons.mp hy with rfl | hy
      · exact ⟨h1, p, List.mem_cons_self .., h3⟩
      · obtain ⟨a, q, hq, e⟩ := h4 y hy
        exact ⟨a, q, List.mem_cons_of_mem _ hq, e⟩
    · rcases List.mem_cons.mp hq with rfl | hq
      · exact ⟨d, List.mem_cons_self .., h3⟩
      · obtain ⟨y, hy, e⟩ := h5 q hq
        exact ⟨y, List.mem_cons_of_mem _ hy, e⟩
theorem setN : SetI K okN finN (fun a => NSO P w a []) (AddN K P w) (rSortN K P w) (StN K P w) where
  new := fun D H M m => ⟨[], upd_same, m, fun p h => (by cases h), fun d h => (by cases h), Nat.le_refl _, by decide⟩
  ext0 := fun D => ⟨_, rfl⟩
  mono := fun D acc H M H' M' ⟨L, h, m, a, b, c⟩ le => ⟨L, le.keep _ _ h m, le.hid _ _ h m, fun p hp => let ⟨d, x, y, z⟩ := a p hp; ⟨d, x, y.mono le, z⟩, b, c⟩
  add := fun D acc H M y d Nx ⟨L, h, m, a, b, c, c2⟩ f ok nx => by
    obtain ⟨⟨ds, rfl⟩, hk, hz⟩ := ok
    obtain ⟨x, vs, rfl, _, _⟩ := f.tup_inv
    refine ⟨x, nk (.tup ds), L, rfl, h, ⟨M, _, f, hk, rfl⟩, fun p hp => ?_, by omega, fun L' h1 h2 => nx _ ⟨_, h⟩ ⟨L', upd_same, m, fun p hp => ?_, fun e he => ?_, ?_, by rw [List.length_cons]; exact hz⟩⟩
    · obtain ⟨e, he, g, q⟩ := a p hp
      exact ⟨M, e, g, (b e he).1, q⟩
    · by_cases hm : nk (.tup ds) ∈ L.map (·.2)
      · rw [h1 hm] at hp
        obtain ⟨e, he, g, q⟩ := a p hp
        exact ⟨e, List.mem_cons_of_mem _ he, fz_ext h g, q⟩
      · rcases List.mem_cons.mp ((h2 hm).mem_iff.mp hp) with rfl | hp
        · exact ⟨_, List.mem_cons_self .., fz_ext h f, rfl⟩
        · obtain ⟨e, he, g, q⟩ := a p hp
          exact ⟨e, List.mem_cons_of_mem _ he, fz_ext h g, q⟩
    · by_cases hm : nk (.tup ds) ∈ L.map (·.2)
      · rw [h1 hm]
        rcases List.mem_cons.mp he with rfl | he
        · obtain ⟨p, hp, e⟩ := List.mem_map.mp hm
          exact ⟨hk, p, hp, e⟩
        · exact b e he
      · rcases List.mem_cons.mp he with rfl | he
        · exact ⟨hk, _, (h2 hm).mem_iff.mpr (List.mem_cons_self ..), rfl⟩
        · obtain ⟨q1, p, hp, q2⟩ := b e he
          exact ⟨q1, p, (h2 hm).mem_iff.mpr (List.mem_cons_of_mem _ hp), q2⟩
    · rw [List.length_cons]
      by_cases hm : nk (.tup ds) ∈ L.map (·.2)
      · rw [h1 hm]; omega
      · rw [(h2 hm).length_eq, List.length_cons]; omega
  done := fun D acc H M Qd Q r ⟨L, h, m, a, b, c, c2⟩ fin q pv => by
    have dat : ∀ p ∈ L, ∃ d ∈ acc, p.2.data = toPy d := fun p hp => by
      obtain ⟨e, he, g, z⟩ := a p hp
      exact ⟨e, he, by rw [z, nk_data 8 e (b e he).1]⟩
    refine ⟨D, L, rfl, h, fun p hp => ?_, fun x hx y hy => ?_, .inl fun x hx => ?_, fun L' p pm hp => ?_⟩
    · obtain ⟨e, he, g, z⟩ := a p hp
      exact ⟨M, e, g, (b e he).1, z⟩
    · obtain ⟨p, hp, rfl⟩ := List.mem_map.mp hx
      obtain ⟨p2, hp2, rfl⟩ := List.mem_map.mp hy
      obtain ⟨d, hd, e⟩ := dat p hp
      obtain ⟨d2, hd2, e2⟩ := dat p2 hp2
      rw [e, e2]
      exact fin.1 _ (List.mem_map.mpr ⟨d, hd, rfl⟩) _ (List.mem_map.mpr ⟨d2, hd2, rfl⟩)
    · obtain ⟨p, hp, rfl⟩ := List.mem_map.mp hx
      obtain ⟨d, hd, e⟩ := dat p hp
      obtain ⟨y, ds, rfl⟩ := fin.2 d hd
      exact ⟨toPy y, toPys ds, by rw [e, toPy, toPys]⟩
    · obtain ⟨ys, f, hl, h4, h5⟩ := pick_all (K := K) (H := H) (M := M) (acc := acc) L' fun p hp => a p (pm.mem_iff.mp hp)
      obtain ⟨le, r2, fz⟩ := new_lst r f hp
      refine pv _ _ _ _ le r2 fz (q ys (fun y => ⟨fun hy => (h4 y hy).1, fun hy => ?_⟩) (by rw [hl, pm.length_eq]; exact c))
      obtain ⟨hk, p, hp, e⟩ := b y hy
      obtain ⟨y', hy', e'⟩ := h5 p (pm.mem_iff.mpr hp)
      have := nk_inj hk (b y' (h4 y' hy').1).1 (e.symm.trans e')
      rw [this]
      exact hy'
end
section
variable {X : Cx} {W : WX} {elt tg iter : Expr} {ifs : List Expr} {scope : Scope} {own : List (Str × Nat)} {pos p1 p2 : Pos} {wi : TID} {g : TGD} {is : List Nat} {tt : TTD} {te : TED}
theorem de_sortT (hm : X.mg "sorted" = none) (hgl : Gl X "sorted") (hu : X.A.units + 65 < cLine) (hc : X.calm = true) (hN : X.N.Nodup) (hi : DI X W tg iter wi) (hok : BlkOk X.N X.env.scope scope own)
    (hg : ∀ (s : Shared) (H : Hp) (C : Addr) (cl : List (Str × Addr)) (fp : List Addr), DG (X.blk s H scope (compEnvC scope cl C X.env) fp) tg is g) (ht : ∀ (s : Shared) (H : Hp) (C : Addr) (cl : List (Str × Addr)) (fp : List Addr), DTs (X.blk s H scope (compEnvC scope cl C X.env) fp) W0 ifs tt)
    (he : ∀ (s : Shared) (H : Hp) (C : Addr) (cl : List (Str × Addr)) (fp : List Addr), DE (X.blk s H scope (compEnvC scope cl C X.env) fp) W0 elt te) (hv : ∀ i ∈ is, i ∈ own.map (·.2) := by decide) (hs : ∀ x, foldedSetIterable iter X.env x = pure x := by intro _; rfl)
    (hs1 : starEach [Expr.SetComp elt [⟨tg, iter, ifs, 0⟩] scope pos] X.env = (false, eval (.SetComp elt [⟨tg, iter, ifs, 0⟩] scope pos) X.env) :: starEach [] X.env := by rfl) (hpl : (backTo p2 (starEach [] X.env)).any (·.1) = false := by rfl) :
    DE X W (.Call (.Name "sorted" p1) [.SetComp elt [⟨tg, iter, ifs, 0⟩] scope pos] [] p2) (dSortSC okT finT wi g tt te (own.map (·.2))) :=
  PE.cons (pe_callB (cr_sortT hc (by omega)) hgl hm (by decide +kernel) (pa_cons (pe_scG (g := lG X.K is g) (tt := lT X.K W0 tt) (te := lE X.K W0 te) (tso_fresh X) (addT_ok X) hc hN hi hok hg ht he hs) pa_nil hs1) (he := hs1) (hpl := hpl)) fun σ H Q q => sc_of (K := X.K) (W := W) (is := is) setT hv q
theorem de_sortN (hm : X.mg "sorted" = none) (hgl : Gl X "sorted") (hu : X.A.units + 65 < cLine) (hc : X.calm = true) (hN : X.N.Nodup) (hi : DI X W tg iter wi) (hok : BlkOk X.N X.env.scope scope own)
    (hg : ∀ (s : Shared) (H : Hp) (C : Addr) (cl : List (Str × Addr)) (fp : List Addr), DG (X.blk s H scope (compEnvC scope cl C X.env) fp) tg is g) (ht : ∀ (s : Shared) (H : Hp) (C : Addr) (cl : List (Str × Addr)) (fp : List Addr), DTs (X.blk s H scope (compEnvC scope cl C X.env) fp) W0 ifs tt)
    (he : ∀ (s : Shared) (H : Hp) (C : Addr) (cl : List (Str × Addr)) (fp : List Addr), DE (X.blk s H scope (compEnvC scope cl C X.env) fp) W0 elt te) (hv : ∀ i ∈ is, i ∈ own.map (·.2) := by decide) (hs : ∀ x, foldedSetIterable iter X.env x = pure x := by intro _; rfl)
    (hs1 : starEach [Expr.SetComp elt [⟨tg, iter, ifs, 0⟩] scope pos] X.env = (false, eval (.SetComp elt [⟨tg, iter, ifs, 0⟩] scope pos) X.env) :: starEach [] X.env := by rfl) (hpl : (backTo p2 (starEach [] X.env)).any (·.1) = false := by rfl) :
    DE X W (.Call (.Name "sorted" p1) [.SetComp elt [⟨tg, iter, ifs, 0⟩] scope pos] [] p2) (dSortSC okN finN wi g tt te (own.map (·.2))) :=
  PE.cons (pe_callB (cr_sortN hc (by omega)) hgl hm (by decide +kernel) (pa_cons (pe_scG (g := lG X.K is g) (tt := lT X.K W0 tt) (te := lE X.K W0 te) (nso_fresh X) (addN_ok X (by omega)) hc hN hi hok hg ht he hs) pa_nil hs1) (he := hs1) (hpl := hpl)) fun σ H Q q => sc_of (K := X.K) (W := W) (is := is) setN hv q
end
end DL
set_option Elab.async false
set_option linter.all false
set_option maxRecDepth 100000
set_option maxHeartbeats 4000000
/-! DL: calls that leave defaults away. -/
namespace DL
open PySem PySem.Spec PyProof.Rows L2
def dCallD (sp : DSp) (t : TAD) (dds : List DV) : TED := fun sd M E Q => t sd M E fun ds M1 => sp (ds ++ dds) M1 noX Q
/-- values that no heap tells -/
def KV0 (K : PySem.W.Frag) (dvs : List V) (dds : List DV) : Prop := ∀ H M, Fzs K H M dvs dds
def DBinds (K : PySem.W.Frag) (fd : FuncData) (ps : List Str) (dvs : List V) : Prop := ∃ ds, Vals dvs ds ∧ Binds K fd ps ds
theorem fzs_app {K : PySem.W.Frag} {H : Hp} {M : DM} {vs ws : List V} {ds es : List DV} (a : Fzs K H M vs ds) (b : Fzs K H M ws es) : Fzs K H M (vs ++ ws) (ds ++ es) := a.append b
section
variable {X : Cx} {W : WX} {k : Nat} {f : Addr} {fd : FuncData} {ps : List Str} {sp : DSp} {x : Str} {p pos : Pos} {e : Expr} {es : List Expr} {t : TAD} {dvs : List V} {dds : List DV}
theorem de_callD (F : FnOk X.prog X.w X.K X.mg X.base CX0 k f fd ps (lSp X.K sp)) (hr : Room k X.A) (hg : Gl X x) (hm : X.mg x = some (.ref f)) (hk : PySem.W.keepIn X.K (.ref f) = true) (hb : DBinds X.K fd ps dvs) (hd : KV0 X.K dvs dds)
    (ha : DA X W (e :: es) t) (hdb : (x == ("__debug__" : Str)) = false := by decide) (he : starEach (e :: es) X.env = (false, eval e X.env) :: starEach es X.env := by rfl) (hpl : (backTo pos (starEach es X.env)).any (·.1) = false := by rfl) :
    DE X W (.Call (.Name x p) (e :: es) [] pos) (dCallD sp t dds) := by
  obtain ⟨us, rv, hb⟩ := hb
  exact PE.cons (pe_call F hr hg hm hk hb rv pass0 ha hdb he hpl) fun σ H Q ⟨sd, M, E, Qd, r, rs, q, pv, px⟩ =>
    subA r rs px q fun vs ds H1 M1 l1 r1 _ _ f1 q1 => by
      show lSp X.K sp (vs ++ dvs) H1 Q E0
      exact ⟨ds ++ dds, M1, noX, Qd, r1, fzs_app f1 (hd H1 M1), q1, pv.mono l1, fun _ _ _ _ _ _ _ _ z => z.elim⟩
end
end DL
set_option Elab.async false
set_option linter.all false
set_option maxRecDepth 100000
set_option maxHeartbeats 4000000
/-! DL: loops by invariants. -/
namespace DL
open PySem PySem.Spec PyProof.Rows L2
theorem for_ind {g : TGD} {tb : TSD} {D : DEnds} {chk : DM → Prop} (I : List DV → DSt → DM → Prop) (done : ∀ sd M, I [] sd M → chk M ∧ D.nx sd M)
    (step : ∀ x xs sd M (Kf : DSt → DM → Prop), I (x :: xs) sd M → (∀ sd M, I xs sd M → Kf sd M) → chk M ∧ g x sd M fun sd2 M2 => tb { D with nx := Kf, ct := Kf, bk := D.nx } sd2 M2) : ∀ items sd M, I items sd M → forGo g tb D chk items sd M
  | [], sd, M, h => done sd M h
  | x :: xs, sd, M, h => step x xs sd M (forGo g tb D chk xs) h fun sd M h => for_ind I done step xs sd M h
/-- the new list's cell is p; what else a turn changes is J's to say -/
theorem lc_inv {g : TGD} {tt : TTD} {te : TED} {sdw : DSt} {chk : DM → Prop} {p : Addr} {R : DM → Prop} (I : List DV → List DV → DM → Prop) (hI : ∀ xs acc M, I xs acc M → M p = some (.lst acc) ∧ acc.length + xs.length ≤ sizeLine)
    (done : ∀ acc M, I [] acc M → chk M ∧ R M)
    (step : ∀ x xs acc M (Ky : DVK) (Kn : DM → Prop), I (x :: xs) acc M → (∀ y M', M' p = some (.lst acc) → I xs (acc ++ [y]) (put M' p (.lst (acc ++ [y]))) → Ky y M') → (∀ M', I xs acc M' → Kn M') → chk M ∧ lcStep g tt te sdw x M Ky Kn) :
    ∀ items acc M, I items acc M → lcGo g tt te sdw chk p R items M
  | [], acc, M, h => done acc M h
  | x :: xs, acc, M, h => by
    refine step x xs acc M _ _ h (fun y M' e i => ?_) fun M' i => lc_inv I hI done step xs acc M' i
    rw [seqD_ref e]
    have := (hI _ _ _ h).2
    rw [List.length_cons] at this
    exact ⟨by omega, lc_inv I hI done step xs (acc ++ [y]) _ i⟩
theorem sc_map {ok : List DV → DV → Prop} {g : TGD} {tt : TTD} {te : TED} {sdw : DSt} {chk : DM → Prop} {R : List DV → DM → Prop} {M : DM} (f : DV → DV) (n : Nat) (hc : chk M) :
    ∀ (items acc : List DV), (∀ x ∈ items, ∀ (Ky : DVK) (Kn : DM → Prop), Ky (f x) M → lcStep g tt te sdw x M Ky Kn) → (∀ x ∈ items, ∀ acc : List DV, acc.length < n → ok acc (f x)) → acc.length + items.length ≤ n →
      R ((items.map f).reverse ++ acc) M → scGo ok g tt te sdw chk R items acc M
  | [], acc, _, _, _, q => ⟨hc, by simpa using q⟩
  | x :: xs, acc, hs, ho, hl, q => by
    rw [List.length_cons] at hl
    refine ⟨hc, hs x (List.mem_cons_self ..) _ _ ⟨ho x (List.mem_cons_self ..) acc (by omega), ?_⟩⟩
    refine sc_map f n hc xs (f x :: acc) (fun y hy => hs y (List.mem_cons_of_mem _ hy)) (fun y hy => ho y (List.mem_cons_of_mem _ hy)) (by rw [List.length_cons]; omega) ?_
    simpa using q
theorem strs_of : ∀ ys : List DV, (∀ y ∈ ys, ∃ x : Str, y = .str x) → ∃ zs : List Str, ys = zs.map .str
  | [], _ => ⟨[], rfl⟩
  | y :: ys, h => by
    obtain ⟨x, rfl⟩ := h y (List.mem_cons_self ..)
    obtain ⟨zs, e⟩ := strs_of ys fun z hz => h z (List.mem_cons_of_mem _ hz)
    exact ⟨x :: zs, by rw [List.map_cons, e]⟩
theorem map_of {α : Type} (f : α → DV) : ∀ ys : List DV, (∀ y ∈ ys, ∃ x, y = f x) → ∃ zs : List α, ys = zs.map f
  | [], _ => ⟨[], rfl⟩
  | y :: ys, h => by
    obtain ⟨x, rfl⟩ := h y (List.mem_cons_self ..)
    obtain ⟨zs, e⟩ := map_of f ys fun z hz => h z (List.mem_cons_of_mem _ hz)
    exact ⟨x :: zs, by rw [List.map_cons, e]⟩
end DL
namespace DL
open PySem PySem.Spec PyProof.Rows L2
theorem at_0 {α : Type} {x : α} {l : List α} : atI (x :: l) 0 = some x := by
  unfold atI ixN
  rw [if_pos (by omega), if_pos (by rw [List.length_cons]; omega)]
  rfl
theorem at_1 {α : Type} {x y : α} {l : List α} : atI (x :: y :: l) 1 = some y := by
  unfold atI ixN
  rw [if_pos (by omega), if_pos (by rw [List.length_cons, List.length_cons]; omega)]
  rfl
theorem at_2 {α : Type} {x y z : α} {l : List α} : atI (x :: y :: z :: l) 2 = some z := by
  unfold atI ixN
  rw [if_pos (by omega), if_pos (by rw [List.length_cons, List.length_cons, List.length_cons]; omega)]
  rfl
theorem at_3 {α : Type} {x y z u : α} {l : List α} : atI (x :: y :: z :: u :: l) 3 = some u := by
  unfold atI ixN
  rw [if_pos (by omega), if_pos (by rw [List.length_cons, List.length_cons, List.length_cons, List.length_cons]; omega)]
  rfl
theorem and_of {p q : Prop} (hp : p) (hq : q) : p ∧ q := ⟨hp, hq⟩
end DL
namespace DL
open PySem PySem.Spec PyProof.Rows L2
section
variable {g : TGD} {tb : TSD} {D : DEnds} {chk : DM → Prop}
theorem for_at (I : Nat → DSt → DM → Prop) (items : List DV) (done : ∀ sd M, I items.length sd M → chk M ∧ D.nx sd M)
    (step : ∀ i (h : i < items.length) sd M (Kf : DSt → DM → Prop), I i sd M → (∀ sd M, I (i + 1) sd M → Kf sd M) → chk M ∧ g items[i] sd M fun sd2 M2 => tb { D with nx := Kf, ct := Kf, bk := D.nx } sd2 M2) {sd : DSt} {M : DM} (h : I 0 sd M) : forGo g tb D chk items sd M := by
  refine for_ind (fun xs sd M => ∃ i, i ≤ items.length ∧ xs = items.drop i ∧ I i sd M) (fun sd M ⟨i, hi, e, q⟩ => ?_) (fun x xs sd M Kf ⟨i, hi, e, q⟩ kf => ?_) items sd M ⟨0, Nat.zero_le _, rfl, h⟩
  · have : i = items.length := by
      have := congrArg List.length e
      rw [List.length_drop, List.length_nil] at this
      omega
    subst this
    exact done sd M q
  · have hlt : i < items.length := by
      have := congrArg List.length e
      rw [List.length_drop, List.length_cons] at this
      omega
    rw [List.drop_eq_getElem_cons hlt] at e
    injection e with e1 e2
    subst e1 e2
    exact step i hlt sd M Kf q fun sd M q => kf sd M ⟨i + 1, hlt, rfl, q⟩
theorem rangeD_len {lo : Int} {n : Nat} : (rangeD lo n).length = n := by unfold rangeD; rw [List.length_map, List.length_range]
theorem rangeD_get {lo : Int} {n i : Nat} (h : i < (rangeD lo n).length) : (rangeD lo n)[i] = .int (lo + (i : Nat)) := by
  refine Option.some.inj ((List.getElem?_eq_getElem h).symm.trans ?_)
  rw [rangeD_len] at h
  unfold rangeD
  rw [List.getElem?_map, List.getElem?_range h]
  rfl
theorem enumL_len {ds : List DV} : (enumL ds).length = ds.length := by unfold enumL; rw [List.length_map, List.length_zipIdx]
theorem enumL_at {ds : List DV} {i : Nat} (h : i < (enumL ds).length) : (enumL ds)[i] = .tupW [.int (i : Nat), ds[i]'(by rw [← enumL_len]; exact h)] := by
  obtain ⟨x, e1, e2⟩ := enumL_get (List.getElem?_eq_getElem h)
  rw [e2]
  rw [List.getElem?_eq_getElem (by rw [← enumL_len]; exact h)] at e1
  cases e1
  rfl
theorem for_range (I : Nat → DSt → DM → Prop) {lo : Int} {n : Nat} (done : ∀ sd M, I n sd M → chk M ∧ D.nx sd M)
    (step : ∀ i, i < n → ∀ sd M (Kf : DSt → DM → Prop), I i sd M → (∀ sd M, I (i + 1) sd M → Kf sd M) → chk M ∧ g (.int (lo + (i : Nat))) sd M fun sd2 M2 => tb { D with nx := Kf, ct := Kf, bk := D.nx } sd2 M2) {sd : DSt} {M : DM} (h : I 0 sd M) : forGo g tb D chk (rangeD lo n) sd M := by
  refine for_at I _ (fun sd M q => done sd M (by rw [rangeD_len] at q; exact q)) (fun i hi sd M Kf q kf => ?_) h
  rw [rangeD_get hi]
  rw [rangeD_len] at hi
  exact step i hi sd M Kf q kf
theorem for_enum (I : Nat → DSt → DM → Prop) {α : Type} {f : α → DV} {xs : List α} (done : ∀ sd M, I xs.length sd M → chk M ∧ D.nx sd M)
    (step : ∀ i (h : i < xs.length) sd M (Kf : DSt → DM → Prop), I i sd M → (∀ sd M, I (i + 1) sd M → Kf sd M) → chk M ∧ g (.tupW [.int (i : Nat), f xs[i]]) sd M fun sd2 M2 => tb { D with nx := Kf, ct := Kf, bk := D.nx } sd2 M2) {sd : DSt} {M : DM} (h : I 0 sd M) : forGo g tb D chk (enumL (xs.map f)) sd M := by
  refine for_at I _ (fun sd M q => done sd M (by rw [enumL_len, List.length_map] at q; exact q)) (fun i hi sd M Kf q kf => ?_) h
  rw [enumL_at hi]
  have hi' : i < xs.length := by rw [enumL_len, List.length_map] at hi; exact hi
  rw [List.getElem_map]
  exact step i hi' sd M Kf q kf
theorem for_map (I : Nat → DSt → DM → Prop) {α : Type} {f : α → DV} {xs : List α} (done : ∀ sd M, I xs.length sd M → chk M ∧ D.nx sd M)
    (step : ∀ i (h : i < xs.length) sd M (Kf : DSt → DM → Prop), I i sd M → (∀ sd M, I (i + 1) sd M → Kf sd M) → chk M ∧ g (f xs[i]) sd M fun sd2 M2 => tb { D with nx := Kf, ct := Kf, bk := D.nx } sd2 M2) {sd : DSt} {M : DM} (h : I 0 sd M) : forGo g tb D chk (xs.map f) sd M := by
  refine for_at I _ (fun sd M q => done sd M (by rw [List.length_map] at q; exact q)) (fun i hi sd M Kf q kf => ?_) h
  have hi' : i < xs.length := by rw [List.length_map] at hi; exact hi
  rw [List.getElem_map]
  exact step i hi' sd M Kf q kf
end
end DL
set_option Elab.async false
set_option linter.all false
set_option maxRecDepth 100000
set_option maxHeartbeats 4000000
/-! k78: what the rules' parts say, in plain Lean. -/
namespace K78
open PySem PySem.Spec PyProof.Rows L2 DL
/-! ### the first that is not zero -/
def fnz : List Int → Int
  | [] => 0
  | x :: r => if x = 0 then fnz r else x
theorem fnz_zero : ∀ {l : List Int}, fnz l = 0 ↔ ∀ x ∈ l, x = 0
  | [] => ⟨fun _ x h => (by cases h), fun _ => rfl⟩
  | x :: r => by
    unfold fnz
    by_cases e : x = 0
    · rw [if_pos e, fnz_zero (l := r)]
      exact ⟨fun h y hy => (List.mem_cons.mp hy).elim (fun z => z.trans e) (h y), fun h y hy => h y (List.mem_cons_of_mem _ hy)⟩
    · rw [if_neg e]
      exact ⟨fun h => absurd h e, fun h => absurd (h x (List.mem_cons_self ..)) e⟩
theorem fnz_app : ∀ (l m : List Int), fnz (l ++ m) = if fnz l = 0 then fnz m else fnz l
  | [], m => by simp [fnz]
  | x :: r, m => by
    rw [List.cons_append]
    show (if x = 0 then fnz (r ++ m) else x) = if (if x = 0 then fnz r else x) = 0 then fnz m else (if x = 0 then fnz r else x)
    by_cases e : x = 0
    · rw [if_pos e, if_pos e, fnz_app r m]
    · rw [if_neg e, if_neg e, if_neg e]
theorem fnz_neg : ∀ l : List Int, fnz (l.map fun x => -x) = -fnz l
  | [] => rfl
  | x :: r => by
    rw [List.map_cons]
    unfold fnz
    by_cases e : x = 0
    · rw [if_pos e, if_pos (by omega), fnz_neg r]
    · rw [if_neg e, if_neg (by omega)]
theorem fnz_at : ∀ {l : List Int}, fnz l ≠ 0 → ∃ i, ∃ h : i < l.length, l[i] = fnz l ∧ ∀ x ∈ l.take i, x = 0
  | [], h => absurd rfl h
  | x :: r, h => by
    unfold fnz at h ⊢
    by_cases e : x = 0
    · rw [if_pos e] at h ⊢
      obtain ⟨i, hi, q, z⟩ := fnz_at (l := r) h
      refine ⟨i + 1, Nat.succ_lt_succ hi, q, fun y hy => ?_⟩
      rw [List.take_succ_cons] at hy
      rcases List.mem_cons.mp hy with w | hy
      · exact w.trans e
      · exact z y hy
    · rw [if_neg e] at h ⊢
      exact ⟨0, Nat.zero_lt_succ _, rfl, fun y hy => by simp at hy⟩
theorem fnz_of : ∀ {l : List Int} {i : Nat} (h : i < l.length), (∀ x ∈ l.take i, x = 0) → l[i] ≠ 0 → fnz l = l[i]
  | [], i, h, _, _ => absurd h (Nat.not_lt_zero _)
  | x :: r, 0, _, _, q => by
    unfold fnz
    exact if_neg q
  | x :: r, i + 1, h, z, q => by
    unfold fnz
    rw [if_pos (z x (by rw [List.take_succ_cons]; exact List.mem_cons_self ..))]
    exact fnz_of (l := r) (Nat.lt_of_succ_lt_succ h) (fun y hy => z y (by rw [List.take_succ_cons]; exact List.mem_cons_of_mem _ hy)) q
def V1 (l : List Int) : Prop := ∀ x ∈ l, x = -1 ∨ x = 0 ∨ x = 1
theorem fnz_v1 {l : List Int} (h : V1 l) : fnz l = -1 ∨ fnz l = 0 ∨ fnz l = 1 := by
  by_cases e : fnz l = 0
  · exact .inr (.inl e)
  · obtain ⟨i, hi, q, _⟩ := fnz_at e
    rw [← q]
    exact h _ (List.getElem_mem hi)
/-- the parts of two lists of signs -/
theorem parts_core {A B : List Int} (hA : V1 A) (hB : V1 B) :
    ((fnz A = 0 ∧ ∃ x ∈ B, x ≠ 0) ∨ ∃ i j, ∃ (hi : i < A.length) (hj : j < B.length), fnz (A.take i ++ B.take j) = 0 ∧ A[i] * B[j] < 0) ↔ ¬ (fnz B = 0 ∨ fnz B = fnz A) := by
  constructor
  · rintro (⟨h1, x, hx, h2⟩ | ⟨i, j, hi, hj, h1, h2⟩) h
    · have n : fnz B ≠ 0 := fun z => h2 (fnz_zero.mp z x hx)
      rcases h with h | h
      · exact n h
      · exact n (h.trans h1)
    · have z := fnz_zero.mp h1
      have a0 : A[i] ≠ 0 := fun e => by rw [e, Int.zero_mul] at h2; exact Int.lt_irrefl _ h2
      have b0 : B[j] ≠ 0 := fun e => by rw [e, Int.mul_zero] at h2; exact Int.lt_irrefl _ h2
      have ea := fnz_of hi (fun x hx => z x (List.mem_append_left _ hx)) a0
      have eb := fnz_of hj (fun x hx => z x (List.mem_append_right _ hx)) b0
      rcases h with h | h
      · exact b0 (eb.symm.trans h)
      · rw [eb, ea] at h
        rw [h] at h2
        rcases Int.le_total 0 A[i] with z | z
        · exact absurd (Int.mul_nonneg z z) (by omega)
        · have := Int.mul_nonneg (a := -A[i]) (b := -A[i]) (by omega) (by omega)
          rw [Int.neg_mul_neg] at this
          omega
  · intro h
    have hb : fnz B ≠ 0 := fun z => h (.inl z)
    obtain ⟨j, hj, eb, zb⟩ := fnz_at hb
    by_cases ha : fnz A = 0
    · exact .inl ⟨ha, B[j], List.getElem_mem hj, by rw [eb]; exact hb⟩
    · obtain ⟨i, hi, ea, za⟩ := fnz_at ha
      refine .inr ⟨i, j, hi, hj, fnz_zero.mpr fun x hx => ?_, ?_⟩
      · rcases List.mem_append.mp hx with hx | hx
        · exact za x hx
        · exact zb x hx
      · rw [ea, eb]
        have n : fnz B ≠ fnz A := fun e => h (.inr e)
        rcases fnz_v1 hA with a | a | a <;> rcases fnz_v1 hB with b | b | b <;> first | (exact absurd a ha) | (exact absurd b hb) | (exact absurd (b.trans a.symm) n) | (rw [a, b]; decide)
/-! ### items -/
def fall (x : Str) : Bool := decide (x.cps.toList.head? = some 45)
def col (x : Str) : Str := if fall x = true then cutS x (some 1) none else x
def sg (f : Str → Int) (it : Str) : Int := if fall it = true then -(f (col it)) else f (col it)
def lexM (f : Str → Int) (items : List Str) : Int := fnz (items.map (sg f))
def keepsF (f : Str → Int) (a b : List Str) : Bool := decide (lexM f b = 0) || decide (lexM f b = lexM f a)
def V1f (f : Str → Int) : Prop := ∀ x, f x = -1 ∨ f x = 0 ∨ f x = 1
theorem sg_v1 {f : Str → Int} (h : V1f f) (it : Str) : sg f it = -1 ∨ sg f it = 0 ∨ sg f it = 1 := by
  unfold sg
  have := h (col it)
  split <;> omega
theorem sg_zero {f : Str → Int} {it : Str} : sg f it = 0 ↔ f (col it) = 0 := by
  unfold sg
  split <;> omega
theorem v1_map {f : Str → Int} (h : V1f f) (l : List Str) : V1 (l.map (sg f)) := fun x hx => by
  obtain ⟨it, _, rfl⟩ := List.mem_map.mp hx
  exact sg_v1 h it
theorem lexM_zero {f : Str → Int} {l : List Str} : lexM f l = 0 ↔ ∀ it ∈ l, f (col it) = 0 := by
  unfold lexM
  rw [fnz_zero]
  exact ⟨fun h it hi => sg_zero.mp (h _ (List.mem_map.mpr ⟨it, hi, rfl⟩)), fun h x hx => by
    obtain ⟨it, hi, rfl⟩ := List.mem_map.mp hx
    exact sg_zero.mpr (h it hi)⟩
theorem lexM_neg {f : Str → Int} (l : List Str) : lexM (fun x => -f x) l = -lexM f l := by
  unfold lexM
  rw [← fnz_neg, List.map_map]
  congr 1
  refine List.map_congr_left fun it _ => ?_
  show (if fall it = true then -(-f (col it)) else -f (col it)) = -(if fall it = true then -(f (col it)) else f (col it))
  split <;> omega
theorem lexM_one {f : Str → Int} (it : Str) : lexM f [it] = sg f it := by
  unfold lexM
  rw [List.map_cons, List.map_nil]
  unfold fnz
  split
  · rename_i e
    rw [e]
    rfl
  · rfl
theorem lexM_v1 {f : Str → Int} (h : V1f f) (l : List Str) : lexM f l = -1 ∨ lexM f l = 0 ∨ lexM f l = 1 := fnz_v1 (v1_map h l)
theorem lexM_app {f : Str → Int} (a b : List Str) : lexM f (a ++ b) = if lexM f a = 0 then lexM f b else lexM f a := by
  unfold lexM
  rw [List.map_append]
  exact fnz_app _ _
/-- an item whose column is a column of its own -/
def Gd (it : Str) : Prop := fall (col it) = false
theorem Gd.col {it : Str} (h : Gd it) : K78.col (K78.col it) = K78.col it := by
  have h' : fall (K78.col it) = false := h
  generalize K78.col it = y at h' ⊢
  unfold K78.col
  rw [if_neg (by rw [h']; decide)]
/-! ### parts -/
inductive Part where
  | fixed (ctx : List Str) (c : Str)
  | tog (ctx : List Str) (a b : Str)
def Part.ctx : Part → List Str
  | .fixed c _ => c
  | .tog c _ _ => c
def agst (f : Str → Int) : Part → Bool
  | .fixed ctx c => decide (lexM f ctx = 0) && !decide (lexM f [c] = 0)
  | .tog ctx a b => decide (lexM f ctx = 0) && decide (lexM f [a] * lexM f [b] < 0)
def SameC (ctx items : List Str) : Prop := ∀ y, y ∈ ctx ↔ ∃ it ∈ items, y = col it
theorem same_zero {f : Str → Int} {ctx items : List Str} (h : SameC ctx items) (g : ∀ it ∈ items, Gd it) : lexM f ctx = 0 ↔ lexM f items = 0 := by
  rw [lexM_zero, lexM_zero]
  constructor
  · intro z it hi
    have := z (col it) ((h _).mpr ⟨it, hi, rfl⟩)
    rw [(g it hi).col] at this
    exact this
  · intro z y hy
    obtain ⟨it, hi, rfl⟩ := (h y).mp hy
    rw [(g it hi).col]
    exact z it hi
def isP (first second : List Str) : Part → Prop
  | .fixed ctx c => ctx.length ≤ 10 ∧ SameC ctx first ∧ ∃ it ∈ second, c = col it
  | .tog ctx a b => ctx.length ≤ 10 ∧ ∃ i j, ∃ (hi : i < first.length) (hj : j < second.length), SameC ctx (first.take i ++ second.take j) ∧ a = first[i] ∧ b = second[j]
structure PartsOK (first second : List Str) (ps : List Part) : Prop where
  is_ : ∀ p ∈ ps, isP first second p
  fx : ∀ it ∈ second, ∃ ctx, SameC ctx first ∧ .fixed ctx (col it) ∈ ps
  tg : ∀ i j (hi : i < first.length) (hj : j < second.length), ∃ ctx, SameC ctx (first.take i ++ second.take j) ∧ .tog ctx first[i] second[j] ∈ ps
theorem sg_get {f : Str → Int} {l : List Str} {i : Nat} (h : i < l.length) : (l.map (sg f))[i]'(by rw [List.length_map]; exact h) = sg f l[i] := by simp
theorem parts_law {f : Str → Int} (hf : V1f f) {first second : List Str} {ps : List Part} (h : PartsOK first second ps) (g1 : ∀ it ∈ first, Gd it) (g2 : ∀ it ∈ second, Gd it) :
    ps.any (agst f) = !keepsF f first second := by
  have core := parts_core (v1_map hf first) (v1_map hf second)
  have e : (ps.any (agst f) = true) ↔ ¬ (keepsF f first second = true) := by
    unfold keepsF
    rw [Bool.or_eq_true, decide_eq_true_eq, decide_eq_true_eq]
    show _ ↔ ¬ (fnz (second.map (sg f)) = 0 ∨ fnz (second.map (sg f)) = fnz (first.map (sg f)))
    rw [← core, List.any_eq_true]
    constructor
    · rintro ⟨p, hp, ha⟩
      have ip := h.is_ p hp
      cases p with
      | fixed ctx c =>
        obtain ⟨_, s, it, hi, rfl⟩ := ip
        unfold agst at ha
        rw [Bool.and_eq_true, decide_eq_true_eq, Bool.not_eq_true', decide_eq_false_iff_not] at ha
        refine .inl ⟨(same_zero s g1).mp ha.1, sg f it, List.mem_map.mpr ⟨it, hi, rfl⟩, fun z => ha.2 ?_⟩
        rw [lexM_one]
        refine sg_zero.mpr ?_
        rw [(g2 it hi).col]
        exact sg_zero.mp z
      | tog ctx a b =>
        obtain ⟨_, i, j, hi, hj, s, rfl, rfl⟩ := ip
        unfold agst at ha
        rw [Bool.and_eq_true, decide_eq_true_eq, decide_eq_true_eq, lexM_one, lexM_one] at ha
        refine .inr ⟨i, j, by rw [List.length_map]; exact hi, by rw [List.length_map]; exact hj, ?_, by rw [sg_get hi, sg_get hj]; exact ha.2⟩
        have q := (same_zero s fun it hm => (List.mem_append.mp hm).elim (fun z => g1 it (List.mem_of_mem_take z)) fun z => g2 it (List.mem_of_mem_take z)).mp ha.1
        unfold lexM at q
        rw [List.map_append, List.map_take, List.map_take] at q
        exact q
    · rintro (⟨h1, x, hx, h2⟩ | ⟨i, j, hi, hj, h1, h2⟩)
      · obtain ⟨it, hi, rfl⟩ := List.mem_map.mp hx
        obtain ⟨ctx, s, hp⟩ := h.fx it hi
        refine ⟨_, hp, ?_⟩
        unfold agst
        rw [Bool.and_eq_true, decide_eq_true_eq, Bool.not_eq_true', decide_eq_false_iff_not]
        refine ⟨(same_zero s g1).mpr h1, fun z => h2 ?_⟩
        rw [lexM_one] at z
        have := sg_zero.mp z
        rw [(g2 it hi).col] at this
        exact sg_zero.mpr this
      · have hi' : i < first.length := by rw [List.length_map] at hi; exact hi
        have hj' : j < second.length := by rw [List.length_map] at hj; exact hj
        obtain ⟨ctx, s, hp⟩ := h.tg i j hi' hj'
        refine ⟨_, hp, ?_⟩
        unfold agst
        rw [Bool.and_eq_true, decide_eq_true_eq, decide_eq_true_eq, lexM_one, lexM_one]
        refine ⟨(same_zero s fun it hm => (List.mem_append.mp hm).elim (fun z => g1 it (List.mem_of_mem_take z)) fun z => g2 it (List.mem_of_mem_take z)).mpr ?_, ?_⟩
        · unfold lexM
          rw [List.map_append, List.map_take, List.map_take]
          exact h1
        · rw [sg_get hi', sg_get hj'] at h2
          exact h2
  cases a : ps.any (agst f) with
  | true =>
    have := e.mp a
    cases b : keepsF f first second with
    | true => exact absurd b this
    | false => rfl
  | false =>
    cases b : keepsF f first second with
    | true => rfl
    | false =>
      have := e.mpr (by rw [b]; decide)
      rw [a] at this
      cases this
/-! ### a part as rules -/
def rulesP : Part → List (List Str × List Str)
  | .fixed ctx c => [(ctx, ctx ++ [c])]
  | .tog ctx a b => [(ctx ++ [a, b], ctx ++ [b, a]), (ctx ++ [b, a], ctx ++ [a, b])]
theorem rules_part {f : Str → Int} (hf : V1f f) (p : Part) : ((rulesP p).all fun r => keepsF f r.1 r.2) = !agst f p := by
  cases p with
  | fixed ctx c =>
    unfold rulesP keepsF
    rw [List.all_cons, List.all_nil, Bool.and_true, lexM_app]
    show _ = !(decide (lexM f ctx = 0) && !decide (lexM f [c] = 0))
    by_cases e : lexM f ctx = 0
    · rw [if_pos e, e, Bool.or_self]
      simp
    · rw [if_neg e, decide_eq_false e, decide_eq_true (rfl : lexM f ctx = lexM f ctx)]
      rfl
  | tog ctx a b =>
    unfold rulesP keepsF
    rw [List.all_cons, List.all_cons, List.all_nil, Bool.and_true]
    show _ = !(decide (lexM f ctx = 0) && decide (lexM f [a] * lexM f [b] < 0))
    simp only
    rw [lexM_app, lexM_app]
    by_cases e : lexM f ctx = 0
    · rw [if_pos e, if_pos e, decide_eq_true e, Bool.true_and]
      have ab : lexM f [a, b] = if lexM f [a] = 0 then lexM f [b] else lexM f [a] := lexM_app [a] [b]
      have ba : lexM f [b, a] = if lexM f [b] = 0 then lexM f [a] else lexM f [b] := lexM_app [b] [a]
      rw [ab, ba]
      rcases lexM_v1 hf [a] with x | x | x <;> rcases lexM_v1 hf [b] with y | y | y <;> rw [x, y] <;> decide
    · rw [if_neg e, if_neg e, decide_eq_false e, decide_eq_true (rfl : lexM f ctx = lexM f ctx)]
      simp
theorem all_flat {α β : Type} (q : β → Bool) (k : α → List β) : ∀ l : List α, (l.flatMap k).all q = l.all fun x => (k x).all q
  | [] => rfl
  | x :: l => by rw [List.flatMap_cons, List.all_append, all_flat q k l, List.all_cons]
/-- the parts' rules together say the rule -/
theorem rules_law {f : Str → Int} (hf : V1f f) {first second : List Str} {ps : List Part} (h : PartsOK first second ps) (g1 : ∀ it ∈ first, Gd it) (g2 : ∀ it ∈ second, Gd it) :
    ((ps.flatMap rulesP).all fun r => keepsF f r.1 r.2) = keepsF f first second := by
  rw [all_flat]
  have e : (ps.all fun p => (rulesP p).all fun r => keepsF f r.1 r.2) = ps.all fun p => !agst f p := by
    congr 1
    funext p
    exact rules_part hf p
  have q := parts_law hf h g1 g2
  have n : (ps.all fun p => !agst f p) = !(ps.any (agst f)) := by
    induction ps with
    | nil => rfl
    | cons p ps _ => simp [List.any_eq_not_all_not]
  rw [e, n, q, Bool.not_not]
/-- what is kept is not contradicted -/
def contra (f : Str → Int) (a b : List Str) : Bool := decide (lexM f a < 1) && decide (lexM f b > 0)
theorem keeps_contra {f : Str → Int} {a b : List Str} (h : keepsF f a b = true) : contra f a b = false := by
  unfold keepsF at h
  rw [Bool.or_eq_true, decide_eq_true_eq, decide_eq_true_eq] at h
  unfold contra
  rw [Bool.and_eq_false_iff, decide_eq_false_iff_not, decide_eq_false_iff_not]
  omega
theorem contra_keeps {f : Str → Int} (hf : V1f f) {a b : List Str} (h1 : contra f a b = false) (h2 : contra (fun x => -f x) a b = false) : keepsF f a b = true := by
  unfold contra at h1 h2
  rw [lexM_neg, lexM_neg] at h2
  rw [Bool.and_eq_false_iff, decide_eq_false_iff_not, decide_eq_false_iff_not] at h1 h2
  unfold keepsF
  rw [Bool.or_eq_true, decide_eq_true_eq, decide_eq_true_eq]
  have a1 := lexM_v1 hf a
  have b1 := lexM_v1 hf b
  omega
end K78
set_option Elab.async false
set_option linter.all false
set_option maxRecDepth 100000
set_option maxHeartbeats 4000000
namespace K78
open PySem PySem.Spec PyProof.Rows L2 DL
def topS (i : Nat) : Stmt := PySem.Challenge.pw_sortfollow_k78_whole_rules_are_their_par.main.body.getD i (.Pass ⟨0, 0, 0, 0⟩)
abbrev s_is_falling : Stmt := topS 2
abbrev N_is_falling : List Str := ["item"]
theorem sc_is_falling : FnScope N_is_falling ["item"] (defScope s_is_falling) := ⟨rfl, rfl, rfl, by decide +kernel, rfl, by decide +kernel, by decide +kernel⟩
abbrev s_column_of : Stmt := topS 3
abbrev N_column_of : List Str := ["item"]
theorem sc_column_of : FnScope N_column_of ["item"] (defScope s_column_of) := ⟨rfl, rfl, rfl, by decide +kernel, rfl, by decide +kernel, by decide +kernel⟩
abbrev s_columns_in : Stmt := topS 4
abbrev N_columns_in : List Str := ["items", "item"]
theorem sc_columns_in : FnScope N_columns_in ["items"] (defScope s_columns_in) := ⟨rfl, rfl, rfl, by decide +kernel, rfl, by decide +kernel, by decide +kernel⟩
abbrev s_order_of : Stmt := topS 5
abbrev N_order_of : List Str := ["number", "other"]
theorem sc_order_of : FnScope N_order_of ["number", "other"] (defScope s_order_of) := ⟨rfl, rfl, rfl, by decide +kernel, rfl, by decide +kernel, by decide +kernel⟩
abbrev s_compare : Stmt := topS 6
abbrev N_compare : List Str := ["columns", "one", "other", "items", "item", "place", "found"]
theorem sc_compare : FnScope N_compare ["columns", "one", "other", "items"] (defScope s_compare) := ⟨rfl, rfl, rfl, by decide +kernel, rfl, by decide +kernel, by decide +kernel⟩
abbrev s_parts_of : Stmt := topS 10
abbrev N_parts_of : List Str := ["rule", "first", "second", "found", "i", "one", "j", "other", "item", "part"]
theorem sc_parts_of : FnScope N_parts_of ["rule"] (defScope s_parts_of) := ⟨rfl, rfl, rfl, by decide +kernel, rfl, by decide +kernel, by decide +kernel⟩
abbrev s_differ : Stmt := topS 11
abbrev N_differ : List Str := ["columns", "one", "other", "part"]
theorem sc_differ : FnScope N_differ ["columns", "one", "other", "part"] (defScope s_differ) := ⟨rfl, rfl, rfl, by decide +kernel, rfl, by decide +kernel, by decide +kernel⟩
abbrev s_holds : Stmt := topS 12
abbrev N_holds : List Str := ["table", "part", "columns", "rows", "one", "other"]
theorem sc_holds : FnScope N_holds ["table", "part"] (defScope s_holds) := ⟨rfl, rfl, rfl, by decide +kernel, rfl, by decide +kernel, by decide +kernel⟩
abbrev s_rules_of : Stmt := topS 13
abbrev N_rules_of : List Str := ["part", "context", "one", "other"]
theorem sc_rules_of : FnScope N_rules_of ["part"] (defScope s_rules_of) := ⟨rfl, rfl, rfl, by decide +kernel, rfl, by decide +kernel, by decide +kernel⟩
abbrev s_contradict : Stmt := topS 15
abbrev N_contradict : List Str := ["columns", "one", "other", "rule"]
theorem sc_contradict : FnScope N_contradict ["columns", "one", "other", "rule"] (defScope s_contradict) := ⟨rfl, rfl, rfl, by decide +kernel, rfl, by decide +kernel, by decide +kernel⟩
abbrev s_violation : Stmt := topS 16
abbrev N_violation : List Str := ["table", "rule", "start", "columns", "rows", "i", "j", "other"]
theorem sc_violation : FnScope N_violation ["table", "rule", "start"] (defScope s_violation) := ⟨rfl, rfl, rfl, by decide +kernel, rfl, by decide +kernel, by decide +kernel⟩
abbrev s_obeys : Stmt := topS 17
abbrev N_obeys : List Str := ["table", "rule"]
theorem sc_obeys : FnScope N_obeys ["table", "rule"] (defScope s_obeys) := ⟨rfl, rfl, rfl, by decide +kernel, rfl, by decide +kernel, by decide +kernel⟩
abbrev s_lex : Stmt := topS 20
abbrev N_lex : List Str := ["columns", "signs", "items", "item", "sign"]
theorem sc_lex : FnScope N_lex ["columns", "signs", "items"] (defScope s_lex) := ⟨rfl, rfl, rfl, by decide +kernel, rfl, by decide +kernel, by decide +kernel⟩
abbrev s_keeps : Stmt := topS 21
abbrev N_keeps : List Str := ["columns", "signs", "rule", "second"]
theorem sc_keeps : FnScope N_keeps ["columns", "signs", "rule"] (defScope s_keeps) := ⟨rfl, rfl, rfl, by decide +kernel, rfl, by decide +kernel, by decide +kernel⟩
abbrev s_every_signs : Stmt := topS 22
abbrev N_every_signs : List Str := ["columns", "found", "column", "some", "sign"]
theorem sc_every_signs : FnScope N_every_signs ["columns"] (defScope s_every_signs) := ⟨rfl, rfl, rfl, by decide +kernel, rfl, by decide +kernel, by decide +kernel⟩
abbrev s_allowed : Stmt := topS 23
abbrev N_allowed : List Str := ["columns", "rules", "found", "rule", "some"]
theorem sc_allowed : FnScope N_allowed ["columns", "rules"] (defScope s_allowed) := ⟨rfl, rfl, rfl, by decide +kernel, rfl, by decide +kernel, by decide +kernel⟩
abbrev s_contradicting : Stmt := topS 25
abbrev N_contradicting : List Str := ["columns", "rules", "known", "wanted", "signs"]
theorem sc_contradicting : FnScope N_contradicting ["columns", "rules", "known", "wanted"] (defScope s_contradicting) := ⟨rfl, rfl, rfl, by decide +kernel, rfl, by decide +kernel, by decide +kernel⟩
abbrev s_follows : Stmt := topS 26
abbrev N_follows : List Str := ["columns", "rules", "known", "wanted"]
theorem sc_follows : FnScope N_follows ["columns", "rules", "known", "wanted"] (defScope s_follows) := ⟨rfl, rfl, rfl, by decide +kernel, rfl, by decide +kernel, by decide +kernel⟩
abbrev s_Lpot : Stmt := topS 28
abbrev N_Lpot : List Str := ["_law_script", "_law_k", "_law_cell", "_law_own"]
theorem sc_Lpot : FnScope N_Lpot ["_law_script", "_law_k"] (defScope s_Lpot) := ⟨rfl, rfl, rfl, by decide +kernel, rfl, by decide +kernel, by decide +kernel⟩
abbrev s_Ltake : Stmt := topS 29
abbrev N_Ltake : List Str := ["_law_pot_here", "_law_bound", "_law_digit", "_law_prime", "_law_drawn"]
theorem sc_Ltake : FnScope N_Ltake ["_law_pot_here", "_law_bound"] (defScope s_Ltake) := ⟨rfl, rfl, rfl, by decide +kernel, rfl, by decide +kernel, by decide +kernel⟩
abbrev s_Lof : Stmt := topS 30
abbrev N_Lof : List Str := ["_law_pot_here", "_law_some"]
theorem sc_Lof : FnScope N_Lof ["_law_pot_here", "_law_some"] (defScope s_Lof) := ⟨rfl, rfl, rfl, by decide +kernel, rfl, by decide +kernel, by decide +kernel⟩
abbrev s_Lnames : Stmt := topS 31
abbrev N_Lnames : List Str := ["_law_pot_here", "_law_many", "_law_letters", "_law_from_at", "_law_leap", "_law_stem", "_law_cut", "_law_found", "_law_turn", "_law_letter"]
theorem sc_Lnames : FnScope N_Lnames ["_law_pot_here", "_law_many"] (defScope s_Lnames) := ⟨rfl, rfl, rfl, by decide +kernel, rfl, by decide +kernel, by decide +kernel⟩
abbrev s_Llisted : Stmt := topS 32
abbrev N_Llisted : List Str := ["_law_pot_here", "_law_names_here", "_law_most", "_law_found", "_law_turn"]
theorem sc_Llisted : FnScope N_Llisted ["_law_pot_here", "_law_names_here", "_law_most"] (defScope s_Llisted) := ⟨rfl, rfl, rfl, by decide +kernel, rfl, by decide +kernel, by decide +kernel⟩
abbrev s_Levery : Stmt := topS 33
abbrev N_Levery : List Str := ["_law_size", "_law_found", "_law_turn", "_law_longer", "_law_mine", "_law_sign"]
theorem sc_Levery : FnScope N_Levery ["_law_size"] (defScope s_Levery) := ⟨rfl, rfl, rfl, by decide +kernel, rfl, by decide +kernel, by decide +kernel⟩
abbrev s_Llex : Stmt := topS 34
abbrev N_Llex : List Str := ["_law_names_here", "_law_pattern", "_law_wish", "_law_item", "_law_sign"]
theorem sc_Llex : FnScope N_Llex ["_law_names_here", "_law_pattern", "_law_wish"] (defScope s_Llex) := ⟨rfl, rfl, rfl, by decide +kernel, rfl, by decide +kernel, by decide +kernel⟩
abbrev s_Lobeyed : Stmt := topS 35
abbrev N_Lobeyed : List Str := ["_law_names_here", "_law_pattern", "_law_pairs", "_law_first", "_law_second"]
theorem sc_Lobeyed : FnScope N_Lobeyed ["_law_names_here", "_law_pattern", "_law_pairs"] (defScope s_Lobeyed) := ⟨rfl, rfl, rfl, by decide +kernel, rfl, by decide +kernel, by decide +kernel⟩
abbrev s_Lrows_of : Stmt := topS 36
abbrev N_Lrows_of : List Str := ["_law_pot_here", "_law_names_here", "_law_many", "_law_top", "_law_found", "_law_turn", "_law_name"]
theorem sc_Lrows_of : FnScope N_Lrows_of ["_law_pot_here", "_law_names_here", "_law_many", "_law_top"] (defScope s_Lrows_of) := ⟨rfl, rfl, rfl, by decide +kernel, rfl, by decide +kernel, by decide +kernel⟩
abbrev s_Lis_against : Stmt := topS 37
abbrev N_Lis_against : List Str := ["_law_names_here", "_law_pattern", "_law_piece", "_law_first", "_law_name"]
theorem sc_Lis_against : FnScope N_Lis_against ["_law_names_here", "_law_pattern", "_law_piece"] (defScope s_Lis_against) := ⟨rfl, rfl, rfl, by decide +kernel, rfl, by decide +kernel, by decide +kernel⟩
abbrev s_Lright : Stmt := topS 38
abbrev N_Lright : List Str := ["_law_pot_here", "_law_names_here", "_law_turn", "_law_pair", "_law_pieces", "_law_every_here", "_law_pattern", "_law_piece", "_law_again", "_law_against", "_law_grid", "_law_mine", "_law_its"]
theorem sc_Lright : FnScope N_Lright ["_law_pot_here"] (defScope s_Lright) := ⟨rfl, rfl, rfl, by decide +kernel, rfl, by decide +kernel, by decide +kernel⟩
abbrev s_law : Stmt := topS 39
abbrev N_law : List Str := ["_law_script", "_law_k"]
theorem sc_law : FnScope N_law ["_law_script"] (defScope s_law) := ⟨rfl, rfl, rfl, by decide +kernel, rfl, by decide +kernel, by decide +kernel⟩
structure Tx (K : PySem.W.Frag) (mg : Str → Option Value) where
  t_FALLING : Tok
  c_FALLING : mg "FALLING" = some (.str "-" t_FALLING)
  t_FIXED : Tok
  c_FIXED : mg "FIXED" = some (.str "fixed" t_FIXED)
  t_TOGETHER : Tok
  c_TOGETHER : mg "TOGETHER" = some (.str "together" t_TOGETHER)
  a_SIGNS : Addr
  c_SIGNS : mg "SIGNS" = some (.ref a_SIGNS)
  k_SIGNS : KT K a_SIGNS (.tup [.int (-1), .int 0, .int 1])
  b_abs : mg "abs" = none
  b_all : mg "all" = none
  b_any : mg "any" = none
  b_enumerate : mg "enumerate" = none
  b_int : mg "int" = none
  b_len : mg "len" = none
  b_list : mg "list" = none
  b_max : mg "max" = none
  b_min : mg "min" = none
  b_range : mg "range" = none
  b_sorted : mg "sorted" = none
  b_tuple : mg "tuple" = none
  f_is_falling : Addr
  d_is_falling : FuncData
  F_is_falling : Fun K "is_falling" "is_falling" s_is_falling f_is_falling d_is_falling
  g_is_falling : mg "is_falling" = some (.ref f_is_falling)
  B_is_falling : Binds K d_is_falling ["item"] []
  f_column_of : Addr
  d_column_of : FuncData
  F_column_of : Fun K "column_of" "column_of" s_column_of f_column_of d_column_of
  g_column_of : mg "column_of" = some (.ref f_column_of)
  B_column_of : Binds K d_column_of ["item"] []
  f_columns_in : Addr
  d_columns_in : FuncData
  F_columns_in : Fun K "columns_in" "columns_in" s_columns_in f_columns_in d_columns_in
  g_columns_in : mg "columns_in" = some (.ref f_columns_in)
  B_columns_in : Binds K d_columns_in ["items"] []
  f_order_of : Addr
  d_order_of : FuncData
  F_order_of : Fun K "order_of" "order_of" s_order_of f_order_of d_order_of
  g_order_of : mg "order_of" = some (.ref f_order_of)
  B_order_of : Binds K d_order_of ["number", "other"] []
  f_compare : Addr
  d_compare : FuncData
  F_compare : Fun K "compare" "compare" s_compare f_compare d_compare
  g_compare : mg "compare" = some (.ref f_compare)
  B_compare : Binds K d_compare ["columns", "one", "other", "items"] []
  f_parts_of : Addr
  d_parts_of : FuncData
  F_parts_of : Fun K "parts_of" "parts_of" s_parts_of f_parts_of d_parts_of
  g_parts_of : mg "parts_of" = some (.ref f_parts_of)
  B_parts_of : Binds K d_parts_of ["rule"] []
  f_differ : Addr
  d_differ : FuncData
  F_differ : Fun K "differ" "differ" s_differ f_differ d_differ
  g_differ : mg "differ" = some (.ref f_differ)
  B_differ : Binds K d_differ ["columns", "one", "other", "part"] []
  f_holds : Addr
  d_holds : FuncData
  F_holds : Fun K "holds" "holds" s_holds f_holds d_holds
  g_holds : mg "holds" = some (.ref f_holds)
  B_holds : Binds K d_holds ["table", "part"] []
  f_rules_of : Addr
  d_rules_of : FuncData
  F_rules_of : Fun K "rules_of" "rules_of" s_rules_of f_rules_of d_rules_of
  g_rules_of : mg "rules_of" = some (.ref f_rules_of)
  B_rules_of : Binds K d_rules_of ["part"] []
  f_contradict : Addr
  d_contradict : FuncData
  F_contradict : Fun K "contradict" "contradict" s_contradict f_contradict d_contradict
  g_contradict : mg "contradict" = some (.ref f_contradict)
  B_contradict : Binds K d_contradict ["columns", "one", "other", "rule"] []
  f_violation : Addr
  d_violation : FuncData
  F_violation : Fun K "violation" "violation" s_violation f_violation d_violation
  g_violation : mg "violation" = some (.ref f_violation)
  B_violation_2 : DBinds K d_violation ["table", "rule", "start"] [.int 0]
  f_obeys : Addr
  d_obeys : FuncData
  F_obeys : Fun K "obeys" "obeys" s_obeys f_obeys d_obeys
  g_obeys : mg "obeys" = some (.ref f_obeys)
  B_obeys : Binds K d_obeys ["table", "rule"] []
  f_lex : Addr
  d_lex : FuncData
  F_lex : Fun K "lex" "lex" s_lex f_lex d_lex
  g_lex : mg "lex" = some (.ref f_lex)
  B_lex : Binds K d_lex ["columns", "signs", "items"] []
  f_keeps : Addr
  d_keeps : FuncData
  F_keeps : Fun K "keeps" "keeps" s_keeps f_keeps d_keeps
  g_keeps : mg "keeps" = some (.ref f_keeps)
  B_keeps : Binds K d_keeps ["columns", "signs", "rule"] []
  f_every_signs : Addr
  d_every_signs : FuncData
  F_every_signs : Fun K "every_signs" "every_signs" s_every_signs f_every_signs d_every_signs
  g_every_signs : mg "every_signs" = some (.ref f_every_signs)
  B_every_signs : Binds K d_every_signs ["columns"] []
  f_allowed : Addr
  d_allowed : FuncData
  F_allowed : Fun K "allowed" "allowed" s_allowed f_allowed d_allowed
  g_allowed : mg "allowed" = some (.ref f_allowed)
  B_allowed : Binds K d_allowed ["columns", "rules"] []
  f_contradicting : Addr
  d_contradicting : FuncData
  F_contradicting : Fun K "contradicting" "contradicting" s_contradicting f_contradicting d_contradicting
  g_contradicting : mg "contradicting" = some (.ref f_contradicting)
  B_contradicting : Binds K d_contradicting ["columns", "rules", "known", "wanted"] []
  f_follows : Addr
  d_follows : FuncData
  F_follows : Fun K "follows" "follows" s_follows f_follows d_follows
  g_follows : mg "follows" = some (.ref f_follows)
  B_follows : Binds K d_follows ["columns", "rules", "known", "wanted"] []
  f_Lpot : Addr
  d_Lpot : FuncData
  F_Lpot : Fun K "_law_pot" "_law_pot" s_Lpot f_Lpot d_Lpot
  g_Lpot : mg "_law_pot" = some (.ref f_Lpot)
  B_Lpot : Binds K d_Lpot ["_law_script", "_law_k"] []
  f_Ltake : Addr
  d_Ltake : FuncData
  F_Ltake : Fun K "_law_take" "_law_take" s_Ltake f_Ltake d_Ltake
  g_Ltake : mg "_law_take" = some (.ref f_Ltake)
  B_Ltake : Binds K d_Ltake ["_law_pot_here", "_law_bound"] []
  f_Lof : Addr
  d_Lof : FuncData
  F_Lof : Fun K "_law_of" "_law_of" s_Lof f_Lof d_Lof
  g_Lof : mg "_law_of" = some (.ref f_Lof)
  B_Lof : Binds K d_Lof ["_law_pot_here", "_law_some"] []
  f_Lnames : Addr
  d_Lnames : FuncData
  F_Lnames : Fun K "_law_names" "_law_names" s_Lnames f_Lnames d_Lnames
  g_Lnames : mg "_law_names" = some (.ref f_Lnames)
  B_Lnames : Binds K d_Lnames ["_law_pot_here", "_law_many"] []
  f_Llisted : Addr
  d_Llisted : FuncData
  F_Llisted : Fun K "_law_listed" "_law_listed" s_Llisted f_Llisted d_Llisted
  g_Llisted : mg "_law_listed" = some (.ref f_Llisted)
  B_Llisted : Binds K d_Llisted ["_law_pot_here", "_law_names_here", "_law_most"] []
  f_Levery : Addr
  d_Levery : FuncData
  F_Levery : Fun K "_law_every" "_law_every" s_Levery f_Levery d_Levery
  g_Levery : mg "_law_every" = some (.ref f_Levery)
  B_Levery : Binds K d_Levery ["_law_size"] []
  f_Llex : Addr
  d_Llex : FuncData
  F_Llex : Fun K "_law_lex" "_law_lex" s_Llex f_Llex d_Llex
  g_Llex : mg "_law_lex" = some (.ref f_Llex)
  B_Llex : Binds K d_Llex ["_law_names_here", "_law_pattern", "_law_wish"] []
  f_Lobeyed : Addr
  d_Lobeyed : FuncData
  F_Lobeyed : Fun K "_law_obeyed" "_law_obeyed" s_Lobeyed f_Lobeyed d_Lobeyed
  g_Lobeyed : mg "_law_obeyed" = some (.ref f_Lobeyed)
  B_Lobeyed : Binds K d_Lobeyed ["_law_names_here", "_law_pattern", "_law_pairs"] []
  f_Lrows_of : Addr
  d_Lrows_of : FuncData
  F_Lrows_of : Fun K "_law_rows_of" "_law_rows_of" s_Lrows_of f_Lrows_of d_Lrows_of
  g_Lrows_of : mg "_law_rows_of" = some (.ref f_Lrows_of)
  B_Lrows_of : Binds K d_Lrows_of ["_law_pot_here", "_law_names_here", "_law_many", "_law_top"] []
  f_Lis_against : Addr
  d_Lis_against : FuncData
  F_Lis_against : Fun K "_law_is_against" "_law_is_against" s_Lis_against f_Lis_against d_Lis_against
  g_Lis_against : mg "_law_is_against" = some (.ref f_Lis_against)
  B_Lis_against : Binds K d_Lis_against ["_law_names_here", "_law_pattern", "_law_piece"] []
  f_Lright : Addr
  d_Lright : FuncData
  F_Lright : Fun K "_law_right" "_law_right" s_Lright f_Lright d_Lright
  g_Lright : mg "_law_right" = some (.ref f_Lright)
  B_Lright : Binds K d_Lright ["_law_pot_here"] []
  f_law : Addr
  d_law : FuncData
  F_law : Fun K "law" "law" s_law f_law d_law
  g_law : mg "law" = some (.ref f_law)
  B_law : Binds K d_law ["_law_script"] []
theorem kv_violation_2 {K : PySem.W.Frag} : KV0 K [.int 0] [.int 0] := fun _ _ => (.cons (.int 0) .nil)
def eS (xs : List Str) : DV := .tup (xs.map .str)
def eI (xs : List Int) : DV := .tup (xs.map .int)
local macro_rules | `(tactic| walk_at "dl") => `(tactic| simp only [sSeq, sAsg, sRet, sRetF, sIf, sFor, sPar, sDrop, sNext, dVar, dC, dCons, dNil, dTup, dLst, dLstM, dOp, dUn, dTest, dAnd, dOr, dNot, dAndV, dOrV, dNotV, dIf, dSl, dPart, dNoPart, dCB, dMt, dCall, dCallD, gNm, gTp, gConsD, gNilD, slot, setS, dAt, ifB, atSeq, atO, seqD, addD, ntD, ntD0, ordD, negD, ixR, slR, lenD, startD, iSeqD, iR1, iR2, iEnumD, List.map_cons, List.map_nil, List.length_cons, List.length_nil, List.replicate, List.cons_append, List.nil_append, Nat.reduceAdd, Nat.reduceSub])
section
variable {P : Program} {w : World} {K : PySem.W.Frag} {mg : Str → Option Value} {base : Heap}
def sp_is_falling : DSp := fun ds M E Q => ∃ x : Str, ds = [.str x] ∧ x.length ≤ 100 ∧ Q (.bl (fall x)) M
theorem sz100 {n : Nat} (h : n ≤ 100) : n ≤ sizeLine := by rw [sizeLine_eq]; omega
theorem dash_of {x : Str} : decide (cutS x none (some 1) = ("-" : Str)) = fall x := by
  unfold fall
  have e : (cutS x none (some 1) = ("-" : Str)) ↔ x.cps.toList.head? = some 45 := by
    have e2 : ("-" : Str).cps.toList = [45] := by decide +kernel
    constructor
    · intro h
      have : (cutS x none (some 1)).cps.toList = ("-" : Str).cps.toList := by rw [h]
      rw [cut_1_cps, e2] at this
      cases q : x.cps.toList with
      | nil => rw [q] at this; cases this
      | cons a r => rw [q] at this; simpa using this
    · intro h
      refine DL.Str.ext_cps ?_
      rw [cut_1_cps, e2]
      cases q : x.cps.toList with
      | nil => rw [q] at h; cases h
      | cons a r => rw [q] at h; simpa using h
  by_cases h : x.cps.toList.head? = some 45
  · rw [decide_eq_true h, decide_eq_true (e.mpr h)]
  · rw [decide_eq_false h, decide_eq_false fun z => h (e.mp z)]
theorem ok_is_falling (T : Tx K mg) : FnOk P w K mg base CX0 1 T.f_is_falling T.d_is_falling ["item"] (lSp K sp_is_falling) := by
  refine Fun.dl T.F_is_falling sc_is_falling (fun ds M E Q ⟨x, e, _⟩ => by rw [e]; rfl) (fun cdv A outer s H E hr => (dss_one (ds_ret (de_eq (hu64 hr) (de_sl (de_var (i := 0)) do_none (do_some de_int)) (de_gstr (by rfl) T.c_FALLING))))) ?_
  rintro ds M E Q ⟨x, rfl, hl, q⟩
  walk_at "dl"
  rw [eqR_str]
  refine ⟨sz100 hl, fin_id ?_⟩
  rw [show (if false = true then !decide (cutS x none (some 1) = ("-" : Str)) else decide (cutS x none (some 1) = ("-" : Str))) = fall x from dash_of]
  exact q
def sp_column_of : DSp := fun ds M E Q => ∃ x : Str, ds = [.str x] ∧ x.length ≤ 100 ∧ Q (.str (col x)) M
theorem ok_column_of (T : Tx K mg) : FnOk P w K mg base CX0 2 T.f_column_of T.d_column_of ["item"] (lSp K sp_column_of) := by
  refine Fun.dl T.F_column_of sc_column_of (fun ds M E Q ⟨x, e, _⟩ => by rw [e]; rfl) (fun cdv A outer s H E hr => (dss_one (ds_ret (de_if (dt_val (de_call (ok_is_falling T) (hr.mono (by decide)) (by rfl) T.g_is_falling T.F_is_falling.kp T.B_is_falling (da_cons (de_var (i := 0)) da_nil'))) (de_sl (de_var (i := 0)) (do_some de_int) do_none) (de_var (i := 0)))))) ?_
  rintro ds M E Q ⟨x, rfl, hl, q⟩
  walk_at "dl"
  refine ⟨x, rfl, hl, ?_⟩
  show if fall x = true then _ else _
  unfold col at q
  by_cases h : fall x = true
  · rw [if_pos h] at q ⊢
    exact ⟨sz100 hl, fin_id q⟩
  · rw [if_neg h] at q ⊢
    exact fin_id q
end
end K78
set_option Elab.async false
set_option linter.all false
set_option maxRecDepth 100000
set_option maxHeartbeats 4000000
namespace K78
open PySem PySem.Spec PyProof.Rows L2 DL
local macro_rules | `(tactic| walk_at "dl") => `(tactic| simp only [sSeq, sAsg, sRet, sRetF, sRetN, sIf, sFor, sPar, sDrop, sNext, sBrk, sCnt, dVar, dC, dCons, dNil, dTup, dLst, dLstM, dOp, dUn, dTest, dAnd, dOr, dNot, dAndV, dOrV, dNotV, dIf, dSl, dPart, dNoPart, dCB, dMt, dCall, dCallD, dYes, gNm, gTp, gConsD, gNilD, slot, setS, dAt, ifB, atSeq, atO, seqD, addD, ntD, ntD0, ordD, negD, ixR, slR, lenD, tupleD, startD, iSeqD, iR1, iR2, iEnumD, dSortSC, dLcR, dLc2R, lcStep, wipeD, unset, indexD, appendD, extendD, tyD, DL.intOfD, put_same, put_put, absD, maxD, minD, listD, listMD, allD, anyD, joinD, lstripD, DL.inR, flatD, List.all_cons, List.all_nil, Bool.and_self, List.any_cons, List.any_nil, popD, gSubD, setItemD, rFz, rMu, isT, true_and, Bool.not_true, Bool.not_false, Bool.false_eq_true, if_true, if_false, reduceIte, at_0, at_1, at_2, at_3, List.map_cons, List.map_nil, List.length_cons, List.length_nil, List.replicate, List.cons_append, List.nil_append, Nat.reduceAdd, Nat.reduceSub])
section
variable {P : Program} {w : World} {K : PySem.W.Frag} {mg : Str → Option Value} {base : Heap}

theorem eqR_int' {neg : Bool} {i j : Int} {M : DM} {Q : DVK} (h : Q (.bl (if neg then !decide (i = j) else decide (i = j))) M) : eqR neg (.int i) (.int j) M Q := by rw [eqR_int]; exact h
/-! ### columns_in -/
def colD : DV → DV
  | .str x => .str (col x)
  | d => d
def Sh (l : List Str) : Prop := ∀ x ∈ l, x.length ≤ 100
def sp_columns_in : DSp := fun ds M E Q => ∃ items : List Str, ds = [eS items] ∧ items.length < 900 ∧ Sh items ∧ ∀ ys : List Str, SameC ys items → ys.length ≤ items.length → Q (eS ys) M
theorem ok_columns_in (T : Tx K mg) : FnOk P w K mg base CX0 3 T.f_columns_in T.d_columns_in ["items"] (lSp K sp_columns_in) := by
  refine Fun.dl T.F_columns_in sc_columns_in (fun ds M E Q ⟨x, e, _⟩ => by rw [e]; rfl) (fun cdv A outer s H E hr => (dss_one (ds_ret (de_tuple T.b_tuple (by rfl) (da_cons (de_sortT (own := [("item", 1)]) T.b_sorted (by rfl) (hu65 hr) rfl sc_columns_in.nd (di_seq (de_var (i := 0))) (blkOk_by (own := [("item", 1)]) (N := N_columns_in) (sc := (defScope s_columns_in)) (by decide +kernel)) (fun _ _ _ _ _ => dg_name (i := 1) sc_columns_in.nd rfl (by first | exact Or.inl rfl | exact Or.inr rfl)) (fun _ _ _ _ _ => dts_nil) (fun _ _ _ _ _ => (de_call (ok_column_of T) (hr.mono (by decide)) (by rfl) T.g_column_of T.F_column_of.kp T.B_column_of (da_cons (de_var (i := 1)) da_nil')))) da_nil'))))) ?_
  rintro ds M E Q ⟨items, rfl, hl, hs, q⟩
  unfold eS
  walk_at "dl"
  refine sc_map colD 900 trivial (items.map .str) [] (fun x hx Ky Kn h => ?_) (fun x hx acc ha => ?_) (by simp; omega) ?_
  · obtain ⟨z, hz, rfl⟩ := List.mem_map.mp hx
    walk_at "dl"
    exact ⟨z, rfl, hs z hz, h⟩
  · obtain ⟨z, hz, rfl⟩ := List.mem_map.mp hx
    exact ⟨⟨_, rfl⟩, by omega⟩
  · refine ⟨trivial, fun ys hy hn => ?_⟩
    rw [List.append_nil, List.length_reverse, List.length_map, List.length_map] at hn
    obtain ⟨zs, rfl⟩ := strs_of ys fun y h => by
      have := (hy y).mp h
      rw [List.append_nil, List.mem_reverse, List.mem_map] at this
      obtain ⟨d, hd, rfl⟩ := this
      obtain ⟨z, _, rfl⟩ := List.mem_map.mp hd
      exact ⟨_, rfl⟩
    rw [List.length_map] at hn
    refine fin_id (q zs (fun y => ?_) hn)
    have := hy (.str y)
    rw [List.append_nil, List.mem_reverse, List.mem_map, List.mem_map] at this
    constructor
    · intro h
      obtain ⟨d, hd, e⟩ := this.mp ⟨y, h, rfl⟩
      obtain ⟨z, hz, rfl⟩ := List.mem_map.mp hd
      injection e with e
      exact ⟨z, hz, e.symm⟩
    · rintro ⟨z, hz, rfl⟩
      obtain ⟨y', h', e⟩ := this.mpr ⟨.str z, List.mem_map.mpr ⟨z, hz, rfl⟩, rfl⟩
      injection e with e
      rw [← e]
      exact h'
def sg2 (a b : Int) : Int := (if b < a then 1 else 0) - (if a < b then 1 else 0)
def sp_order_of : DSp := fun ds M E Q => ∃ a b : Int, ds = [.int a, .int b] ∧ Q (.int (sg2 a b)) M
theorem ok_order_of (T : Tx K mg) : FnOk P w K mg base CX0 1 T.f_order_of T.d_order_of ["number", "other"] (lSp K sp_order_of) := by
  refine Fun.dl T.F_order_of sc_order_of (fun ds M E Q ⟨x, y, e, _⟩ => by rw [e]; rfl) (fun cdv A outer s H E hr => (dss_one (ds_ret (de_sub (de_int1 T.b_int (by rfl) (da_cons (de_gt (de_var (i := 0)) (de_var (i := 1))) da_nil')) (de_int1 T.b_int (by rfl) (da_cons (de_lt (de_var (i := 0)) (de_var (i := 1))) da_nil')))))) ?_
  rintro ds M E Q ⟨a, b, rfl, q⟩
  walk_at "dl"
  refine fin_id ?_
  unfold sg2 at q
  simpa using q
/-! ### compare, lex -/
def fv (cols : List Str) (vals : List Int) (c : Str) : Int := match idxS c cols with
  | some j => vals.getD j 0
  | none => 0
def dif (cols : List Str) (one other : List Int) (c : Str) : Int := match idxS c cols with
  | some j => sg2 (one.getD j 0) (other.getD j 0)
  | none => 0
/-- items of these columns -/
def Its (cols items : List Str) : Prop := ∀ it ∈ items, it.length ≤ 100 ∧ ∃ j, idxS (col it) cols = some j ∧ j < cols.length
theorem at_get {xs : List Int} {j : Nat} (h : j < xs.length) : atI (xs.map DV.int) (j : Nat) = some (.int (xs.getD j 0)) := by
  unfold atI ixN
  rw [if_pos (Int.natCast_nonneg j), if_pos (by rw [List.length_map]; omega), Option.bind_some, Int.toNat_natCast, List.getElem?_map, List.getElem?_eq_getElem h, List.getD_eq_getElem?_getD, List.getElem?_eq_getElem h]
  rfl
theorem sg2_zero {a b : Int} : sg2 a b = 0 ↔ a = b := by
  unfold sg2
  split <;> split <;> omega
def sp_compare : DSp := fun ds M E Q => ∃ (cols : List Str) (one other : List Int) (items : List Str), ds = [eS cols, eI one, eI other, eS items] ∧ one.length = cols.length ∧ other.length = cols.length ∧ Its cols items ∧ Q (.int (lexM (dif cols one other) items)) M
theorem ok_compare (T : Tx K mg) : FnOk P w K mg base CX0 3 T.f_compare T.d_compare ["columns", "one", "other", "items"] (lSp K sp_compare) := by
  refine Fun.dl T.F_compare sc_compare (fun ds M E Q ⟨_, _, _, _, e, _⟩ => by rw [e]; rfl) (fun cdv A outer s H E hr => (dss_cons (ds_for PassesOwn.never rfl (di_seq (de_var (i := 3))) (dg_name (i := 4) sc_compare.nd rfl (Or.inl rfl)) (dss_cons (ds_set (i := 5) sc_compare.nd rfl (Or.inl rfl) (de_mt PySem.F.plainAttrs_tuple PySem.F.slot_tuple_index PySem.F.type_tuple_index mt_tup_index lift_index (de_var (i := 0)) (da_cons (de_call (ok_column_of T) (hr.mono (by decide)) (by rfl) T.g_column_of T.F_column_of.kp T.B_column_of (da_cons (de_var (i := 4)) da_nil')) da_nil')))
        (dss_one (ds_if (dt_ne (hu64 hr) (de_ix (de_var (i := 1)) (de_var (i := 5))) (de_ix (de_var (i := 2)) (de_var (i := 5)))) (dss_cons (ds_set (i := 6) sc_compare.nd rfl (Or.inl rfl) (de_call (ok_order_of T) (hr.mono (by decide)) (by rfl) T.g_order_of T.F_order_of.kp T.B_order_of (da_cons (de_ix (de_var (i := 1)) (de_var (i := 5))) (da_cons (de_ix (de_var (i := 2)) (de_var (i := 5))) da_nil'))))
        (dss_one (ds_ret (de_if (dt_val (de_call (ok_is_falling T) (hr.mono (by decide)) (by rfl) T.g_is_falling T.F_is_falling.kp T.B_is_falling (da_cons (de_var (i := 4)) da_nil'))) (de_sub de_int (de_var (i := 6))) (de_var (i := 6)))))) dss_nil))))
        (dss_one (ds_ret de_int)))) ?_
  rintro ds M E Q ⟨cols, one, other, items, rfl, h1, h2, hi, q⟩
  unfold eS eI
  walk_at "dl"
  refine for_ind (fun xs sd M' => ∃ rest : List Str, xs = rest.map .str ∧ (∀ it ∈ rest, it ∈ items) ∧ M' = M ∧ Q (.int (lexM (dif cols one other) rest)) M ∧ ∃ a b c, sd = [some (.tup (cols.map .str)), some (.tup (one.map .int)), some (.tup (other.map .int)), some (.tup (items.map .str)), a, b, c]) ?_ ?_ _ _ _ ⟨items, rfl, fun _ h => h, rfl, q, _, _, _, rfl⟩
  · rintro sd M' ⟨rest, e, _, rfl, q, a, b, c, rfl⟩
    have : rest = [] := List.map_eq_nil_iff.mp e.symm
    subst this
    exact ⟨trivial, fin_id q⟩
  · rintro x xs sd M' Kf ⟨rest, e, hr, rfl, q, a, b, c, rfl⟩ kf
    cases rest with
    | nil => cases e
    | cons it rest =>
      rw [List.map_cons] at e
      injection e with e1 e2
      subst e1 e2
      obtain ⟨hl, j, hj, hjl⟩ := hi it (hr it (List.mem_cons_self ..))
      have hd : dif cols one other (col it) = sg2 (one.getD j 0) (other.getD j 0) := by
        unfold dif
        rw [hj]
      walk_at "dl"
      refine ⟨it, rfl, hl, ?_⟩
      walk_at "dl"
      refine ⟨cols, rfl, ?_⟩
      rw [hj]
      walk_at "dl"
      rw [at_get (by omega : j < one.length), at_get (by omega : j < other.length)]
      walk_at "dl"
      refine eqR_int' ?_
      walk_at "dl"
      by_cases e : one.getD j 0 = other.getD j 0
      · rw [decide_eq_true e]
        show Kf _ _
        refine kf _ _ ⟨rest, rfl, fun y hy => hr y (List.mem_cons_of_mem _ hy), rfl, ?_, _, _, _, rfl⟩
        have z : sg (dif cols one other) it = 0 := sg_zero.mpr (by rw [hd]; exact sg2_zero.mpr e)
        unfold lexM at q ⊢
        rw [List.map_cons] at q
        unfold fnz at q
        rw [if_pos z] at q
        exact q
      · rw [decide_eq_false e]
        have z : ¬ sg (dif cols one other) it = 0 := fun z => e (sg2_zero.mp (by rw [← hd]; exact sg_zero.mp z))
        have q' : Q (.int (sg (dif cols one other) it)) M' := by
          unfold lexM at q
          rw [List.map_cons] at q
          unfold fnz at q
          rw [if_neg z] at q
          exact q
        unfold sg at q'
        rw [hd] at q'
        refine ⟨_, _, rfl, it, rfl, hl, ?_⟩
        walk_at "dl"
        by_cases f : fall it = true
        · rw [if_pos f] at q' ⊢
          refine fin_id ?_
          rw [Int.zero_sub]
          exact q'
        · rw [if_neg f] at q' ⊢
          exact fin_id q'
def sp_lex : DSp := fun ds M E Q => ∃ (cols : List Str) (vals : List Int) (items : List Str), ds = [eS cols, eI vals, eS items] ∧ vals.length = cols.length ∧ Its cols items ∧ Q (.int (lexM (fv cols vals) items)) M
theorem ok_lex (T : Tx K mg) : FnOk P w K mg base CX0 3 T.f_lex T.d_lex ["columns", "signs", "items"] (lSp K sp_lex) := by
  refine Fun.dl T.F_lex sc_lex (fun ds M E Q ⟨_, _, _, e, _⟩ => by rw [e]; rfl) (fun cdv A outer s H E hr => (dss_cons (ds_for PassesOwn.never rfl (di_seq (de_var (i := 2))) (dg_name (i := 3) sc_lex.nd rfl (Or.inl rfl)) (dss_cons (ds_set (i := 4) sc_lex.nd rfl (Or.inl rfl) (de_ix (de_var (i := 1)) (de_mt PySem.F.plainAttrs_tuple PySem.F.slot_tuple_index PySem.F.type_tuple_index mt_tup_index lift_index (de_var (i := 0)) (da_cons (de_call (ok_column_of T) (hr.mono (by decide)) (by rfl) T.g_column_of T.F_column_of.kp T.B_column_of (da_cons (de_var (i := 3)) da_nil')) da_nil'))))
        (dss_one (ds_if (dt_ne (hu64 hr) (de_var (i := 4)) de_int) (dss_one (ds_ret (de_if (dt_val (de_call (ok_is_falling T) (hr.mono (by decide)) (by rfl) T.g_is_falling T.F_is_falling.kp T.B_is_falling (da_cons (de_var (i := 3)) da_nil'))) (de_sub de_int (de_var (i := 4))) (de_var (i := 4))))) dss_nil))))
        (dss_one (ds_ret de_int)))) ?_
  rintro ds M E Q ⟨cols, vals, items, rfl, h1, hi, q⟩
  unfold eS eI
  walk_at "dl"
  refine for_ind (fun xs sd M' => ∃ rest : List Str, xs = rest.map .str ∧ (∀ it ∈ rest, it ∈ items) ∧ M' = M ∧ Q (.int (lexM (fv cols vals) rest)) M ∧ ∃ a b, sd = [some (.tup (cols.map .str)), some (.tup (vals.map .int)), some (.tup (items.map .str)), a, b]) ?_ ?_ _ _ _ ⟨items, rfl, fun _ h => h, rfl, q, _, _, rfl⟩
  · rintro sd M' ⟨rest, e, _, rfl, q, a, b, rfl⟩
    have : rest = [] := List.map_eq_nil_iff.mp e.symm
    subst this
    exact ⟨trivial, fin_id q⟩
  · rintro x xs sd M' Kf ⟨rest, e, hr, rfl, q, a, b, rfl⟩ kf
    cases rest with
    | nil => cases e
    | cons it rest =>
      rw [List.map_cons] at e
      injection e with e1 e2
      subst e1 e2
      obtain ⟨hl, j, hj, hjl⟩ := hi it (hr it (List.mem_cons_self ..))
      have hd : fv cols vals (col it) = vals.getD j 0 := by
        unfold fv
        rw [hj]
      walk_at "dl"
      refine ⟨it, rfl, hl, ?_⟩
      walk_at "dl"
      refine ⟨cols, rfl, ?_⟩
      rw [hj]
      walk_at "dl"
      rw [at_get (by omega : j < vals.length)]
      walk_at "dl"
      refine eqR_int' ?_
      walk_at "dl"
      by_cases e : vals.getD j 0 = 0
      · rw [decide_eq_true e]
        show Kf _ _
        refine kf _ _ ⟨rest, rfl, fun y hy => hr y (List.mem_cons_of_mem _ hy), rfl, ?_, _, _, rfl⟩
        have z : sg (fv cols vals) it = 0 := sg_zero.mpr (by rw [hd]; exact e)
        unfold lexM at q ⊢
        rw [List.map_cons] at q
        unfold fnz at q
        rw [if_pos z] at q
        exact q
      · rw [decide_eq_false e]
        have z : ¬ sg (fv cols vals) it = 0 := fun z => e (by rw [← hd]; exact sg_zero.mp z)
        have q' : Q (.int (sg (fv cols vals) it)) M' := by
          unfold lexM at q
          rw [List.map_cons] at q
          unfold fnz at q
          rw [if_neg z] at q
          exact q
        unfold sg at q'
        rw [hd] at q'
        refine ⟨it, rfl, hl, ?_⟩
        walk_at "dl"
        by_cases f : fall it = true
        · rw [if_pos f] at q' ⊢
          refine fin_id ?_
          rw [Int.zero_sub]
          exact q'
        · rw [if_neg f] at q' ⊢
          exact fin_id q'
def eR (r : List Str × List Str) : DV := .tup [eS r.1, eS r.2]
def sp_keeps : DSp := fun ds M E Q => ∃ (cols : List Str) (vals : List Int) (r : List Str × List Str), ds = [eS cols, eI vals, eR r] ∧ vals.length = cols.length ∧ Its cols r.1 ∧ Its cols r.2 ∧ Q (.bl (keepsF (fv cols vals) r.1 r.2)) M
theorem ok_keeps (T : Tx K mg) : FnOk P w K mg base CX0 4 T.f_keeps T.d_keeps ["columns", "signs", "rule"] (lSp K sp_keeps) := by
  refine Fun.dl T.F_keeps sc_keeps (fun ds M E Q ⟨_, _, _, e, _⟩ => by rw [e]; rfl) (fun cdv A outer s H E hr => (dss_cons (ds_set (i := 3) sc_keeps.nd rfl (Or.inl rfl) (de_call (ok_lex T) (hr.mono (by decide)) (by rfl) T.g_lex T.F_lex.kp T.B_lex (da_cons (de_var (i := 0)) (da_cons (de_var (i := 1)) (da_cons (de_ix (de_var (i := 2)) de_int) da_nil')))))
        (dss_one (ds_ret (de_or (de_eq (hu64 hr) (de_var (i := 3)) de_int) (de_one (de_eq (hu64 hr) (de_var (i := 3)) (de_call (ok_lex T) (hr.mono (by decide)) (by rfl) T.g_lex T.F_lex.kp T.B_lex (da_cons (de_var (i := 0)) (da_cons (de_var (i := 1)) (da_cons (de_ix (de_var (i := 2)) de_int) da_nil'))))))))))) ?_
  rintro ds M E Q ⟨cols, vals, r, rfl, h1, hi1, hi2, q⟩
  unfold eR
  walk_at "dl"
  refine ⟨cols, vals, r.2, rfl, h1, hi2, ?_⟩
  refine eqR_int' ?_
  walk_at "dl"
  unfold keepsF at q
  by_cases e : lexM (fv cols vals) r.2 = 0
  · rw [decide_eq_true e] at q ⊢
    exact fin_id q
  · rw [decide_eq_false e] at q ⊢
    refine ⟨cols, vals, r.1, rfl, h1, hi1, ?_⟩
    refine eqR_int' (fin_id ?_)
    exact q
end
end K78
set_option Elab.async false
set_option linter.all false
set_option maxRecDepth 100000
set_option maxHeartbeats 4000000
namespace K78
open PySem PySem.Spec PyProof.Rows L2 DL
local macro_rules | `(tactic| walk_at "dl") => `(tactic| simp only [sSeq, sAsg, sRet, sRetF, sRetN, sIf, sFor, sPar, sDrop, sNext, sBrk, sCnt, dVar, dC, dCons, dNil, dTup, dLst, dLstM, dOp, dUn, dTest, dAnd, dOr, dNot, dAndV, dOrV, dNotV, dIf, dSl, dPart, dNoPart, dCB, dMt, dCall, dCallD, dYes, gNm, gTp, gConsD, gNilD, slot, setS, dAt, ifB, atSeq, atO, seqD, addD, ntD, ntD0, ordD, negD, ixR, slR, lenD, tupleD, startD, iSeqD, iR1, iR2, iEnumD, dSortSC, dLcR, dLc2R, lcStep, wipeD, unset, indexD, appendD, extendD, tyD, DL.intOfD, put_same, put_put, absD, maxD, minD, listD, listMD, allD, anyD, joinD, lstripD, DL.inR, flatD, List.all_cons, List.all_nil, Bool.and_self, List.any_cons, List.any_nil, popD, gSubD, setItemD, rFz, rMu, isT, true_and, Bool.not_true, Bool.not_false, Bool.false_eq_true, if_true, if_false, reduceIte, at_0, at_1, at_2, at_3, List.map_cons, List.map_nil, List.length_cons, List.length_nil, List.replicate, List.cons_append, List.nil_append, Nat.reduceAdd, Nat.reduceSub])
section
variable {P : Program} {w : World} {K : PySem.W.Frag} {mg : Str → Option Value} {base : Heap}

theorem ok_contradict' : True := trivial
def sp_contradict : DSp := fun ds M E Q => ∃ (cols : List Str) (one other : List Int) (r : List Str × List Str), ds = [eS cols, eI one, eI other, eR r] ∧ one.length = cols.length ∧ other.length = cols.length ∧ Its cols r.1 ∧ Its cols r.2 ∧ Q (.bl (contra (dif cols one other) r.1 r.2)) M
theorem ok_contradict (T : Tx K mg) : FnOk P w K mg base CX0 4 T.f_contradict T.d_contradict ["columns", "one", "other", "rule"] (lSp K sp_contradict) := by
  refine Fun.dl T.F_contradict sc_contradict (fun ds M E Q ⟨_, _, _, _, e, _⟩ => by rw [e]; rfl) (fun cdv A outer s H E hr => (dss_one (ds_ret (de_and (de_lt (de_call (ok_compare T) (hr.mono (by decide)) (by rfl) T.g_compare T.F_compare.kp T.B_compare (da_cons (de_var (i := 0)) (da_cons (de_var (i := 1)) (da_cons (de_var (i := 2)) (da_cons (de_ix (de_var (i := 3)) de_int) da_nil'))))) de_int) (de_one (de_gt (de_call (ok_compare T) (hr.mono (by decide)) (by rfl) T.g_compare T.F_compare.kp T.B_compare (da_cons (de_var (i := 0)) (da_cons (de_var (i := 1)) (da_cons (de_var (i := 2)) (da_cons (de_ix (de_var (i := 3)) de_int) da_nil'))))) de_int)))))) ?_
  rintro ds M E Q ⟨cols, one, other, r, rfl, h1, h2, hi1, hi2, q⟩
  unfold eR
  walk_at "dl"
  refine ⟨cols, one, other, r.1, rfl, h1, h2, hi1, ?_⟩
  walk_at "dl"
  unfold contra at q
  by_cases e : lexM (dif cols one other) r.1 < 1
  · rw [decide_eq_true e] at q ⊢
    refine ⟨cols, one, other, r.2, rfl, h1, h2, hi2, ?_⟩
    walk_at "dl"
    exact fin_id q
  · rw [decide_eq_false e] at q ⊢
    exact fin_id q
/-- rows of the columns' number -/
def RowsOk (cols : List Str) (rows : List (List Int)) : Prop := ∀ r ∈ rows, r.length = cols.length
def eT (cols : List Str) (rows : List (List Int)) : DV := .tup [eS cols, .tup (rows.map eI)]
/-- the table obeys the rule -/
def obeysF (cols : List Str) (rows : List (List Int)) (r : List Str × List Str) : Bool := rows.all fun one => rows.all fun other => !contra (dif cols one other) r.1 r.2
theorem at_mem {α : Type} {f : α → DV} {xs : List α} {i : Nat} (h : i < xs.length) : atI (xs.map f) (i : Nat) = some (f xs[i]) := by
  unfold atI ixN
  rw [if_pos (Int.natCast_nonneg i), if_pos (by rw [List.length_map]; omega), Option.bind_some, Int.toNat_natCast, List.getElem?_map, List.getElem?_eq_getElem h]
  rfl
def sp_violation : DSp := fun ds M E Q => ∃ (cols : List Str) (rows : List (List Int)) (r : List Str × List Str), ds = [eT cols rows, eR r, .int 0] ∧ RowsOk cols rows ∧ rows.length ≤ 100 ∧ Its cols r.1 ∧ Its cols r.2 ∧
  (obeysF cols rows r = true → Q .non M) ∧ (obeysF cols rows r = false → ∀ i j : Int, Q (.tup [.int i, .int j]) M)
theorem ok_violation (T : Tx K mg) : FnOk P w K mg base CX0 5 T.f_violation T.d_violation ["table", "rule", "start"] (lSp K sp_violation) := by
  refine Fun.dl T.F_violation sc_violation (fun ds M E Q ⟨_, _, _, e, _⟩ => by rw [e]; rfl) (fun cdv A outer s H E hr => (dss_cons (ds_asg (de_var (i := 0)) (dg_tup (n := 2) rfl (dgs_cons (dg_name (i := 3) sc_violation.nd rfl (Or.inl rfl)) (dgs_cons (dg_name (i := 4) sc_violation.nd rfl (Or.inl rfl)) dgs_nil))))
        (dss_cons (ds_for PassesOwn.never rfl (di_range2 (by rfl) T.b_range (da_cons (de_var (i := 2)) (da_cons (de_len T.b_len (by rfl) (da_cons (de_var (i := 4)) da_nil')) da_nil'))) (dg_name (i := 5) sc_violation.nd rfl (Or.inl rfl)) (dss_one (ds_for PassesOwn.never rfl (di_enum (by rfl) T.b_enumerate (da_cons (de_var (i := 4)) da_nil')) (dg_tup (n := 2) rfl (dgs_cons (dg_name (i := 6) sc_violation.nd rfl (Or.inl rfl)) (dgs_cons (dg_name (i := 7) sc_violation.nd rfl (Or.inl rfl)) dgs_nil))) (dss_one (ds_if (dt_val (de_call (ok_contradict T) (hr.mono (by decide)) (by rfl) T.g_contradict T.F_contradict.kp T.B_contradict (da_cons (de_var (i := 3)) (da_cons (de_ix (de_var (i := 4)) (de_var (i := 5))) (da_cons (de_var (i := 7)) (da_cons (de_var (i := 1)) da_nil')))))) (dss_one (ds_ret (de_tup (da_cons (de_var (i := 5)) (da_cons (de_var (i := 6)) da_nil'))))) dss_nil)))))
        (dss_one (ds_ret de_non))))) ?_
  rintro ds M E Q ⟨cols, rows, r, rfl, hr, hl, hi1, hi2, q1, q2⟩
  unfold eT
  walk_at "dl"
  rw [List.length_map]
  refine ⟨by omega, ?_⟩
  rw [show ((rows.length : Nat) - 0 : Int).toNat = rows.length by omega]
  refine for_range (fun k sd M' => M' = M ∧ (∀ one ∈ rows.take k, ∀ other ∈ rows, contra (dif cols one other) r.1 r.2 = false) ∧ ∃ a b c, sd = [some (eT cols rows), some (eR r), some (.int 0), some (eS cols), some (.tup (rows.map eI)), a, b, c]) ?_ ?_ ⟨rfl, fun _ h => by simp at h, _, _, _, rfl⟩
  · rintro sd M' ⟨rfl, h, a, b, c, rfl⟩
    walk_at "dl"
    refine fin_id (q1 ?_)
    unfold obeysF
    rw [List.all_eq_true]
    intro one ho
    rw [List.all_eq_true]
    intro other hx
    rw [h one (by rw [List.take_length]; exact ho) other hx]
    rfl
  · rintro i hi sd M' Kf ⟨rfl, h, a, b, c, rfl⟩ kf
    walk_at "dl"
    refine for_enum (fun k sd M2 => M2 = M' ∧ (∀ other ∈ rows.take k, contra (dif cols rows[i] other) r.1 r.2 = false) ∧ ∃ b c, sd = [some (eT cols rows), some (eR r), some (.int 0), some (eS cols), some (.tup (rows.map eI)), some (.int (0 + (i : Nat))), b, c]) ?_ ?_ ⟨rfl, fun _ h => by simp at h, _, _, rfl⟩
    · rintro sd M2 ⟨rfl, h2, b, c, rfl⟩
      refine and_of trivial (kf _ _ ⟨rfl, fun one ho other hx => ?_, _, _, _, rfl⟩)
      rw [List.take_succ, List.getElem?_eq_getElem hi] at ho
      rcases List.mem_append.mp ho with ho | ho
      · exact h one ho other hx
      · rw [List.mem_singleton.mp ho]
        exact h2 other (by rw [List.take_length]; exact hx)
    · rintro j hj sd M2 Kg ⟨rfl, h2, b, c, rfl⟩ kg
      walk_at "dl"
      rw [show (0 + (i : Nat) : Int) = ((i : Nat) : Int) by omega, at_mem hi]
      walk_at "dl"
      refine ⟨cols, rows[i], rows[j], r, rfl, hr _ (List.getElem_mem hi), hr _ (List.getElem_mem hj), hi1, hi2, ?_⟩
      walk_at "dl"
      by_cases e : contra (dif cols rows[i] rows[j]) r.1 r.2 = true
      · rw [if_pos e]
        refine ⟨by rw [sizeLine_eq]; omega, fin_id (q2 ?_ _ _)⟩
        refine Bool.eq_false_iff.mpr fun z => ?_
        unfold obeysF at z
        have z1 := List.all_eq_true.mp (List.all_eq_true.mp z _ (List.getElem_mem hi)) _ (List.getElem_mem hj)
        rw [e] at z1
        cases z1
      · rw [if_neg e]
        refine kg _ _ ⟨rfl, fun other ho => ?_, _, _, by rw [show (0 + (i : Nat) : Int) = ((i : Nat) : Int) by omega]⟩
        rw [List.take_succ, List.getElem?_eq_getElem hj] at ho
        rcases List.mem_append.mp ho with ho | ho
        · exact h2 other ho
        · rw [List.mem_singleton.mp ho]
          exact Bool.eq_false_iff.mpr e
def sp_obeys : DSp := fun ds M E Q => ∃ (cols : List Str) (rows : List (List Int)) (r : List Str × List Str), ds = [eT cols rows, eR r] ∧ RowsOk cols rows ∧ rows.length ≤ 100 ∧ Its cols r.1 ∧ Its cols r.2 ∧ Q (.bl (obeysF cols rows r)) M
theorem ok_obeys (T : Tx K mg) : FnOk P w K mg base CX0 6 T.f_obeys T.d_obeys ["table", "rule"] (lSp K sp_obeys) := by
  refine Fun.dl T.F_obeys sc_obeys (fun ds M E Q ⟨_, _, _, e, _⟩ => by rw [e]; rfl) (fun cdv A outer s H E hr => (dss_one (ds_ret (de_is (de_callD (ok_violation T) (hr.mono (by decide)) (by rfl) T.g_violation T.F_violation.kp T.B_violation_2 kv_violation_2 (da_cons (de_var (i := 0)) (da_cons (de_var (i := 1)) da_nil'))) de_non)))) ?_
  rintro ds M E Q ⟨cols, rows, r, rfl, hr, hl, hi1, hi2, q⟩
  walk_at "dl"
  refine ⟨cols, rows, r, rfl, hr, hl, hi1, hi2, fun e => ?_, fun e i j => ?_⟩
  · rw [e] at q
    exact fin_id q
  · rw [e] at q
    exact fin_id q
/-! ### parts -/
def eP : Part → DV
  | .fixed ctx c => .tup [.str "fixed", eS ctx, .str c]
  | .tog ctx a b => .tup [.str "together", eS ctx, .str a, .str b]
def PIts (cols : List Str) : Part → Prop
  | .fixed ctx c => Its cols ctx ∧ Its cols [c]
  | .tog ctx a b => Its cols ctx ∧ Its cols [a] ∧ Its cols [b]
def sp_differ : DSp := fun ds M E Q => ∃ (cols : List Str) (one other : List Int) (p : Part), ds = [eS cols, eI one, eI other, eP p] ∧ one.length = cols.length ∧ other.length = cols.length ∧ PIts cols p ∧ Q (.bl (agst (dif cols one other) p)) M
theorem agst_fx {f : Str → Int} {ctx : List Str} {c : Str} : agst f (.fixed ctx c) = (decide (lexM f ctx = 0) && !decide (lexM f [c] = 0)) := rfl
theorem agst_tg {f : Str → Int} {ctx : List Str} {a b : Str} : agst f (.tog ctx a b) = (decide (lexM f ctx = 0) && decide (lexM f [a] * lexM f [b] < 0)) := rfl
theorem dif_v1 {cols : List Str} {one other : List Int} : V1f (dif cols one other) := fun x => by
  unfold dif
  split
  · unfold sg2
    split <;> split <;> omega
  · exact .inr (.inl rfl)
theorem cmul_small {x y : Int} (hx : x = -1 ∨ x = 0 ∨ x = 1) (hy : y = -1 ∨ y = 0 ∨ y = 1) : CMulW x y := by
  unfold CMulW
  rcases hx with rfl | rfl | rfl <;> rcases hy with rfl | rfl | rfl <;> decide
theorem fx_fx : (("fixed" : Str) = ("fixed" : Str)) := rfl
theorem tg_fx : ¬ (("together" : Str) = ("fixed" : Str)) := by decide +kernel
theorem eqR_str' {neg : Bool} {i j : Str} {M : DM} {Q : DVK} (h : Q (.bl (if neg then !decide (i = j) else decide (i = j))) M) : eqR neg (.str i) (.str j) M Q := by rw [eqR_str]; exact h
theorem ok_differ (T : Tx K mg) : FnOk P w K mg base CX0 4 T.f_differ T.d_differ ["columns", "one", "other", "part"] (lSp K sp_differ) := by
  refine Fun.dl T.F_differ sc_differ (fun ds M E Q ⟨_, _, _, _, e, _⟩ => by rw [e]; rfl) (fun cdv A outer s H E hr => (dss_cons (ds_if (dt_ne (hu64 hr) (de_call (ok_compare T) (hr.mono (by decide)) (by rfl) T.g_compare T.F_compare.kp T.B_compare (da_cons (de_var (i := 0)) (da_cons (de_var (i := 1)) (da_cons (de_var (i := 2)) (da_cons (de_ix (de_var (i := 3)) de_int) da_nil'))))) de_int) (dss_one (ds_ret de_bl)) dss_nil)
        (dss_cons (ds_if (dt_eq (hu64 hr) (de_ix (de_var (i := 3)) de_int) (de_gstr (by rfl) T.c_FIXED)) (dss_one (ds_ret (de_ne (hu64 hr) (de_call (ok_compare T) (hr.mono (by decide)) (by rfl) T.g_compare T.F_compare.kp T.B_compare (da_cons (de_var (i := 0)) (da_cons (de_var (i := 1)) (da_cons (de_var (i := 2)) (da_cons (de_tup (da_cons (de_ix (de_var (i := 3)) de_int) da_nil')) da_nil'))))) de_int))) dss_nil)
        (dss_one (ds_ret (de_lt (de_mul (de_call (ok_compare T) (hr.mono (by decide)) (by rfl) T.g_compare T.F_compare.kp T.B_compare (da_cons (de_var (i := 0)) (da_cons (de_var (i := 1)) (da_cons (de_var (i := 2)) (da_cons (de_tup (da_cons (de_ix (de_var (i := 3)) de_int) da_nil')) da_nil'))))) (de_call (ok_compare T) (hr.mono (by decide)) (by rfl) T.g_compare T.F_compare.kp T.B_compare (da_cons (de_var (i := 0)) (da_cons (de_var (i := 1)) (da_cons (de_var (i := 2)) (da_cons (de_tup (da_cons (de_ix (de_var (i := 3)) de_int) da_nil')) da_nil')))))) de_int)))))) ?_
  rintro ds M E Q ⟨cols, one, other, p, rfl, h1, h2, hp, q⟩
  cases p with
  | fixed ctx c =>
    unfold eP
    walk_at "dl"
    refine ⟨cols, one, other, ctx, rfl, h1, h2, hp.1, eqR_int' ?_⟩
    walk_at "dl"
    rw [agst_fx] at q
    by_cases e : lexM (dif cols one other) ctx = 0
    · rw [decide_eq_true e] at q ⊢
      walk_at "dl"
      refine eqR_str' ?_
      rw [decide_eq_true fx_fx]
      walk_at "dl"
      refine ⟨by rw [sizeLine_eq]; omega, cols, one, other, [c], rfl, h1, h2, hp.2, eqR_int' (fin_id ?_)⟩
      exact q
    · rw [decide_eq_false e] at q ⊢
      exact fin_id q
  | tog ctx a b =>
    unfold eP
    walk_at "dl"
    refine ⟨cols, one, other, ctx, rfl, h1, h2, hp.1, eqR_int' ?_⟩
    walk_at "dl"
    rw [agst_tg] at q
    by_cases e : lexM (dif cols one other) ctx = 0
    · rw [decide_eq_true e] at q ⊢
      walk_at "dl"
      refine eqR_str' ?_
      rw [decide_eq_false tg_fx]
      walk_at "dl"
      refine ⟨by rw [sizeLine_eq]; omega, cols, one, other, [a], rfl, h1, h2, hp.2.1, ?_⟩
      refine ⟨by rw [sizeLine_eq]; omega, cols, one, other, [b], rfl, h1, h2, hp.2.2, ?_⟩
      walk_at "dl"
      exact ⟨cmul_small (lexM_v1 dif_v1 _) (lexM_v1 dif_v1 _), fin_id q⟩
    · rw [decide_eq_false e] at q ⊢
      exact fin_id q
def unI : DV → List Int
  | .tup ds => ds.map fun d => match d with
    | .int i => i
    | _ => 0
  | _ => []
theorem unI_eI (r : List Int) : unI (eI r) = r := by
  show (r.map DV.int).map (fun d => match d with
    | .int i => i
    | _ => 0) = r
  rw [List.map_map]
  exact List.map_id' r
def holdsF (cols : List Str) (rows : List (List Int)) (p : Part) : Bool := !((rows.flatMap fun one => rows.map fun other => agst (dif cols one other) p).any id)
def sp_holds : DSp := fun ds M E Q => ∃ (cols : List Str) (rows : List (List Int)) (p : Part), ds = [eT cols rows, eP p] ∧ RowsOk cols rows ∧ rows.length ≤ 100 ∧ PIts cols p ∧ Q (.bl (holdsF cols rows p)) M
theorem ok_holds (T : Tx K mg) : FnOk P w K mg base CX0 5 T.f_holds T.d_holds ["table", "part"] (lSp K sp_holds) := by
  refine Fun.dl T.F_holds sc_holds (fun ds M E Q ⟨_, _, _, e, _⟩ => by rw [e]; rfl) (fun cdv A outer s H E hr => (dss_cons (ds_asg (de_var (i := 0)) (dg_tup (n := 2) rfl (dgs_cons (dg_name (i := 2) sc_holds.nd rfl (Or.inr rfl)) (dgs_cons (dg_name (i := 3) sc_holds.nd rfl (Or.inr rfl)) dgs_nil))))
        (dss_one (ds_ret (de_not (de_any rfl T.b_any (by rfl) (da_cons (de_lc2 (vs1 := [5]) (own := [("one", 4), ("other", 5)]) rFz_ok rfl sc_holds.nd (di_seq (de_var (i := 3))) (blkOk_by (own := [("one", 4), ("other", 5)]) (N := N_holds) (sc := (defScope s_holds)) (by decide +kernel)) (fun _ _ _ _ _ => dg_name (i := 4) sc_holds.nd rfl (by first | exact Or.inl rfl | exact Or.inr rfl)) (fun _ _ _ _ _ => dts_nil) (fun _ _ _ _ _ => (di_seq (de_var (i := 3)))) (fun _ _ _ _ _ => dg_name (i := 5) sc_holds.nd rfl (by first | exact Or.inl rfl | exact Or.inr rfl)) (fun _ _ _ _ _ => dts_nil) (fun _ _ _ _ _ => (de_call (ok_differ T) (hr.mono (by decide)) (by rfl) T.g_differ T.F_differ.kp T.B_differ (da_cons (de_var (i := 2)) (da_cons (de_var (i := 4)) (da_cons (de_var (i := 5)) (da_cons (de_var (i := 1)) da_nil'))))))) da_nil'))))))) ?_
  rintro ds M E Q ⟨cols, rows, p, rfl, hr, hl, hp, q⟩
  unfold eT
  walk_at "dl"
  intro l hn
  refine lc2_pure (fun d => (rows.map fun other => agst (dif cols (unI d) other) p).map .bl) hn (fun _ => trivial) (rows.map eI) [] (fun x hx acc Nx hz nx => ?_) ?_ ?_
  · obtain ⟨one, ho, rfl⟩ := List.mem_map.mp hx
    rw [unI_eI] at nx hz
    walk_at "dl"
    refine lcIn_map (fun d => .bl (agst (dif cols one (unI d)) p)) (fun _ => trivial) (rows.map eI) acc (fun y hy acc' Ky Kn h => ?_) (by rw [List.length_map, List.length_map] at hz; rw [List.length_map]; exact hz) ?_
    · obtain ⟨other, hx, rfl⟩ := List.mem_map.mp hy
      rw [unI_eI] at h
      walk_at "dl"
      exact ⟨cols, one, other, p, rfl, hr _ ho, hr _ hx, hp, h⟩
    · rw [List.map_map] at nx ⊢
      have e : (List.map ((fun d => DV.bl (agst (dif cols one (unI d)) p)) ∘ eI) rows) = List.map (DV.bl ∘ fun other => agst (dif cols one other) p) rows := List.map_congr_left fun r _ => by
        show DV.bl (agst (dif cols one (unI (eI r))) p) = _
        rw [unI_eI]
        rfl
      rw [e]
      exact nx
  · rw [List.map_map, List.length_nil, Nat.zero_add]
    have e : (List.map ((fun x : DV => (List.map DV.bl (List.map (fun other => agst (dif cols (unI x) other) p) rows)).length) ∘ eI) rows) = List.map (fun _ => rows.length) rows := List.map_congr_left fun r _ => by
      show (List.map DV.bl (List.map _ rows)).length = _
      rw [List.length_map, List.length_map]
    rw [e, List.map_const', List.sum_replicate_nat, sizeLine_eq]
    have := Nat.mul_le_mul hl hl
    omega
  · have e : (rows.map eI).flatMap (fun d => (rows.map fun other => agst (dif cols (unI d) other) p).map DV.bl) = (rows.flatMap fun one => rows.map fun other => agst (dif cols one other) p).map DV.bl := by
      rw [List.flatMap_map, List.map_flatMap]
      congr 1
      funext r
      rw [unI_eI]
    rw [List.nil_append, e]
    refine ⟨rfl, _, rfl, ?_⟩
    exact fin_id q
def sp_rules_of : DSp := fun ds M E Q => ∃ p : Part, ds = [eP p] ∧ (p.ctx.length ≤ 1000) ∧ Q (.tup ((rulesP p).map eR)) M
theorem ok_rules_of (T : Tx K mg) : FnOk P w K mg base CX0 1 T.f_rules_of T.d_rules_of ["part"] (lSp K sp_rules_of) := by
  refine Fun.dl T.F_rules_of sc_rules_of (fun ds M E Q ⟨_, e, _⟩ => by rw [e]; rfl) (fun cdv A outer s H E hr => (dss_cons (ds_set (i := 1) sc_rules_of.nd rfl (Or.inl rfl) (de_ix (de_var (i := 0)) de_int))
        (dss_cons (ds_if (dt_eq (hu64 hr) (de_ix (de_var (i := 0)) de_int) (de_gstr (by rfl) T.c_FIXED)) (dss_one (ds_ret (de_tup (da_cons (de_tup (da_cons (de_var (i := 1)) (da_cons (de_add (de_var (i := 1)) (de_tup (da_cons (de_ix (de_var (i := 0)) de_int) da_nil'))) da_nil'))) da_nil')))) dss_nil)
        (dss_cons (ds_par (i := 2) (j := 3) rfl sc_rules_of.nd rfl rfl (by decide) rfl rfl (da_cons (de_add (de_var (i := 1)) (de_tup (da_cons (de_ix (de_var (i := 0)) de_int) (da_cons (de_ix (de_var (i := 0)) de_int) da_nil')))) (da_cons (de_add (de_var (i := 1)) (de_tup (da_cons (de_ix (de_var (i := 0)) de_int) (da_cons (de_ix (de_var (i := 0)) de_int) da_nil')))) da_nil')) (by rfl))
        (dss_one (ds_ret (de_tup (da_cons (de_tup (da_cons (de_var (i := 2)) (da_cons (de_var (i := 3)) da_nil'))) (da_cons (de_tup (da_cons (de_var (i := 3)) (da_cons (de_var (i := 2)) da_nil'))) da_nil'))))))))) ?_
  rintro ds M E Q ⟨p, rfl, hl, q⟩
  cases p with
  | fixed ctx c =>
    have hl' : ctx.length ≤ 1000 := hl
    unfold eP eS
    walk_at "dl"
    refine eqR_str' ?_
    rw [decide_eq_true fx_fx]
    walk_at "dl"
    refine ⟨by rw [sizeLine_eq]; omega, by rw [sizeLine_eq, List.length_map]; omega, by rw [sizeLine_eq]; omega, by rw [sizeLine_eq]; omega, fin_id ?_⟩
    unfold rulesP eR eS at q
    rw [List.map_cons, List.map_nil, List.map_append] at q
    exact q
  | tog ctx a b =>
    have hl' : ctx.length ≤ 1000 := hl
    unfold eP eS
    walk_at "dl"
    refine eqR_str' ?_
    rw [decide_eq_false tg_fx]
    walk_at "dl"
    have z2 : 2 ≤ sizeLine := by rw [sizeLine_eq]; omega
    have z3 : (ctx.map DV.str).length + 2 ≤ sizeLine := by rw [sizeLine_eq, List.length_map]; omega
    unfold rulesP eR eS at q
    rw [List.map_cons, List.map_cons, List.map_nil, List.map_append, List.map_append] at q
    exact ⟨z2, z3, z2, z3, z2, z2, z2, fin_id q⟩
end
end K78
set_option Elab.async false
set_option linter.all false
set_option maxRecDepth 100000
set_option maxHeartbeats 4000000
namespace K78
open PySem PySem.Spec PyProof.Rows L2 DL
local macro_rules | `(tactic| walk_at "dl") => `(tactic| simp only [sSeq, sAsg, sRet, sRetF, sRetN, sIf, sFor, sPar, sDrop, sNext, sBrk, sCnt, dVar, dC, dCons, dNil, dTup, dLst, dLstM, dOp, dUn, dTest, dAnd, dOr, dNot, dAndV, dOrV, dNotV, dIf, dSl, dPart, dNoPart, dCB, dMt, dCall, dCallD, dYes, gNm, gTp, gConsD, gNilD, slot, setS, dAt, ifB, atSeq, atO, seqD, addD, ntD, ntD0, ordD, negD, ixR, slR, lenD, tupleD, startD, iSeqD, iR1, iR2, iEnumD, dSortSC, dLcR, dLc2R, lcStep, wipeD, unset, indexD, appendD, extendD, tyD, DL.intOfD, put_same, put_put, absD, maxD, minD, listD, listMD, allD, anyD, joinD, lstripD, DL.inR, flatD, List.all_cons, List.all_nil, Bool.and_self, List.any_cons, List.any_nil, popD, gSubD, setItemD, rFz, rMu, isT, true_and, Bool.not_true, Bool.not_false, Bool.false_eq_true, if_true, if_false, reduceIte, at_0, at_1, at_2, at_3, List.map_cons, List.map_nil, List.length_cons, List.length_nil, List.replicate, List.cons_append, List.nil_append, Nat.reduceAdd, Nat.reduceSub])
section
variable {P : Program} {w : World} {K : PySem.W.Frag} {mg : Str → Option Value} {base : Heap}

/-! ### all signs -/
def tlD : DV → List DV
  | .tup ds => ds
  | _ => []
def allPat : Nat → List (List Int)
  | 0 => [[]]
  | n + 1 => (allPat n).flatMap fun s => [s ++ [-1], s ++ [0], s ++ [1]]
theorem pat_len : ∀ {n : Nat} {s : List Int}, s ∈ allPat n → s.length = n
  | 0, s, h => by
    rw [List.mem_singleton.mp h]
    rfl
  | n + 1, s, h => by
    obtain ⟨t, ht, hs⟩ := List.mem_flatMap.mp h
    have := pat_len ht
    simp only [List.mem_cons, List.not_mem_nil, or_false] at hs
    rcases hs with rfl | rfl | rfl <;> rw [List.length_append, List.length_singleton, this]
theorem pat_v1 : ∀ {n : Nat} {s : List Int}, s ∈ allPat n → V1 s
  | 0, s, h => by
    rw [List.mem_singleton.mp h]
    intro x hx
    cases hx
  | n + 1, s, h => by
    obtain ⟨t, ht, hs⟩ := List.mem_flatMap.mp h
    have v := pat_v1 ht
    simp only [List.mem_cons, List.not_mem_nil, or_false] at hs
    intro x hx
    rcases hs with rfl | rfl | rfl <;> (rcases List.mem_append.mp hx with hx | hx; · exact v x hx) <;> (rw [List.mem_singleton] at hx; omega)
theorem pat_count : ∀ n, (allPat n).length = 3 ^ n
  | 0 => rfl
  | n + 1 => by
    unfold allPat
    have key : ∀ l : List (List Int), (l.flatMap fun s => [s ++ [-1], s ++ [0], s ++ [1]]).length = l.length * 3 := by
      intro l
      induction l with
      | nil => rfl
      | cons a l ih =>
        rw [List.flatMap_cons, List.length_append, ih]
        show 3 + l.length * 3 = (l.length + 1) * 3
        omega
    rw [key, pat_count n, Nat.pow_succ]
theorem fv_v1 {cols : List Str} {s : List Int} (h : V1 s) : V1f (fv cols s) := fun x => by
  unfold fv
  split
  · rename_i j _
    by_cases hj : j < s.length
    · rw [List.getD_eq_getElem?_getD, List.getElem?_eq_getElem hj]
      exact h _ (List.getElem_mem hj)
    · rw [List.getD_eq_getElem?_getD, List.getElem?_eq_none (by omega)]
      exact .inr (.inl rfl)
  · exact .inr (.inl rfl)
def sp_every_signs : DSp := fun ds M E Q => ∃ cols : List Str, ds = [eS cols] ∧ cols.length ≤ 6 ∧ Q (.lst ((allPat cols.length).map eI)) M
theorem ok_every_signs (T : Tx K mg) : FnOk P w K mg base CX0 1 T.f_every_signs T.d_every_signs ["columns"] (lSp K sp_every_signs) := by
  refine Fun.dl T.F_every_signs sc_every_signs (fun ds M E Q ⟨_, e, _⟩ => by rw [e]; rfl) (fun cdv A outer s H E hr => (dss_cons (ds_set (i := 1) sc_every_signs.nd rfl (Or.inl rfl) (de_lst (da_cons (de_tup da_nil') da_nil')))
        (dss_cons (ds_for PassesOwn.never rfl (di_seq (de_var (i := 0))) (dg_name (i := 2) sc_every_signs.nd rfl (Or.inl rfl)) (dss_one (ds_setLc2 (vs1 := [4]) (own := [("some", 3), ("sign", 4)]) (i := 1) rFz_ok rfl sc_every_signs.nd rfl rfl (sw_true rfl rfl rfl (by decide +kernel)) (di_seq (de_var (i := 1))) (blkOk_by (own := [("some", 3), ("sign", 4)]) (N := N_every_signs) (sc := (defScope s_every_signs)) (by decide +kernel)) (fun _ _ _ _ _ => dg_name (i := 3) sc_every_signs.nd rfl (by first | exact Or.inl rfl | exact Or.inr rfl)) (fun _ _ _ _ _ => dts_nil) (fun _ _ _ _ _ => (di_seq (de_gtup (by rfl) T.c_SIGNS T.k_SIGNS))) (fun _ _ _ _ _ => dg_name (i := 4) sc_every_signs.nd rfl (by first | exact Or.inl rfl | exact Or.inr rfl)) (fun _ _ _ _ _ => dts_nil) (fun _ _ _ _ _ => (de_add (de_var (i := 3)) (de_tup (da_cons (de_var (i := 4)) da_nil')))))))
        (dss_one (ds_retF (de_var (i := 1))))))) ?_
  rintro ds M E Q ⟨cols, rfl, hl, q⟩
  unfold eS
  walk_at "dl"
  refine ⟨by rw [sizeLine_eq]; omega, by rw [sizeLine_eq]; omega, ?_⟩
  refine for_map (fun k sd M' => M' = M ∧ ∃ a b c, sd = [some (.tup (cols.map .str)), some (.lst ((allPat k).map eI)), a, b, c]) ?_ ?_ ⟨rfl, _, _, _, rfl⟩
  · rintro sd M' ⟨rfl, a, b, c, rfl⟩
    walk_at "dl"
    exact fin_id q
  · rintro i hi sd M' Kf ⟨rfl, a, b, c, rfl⟩ kf
    walk_at "dl"
    intro l hn
    have hp : (3 : Nat) ^ i ≤ 3 ^ 6 := Nat.pow_le_pow_right (by decide) (by omega)
    refine lc2_pure (fun d => [(-1 : Int), 0, 1].map fun x => .tup (tlD d ++ [.int x])) hn (fun _ => trivial) ((allPat i).map eI) [] (fun x hx acc Nx hz nx => ?_) ?_ ?_
    · obtain ⟨s, hs, rfl⟩ := List.mem_map.mp hx
      walk_at "dl"
      have hsl := pat_len hs
      refine lcIn_map (fun d => .tup (tlD (eI s) ++ [d])) (fun _ => trivial) [.int (-1), .int 0, .int 1] acc (fun y hy acc' Ky Kn h => ?_) (by simpa using hz) ?_
      · unfold eI
        walk_at "dl"
        refine ⟨by rw [sizeLine_eq]; omega, ?_, h⟩
        rw [List.length_map, hsl, sizeLine_eq]
        omega
      · exact nx
    · rw [List.map_map, List.length_nil, Nat.zero_add]
      have e : (List.map ((fun d : DV => ([(-1 : Int), 0, 1].map fun x => DV.tup (tlD d ++ [.int x])).length) ∘ eI) (allPat i)) = List.map (fun _ => 3) (allPat i) := List.map_congr_left fun r _ => rfl
      rw [e, List.map_const', List.sum_replicate_nat, pat_count, sizeLine_eq]
      omega
    · have e : ((allPat i).map eI).flatMap (fun d => [(-1 : Int), 0, 1].map fun x => DV.tup (tlD d ++ [.int x])) = (allPat (i + 1)).map eI := by
        rw [List.flatMap_map]
        show _ = ((allPat i).flatMap fun s => [s ++ [-1], s ++ [0], s ++ [1]]).map eI
        rw [List.map_flatMap]
        congr 1
        funext s
        have e3 : ∀ x : Int, DV.tup (tlD (eI s) ++ [.int x]) = eI (s ++ [x]) := fun x => by
          show DV.tup (s.map .int ++ [.int x]) = .tup ((s ++ [x]).map .int)
          rw [List.map_append]
          rfl
        simp only [List.map_cons, List.map_nil, e3]
      rw [List.nil_append, e]
      exact kf _ _ ⟨rfl, _, _, _, rfl⟩
/-- the allowed signs -/
def allowedF (cols : List Str) (rules : List (List Str × List Str)) : List (List Int) := (allPat cols.length).filter fun s => rules.all fun r => keepsF (fv cols s) r.1 r.2
def RIts (cols : List Str) (rules : List (List Str × List Str)) : Prop := ∀ r ∈ rules, Its cols r.1 ∧ Its cols r.2
def sp_allowed : DSp := fun ds M E Q => ∃ (cols : List Str) (rules : List (List Str × List Str)), ds = [eS cols, .tup (rules.map eR)] ∧ cols.length ≤ 6 ∧ RIts cols rules ∧ Q (.tup ((allowedF cols rules).map eI)) M
theorem ok_allowed (T : Tx K mg) : FnOk P w K mg base CX0 5 T.f_allowed T.d_allowed ["columns", "rules"] (lSp K sp_allowed) := by
  refine Fun.dl T.F_allowed sc_allowed (fun ds M E Q ⟨_, _, e, _⟩ => by rw [e]; rfl) (fun cdv A outer s H E hr => (dss_cons (ds_set (i := 2) sc_allowed.nd rfl (Or.inl rfl) (de_call (ok_every_signs T) (hr.mono (by decide)) (by rfl) T.g_every_signs T.F_every_signs.kp T.B_every_signs (da_cons (de_var (i := 0)) da_nil')))
        (dss_cons (ds_for PassesOwn.never rfl (di_seq (de_var (i := 1))) (dg_name (i := 3) sc_allowed.nd rfl (Or.inr rfl)) (dss_one (ds_setLc (own := [("some", 4)]) (i := 2) rFz_ok rfl sc_allowed.nd rfl rfl (sw_true rfl rfl rfl (by decide +kernel)) (di_seq (de_var (i := 2))) (blkOk_by (own := [("some", 4)]) (N := N_allowed) (sc := (defScope s_allowed)) (by decide +kernel)) (fun _ _ _ _ _ => dg_name (i := 4) sc_allowed.nd rfl (by first | exact Or.inl rfl | exact Or.inr rfl)) (fun _ _ _ _ _ => (dts_one (dt_val (de_call (ok_keeps T) (hr.mono (by decide)) (by rfl) T.g_keeps T.F_keeps.kp T.B_keeps (da_cons (de_var (i := 0)) (da_cons (de_var (i := 4)) (da_cons (de_var (i := 3)) da_nil'))))))) (fun _ _ _ _ _ => (de_var (i := 4))))))
        (dss_one (ds_ret (de_tuple T.b_tuple (by rfl) (da_cons (de_var (i := 2)) da_nil'))))))) ?_
  rintro ds M E Q ⟨cols, rules, rfl, hl, hr, q⟩
  walk_at "dl"
  refine ⟨cols, rfl, hl, ?_⟩
  walk_at "dl"
  refine for_map (fun k sd M' => M' = M ∧ ∃ a b, sd = [some (eS cols), some (.tup (rules.map eR)), some (.lst ((allowedF cols (rules.take k)).map eI)), a, b]) ?_ ?_ ⟨rfl, none, none, ?_⟩
  · rintro sd M' ⟨rfl, a, b, rfl⟩
    rw [List.take_length]
    walk_at "dl"
    exact fin_id q
  · rintro i hi sd M' Kf ⟨rfl, a, b, rfl⟩ kf
    walk_at "dl"
    intro l hn
    have pc := pat_count cols.length
    have hp : (3 : Nat) ^ cols.length ≤ 3 ^ 6 := Nat.pow_le_pow_right (by decide) hl
    have fl : (allowedF cols (rules.take i)).length ≤ 729 := by
      refine Nat.le_trans (List.length_filter_le _ _) ?_
      rw [pc]
      exact hp
    refine lc_filter (fun d => keepsF (fv cols (unI d)) rules[i].1 rules[i].2) hn (fun _ => trivial) (fun x hx acc Ky Kn h1 h2 => ?_) (by rw [List.length_map, sizeLine_eq]; omega) ?_
    · obtain ⟨s, hs, rfl⟩ := List.mem_map.mp hx
      rw [unI_eI] at h1 h2
      have hs' := (List.mem_filter.mp hs).1
      have ri := hr _ (List.getElem_mem hi)
      walk_at "dl"
      refine ⟨cols, s, rules[i], rfl, pat_len hs', ri.1, ri.2, ?_⟩
      walk_at "dl"
      by_cases e : keepsF (fv cols s) rules[i].1 rules[i].2 = true
      · rw [if_pos e]
        exact h1 e
      · rw [if_neg e]
        exact h2 (Bool.eq_false_iff.mpr e)
    · have e : ((allowedF cols (rules.take i)).map eI).filter (fun d => keepsF (fv cols (unI d)) rules[i].1 rules[i].2) = (allowedF cols (rules.take (i + 1))).map eI := by
        rw [List.filter_map]
        congr 1
        unfold allowedF
        rw [List.filter_filter]
        refine List.filter_congr fun s _ => ?_
        show (keepsF (fv cols (unI (eI s))) rules[i].1 rules[i].2 && _) = _
        rw [unI_eI, List.take_succ, List.getElem?_eq_getElem hi, List.all_append, Option.toList_some, List.all_cons, List.all_nil, Bool.and_true, Bool.and_comm]
      rw [e]
      exact kf _ _ ⟨rfl, _, _, rfl⟩
  · rw [List.take_zero]
    have e : allowedF cols [] = allPat cols.length := List.filter_eq_self.mpr fun _ _ => rfl
    rw [e]
def followsF (cols : List Str) (rules : List (List Str × List Str)) (known wanted : List Str) : Bool := (allowedF cols rules).all fun s => !contra (fv cols s) known wanted
def sp_contradicting : DSp := fun ds M E Q => ∃ (cols : List Str) (rules : List (List Str × List Str)) (known wanted : List Str), ds = [eS cols, .tup (rules.map eR), eS known, eS wanted] ∧ cols.length ≤ 6 ∧ RIts cols rules ∧ Its cols known ∧ Its cols wanted ∧
  (followsF cols rules known wanted = true → Q .non M) ∧ (followsF cols rules known wanted = false → ∀ s, Q (eI s) M)
theorem ok_contradicting (T : Tx K mg) : FnOk P w K mg base CX0 6 T.f_contradicting T.d_contradicting ["columns", "rules", "known", "wanted"] (lSp K sp_contradicting) := by
  refine Fun.dl T.F_contradicting sc_contradicting (fun ds M E Q ⟨_, _, _, _, e, _⟩ => by rw [e]; rfl) (fun cdv A outer s H E hr => (dss_cons (ds_for PassesOwn.never rfl (di_seq (de_call (ok_allowed T) (hr.mono (by decide)) (by rfl) T.g_allowed T.F_allowed.kp T.B_allowed (da_cons (de_var (i := 0)) (da_cons (de_var (i := 1)) da_nil')))) (dg_name (i := 4) sc_contradicting.nd rfl (Or.inl rfl)) (dss_one (ds_if (dw_pt (dw_and (dt_lt (de_call (ok_lex T) (hr.mono (by decide)) (by rfl) T.g_lex T.F_lex.kp T.B_lex (da_cons (de_var (i := 0)) (da_cons (de_var (i := 4)) (da_cons (de_var (i := 2)) da_nil')))) de_int) (dw_and1 (dt_gt (de_call (ok_lex T) (hr.mono (by decide)) (by rfl) T.g_lex T.F_lex.kp T.B_lex (da_cons (de_var (i := 0)) (da_cons (de_var (i := 4)) (da_cons (de_var (i := 3)) da_nil')))) de_int)))) (dss_one (ds_retF (de_var (i := 4)))) dss_nil)))
        (dss_one (ds_ret de_non)))) ?_
  rintro ds M E Q ⟨cols, rules, known, wanted, rfl, hl, hr, hi1, hi2, q1, q2⟩
  walk_at "dl"
  refine ⟨cols, rules, rfl, hl, hr, ?_⟩
  walk_at "dl"
  refine for_map (fun k sd M' => M' = M ∧ (∀ s ∈ (allowedF cols rules).take k, contra (fv cols s) known wanted = false) ∧ ∃ a, sd = [some (eS cols), some (.tup (rules.map eR)), some (eS known), some (eS wanted), a]) ?_ ?_ ⟨rfl, fun _ h => by simp at h, _, rfl⟩
  · rintro sd M' ⟨rfl, h, a, rfl⟩
    walk_at "dl"
    refine fin_id (q1 ?_)
    unfold followsF
    rw [List.all_eq_true]
    intro s hs
    rw [h s (by rw [List.take_length]; exact hs)]
    rfl
  · rintro i hi sd M' Kf ⟨rfl, h, a, rfl⟩ kf
    have hs := (List.mem_filter.mp (List.getElem_mem hi)).1
    walk_at "dl"
    refine ⟨cols, (allowedF cols rules)[i], known, rfl, pat_len hs, hi1, ?_⟩
    walk_at "dl"
    have keep : contra (fv cols (allowedF cols rules)[i]) known wanted = false → ∀ s ∈ (allowedF cols rules).take (i + 1), contra (fv cols s) known wanted = false := fun e s hs => by
      rw [List.take_succ, List.getElem?_eq_getElem hi] at hs
      rcases List.mem_append.mp hs with hs | hs
      · exact h s hs
      · rw [List.mem_singleton.mp hs]
        exact e
    by_cases e1 : lexM (fv cols (allowedF cols rules)[i]) known < 1
    · rw [decide_eq_true e1]
      walk_at "dl"
      refine ⟨cols, (allowedF cols rules)[i], wanted, rfl, pat_len hs, hi2, ?_⟩
      walk_at "dl"
      by_cases e2 : 0 < lexM (fv cols (allowedF cols rules)[i]) wanted
      · rw [decide_eq_true e2]
        walk_at "dl"
        refine fin_id (q2 (Bool.eq_false_iff.mpr fun z => ?_) _)
        have := List.all_eq_true.mp z _ (List.getElem_mem hi)
        unfold contra at this
        rw [decide_eq_true e1, decide_eq_true e2] at this
        cases this
      · rw [decide_eq_false e2]
        walk_at "dl"
        refine kf _ _ ⟨rfl, keep ?_, _, rfl⟩
        unfold contra
        rw [decide_eq_false e2, Bool.and_false]
    · rw [decide_eq_false e1]
      walk_at "dl"
      refine kf _ _ ⟨rfl, keep ?_, _, rfl⟩
      unfold contra
      rw [decide_eq_false e1, Bool.false_and]
def sp_follows : DSp := fun ds M E Q => ∃ (cols : List Str) (rules : List (List Str × List Str)) (known wanted : List Str), ds = [eS cols, .tup (rules.map eR), eS known, eS wanted] ∧ cols.length ≤ 6 ∧ RIts cols rules ∧ Its cols known ∧ Its cols wanted ∧ Q (.bl (followsF cols rules known wanted)) M
theorem ok_follows (T : Tx K mg) : FnOk P w K mg base CX0 7 T.f_follows T.d_follows ["columns", "rules", "known", "wanted"] (lSp K sp_follows) := by
  refine Fun.dl T.F_follows sc_follows (fun ds M E Q ⟨_, _, _, _, e, _⟩ => by rw [e]; rfl) (fun cdv A outer s H E hr => (dss_one (ds_ret (de_is (de_call (ok_contradicting T) (hr.mono (by decide)) (by rfl) T.g_contradicting T.F_contradicting.kp T.B_contradicting (da_cons (de_var (i := 0)) (da_cons (de_var (i := 1)) (da_cons (de_var (i := 2)) (da_cons (de_var (i := 3)) da_nil'))))) de_non)))) ?_
  rintro ds M E Q ⟨cols, rules, known, wanted, rfl, hl, hr, hi1, hi2, q⟩
  walk_at "dl"
  refine ⟨cols, rules, known, wanted, rfl, hl, hr, hi1, hi2, fun e => ?_, fun e s => ?_⟩
  · rw [e] at q
    exact fin_id q
  · rw [e] at q
    exact fin_id q
end
end K78
set_option Elab.async false
set_option linter.all false
set_option maxRecDepth 100000
set_option maxHeartbeats 4000000
namespace K78
open PySem PySem.Spec PyProof.Rows L2 DL
local macro_rules | `(tactic| walk_at "dl") => `(tactic| simp only [sSeq, sAsg, sRet, sRetF, sRetN, sIf, sFor, sPar, sDrop, sNext, sBrk, sCnt, dVar, dC, dCons, dNil, dTup, dLst, dLstM, dOp, dUn, dTest, dAnd, dOr, dNot, dAndV, dOrV, dNotV, dIf, dSl, dPart, dNoPart, dCB, dMt, dCall, dCallD, dYes, gNm, gTp, gConsD, gNilD, slot, setS, dAt, ifB, atSeq, atO, seqD, addD, ntD, ntD0, ordD, negD, ixR, slR, lenD, tupleD, startD, iSeqD, iR1, iR2, iEnumD, dSortSC, dLcR, dLc2R, lcStep, wipeD, unset, indexD, appendD, extendD, tyD, DL.intOfD, put_same, put_put, absD, maxD, minD, listD, listMD, allD, anyD, joinD, lstripD, DL.inR, flatD, List.all_cons, List.all_nil, Bool.and_self, List.any_cons, List.any_nil, popD, gSubD, setItemD, rFz, rMu, isT, true_and, Bool.not_true, Bool.not_false, Bool.false_eq_true, if_true, if_false, reduceIte, at_0, at_1, at_2, at_3, List.map_cons, List.map_nil, List.length_cons, List.length_nil, List.replicate, List.cons_append, List.nil_append, Nat.reduceAdd, Nat.reduceSub])
section
variable {P : Program} {w : World} {K : PySem.W.Frag} {mg : Str → Option Value} {base : Heap}

open PySem.W (alike alikeAll AllAlike)
/-! ### parts_of -/
theorem strs_inj : ∀ {xs ys : List Str}, xs.map DV.str = ys.map DV.str → xs = ys
  | [], [], _ => rfl
  | [], _ :: _, h => by cases h
  | _ :: _, [], h => by cases h
  | x :: xs, y :: ys, h => by
    rw [List.map_cons, List.map_cons] at h
    injection h with a b
    injection a with a
    rw [a, strs_inj b]
theorem eS_inj {xs ys : List Str} (h : eS xs = eS ys) : xs = ys := by
  unfold eS at h
  injection h with h
  exact strs_inj h
theorem eP_inj {p q : Part} (h : eP p = eP q) : p = q := by
  cases p with
  | fixed c a =>
    cases q with
    | fixed c' a' =>
      injection h with h
      injection h with _ h
      injection h with h1 h
      injection h with h2 _
      injection h2 with h2
      rw [eS_inj h1, h2]
    | tog c' a' b' =>
      injection h with h
      injection h with h1 _
      injection h1 with h1
      exact absurd h1.symm tg_fx
  | tog c a b =>
    cases q with
    | fixed c' a' =>
      injection h with h
      injection h with h1 _
      injection h1 with h1
      exact absurd h1 tg_fx
    | tog c' a' b' =>
      injection h with h
      injection h with _ h
      injection h with h1 h
      injection h with h2 h
      injection h with h3 _
      injection h2 with h2
      injection h3 with h3
      rw [eS_inj h1, h2, h3]
theorem alike_strs : ∀ xs ys : List Str, alikeAll (toPys (xs.map .str)) (toPys (ys.map .str)) = true
  | [], _ => by rw [List.map_nil, toPys, alikeAll]
  | _ :: _, [] => by rw [List.map_cons, List.map_nil, toPys, toPys, alikeAll]
  | x :: xs, y :: ys => by
    rw [List.map_cons, List.map_cons, toPys, toPys, alikeAll, alike_strs xs ys, toPy, toPy, alike]
    rfl
theorem alike_eP (p q : Part) : alike (toPy (eP p)) (toPy (eP q)) = true := by
  cases p <;> cases q <;> (unfold eP eS; simp only [toPy, toPys, alike, alikeAll, alike_strs, Bool.and_self, Bool.and_true, Bool.true_and])
theorem okK_eP (p : Part) : okK 8 (eP p) := by
  have str : ∀ n x, okK n (.str x) := fun n x => by cases n <;> exact trivial
  have es : ∀ n xs, okK (n + 1) (eS xs) := fun n xs d hd => by
    obtain ⟨x, _, rfl⟩ := List.mem_map.mp hd
    exact str n x
  cases p with
  | fixed c a =>
    intro d hd
    rcases List.mem_cons.mp hd with rfl | hd
    · exact str 7 _
    · rcases List.mem_cons.mp hd with rfl | hd
      · exact es 6 _
      · rw [List.mem_singleton.mp hd]
        exact str 7 _
  | tog c a b =>
    intro d hd
    rcases List.mem_cons.mp hd with rfl | hd
    · exact str 7 _
    · rcases List.mem_cons.mp hd with rfl | hd
      · exact es 6 _
      · rcases List.mem_cons.mp hd with rfl | hd
        · exact str 7 _
        · rw [List.mem_singleton.mp hd]
          exact str 7 _
theorem eP_cons (p : Part) : ∃ x ds, eP p = .tup (x :: ds) := by cases p <;> exact ⟨_, _, rfl⟩
def sp_parts_of : DSp := fun ds M E Q => ∃ first second : List Str, ds = [eR (first, second)] ∧ first.length ≤ 5 ∧ second.length ≤ 5 ∧ Sh first ∧ Sh second ∧ ∀ ps : List Part, PartsOK first second ps → ps.length ≤ 30 → Q (.tup (ps.map eP)) M
theorem cut_take (xs : List DV) (i : Nat) : cutL xs none (some (i : Nat)) = xs.take i := by
  unfold cutL
  rw [show HT.sIx xs.length 0 none = 0 from rfl, List.drop_zero, Nat.sub_zero, show HT.sIx xs.length xs.length (some (i : Nat)) = min i xs.length from HT.sIx_nat _ _ i]
  by_cases h : i ≤ xs.length
  · rw [Nat.min_eq_left h]
  · rw [Nat.min_eq_right (by omega), List.take_of_length_le (Nat.le_refl _), List.take_of_length_le (by omega)]
/-- what is found by now -/
structure Found (first second : List Str) (fd : Nat) (i j : Nat) (ps : List Part) : Prop where
  is_ : ∀ p ∈ ps, isP first second p
  fx : ∀ it ∈ second.take fd, ∃ ctx, SameC ctx first ∧ .fixed ctx (col it) ∈ ps
  tg : ∀ i' j' (hi : i' < first.length) (hj : j' < second.length), (i' < i ∨ (i' = i ∧ j' < j)) → ∃ ctx, SameC ctx (first.take i' ++ second.take j') ∧ .tog ctx first[i'] second[j'] ∈ ps
theorem ok_parts_of (T : Tx K mg) : FnOk P w K mg base CX0 4 T.f_parts_of T.d_parts_of ["rule"] (lSp K sp_parts_of) := by
  refine Fun.dl T.F_parts_of sc_parts_of (fun ds M E Q ⟨_, _, e, _⟩ => by rw [e]; rfl) (fun cdv A outer s H E hr => (dss_cons (ds_asg (de_var (i := 0)) (dg_tup (n := 2) rfl (dgs_cons (dg_name (i := 1) sc_parts_of.nd rfl (Or.inr rfl)) (dgs_cons (dg_name (i := 2) sc_parts_of.nd rfl (Or.inl rfl)) dgs_nil))))
        (dss_cons (ds_setLc (own := [("item", 8)]) (i := 3) rMu_ok rfl sc_parts_of.nd rfl rfl (sw_true rfl rfl rfl (by decide +kernel)) (di_seq (de_var (i := 2))) (blkOk_by (own := [("item", 8)]) (N := N_parts_of) (sc := (defScope s_parts_of)) (by decide +kernel)) (fun _ _ _ _ _ => dg_name (i := 8) sc_parts_of.nd rfl (by first | exact Or.inl rfl | exact Or.inr rfl)) (fun _ _ _ _ _ => dts_nil) (fun _ _ _ _ _ => (de_tup (da_cons (de_gstr (by rfl) T.c_FIXED) (da_cons (de_call (ok_columns_in T) (hr.mono (by decide)) (by rfl) T.g_columns_in T.F_columns_in.kp T.B_columns_in (da_cons (de_var (i := 1)) da_nil')) (da_cons (de_call (ok_column_of T) (hr.mono (by decide)) (by rfl) T.g_column_of T.F_column_of.kp T.B_column_of (da_cons (de_var (i := 8)) da_nil')) da_nil'))))))
        (dss_cons (ds_for PassesOwn.never rfl (di_enum (by rfl) T.b_enumerate (da_cons (de_var (i := 1)) da_nil')) (dg_tup (n := 2) rfl (dgs_cons (dg_name (i := 4) sc_parts_of.nd rfl (Or.inl rfl)) (dgs_cons (dg_name (i := 5) sc_parts_of.nd rfl (Or.inl rfl)) dgs_nil))) (dss_one (ds_for PassesOwn.never rfl (di_enum (by rfl) T.b_enumerate (da_cons (de_var (i := 2)) da_nil')) (dg_tup (n := 2) rfl (dgs_cons (dg_name (i := 6) sc_parts_of.nd rfl (Or.inl rfl)) (dgs_cons (dg_name (i := 7) sc_parts_of.nd rfl (Or.inl rfl)) dgs_nil))) (dss_one (ds_expr (de_mt PySem.F.plainAttrs_list PySem.F.slot_list_append PySem.F.type_list_append mt_append lift_append (de_var (i := 3)) (da_cons (de_tup (da_cons (de_gstr (by rfl) T.c_TOGETHER) (da_cons (de_call (ok_columns_in T) (hr.mono (by decide)) (by rfl) T.g_columns_in T.F_columns_in.kp T.B_columns_in (da_cons (de_add (de_sl (de_var (i := 1)) do_none (do_some (de_var (i := 4)))) (de_sl (de_var (i := 2)) do_none (do_some (de_var (i := 6))))) da_nil')) (da_cons (de_var (i := 5)) (da_cons (de_var (i := 7)) da_nil'))))) da_nil')))))))
        (dss_one (ds_ret (de_tuple T.b_tuple (by rfl) (da_cons (de_sortN (own := [("part", 9)]) T.b_sorted (by rfl) (hu65 hr) rfl sc_parts_of.nd (di_seq (de_var (i := 3))) (blkOk_by (own := [("part", 9)]) (N := N_parts_of) (sc := (defScope s_parts_of)) (by decide +kernel)) (fun _ _ _ _ _ => dg_name (i := 9) sc_parts_of.nd rfl (by first | exact Or.inl rfl | exact Or.inr rfl)) (fun _ _ _ _ _ => dts_nil) (fun _ _ _ _ _ => (de_var (i := 9)))) da_nil')))))))) ?_
  rintro ds M E Q ⟨first, second, rfl, h1, h2, s1, s2, q⟩
  unfold eR
  walk_at "dl"
  unfold eS
  walk_at "dl"
  intro p hp
  refine lc_inv (fun xs acc M' => ∃ k ps, k ≤ second.length ∧ xs = (second.drop k).map .str ∧ acc = ps.map eP ∧ M' = put M p (.lst (ps.map eP)) ∧ ps.length = k ∧ Found first second k 0 0 ps) ?_ ?_ ?_ _ _ _ ⟨0, [], Nat.zero_le _, rfl, rfl, rfl, rfl, ⟨fun _ h => (by cases h), fun _ h => (by cases h), fun _ _ _ _ h => (by omega)⟩⟩
  · rintro xs acc M' ⟨k, ps, hk, rfl, rfl, rfl, hl, F⟩
    refine ⟨put_same, ?_⟩
    rw [List.length_map, List.length_map, List.length_drop, sizeLine_eq]
    omega
  · rintro acc M' ⟨k, ps, hk, e, rfl, rfl, hl, F⟩
    have hk2 : k = second.length := by
      have := congrArg List.length e
      rw [List.length_map, List.length_drop, List.length_nil] at this
      omega
    subst hk2
    refine ⟨trivial, ?_⟩
    unfold rMu
    refine for_enum (fun i sd M' => ∃ ps, M' = put M p (.lst (ps.map eP)) ∧ ps.length = second.length + i * second.length ∧ Found first second second.length i 0 ps ∧ ∃ a b c d e f, sd = [some (.tup [.tup (first.map .str), .tup (second.map .str)]), some (.tup (first.map .str)), some (.tup (second.map .str)), some (.ref p), a, b, c, d, e, f]) ?_ ?_ ⟨ps, rfl, by omega, F, _, _, _, _, _, _, rfl⟩
    · rintro sd M' ⟨ps, rfl, hl, F, a, b, c, d, e, f, rfl⟩
      walk_at "dl"
      try rw [put_same]
      try (walk_at "dl")
      have hle : ps.length ≤ 30 := by
        have := Nat.mul_le_mul h1 h2
        omega
      refine sc_map (fun d => d) 63 (by rw [put_same]) (ps.map eP) [] (fun x hx Ky Kn h => ?_) (fun x hx acc ha => ?_) (by simp; omega) ?_
      · walk_at "dl"
        exact h
      · obtain ⟨z, _, rfl⟩ := List.mem_map.mp hx
        obtain ⟨x, ds, e⟩ := eP_cons z
        exact ⟨⟨_, e⟩, okK_eP z, by omega⟩
      · rw [List.map_id', List.append_nil]
        have mem : ∀ {y : DV}, y ∈ (ps.map eP).reverse → ∃ z ∈ ps, y = eP z := fun {y} h => by
          obtain ⟨z, hz, e⟩ := List.mem_map.mp (List.mem_reverse.mp h)
          exact ⟨z, hz, e.symm⟩
        refine ⟨⟨fun x hx y hy => ?_, fun d hd => ?_⟩, fun ys hy hn => ?_⟩
        · obtain ⟨x', hx', rfl⟩ := List.mem_map.mp hx
          obtain ⟨y', hy', rfl⟩ := List.mem_map.mp hy
          obtain ⟨z, _, rfl⟩ := mem hx'
          obtain ⟨u, _, rfl⟩ := mem hy'
          exact alike_eP z u
        · obtain ⟨z, _, rfl⟩ := mem hd
          exact eP_cons z
        · rw [List.length_reverse, List.length_map] at hn
          obtain ⟨zs, rfl⟩ := map_of eP ys fun y h => by
            obtain ⟨z, _, e⟩ := mem ((hy y).mp h)
            exact ⟨z, e⟩
          rw [List.length_map] at hn
          have hz : ∀ z, z ∈ zs ↔ z ∈ ps := fun z => by
            constructor
            · intro h
              obtain ⟨u, hu, e⟩ := mem ((hy (eP z)).mp (List.mem_map.mpr ⟨z, h, rfl⟩))
              rw [eP_inj e]
              exact hu
            · intro h
              obtain ⟨u, hu, e⟩ := List.mem_map.mp ((hy (eP z)).mpr (List.mem_reverse.mpr (List.mem_map.mpr ⟨z, h, rfl⟩)))
              rw [← eP_inj e]
              exact hu
          refine ⟨M, subM_put hp, q zs ⟨fun z h => F.is_ z ((hz z).mp h), fun it hi => ?_, fun i j hi hj => ?_⟩ (by omega)⟩
          · obtain ⟨ctx, s, m⟩ := F.fx it (by rw [List.take_length]; exact hi)
            exact ⟨ctx, s, (hz _).mpr m⟩
          · obtain ⟨ctx, s, m⟩ := F.tg i j hi hj (.inl hi)
            exact ⟨ctx, s, (hz _).mpr m⟩
    · rintro i hi sd M' Kf ⟨ps, rfl, hl, F, a, b, c, d, e, f, rfl⟩ kf
      walk_at "dl"
      refine for_enum (fun j sd M' => ∃ ps, M' = put M p (.lst (ps.map eP)) ∧ ps.length = second.length + i * second.length + j ∧ Found first second second.length i j ps ∧ ∃ c d e f, sd = [some (.tup [.tup (first.map .str), .tup (second.map .str)]), some (.tup (first.map .str)), some (.tup (second.map .str)), some (.ref p), some (.int (i : Nat)), some (.str first[i]), c, d, e, f]) ?_ ?_ ⟨ps, rfl, by omega, F, _, _, _, _, rfl⟩
      · rintro sd M' ⟨ps, rfl, hl, F, c, d, e, f, rfl⟩
        refine ⟨trivial, kf _ _ ⟨ps, rfl, by rw [Nat.succ_mul]; omega, ⟨F.is_, F.fx, fun i' j' hi' hj' h => F.tg i' j' hi' hj' (by omega)⟩, _, _, _, _, _, _, rfl⟩⟩
      · rintro j hj sd M' Kg ⟨ps, rfl, hl, F, c, d, e, f, rfl⟩ kg
        walk_at "dl"
        try rw [put_same]
        try (walk_at "dl")
        have z4 : 4 ≤ sizeLine := by rw [sizeLine_eq]; omega
        rw [cut_take, cut_take, ← List.map_take, ← List.map_take, ← List.map_append]
        refine ⟨rfl, by rw [List.length_map, List.length_map, List.length_take, List.length_take, sizeLine_eq]; omega, first.take i ++ second.take j, rfl, ?_, fun x hx => ?_, fun ctx hs hn => ⟨z4, ?_⟩⟩
        · rw [List.length_append, List.length_take, List.length_take]
          omega
        · rcases List.mem_append.mp hx with hx | hx
          · exact s1 x (List.mem_of_mem_take hx)
          · exact s2 x (List.mem_of_mem_take hx)
        · try rw [put_same]
          try (walk_at "dl")
          refine ⟨?_, ?_⟩
          · have := Nat.mul_le_mul (show i ≤ 5 by omega) h2
            rw [List.length_map, sizeLine_eq]
            omega
          · try rw [put_put]
            refine kg _ _ ⟨ps ++ [.tog ctx first[i] second[j]], ?_, by rw [List.length_append, List.length_singleton]; omega, ⟨fun r hr => ?_, fun it hit => ?_, fun i' j' hi' hj' h => ?_⟩, _, _, _, _, rfl⟩
            · rw [List.map_append]
              rfl
            · rcases List.mem_append.mp hr with hr | hr
              · exact F.is_ r hr
              · rw [List.mem_singleton.mp hr]
                refine ⟨?_, i, j, hi, hj, hs, rfl, rfl⟩
                rw [List.length_append, List.length_take, List.length_take] at hn
                omega
            · obtain ⟨c, s, m⟩ := F.fx it hit
              exact ⟨c, s, List.mem_append_left _ m⟩
            · by_cases hh : i' < i ∨ (i' = i ∧ j' < j)
              · obtain ⟨c, s, m⟩ := F.tg i' j' hi' hj' hh
                exact ⟨c, s, List.mem_append_left _ m⟩
              · have e1 : i' = i := by omega
                have e2 : j' = j := by omega
                subst e1 e2
                exact ⟨ctx, hs, List.mem_append_right _ (List.mem_singleton.mpr rfl)⟩
  · rintro x xs acc M' Ky Kn ⟨k, ps, hk, e, rfl, rfl, hl, F⟩ ky kn
    have hlt : k < second.length := by
      have := congrArg List.length e
      rw [List.length_cons, List.length_map, List.length_drop] at this
      omega
    rw [List.drop_eq_getElem_cons hlt, List.map_cons] at e
    injection e with e1 e2
    subst e1 e2
    walk_at "dl"
    have z3 : 3 ≤ sizeLine := by rw [sizeLine_eq]; omega
    refine ⟨first, rfl, by omega, s1, fun ctx hs hn => ⟨second[k], rfl, s2 _ (List.getElem_mem hlt), z3, ?_⟩⟩
    refine ky _ _ put_same ⟨k + 1, ps ++ [.fixed ctx (col second[k])], hlt, rfl, by rw [List.map_append]; rfl, by rw [put_put, List.map_append]; rfl, by rw [List.length_append, List.length_singleton, hl], ⟨fun r hr => ?_, fun it hit => ?_, fun i' j' hi' hj' h => by omega⟩⟩
    · rcases List.mem_append.mp hr with hr | hr
      · exact F.is_ r hr
      · rw [List.mem_singleton.mp hr]
        exact ⟨by omega, hs, _, List.getElem_mem hlt, rfl⟩
    · rw [List.take_succ, List.getElem?_eq_getElem hlt] at hit
      rcases List.mem_append.mp hit with hit | hit
      · obtain ⟨c, s, m⟩ := F.fx it hit
        exact ⟨c, s, List.mem_append_left _ m⟩
      · rw [List.mem_singleton.mp hit]
        exact ⟨ctx, hs, List.mem_append_right _ (List.mem_singleton.mpr rfl)⟩
end
end K78
set_option Elab.async false
set_option linter.all false
set_option maxRecDepth 100000
set_option maxHeartbeats 4000000
namespace K78
open PySem PySem.Spec PyProof.Rows L2 DL
local macro_rules | `(tactic| walk_at "dl") => `(tactic| simp only [sSeq, sAsg, sRet, sRetF, sRetN, sIf, sFor, sPar, sDrop, sNext, sBrk, sCnt, dVar, dC, dCons, dNil, dTup, dLst, dLstM, dOp, dUn, dTest, dAnd, dOr, dNot, dAndV, dOrV, dNotV, dIf, dSl, dPart, dNoPart, dCB, dMt, dCall, dCallD, dYes, gNm, gTp, gConsD, gNilD, slot, setS, dAt, ifB, atSeq, atO, seqD, addD, ntD, ntD0, ordD, negD, ixR, slR, lenD, tupleD, startD, iSeqD, iR1, iR2, iEnumD, dSortSC, dLcR, dLc2R, lcStep, wipeD, unset, indexD, appendD, extendD, tyD, DL.intOfD, put_same, put_put, absD, maxD, minD, listD, listMD, allD, anyD, joinD, lstripD, DL.inR, flatD, List.all_cons, List.all_nil, Bool.and_self, List.any_cons, List.any_nil, popD, gSubD, setItemD, rFz, rMu, isT, true_and, Bool.not_true, Bool.not_false, Bool.false_eq_true, if_true, if_false, reduceIte, at_0, at_1, at_2, at_3, List.map_cons, List.map_nil, List.length_cons, List.length_nil, List.replicate, List.cons_append, List.nil_append, Nat.reduceAdd, Nat.reduceSub])
section
variable {P : Program} {w : World} {K : PySem.W.Frag} {mg : Str → Option Value} {base : Heap}

/-! ### draws -/
theorem log2_le {n k : Nat} (h : n < 2 ^ k) : n.log2 ≤ k := by
  by_cases e : n = 0
  · rw [e]
    exact Nat.zero_le _
  · exact Nat.le_of_lt ((Nat.log2_lt e).mpr h)
theorem cmul_of {i j : Int} (k l : Nat) (hi : i.natAbs < 2 ^ k) (hj : j.natAbs < 2 ^ l) (h : k + l < 1000000 := by decide) : CMulW i j := by
  unfold CMulW
  have := log2_le hi
  have := log2_le hj
  omega
theorem abs_lt_pow {i : Int} {k : Nat} (h0 : 0 ≤ i) (h : i < (2 : Int) ^ k) : i.natAbs < 2 ^ k := by
  have e : (i.natAbs : Int) = i := Int.natAbs_of_nonneg h0
  have : ((i.natAbs : Nat) : Int) < ((2 ^ k : Nat) : Int) := by
    rw [e]
    push_cast
    exact h
  exact_mod_cast this
theorem cpow_of {i j : Int} (k : Nat) (hi : i.natAbs < 2 ^ k) (hj : 0 ≤ j) (h : ((k + 1 : Nat) : Int) * j ≤ 2 ^ 27) : CPowW i j := by
  have b : Builtin.Int.intBits i ≤ k + 1 := by
    have := log2_le hi
    unfold Builtin.Int.intBits
    split <;> omega
  refine ⟨hj, Int.le_trans (Int.mul_le_mul_of_nonneg_right (by exact_mod_cast b) hj) h⟩
theorem cdiv_of {i j : Int} (k : Nat) (hi : j.natAbs < 2 ^ k) (hj : 0 < j) (h : k < 9000 := by decide) : CDivW i j := by
  have := log2_le hi
  unfold CDivW
  omega
theorem prime_at {i : Int} (h0 : 0 ≤ i) (h7 : i < 7) : ∃ p : Int, atI [DV.int 2147483629, DV.int 2147483587, DV.int 2147483579, DV.int 2147483563, DV.int 2147483549, DV.int 2147483543, DV.int 2147483497] i = some (.int p) ∧ 0 < p ∧ p < 2 ^ 31 := by
  have : i = 0 ∨ i = 1 ∨ i = 2 ∨ i = 3 ∨ i = 4 ∨ i = 5 ∨ i = 6 := by omega
  rcases this with rfl | rfl | rfl | rfl | rfl | rfl | rfl <;> exact ⟨_, rfl, by omega, by omega⟩
theorem p300 : ((10 : Int) ^ Int.toNat 60) ^ Int.toNat 5 = 10 ^ 300 := by decide +kernel
theorem cpow1 : CPowW 10 60 := by unfold CPowW; decide +kernel
theorem cpow2 : CPowW (10 ^ Int.toNat 60) 5 := by unfold CPowW; decide +kernel
theorem cpow3 : CPowW 10 18 := by unfold CPowW; decide +kernel
structure Pot where
  x : Int
  y : Int
  z : Int
def pc (s : Pot) : Cell := .lst [.int s.x, .int s.y, .int s.z]
/-- a pot that was asked at most n times -/
structure PB (n : Nat) (s : Pot) : Prop where
  x0 : 0 ≤ s.x
  x1 : s.x < 10 ^ 300
  y0 : 0 ≤ s.y
  y1 : s.y < 2 ^ 61
  z0 : 0 ≤ s.z
  z1 : s.z ≤ n
theorem PB.mono {n m : Nat} {s : Pot} (h : PB n s) (l : n ≤ m) : PB m s := ⟨h.x0, h.x1, h.y0, h.y1, h.z0, by have := h.z1; omega⟩
def sp_pot : DSp := fun ds M E Q => ∃ (ns : List Int) (k : Nat), ds = [.scr (ns.map .int), .int k] ∧ k < 100 ∧ ∀ (a : Addr) (s : Pot), M a = none → PB 0 s → Q (.ref a) (put M a (pc s))
theorem ok_Lpot (T : Tx K mg) : FnOk P w K mg base CX0 1 T.f_Lpot T.d_Lpot ["_law_script", "_law_k"] (lSp K sp_pot) := by
  refine Fun.dl T.F_Lpot sc_Lpot (fun ds M E Q ⟨_, _, e, _⟩ => by rw [e]; rfl) (fun cdv A outer s H E hr => (dss_cons (ds_set (i := 2) sc_Lpot.nd rfl (Or.inl rfl) (de_if (dt_lt (de_var (i := 1)) (de_len T.b_len (by rfl) (da_cons (de_var (i := 0)) da_nil'))) (de_ix (de_var (i := 0)) (de_var (i := 1))) (de_add (de_mul de_int (de_var (i := 1))) de_int)))
        (dss_cons (ds_set (i := 3) sc_Lpot.nd rfl (Or.inl rfl) (de_mul (de_mod (de_abs T.b_abs (by rfl) (da_cons (de_var (i := 2)) da_nil')) (de_pow (de_pow de_int de_int) de_int)) (de_int1 T.b_int (by rfl) (da_cons (de_ge (de_abs T.b_abs (by rfl) (da_cons (de_var (i := 2)) da_nil')) (de_pow de_int de_int)) da_nil'))))
        (dss_one (ds_ret (de_lstM (da_cons (de_var (i := 3)) (da_cons (de_mod (de_mul (de_add (de_add (de_mod (de_var (i := 2)) de_int) (de_mul (de_mul de_int (de_var (i := 1))) (de_var (i := 1)))) de_int) de_int) de_int) (da_cons de_int da_nil'))))))))) ?_
  rintro ds M E Q ⟨ns, k, rfl, hk, q⟩
  walk_at "dl"
  have core : ∀ c : Int, CPowW 10 60 ∧ CPowW (10 ^ Int.toNat 60) 5 ∧ 0 < ((10 : Int) ^ Int.toNat 60) ^ Int.toNat 5 ∧ CPowW 10 18 ∧
      CMulW ((if c < 0 then -c else c) % (10 ^ Int.toNat 60) ^ Int.toNat 5) (if decide (10 ^ Int.toNat 18 ≤ if c < 0 then -c else c) = true then 1 else 0) ∧ CMulW 7919 (k : Int) ∧ CMulW (7919 * (k : Int)) (k : Int) ∧ CMulW (c % 2305843009213693951 + 7919 * (k : Int) * (k : Int) + 53) 48271 ∧
      ∀ p, M p = none → Fnl Q (DV.ref p) (put M p (Cell.lst [DV.int ((if c < 0 then -c else c) % (10 ^ Int.toNat 60) ^ Int.toNat 5 * if decide (10 ^ Int.toNat 18 ≤ if c < 0 then -c else c) = true then 1 else 0), DV.int ((c % 2305843009213693951 + 7919 * (k : Int) * (k : Int) + 53) * 48271 % 2305843009213693921), DV.int 0])) := fun c => by
    rw [p300]
    have m0 : 0 ≤ (if c < 0 then -c else c) % 10 ^ 300 := Int.emod_nonneg _ (by decide)
    have m1 : (if c < 0 then -c else c) % 10 ^ 300 < 10 ^ 300 := Int.emod_lt_of_pos _ (by decide)
    have c0 : 0 ≤ c % 2305843009213693951 := Int.emod_nonneg _ (by decide)
    have c1 : c % 2305843009213693951 < 2305843009213693951 := Int.emod_lt_of_pos _ (by decide)
    have kk : 0 ≤ 7919 * (k : Int) * (k : Int) ∧ 7919 * (k : Int) * (k : Int) ≤ 7919 * 100 * 100 := by
      refine ⟨Int.mul_nonneg (by omega) (by omega), ?_⟩
      exact Int.mul_le_mul (by omega) (by omega) (by omega) (by omega)
    have bit : ∀ b : Bool, (0 : Int) ≤ (if b = true then 1 else 0) ∧ (if b = true then (1 : Int) else 0) ≤ 1 := fun b => by cases b <;> decide
    generalize (if c < 0 then -c else c) % 10 ^ 300 = m at m0 m1 ⊢
    generalize hb : (if decide (10 ^ Int.toNat 18 ≤ if c < 0 then -c else c) = true then (1 : Int) else 0) = t
    have ht : 0 ≤ t ∧ t ≤ 1 := by rw [← hb]; exact bit _
    generalize 7919 * (k : Int) * (k : Int) = kk' at kk ⊢
    generalize c % 2305843009213693951 = c' at c0 c1 ⊢
    have m2 : m < 2 ^ 1000 := Int.lt_trans m1 (by decide)
    refine ⟨cpow1, cpow2, by decide, cpow3, cmul_of 1000 1 (abs_lt_pow m0 m2) (by omega), cmul_of 13 7 (by omega) (by omega), cmul_of 20 7 (by omega) (by omega), cmul_of 62 16 (by omega) (by omega), fun p hp => ?_⟩
    have y0 : 0 ≤ (c' + kk' + 53) * 48271 % 2305843009213693921 := Int.emod_nonneg _ (by decide)
    have y1 : (c' + kk' + 53) * 48271 % 2305843009213693921 < 2305843009213693921 := Int.emod_lt_of_pos _ (by decide)
    have tm : t = 0 ∨ t = 1 := by omega
    refine fin_id (q p ⟨_, _, _⟩ hp ⟨?_, ?_, y0, Int.lt_trans y1 (by decide), Int.le_refl _, Int.le_refl _⟩)
    · show 0 ≤ m * t
      exact Int.mul_nonneg m0 ht.1
    · show m * t < 10 ^ 300
      rcases tm with rfl | rfl
      · rw [Int.mul_zero]; decide
      · rw [Int.mul_one]; exact m1
  by_cases h : (k : Int) < (ns.map DV.int).length
  · rw [decide_eq_true h, at_get (by rw [List.length_map] at h; omega)]
    walk_at "dl"
    generalize ns.getD k 0 = c
    obtain ⟨a1, a2, a3, a4, a5, a6, a7, a8, a9⟩ := core c
    exact ⟨a1, a2, a3, a4, a5, by decide, a6, a7, a8, by decide, by rw [sizeLine_eq]; omega, a9⟩
  · rw [decide_eq_false h]
    walk_at "dl"
    obtain ⟨a1, a2, a3, a4, a5, a6, a7, a8, a9⟩ := core (11 * (k : Int) + 4)
    exact ⟨cmul_of 4 7 (by omega) (by omega), a1, a2, a3, a4, a5, by decide, a6, a7, a8, by decide, by rw [sizeLine_eq]; omega, a9⟩
def sp_take : DSp := fun ds M E Q => ∃ (a : Addr) (s : Pot) (n : Nat) (b : Int), ds = [.ref a, .int b] ∧ M a = some (pc s) ∧ PB n s ∧ n ≤ 100000 ∧ 0 < b ∧ b < 2 ^ 60 ∧ ∀ (s' : Pot) (v : Int), PB (n + 1) s' → 0 ≤ v → v < b → Q (.int v) (put M a (pc s'))
theorem ok_Ltake (T : Tx K mg) : FnOk P w K mg base CX0 1 T.f_Ltake T.d_Ltake ["_law_pot_here", "_law_bound"] (lSp K sp_take) := by
  refine Fun.dl T.F_Ltake sc_Ltake (fun ds M E Q ⟨_, _, _, _, e, _⟩ => by rw [e]; rfl) (fun cdv A outer s H E hr => (dss_cons (ds_if (dt_gt (de_ix (de_var (i := 0)) de_int) de_int) (dss_cons (ds_set (i := 2) sc_Ltake.nd rfl (Or.inl rfl) (de_mod (de_ix (de_var (i := 0)) de_int) (de_var (i := 1))))
        (dss_cons (ds_asg (de_fdiv (de_ix (de_var (i := 0)) de_int) (de_var (i := 1))) (dg_sub (de_var (i := 0)) de_int))
        (dss_one (ds_retF (de_var (i := 2)))))) dss_nil)
        (dss_cons (ds_asg (de_add (de_ix (de_var (i := 0)) de_int) de_int) (dg_sub (de_var (i := 0)) de_int))
        (dss_cons (ds_set (i := 3) sc_Ltake.nd rfl (Or.inl rfl) (de_ix (de_lst (da_cons de_int (da_cons de_int (da_cons de_int (da_cons de_int (da_cons de_int (da_cons de_int (da_cons de_int da_nil')))))))) (de_mod (de_ix (de_var (i := 0)) de_int) de_int)))
        (dss_cons (ds_set (i := 4) sc_Ltake.nd rfl (Or.inl rfl) (de_mod (de_pow (de_add (de_add (de_ix (de_var (i := 0)) de_int) (de_mul (de_mul de_int (de_ix (de_var (i := 0)) de_int)) (de_ix (de_var (i := 0)) de_int))) de_int) de_int) (de_var (i := 3))))
        (dss_cons (ds_set (i := 4) sc_Ltake.nd rfl (Or.inl rfl) (de_mod (de_mul (de_var (i := 4)) (de_add (de_mod (de_var (i := 4)) de_int) (de_mul de_int (de_ix (de_var (i := 0)) de_int)))) de_int))
        (dss_one (ds_ret (de_mod (de_fdiv (de_var (i := 4)) de_int) (de_var (i := 1))))))))))) ?_
  rintro ds M E Q ⟨a, s, n, b, rfl, ha, hb, hn, b0, b1, q⟩
  walk_at "dl"
  rw [ha]
  unfold pc
  walk_at "dl"
  by_cases h : 0 < s.x
  · rw [decide_eq_true h]
    walk_at "dl"
    rw [ha]
    unfold pc
    walk_at "dl"
    rw [ha]
    unfold pc
    walk_at "dl"
    rw [ha]
    unfold pc
    walk_at "dl"
    rw [show ixN 3 0 = some 0 from rfl]
    walk_at "dl"
    have hx := hb.x1
    have hx2 : s.x < 2 ^ 1000 := Int.lt_trans hx (by decide)
    refine ⟨b0, cdiv_of 60 (abs_lt_pow (by omega) b1) b0, fin_id (q ⟨s.x / b, s.y, s.z⟩ (s.x % b) ⟨Int.ediv_nonneg hb.x0 (by omega), ?_, hb.y0, hb.y1, hb.z0, by have := hb.z1; show s.z ≤ ((n + 1 : Nat) : Int); omega⟩ (Int.emod_nonneg _ (by omega)) (Int.emod_lt_of_pos _ b0))⟩
    exact Int.lt_of_le_of_lt (Int.ediv_le_self _ hb.x0) hx
  · rw [decide_eq_false h]
    walk_at "dl"
    rw [ha]
    unfold pc
    walk_at "dl"
    rw [show ixN 3 2 = some 2 from rfl]
    walk_at "dl"
    simp only [put_same, List.set_cons_succ, List.set_cons_zero]
    walk_at "dl"
    have z0 := hb.z0
    have z1 := hb.z1
    have y0 := hb.y0
    have y1 := hb.y1
    have i0 : 0 ≤ (s.z + 1) % 7 := Int.emod_nonneg _ (by decide)
    have i7 : (s.z + 1) % 7 < 7 := Int.emod_lt_of_pos _ (by decide)
    obtain ⟨p, hp, p0, p1⟩ := prime_at i0 i7
    rw [hp]
    walk_at "dl"
    have w0 : 0 ≤ 65537 * (s.z + 1) := by omega
    have w1 : 65537 * (s.z + 1) * (s.z + 1) ≤ 65537 * 100001 * 100001 := Int.mul_le_mul (by omega) (by omega) (by omega) (by omega)
    have w2 : 0 ≤ 65537 * (s.z + 1) * (s.z + 1) := Int.mul_nonneg w0 (by omega)
    have d0 : 0 ≤ (s.y + 65537 * (s.z + 1) * (s.z + 1) + 19) ^ Int.toNat 3 % p := Int.emod_nonneg _ (by omega)
    have d1 : (s.y + 65537 * (s.z + 1) * (s.z + 1) + 19) ^ Int.toNat 3 % p < p := Int.emod_lt_of_pos _ p0
    have pw : CPowW (s.y + 65537 * (s.z + 1) * (s.z + 1) + 19) 3 := cpow_of 62 (by omega) (by decide) (by decide)
    generalize (s.y + 65537 * (s.z + 1) * (s.z + 1) + 19) ^ Int.toNat 3 % p = D at d0 d1 ⊢
    have e0 : 0 ≤ D % 10007 := Int.emod_nonneg _ (by decide)
    have e1 : D % 10007 < 10007 := Int.emod_lt_of_pos _ (by decide)
    generalize D % 10007 = D7 at e0 e1 ⊢
    refine ⟨by rw [sizeLine_eq]; omega, by decide, cmul_of 17 17 (by omega) (by omega), cmul_of 34 17 (by omega) (by omega), pw, p0, by decide, cmul_of 7 17 (by omega) (by omega), cmul_of 31 25 (by omega) (by omega), by decide, cdiv_of 7 (by decide) (by decide), b0, ?_⟩
    exact fin_id (q ⟨s.x, s.y, s.z + 1⟩ _ ⟨hb.x0, hb.x1, y0, y1, by show 0 ≤ s.z + 1; omega, by show s.z + 1 ≤ ((n + 1 : Nat) : Int); omega⟩ (Int.emod_nonneg _ (by omega)) (Int.emod_lt_of_pos _ b0))
/-- the item drawn from a list, a tuple or a text -/
def drawn (M : DM) (d : DV) (ys : List DV) : Prop := ys ≠ [] ∧ ys.length ≤ 1000 ∧ ((d = .lst ys) ∨ (d = .tup ys) ∨ ∃ z : Str, d = .str z ∧ ys = z.cps.toList.map fun c => .str ⟨#[c]⟩)
def sp_oF : DSp := fun ds M E Q => ∃ (a : Addr) (s : Pot) (n : Nat) (d : DV) (ys : List DV), ds = [.ref a, d] ∧ drawn M d ys ∧ M a = some (pc s) ∧ PB n s ∧ n ≤ 100000 ∧ ∀ (s' : Pot) (x : DV), PB (n + 1) s' → x ∈ ys → Q x (put M a (pc s'))
theorem ok_Lof (T : Tx K mg) : FnOk P w K mg base CX0 2 T.f_Lof T.d_Lof ["_law_pot_here", "_law_some"] (lSp K sp_oF) := by
  refine Fun.dl T.F_Lof sc_Lof (fun ds M E Q ⟨_, _, _, _, _, e, _⟩ => by rw [e]; rfl) (fun cdv A outer s H E hr => (dss_one (ds_ret (de_ix (de_var (i := 1)) (de_call (ok_Ltake T) (hr.mono (by decide)) (by rfl) T.g_Ltake T.F_Ltake.kp T.B_Ltake (da_cons (de_var (i := 0)) (da_cons (de_len T.b_len (by rfl) (da_cons (de_var (i := 1)) da_nil')) da_nil'))))))) ?_
  rintro ds M E Q ⟨a, s, n, d, ys, rfl, ⟨hne, hl, hd⟩, ha, hb, hn, q⟩
  have hpos : 0 < ys.length := List.length_pos_iff.mpr hne
  have fin : ∀ (v : Int), 0 ≤ v → v < ys.length → ∃ j, ∃ h : j < ys.length, v = (j : Nat) ∧ atI ys v = some ys[j] := fun v h0 h1 => by
    obtain ⟨j, rfl⟩ := Int.eq_ofNat_of_zero_le h0
    have hj : j < ys.length := by omega
    refine ⟨j, hj, rfl, ?_⟩
    unfold atI ixN
    rw [if_pos (Int.natCast_nonneg j), if_pos h1, Option.bind_some, Int.toNat_natCast, List.getElem?_eq_getElem hj]
  rcases hd with rfl | rfl | ⟨z, rfl, rfl⟩
  · walk_at "dl"
    refine ⟨a, s, n, _, rfl, ha, hb, hn, by omega, by omega, fun s' v hb' v0 v1 => ?_⟩
    obtain ⟨j, hj, _, e⟩ := fin v v0 v1
    walk_at "dl"
    rw [e]
    exact fin_id (q s' _ hb' (List.getElem_mem hj))
  · walk_at "dl"
    refine ⟨a, s, n, _, rfl, ha, hb, hn, by omega, by omega, fun s' v hb' v0 v1 => ?_⟩
    obtain ⟨j, hj, _, e⟩ := fin v v0 v1
    walk_at "dl"
    rw [e]
    exact fin_id (q s' _ hb' (List.getElem_mem hj))
  · rw [List.length_map] at hpos hl
    walk_at "dl"
    rw [sLen]
    refine ⟨by rw [sizeLine_eq]; omega, a, s, n, _, rfl, ha, hb, hn, by omega, by omega, fun s' v hb' v0 v1 => ?_⟩
    obtain ⟨j, rfl⟩ := Int.eq_ofNat_of_zero_le v0
    have hj : j < z.cps.toList.length := by omega
    walk_at "dl"
    rw [show atI z.cps.toList (j : Nat) = some z.cps.toList[j] by
      unfold atI ixN
      rw [if_pos (Int.natCast_nonneg j), if_pos v1, Option.bind_some, Int.toNat_natCast, List.getElem?_eq_getElem hj]]
    walk_at "dl"
    exact ⟨by rw [sizeLine_eq]; omega, fin_id (q s' _ hb' (List.mem_map.mpr ⟨_, List.getElem_mem hj, rfl⟩))⟩
/-- signs from 'a' on -/
def AL (x : Str) : Prop := ∀ c ∈ x.cps.toList, 97 ≤ c
/-- a column's name -/
structure GN (x : Str) : Prop where
  len : x.length ≤ 99
  al : AL x
  ne : x.cps.toList ≠ []
theorem GN.fall {x : Str} (h : GN x) : fall x = false := by
  unfold K78.fall
  refine decide_eq_false fun e => ?_
  cases q : x.cps.toList with
  | nil => exact h.ne q
  | cons c r =>
    rw [q] at e
    have := h.al c (by rw [q]; exact List.mem_cons_self ..)
    have e' : c = 45 := Option.some.inj e
    omega
end
end K78
set_option Elab.async false
set_option linter.all false
set_option maxRecDepth 100000
set_option maxHeartbeats 4000000
namespace K78
open PySem PySem.Spec PyProof.Rows L2 DL
local macro_rules | `(tactic| walk_at "dl") => `(tactic| simp only [sSeq, sAsg, sRet, sRetF, sRetN, sIf, sFor, sPar, sDrop, sNext, sBrk, sCnt, dVar, dC, dCons, dNil, dTup, dLst, dLstM, dOp, dUn, dTest, dAnd, dOr, dNot, dAndV, dOrV, dNotV, dIf, dSl, dPart, dNoPart, dCB, dMt, dCall, dCallD, dYes, gNm, gTp, gConsD, gNilD, slot, setS, dAt, ifB, atSeq, atO, seqD, addD, ntD, ntD0, ordD, negD, ixR, slR, lenD, tupleD, startD, iSeqD, iR1, iR2, iEnumD, dSortSC, dLcR, dLc2R, lcStep, wipeD, unset, indexD, appendD, extendD, tyD, DL.intOfD, put_same, put_put, absD, maxD, minD, listD, listMD, allD, anyD, joinD, lstripD, DL.inR, flatD, List.all_cons, List.all_nil, Bool.and_self, List.any_cons, List.any_nil, popD, gSubD, setItemD, rFz, rMu, isT, true_and, Bool.not_true, Bool.not_false, Bool.false_eq_true, if_true, if_false, reduceIte, at_0, at_1, at_2, at_3, List.map_cons, List.map_nil, List.length_cons, List.length_nil, List.replicate, List.cons_append, List.nil_append, Nat.reduceAdd, Nat.reduceSub])
section
variable {P : Program} {w : World} {K : PySem.W.Frag} {mg : Str → Option Value} {base : Heap}

/-! ### texts -/
theorem put_mid {M : DM} {a p : Addr} {c c' d : Cell} (h : a ≠ p) : put (put (put M a c) p d) a c' = put (put M a c') p d := by
  rw [put_comm (Ne.symm h), put_put]
theorem joinL_mem {c : Nat} : ∀ {ps : List (List Nat)}, c ∈ TL.joinL [] ps → ∃ p ∈ ps, c ∈ p
  | [], h => by cases h
  | [p], h => ⟨p, List.mem_singleton.mpr rfl, h⟩
  | p :: q :: r, h => by
    rcases List.mem_append.mp h with h | h
    · exact ⟨p, List.mem_cons_self .., h⟩
    · obtain ⟨z, hz, hc⟩ := joinL_mem (ps := q :: r) h
      exact ⟨z, List.mem_cons_of_mem _ hz, hc⟩
theorem join_al {ys : List Str} (h : ∀ y ∈ ys, AL y) : AL (Txt.join "" ys) := fun c hc => by
  rw [TL.join_eq] at hc
  have hc' : c ∈ TL.tl (Str.join "" ys) := hc
  rw [TL.tl_join] at hc'
  obtain ⟨p, hp, hcp⟩ := joinL_mem hc'
  obtain ⟨y, hy, rfl⟩ := List.mem_map.mp hp
  exact h y hy c hcp
theorem join_len (ys : List Str) : (Txt.join "" ys).length ≤ (ys.map (·.length)).sum := by
  rw [TL.join_eq]
  have := StrLaws.join_length_le ("" : Str) ys
  have e : ("" : Str).length = 0 := by decide +kernel
  rw [e] at this
  omega
theorem cut_al {z : Str} {lo hi : Option Int} (h : AL z) : AL (cutS z lo hi) := fun c hc => h c (List.mem_of_mem_drop (List.mem_of_mem_take hc))
theorem app_al {x y : Str} (h : AL x) (g : AL y) : AL (x ++ y) := fun c hc => by
  rw [app_cps] at hc
  exact (List.mem_append.mp hc).elim (h c) (g c)
theorem letters_al : AL ("abcdefghijklmnopqrstuvwxyz" : Str) := by
  unfold AL
  decide +kernel
theorem letters_len : ("abcdefghijklmnopqrstuvwxyz" : Str).cps.toList.length = 26 := by decide +kernel
theorem one_al {c : Nat} (h : 97 ≤ c) : AL ⟨#[c]⟩ := fun d hd => by
  have : d = c := by simpa using hd
  omega
def sp_names : DSp := fun ds M E Q => ∃ (a : Addr) (s : Pot) (n : Nat) (k : Nat), ds = [.ref a, .int k] ∧ k ≤ 60 ∧ M a = some (pc s) ∧ PB n s ∧ n ≤ 90000 ∧ ∀ (s' : Pot) (ns : List Str), PB (n + 12) s' → ns.length = k → (∀ x ∈ ns, GN x) → Q (eS ns) (put M a (pc s'))
theorem ok_Lnames (T : Tx K mg) : FnOk P w K mg base CX0 3 T.f_Lnames T.d_Lnames ["_law_pot_here", "_law_many"] (lSp K sp_names) := by
  refine Fun.dl T.F_Lnames sc_Lnames (fun ds M E Q ⟨_, _, _, _, e, _⟩ => by rw [e]; rfl) (fun cdv A outer s H E hr => (dss_cons (ds_set (i := 2) sc_Lnames.nd rfl (Or.inr rfl) de_str)
        (dss_cons (ds_par (i := 3) (j := 4) rfl sc_Lnames.nd rfl rfl (by decide) rfl rfl (da_cons (de_call (ok_Ltake T) (hr.mono (by decide)) (by rfl) T.g_Ltake T.F_Ltake.kp T.B_Ltake (da_cons (de_var (i := 0)) (da_cons de_int da_nil'))) (da_cons (de_call (ok_Lof T) (hr.mono (by decide)) (by rfl) T.g_Lof T.F_Lof.kp T.B_Lof (da_cons (de_var (i := 0)) (da_cons (de_lst (da_cons de_int (da_cons de_int (da_cons de_int (da_cons de_int (da_cons de_int (da_cons de_int da_nil'))))))) da_nil'))) da_nil')) (by rfl))
        (dss_cons (ds_set (i := 5) sc_Lnames.nd rfl (Or.inl rfl) (de_mt PySem.F.plainAttrs_str PySem.F.slot_str_join PySem.F.type_str_join mt_join lift_join de_str (da_cons (de_lc (own := [("_law_turn", 8)]) rFz_ok rfl sc_Lnames.nd (di_range1 (by rfl) T.b_range (da_cons (de_call (ok_Lof T) (hr.mono (by decide)) (by rfl) T.g_Lof T.F_Lof.kp T.B_Lof (da_cons (de_var (i := 0)) (da_cons (de_lst (da_cons de_int (da_cons de_int (da_cons de_int (da_cons de_int (da_cons de_int da_nil')))))) da_nil'))) da_nil')) (blkOk_by (own := [("_law_turn", 8)]) (N := N_Lnames) (sc := (defScope s_Lnames)) (by decide +kernel)) (fun _ _ _ _ _ => dg_name (i := 8) sc_Lnames.nd rfl (by first | exact Or.inl rfl | exact Or.inr rfl)) (fun _ _ _ _ _ => dts_nil) (fun _ _ _ _ _ => (de_call (ok_Lof T) (hr.mono (by decide)) (by rfl) T.g_Lof T.F_Lof.kp T.B_Lof (da_cons (de_var (i := 0)) (da_cons (de_var (i := 2)) da_nil'))))) da_nil')))
        (dss_cons (ds_set (i := 6) sc_Lnames.nd rfl (Or.inl rfl) (de_call (ok_Ltake T) (hr.mono (by decide)) (by rfl) T.g_Ltake T.F_Ltake.kp T.B_Ltake (da_cons (de_var (i := 0)) (da_cons (de_add (de_len T.b_len (by rfl) (da_cons (de_var (i := 5)) da_nil')) de_int) da_nil'))))
        (dss_cons (ds_set (i := 7) sc_Lnames.nd rfl (Or.inl rfl) (de_lstM da_nil'))
        (dss_cons (ds_for PassesOwn.never rfl (di_range1 (by rfl) T.b_range (da_cons (de_var (i := 1)) da_nil')) (dg_name (i := 8) sc_Lnames.nd rfl (Or.inl rfl)) (dss_cons (ds_set (i := 9) sc_Lnames.nd rfl (Or.inl rfl) (de_ix (de_var (i := 2)) (de_mod (de_add (de_var (i := 3)) (de_mul (de_var (i := 4)) (de_var (i := 8)))) de_int)))
        (dss_one (ds_expr (de_mt PySem.F.plainAttrs_list PySem.F.slot_list_append PySem.F.type_list_append mt_append lift_append (de_var (i := 7)) (da_cons (de_add (de_add (de_sl (de_var (i := 5)) do_none (do_some (de_var (i := 6)))) (de_var (i := 9))) (de_sl (de_var (i := 5)) (do_some (de_var (i := 6))) do_none)) da_nil'))))))
        (dss_one (ds_ret (de_tuple T.b_tuple (by rfl) (da_cons (de_sortedS T.b_sorted (by rfl) (da_cons (de_var (i := 7)) da_nil')) da_nil'))))))))))) ?_
  rintro ds M E Q ⟨a, s, n, k, rfl, hk, ha, hb, hn, q⟩
  walk_at "dl"
  refine ⟨a, s, n, 26, rfl, ha, hb, by omega, by omega, by omega, fun s1 f0 hb1 f0a f0b => ?_⟩
  walk_at "dl"
  refine ⟨by rw [sizeLine_eq]; omega, a, s1, n + 1, _, _, rfl, ⟨by simp, by simp, .inl rfl⟩, put_same, hb1, by omega, fun s2 x hb2 hx => ?_⟩
  obtain ⟨leap, rfl, l0, l1⟩ : ∃ i : Int, x = .int i ∧ 0 ≤ i ∧ i ≤ 11 := by
    simp only [List.mem_cons, List.not_mem_nil, or_false] at hx
    rcases hx with rfl | rfl | rfl | rfl | rfl | rfl <;> exact ⟨_, rfl, by omega, by omega⟩
  refine ⟨by rw [sizeLine_eq]; omega, a, s2, n + 2, _, _, rfl, ⟨by simp, by simp, .inl rfl⟩, put_same, hb2, by omega, fun s3 x hb3 hx => ?_⟩
  obtain ⟨turns, rfl, t0, t1⟩ : ∃ i : Int, x = .int i ∧ 0 ≤ i ∧ i ≤ 7 := by
    simp only [List.mem_cons, List.not_mem_nil, or_false] at hx
    rcases hx with rfl | rfl | rfl | rfl | rfl <;> exact ⟨_, rfl, by omega, by omega⟩
  walk_at "dl"
  refine ⟨by omega, fun p hp => ?_⟩
  have hap : a ≠ p := ne_put put_same hp
  have hMp : M p = none := by rw [put_ne (Ne.symm hap)] at hp; exact hp
  refine lc_inv (fun xs acc M' => ∃ s ys, M' = put (put M a (pc s)) p (.lst (ys.map .str)) ∧ acc = ys.map .str ∧ PB (n + 3 + ys.length) s ∧ (∀ y ∈ ys, AL y ∧ y.length = 1) ∧ ys.length + xs.length = turns.toNat) ?_ ?_ ?_ _ _ _ ⟨s3, [], rfl, rfl, hb3, fun _ h => (by cases h), by rw [rangeD_len]; exact Nat.zero_add _⟩
  · rintro xs acc M' ⟨s, ys, rfl, rfl, _, _, h⟩
    refine ⟨put_same, ?_⟩
    rw [List.length_map, sizeLine_eq]
    omega
  · rintro acc M' ⟨s4, ys, rfl, rfl, hb4, hy, hl⟩
    refine ⟨trivial, ?_⟩
    rw [List.length_nil] at hl
    walk_at "dl"
    have hps : put M a (pc s4) p = none := by rw [put_ne (Ne.symm hap)]; exact hMp
    rw [drop_put hps]
    have z0 : ("" : Str).length = 0 := by decide +kernel
    have sum : (ys.map fun x => x.length).sum = ys.length := by
      have e : (ys.map fun x => x.length) = ys.map fun _ => 1 := List.map_congr_left fun y h => (hy y h).2
      rw [e, List.map_const', List.sum_replicate_nat, Nat.mul_one]
    have jl := join_len ys
    rw [sum] at jl
    have jal : AL (Txt.join "" ys) := join_al fun y h => (hy y h).1
    refine ⟨ys, rfl, by rw [sum, z0]; omega, ?_⟩
    generalize Txt.join "" ys = stem at jl jal ⊢
    refine ⟨by rw [sizeLine_eq]; omega, a, s4, n + 3 + ys.length, _, rfl, put_same, hb4, by omega, by omega, by omega, fun s5 cut hb5 c0 c1 => ⟨by rw [sizeLine_eq]; omega, fun p2 hp2 => ?_⟩⟩
    rw [put_put] at hp2
    have hp2' := hp2
    have hap2 : a ≠ p2 := ne_put put_same hp2
    have hMp2 : M p2 = none := by rw [put_ne (Ne.symm hap2)] at hp2; exact hp2
    walk_at "dl"
    refine ⟨by omega, ?_⟩
    refine for_range (fun i sd M' => ∃ ns : List Str, M' = put (put M a (pc s5)) p2 (.lst (ns.map .str)) ∧ ns.length = i ∧ (∀ x ∈ ns, GN x) ∧ ∃ b c, sd = [some (.ref a), some (.int k), some (.str "abcdefghijklmnopqrstuvwxyz"), some (.int f0), some (.int leap), some (.str stem), some (.int cut), some (.ref p2), b, c]) ?_ ?_ ⟨[], rfl, rfl, fun _ h => (by cases h), _, _, rfl⟩
    · rintro sd M' ⟨ns, rfl, hn2, hg, b, c, rfl⟩
      refine ⟨trivial, ?_⟩
      walk_at "dl"
      unfold sortedSD
      walk_at "dl"
      refine ⟨ns, rfl, by omega, put M a (pc s5), subM_put hp2', q s5 (sortS ns) (hb5.mono (by omega)) (by rw [(sortS_perm ns).length_eq, hn2]; omega) fun x hx => hg x ((sortS_perm ns).mem_iff.mp hx)⟩
    · rintro i hi sd M' Kf ⟨ns, rfl, hn2, hg, b, c, rfl⟩ kf
      refine ⟨trivial, ?_⟩
      walk_at "dl"
      have m0 : 0 ≤ (f0 + leap * (0 + (i : Nat))) % 26 := Int.emod_nonneg _ (by decide)
      have m1 : (f0 + leap * (0 + (i : Nat))) % 26 < 26 := Int.emod_lt_of_pos _ (by decide)
      generalize (f0 + leap * (0 + (i : Nat))) % 26 = m at m0 m1 ⊢
      obtain ⟨j, rfl⟩ := Int.eq_ofNat_of_zero_le m0
      have hj : j < ("abcdefghijklmnopqrstuvwxyz" : Str).cps.toList.length := by rw [letters_len]; omega
      have ll : ("abcdefghijklmnopqrstuvwxyz" : Str).length = 26 := by rw [sLen, letters_len]
      rw [show atI ("abcdefghijklmnopqrstuvwxyz" : Str).cps.toList (j : Nat) = some ("abcdefghijklmnopqrstuvwxyz" : Str).cps.toList[j] by
        unfold atI ixN
        rw [if_pos (Int.natCast_nonneg j), if_pos (by omega), Option.bind_some, Int.toNat_natCast, List.getElem?_eq_getElem hj]]
      walk_at "dl"
      have hc := letters_al _ (List.getElem_mem hj)
      generalize ("abcdefghijklmnopqrstuvwxyz" : Str).cps.toList[j] = c' at hc ⊢
      have k1 := cutS_length stem none (some cut)
      have k2 := cutS_length stem (some cut) none
      have k3 : (⟨#[c']⟩ : Str).length = 1 := rfl
      have k4 : (cutS stem none (some cut) ++ (⟨#[c']⟩ : Str)).length ≤ 8 := by rw [app_len]; omega
      have k5 : (cutS stem none (some cut) ++ (⟨#[c']⟩ : Str) ++ cutS stem (some cut) none).length ≤ 99 := by rw [app_len]; omega
      refine ⟨cmul_of 4 6 (by omega) (by omega), by decide, by rw [ll, sizeLine_eq]; omega, rfl, by rw [sizeLine_eq]; omega, by rw [sizeLine_eq]; omega, by rw [sizeLine_eq]; omega, by rw [sizeLine_eq]; omega, by rw [List.length_map, sizeLine_eq]; omega, ?_⟩
      refine kf _ _ ⟨ns ++ [cutS stem none (some cut) ++ (⟨#[c']⟩ : Str) ++ cutS stem (some cut) none], by rw [List.map_append]; rfl, by rw [List.length_append, List.length_singleton, hn2], fun x hx => ?_, _, _, rfl⟩
      rcases List.mem_append.mp hx with hx | hx
      · exact hg x hx
      · rw [List.mem_singleton.mp hx]
        refine ⟨k5, app_al (app_al (cut_al jal) (one_al hc)) (cut_al jal), fun e => ?_⟩
        rw [app_cps, app_cps] at e
        simp at e
  · rintro x xs acc M' Ky Kn ⟨s4, ys, rfl, rfl, hb4, hy, hl⟩ ky kn
    rw [List.length_cons] at hl
    walk_at "dl"
    refine ⟨a, s4, n + 3 + ys.length, _, _, rfl, ⟨?_, ?_, .inr (.inr ⟨_, rfl, rfl⟩)⟩, by rw [put_ne hap, put_same], hb4, by omega, fun s' x hb' hx => ?_⟩
    · intro e
      have := congrArg List.length e
      rw [List.length_map, letters_len] at this
      cases this
    · rw [List.length_map, letters_len]
      omega
    · obtain ⟨c, hc, rfl⟩ := List.mem_map.mp hx
      rw [put_mid hap]
      refine ky _ _ put_same ⟨s', ys ++ [⟨#[c]⟩], by rw [put_put, List.map_append]; rfl, by rw [List.map_append]; rfl, hb'.mono (by rw [List.length_append, List.length_singleton]; omega), fun y hy' => ?_, by rw [List.length_append, List.length_singleton]; omega⟩
      rcases List.mem_append.mp hy' with h | h
      · exact hy y h
      · rw [List.mem_singleton.mp h]
        exact ⟨one_al (letters_al c hc), rfl⟩
end
end K78
set_option Elab.async false
set_option linter.all false
set_option maxRecDepth 100000
set_option maxHeartbeats 4000000
namespace K78
open PySem PySem.Spec PyProof.Rows L2 DL
local macro_rules | `(tactic| walk_at "dl") => `(tactic| simp only [sSeq, sAsg, sRet, sRetF, sRetN, sIf, sFor, sPar, sDrop, sNext, sBrk, sCnt, dVar, dC, dCons, dNil, dTup, dLst, dLstM, dOp, dUn, dTest, dAnd, dOr, dNot, dAndV, dOrV, dNotV, dIf, dSl, dPart, dNoPart, dCB, dMt, dCall, dCallD, dYes, gNm, gTp, gConsD, gNilD, slot, setS, dAt, ifB, atSeq, atO, seqD, addD, ntD, ntD0, ordD, negD, ixR, slR, lenD, tupleD, startD, iSeqD, iR1, iR2, iEnumD, dSortSC, dLcR, dLc2R, lcStep, wipeD, unset, indexD, appendD, extendD, tyD, DL.intOfD, put_same, put_put, absD, maxD, minD, listD, listMD, allD, anyD, joinD, lstripD, DL.inR, flatD, List.all_cons, List.all_nil, Bool.and_self, List.any_cons, List.any_nil, popD, gSubD, setItemD, rFz, rMu, isT, true_and, Bool.not_true, Bool.not_false, Bool.false_eq_true, if_true, if_false, reduceIte, at_0, at_1, at_2, at_3, List.map_cons, List.map_nil, List.length_cons, List.length_nil, List.replicate, List.cons_append, List.nil_append, Nat.reduceAdd, Nat.reduceSub])
section
variable {P : Program} {w : World} {K : PySem.W.Frag} {mg : Str → Option Value} {base : Heap}

/-! ### items of a table's columns -/
structure GI (ns : List Str) (it : Str) : Prop where
  len : it.length ≤ 100
  ne : it.cps.toList ≠ []
  mem : col it ∈ ns
def GNs (ns : List Str) : Prop := ∀ x ∈ ns, GN x
theorem idx_mem {x : Str} : ∀ {ns : List Str}, x ∈ ns → ∃ j, idxS x ns = some j ∧ j < ns.length
  | y :: r, h => by
    unfold idxS
    by_cases e : y = x
    · rw [if_pos e]
      exact ⟨0, rfl, Nat.zero_lt_succ _⟩
    · rw [if_neg e]
      obtain ⟨j, h1, h2⟩ := idx_mem (ns := r) ((List.mem_cons.mp h).resolve_left fun z => e z.symm)
      rw [h1]
      exact ⟨j + 1, rfl, Nat.succ_lt_succ h2⟩
section
variable {ns : List Str} (G : GNs ns)
include G
theorem GI.gd {it : Str} (h : GI ns it) : Gd it := (G _ h.mem).fall
theorem name_col {x : Str} (h : x ∈ ns) : col x = x := by
  unfold col
  rw [if_neg (by rw [(G x h).fall]; decide)]
theorem name_gi {x : Str} (h : x ∈ ns) : GI ns x := ⟨Nat.le_trans (G x h).len (by omega), (G x h).ne, by rw [name_col G h]; exact h⟩
theorem gi_its {items : List Str} (h : ∀ it ∈ items, GI ns it) : Its ns items := fun it hi => ⟨(h it hi).len, idx_mem (h it hi).mem⟩
end
theorem dash_cps : ("-" : Str).cps.toList = [45] := by decide +kernel
theorem dash_fall (x : Str) : fall (("-" : Str) ++ x) = true := by
  unfold fall
  rw [app_cps, dash_cps]
  rfl
theorem fall_cons {x : Str} (h : fall x = true) : ∃ r, x.cps.toList = 45 :: r := by
  unfold fall at h
  have h' := of_decide_eq_true h
  cases q : x.cps.toList with
  | nil => rw [q] at h'; cases h'
  | cons c r =>
    rw [q] at h'
    have : c = 45 := Option.some.inj h'
    exact ⟨r, by rw [this]⟩
theorem dash_col (x : Str) : col (("-" : Str) ++ x) = x := by
  unfold col
  rw [if_pos (dash_fall x)]
  refine DL.Str.ext_cps ?_
  rw [cut1_cps, app_cps, dash_cps]
  rfl
theorem dash_has (c : Nat) : ("-" : Str).cps.contains c = decide (c = 45) := by
  have e : ("-" : Str).cps = #[45] := by decide +kernel
  rw [e]
  by_cases h : c = 45
  · subst h; decide +kernel
  · rw [decide_eq_false h]
    simp [h]
theorem lstrip_col {x : Str} (h : fall (col x) = false) : Txt.lstripChars x "-" = col x := by
  unfold Txt.lstripChars Txt.stripBy
  have goes : (fun c => ("-" : Str).cps.contains c) = fun c => decide (c = 45) := funext dash_has
  show (if stripSame (fun c => ("-" : Str).cps.contains c) true false x = true then x else stripped (fun c => ("-" : Str).cps.contains c) true false x) = col x
  rw [goes]
  cases hf : fall x with
  | false =>
    have lo : stripLo (fun c => decide (c = 45)) true x = 0 := by
      show (x.cps.toList.takeWhile _).length = 0
      unfold fall at hf
      have hf' := of_decide_eq_false hf
      cases q : x.cps.toList with
      | nil => rfl
      | cons c r =>
        rw [q] at hf'
        have : ¬ c = 45 := fun e => hf' (by rw [e]; rfl)
        rw [List.takeWhile_cons_of_neg (by simpa using this)]
        rfl
    have same : stripSame (fun c => decide (c = 45)) true false x = true := by
      unfold stripSame
      rw [lo]
      show (true && (x.length == x.length)) = true
      simp
    rw [if_pos same]
    unfold col
    rw [if_neg (by rw [hf]; decide)]
  | true =>
    obtain ⟨r, hr⟩ := fall_cons hf
    have hc : (col x).cps.toList = r := by
      unfold col
      rw [if_pos hf, cut1_cps, hr]
      rfl
    have lo : stripLo (fun c => decide (c = 45)) true x = 1 := by
      show (x.cps.toList.takeWhile _).length = 1
      rw [hr, List.takeWhile_cons_of_pos (by simp)]
      unfold fall at h
      rw [hc] at h
      have h' := of_decide_eq_false h
      cases r with
      | nil => rfl
      | cons c r =>
        have : ¬ c = 45 := fun e => h' (by rw [e]; rfl)
        rw [List.takeWhile_cons_of_neg (by simpa using this)]
        rfl
    have same : ¬ stripSame (fun c => decide (c = 45)) true false x = true := by
      unfold stripSame
      rw [lo]
      intro z
      cases z
    rw [if_neg same]
    refine DL.Str.ext_cps ?_
    rw [hc]
    unfold stripped
    rw [lo]
    show (x.cps.extract 1 x.length).toList = r
    rw [Array.toList_extract, hr, sLen, hr, List.extract_eq_drop_take']
    simp
def sp_listed : DSp := fun ds M E Q => ∃ (a : Addr) (s : Pot) (n : Nat) (ns : List Str) (k : Nat), ds = [.ref a, eS ns, .int k] ∧ GNs ns ∧ ns ≠ [] ∧ ns.length ≤ 60 ∧ k ≤ 50 ∧ M a = some (pc s) ∧ PB n s ∧ n ≤ 90000 ∧
  ∀ (s' : Pot) (its : List Str), PB (n + 1 + 2 * k) s' → its.length ≤ k → (∀ x ∈ its, GI ns x) → Q (eS its) (put M a (pc s'))
theorem ok_Llisted (T : Tx K mg) : FnOk P w K mg base CX0 3 T.f_Llisted T.d_Llisted ["_law_pot_here", "_law_names_here", "_law_most"] (lSp K sp_listed) := by
  refine Fun.dl T.F_Llisted sc_Llisted (fun ds M E Q ⟨_, _, _, _, _, e, _⟩ => by rw [e]; rfl) (fun cdv A outer s H E hr => (dss_cons (ds_set (i := 3) sc_Llisted.nd rfl (Or.inl rfl) (de_lstM da_nil'))
        (dss_cons (ds_for PassesOwn.never rfl (di_range1 (by rfl) T.b_range (da_cons (de_call (ok_Ltake T) (hr.mono (by decide)) (by rfl) T.g_Ltake T.F_Ltake.kp T.B_Ltake (da_cons (de_var (i := 0)) (da_cons (de_add (de_var (i := 2)) de_int) da_nil'))) da_nil')) (dg_name (i := 4) sc_Llisted.nd rfl (Or.inl rfl)) (dss_one (ds_expr (de_mt PySem.F.plainAttrs_list PySem.F.slot_list_append PySem.F.type_list_append mt_append lift_append (de_var (i := 3)) (da_cons (de_add (de_call (ok_Lof T) (hr.mono (by decide)) (by rfl) T.g_Lof T.F_Lof.kp T.B_Lof (da_cons (de_var (i := 0)) (da_cons (de_lst (da_cons de_str (da_cons de_str (da_cons de_str da_nil')))) da_nil'))) (de_call (ok_Lof T) (hr.mono (by decide)) (by rfl) T.g_Lof T.F_Lof.kp T.B_Lof (da_cons (de_var (i := 0)) (da_cons (de_var (i := 1)) da_nil')))) da_nil')))))
        (dss_one (ds_ret (de_tuple T.b_tuple (by rfl) (da_cons (de_var (i := 3)) da_nil'))))))) ?_
  rintro ds M E Q ⟨a, s, n, ns, k, rfl, G, hne, hl, hk, ha, hb, hn, q⟩
  walk_at "dl"
  refine ⟨by rw [sizeLine_eq]; omega, fun p hp => ?_⟩
  have hap : a ≠ p := ne_put ha hp
  refine ⟨a, s, n, _, rfl, by rw [put_ne hap]; exact ha, hb, by omega, by omega, by omega, fun s1 t hb1 t0 t1 => ?_⟩
  rw [put_comm (Ne.symm hap)]
  walk_at "dl"
  refine ⟨by omega, ?_⟩
  have hps : ∀ s', put M a (pc s') p = none := fun s' => by rw [put_ne (Ne.symm hap)]; exact hp
  refine for_range (fun i sd M' => ∃ s' its, M' = put (put M a (pc s')) p (.lst (its.map .str)) ∧ PB (n + 1 + 2 * i) s' ∧ its.length = i ∧ (∀ x ∈ its, GI ns x) ∧ ∃ c, sd = [some (.ref a), some (eS ns), some (.int k), some (.ref p), c]) ?_ ?_ ⟨s1, [], rfl, hb1, rfl, fun _ h => (by cases h), _, rfl⟩
  · rintro sd M' ⟨s', its, rfl, hb', hl', hg, c, rfl⟩
    refine ⟨trivial, ?_⟩
    walk_at "dl"
    exact ⟨put M a (pc s'), subM_put (hps s'), q s' its (hb'.mono (by omega)) (by omega) hg⟩
  · rintro i hi sd M' Kf ⟨s', its, rfl, hb', hl', hg, c, rfl⟩ kf
    refine ⟨trivial, ?_⟩
    walk_at "dl"
    refine ⟨rfl, by rw [sizeLine_eq]; omega, a, s', n + 1 + 2 * i, _, _, rfl, ⟨by simp, by simp, .inl rfl⟩, by rw [put_ne hap, put_same], hb', by omega, fun s2 x hb2 hx => ?_⟩
    rw [put_mid hap]
    obtain ⟨sgn, rfl, hs⟩ : ∃ z : Str, x = .str z ∧ (z = "" ∨ z = "-") := by
      simp only [List.mem_cons, List.not_mem_nil, or_false] at hx
      rcases hx with rfl | rfl | rfl
      · exact ⟨_, rfl, .inl rfl⟩
      · exact ⟨_, rfl, .inl rfl⟩
      · exact ⟨_, rfl, .inr rfl⟩
    unfold eS
    refine ⟨a, s2, n + 1 + 2 * i + 1, _, ns.map .str, rfl, ⟨?_, by rw [List.length_map]; omega, .inr (.inl rfl)⟩, by rw [put_ne hap, put_same], hb2, by omega, fun s3 x hb3 hx => ?_⟩
    · intro e
      exact hne (List.map_eq_nil_iff.mp e)
    · rw [put_mid hap]
      obtain ⟨nm, hnm, rfl⟩ := List.mem_map.mp hx
      have gl := (G nm hnm).len
      have gi : GI ns (sgn ++ nm) := by
        rcases hs with rfl | rfl
        · have e : ("" : Str) ++ nm = nm := DL.Str.ext_cps (by
            rw [app_cps]
            have : ("" : Str).cps.toList = [] := by decide +kernel
            rw [this]
            rfl)
          rw [e]
          exact name_gi G hnm
        · refine ⟨?_, ?_, by rw [dash_col]; exact hnm⟩
          · have : ("-" : Str).length = 1 := by decide +kernel
            rw [app_len]
            omega
          · rw [app_cps, dash_cps]
            exact fun e => nomatch e
      walk_at "dl"
      refine ⟨by have := gi.len; rw [app_len] at this; rw [sizeLine_eq]; omega, by rw [List.length_map, sizeLine_eq]; omega, ?_⟩
      refine kf _ _ ⟨s3, its ++ [sgn ++ nm], by rw [List.map_append]; rfl, hb3.mono (by omega), by rw [List.length_append, List.length_singleton, hl'], fun y hy => ?_, _, rfl⟩
      rcases List.mem_append.mp hy with hy | hy
      · exact hg y hy
      · rw [List.mem_singleton.mp hy]
        exact gi
def sp_every : DSp := fun ds M E Q => ∃ n : Nat, ds = [.int n] ∧ n ≤ 6 ∧ Q (.lst ((allPat n).map eI)) M
theorem ok_Levery (T : Tx K mg) : FnOk P w K mg base CX0 1 T.f_Levery T.d_Levery ["_law_size"] (lSp K sp_every) := by
  refine Fun.dl T.F_Levery sc_Levery (fun ds M E Q ⟨_, e, _⟩ => by rw [e]; rfl) (fun cdv A outer s H E hr => (dss_cons (ds_set (i := 1) sc_Levery.nd rfl (Or.inl rfl) (de_lst (da_cons (de_tup da_nil') da_nil')))
        (dss_cons (ds_for PassesOwn.never rfl (di_range1 (by rfl) T.b_range (da_cons (de_var (i := 0)) da_nil')) (dg_name (i := 2) sc_Levery.nd rfl (Or.inl rfl)) (dss_cons (ds_set (i := 3) sc_Levery.nd rfl (Or.inl rfl) (de_lstM da_nil'))
        (dss_cons (ds_for PassesOwn.never rfl (di_seq (de_var (i := 1))) (dg_name (i := 4) sc_Levery.nd rfl (Or.inr rfl)) (dss_one (ds_expr (de_mt PySem.F.plainAttrs_list PySem.F.slot_list_extend PySem.F.type_list_extend mt_extend lift_extend (de_var (i := 3)) (da_cons (de_lc (own := [("_law_sign", 5)]) rFz_ok rfl sc_Levery.nd (di_seq (de_tup (da_cons (de_neg de_int) (da_cons de_int (da_cons de_int da_nil'))))) (blkOk_by (own := [("_law_sign", 5)]) (N := N_Levery) (sc := (defScope s_Levery)) (by decide +kernel)) (fun _ _ _ _ _ => dg_name (i := 5) sc_Levery.nd rfl (by first | exact Or.inl rfl | exact Or.inr rfl)) (fun _ _ _ _ _ => dts_nil) (fun _ _ _ _ _ => (de_add (de_var (i := 4)) (de_tup (da_cons (de_var (i := 5)) da_nil'))))) da_nil')))))
        (dss_one (ds_set (i := 1) sc_Levery.nd rfl (Or.inl rfl) (de_var (i := 3)))))))
        (dss_one (ds_retF (de_var (i := 1))))))) ?_
  rintro ds M E Q ⟨n, rfl, hn, q⟩
  walk_at "dl"
  refine ⟨by rw [sizeLine_eq]; omega, by rw [sizeLine_eq]; omega, by omega, ?_⟩
  rw [Int.toNat_natCast]
  refine for_range (fun i sd M' => SubM M' M ∧ ∃ d a b c e, seqD M' d = some ((allPat i).map eI) ∧ ((∃ ds, d = .lst ds) ∨ ∃ p, d = .ref p ∧ M p = none) ∧ sd = [some (.int n), some d, a, b, c, e]) ?_ ?_ ⟨SubM.refl M, _, _, _, _, _, rfl, .inl ⟨_, rfl⟩, rfl⟩
  · rintro sd M' ⟨sub, d, a, b, c, e, hd, hr, rfl⟩
    refine ⟨trivial, ?_⟩
    walk_at "dl"
    rcases hr with ⟨ds, rfl⟩ | ⟨p, rfl, hr⟩
    · cases hd
      exact ⟨M, sub, q⟩
    · have hp : M' p = some (.lst ((allPat n).map eI)) := by
        cases z : M' p with
        | none =>
          have : seqD M' (.ref p) = none := by
            show (match M' p with
              | some (.lst ds) => some ds
              | _ => none) = none
            rw [z]
          rw [this] at hd
          cases hd
        | some c =>
          cases c with
          | lst ds =>
            rw [seqD_ref z] at hd
            cases hd
            rfl
          | _ =>
            have : seqD M' (.ref p) = none := by
              show (match M' p with
                | some (.lst ds) => some ds
                | _ => none) = none
              rw [z]
            rw [this] at hd
            cases hd
      show Fnl Q (fzV p (M' p)) (fzD M' p (M' p))
      rw [hp]
      refine ⟨M, fun x c hx => ?_, q⟩
      have hx' := sub x c hx
      show drop M' p x = some c
      rw [drop_ne (fun e => by rw [e, hr] at hx; cases hx)]
      exact hx'
  · rintro i hi sd M' Kf ⟨sub, d, a, b, c, e, hd, hr, rfl⟩ kf
    refine ⟨trivial, ?_⟩
    walk_at "dl"
    refine ⟨by rw [sizeLine_eq]; omega, fun p2 hp2 => ?_⟩
    have hd2 : ∀ c, seqD (put M' p2 c) d = some ((allPat i).map eI) := fun c => by
      cases d with
      | ref p =>
        have ne : p ≠ p2 := fun e => by
          subst e
          have : seqD M' (.ref p) = none := by
            show (match M' p with
              | some (.lst ds) => some ds
              | _ => none) = none
            rw [hp2]
          rw [this] at hd
          cases hd
        show (match put M' p2 c p with
          | some (.lst ds) => some ds
          | _ => none) = _
        rw [put_ne ne]
        exact hd
      | _ => exact hd
    have hd3 := hd2 (.lst [])
    unfold seqD at hd3
    rw [hd3]
    walk_at "dl"
    have hp : (3 : Nat) ^ i ≤ 3 ^ 6 := Nat.pow_le_pow_right (by decide) (by omega)
    refine for_map (fun k sd M2 => M2 = put M' p2 (.lst ((((allPat i).take k).flatMap fun s => [s ++ [-1], s ++ [0], s ++ [1]]).map eI)) ∧ ∃ c e, sd = [some (.int n), some d, some (.int (0 + (i : Nat))), some (.ref p2), c, e]) ?_ ?_ ⟨by rw [List.take_zero]; rfl, _, _, rfl⟩
    · rintro sd M2 ⟨rfl, c, e, rfl⟩
      refine ⟨hd2 _, ?_⟩
      walk_at "dl"
      rw [List.take_length]
      refine kf _ _ ⟨fun x y h => ?_, _, _, _, _, _, seqD_ref put_same, .inr ⟨p2, rfl, ?_⟩, rfl⟩
      · rw [put_ne (fun e => by subst e; rw [sub _ _ h] at hp2; cases hp2)]
        exact sub x y h
      · cases z : M p2 with
        | none => rfl
        | some x => rw [sub _ _ z] at hp2; cases hp2
    · rintro k hk sd M2 Kg ⟨rfl, c, e, rfl⟩ kg
      refine ⟨hd2 _, ?_⟩
      walk_at "dl"
      refine ⟨rfl, by rw [sizeLine_eq]; omega, fun l hl => ?_⟩
      have hsl := pat_len (List.getElem_mem hk)
      have len : (((allPat i).take k).flatMap fun s => [s ++ [-1], s ++ [0], s ++ [1]]).length ≤ 729 * 3 := by
        have key : ∀ L : List (List Int), (L.flatMap fun s => [s ++ [-1], s ++ [0], s ++ [1]]).length = L.length * 3 := by
          intro L
          induction L with
          | nil => rfl
          | cons a L ih =>
            rw [List.flatMap_cons, List.length_append, ih]
            show 3 + L.length * 3 = (L.length + 1) * 3
            omega
        rw [key, List.length_take]
        have := pat_count i
        omega
      have hpl : p2 ≠ l := ne_put put_same hl
      refine lc_map (M := put M' p2 (.lst ((((allPat i).take k).flatMap fun s => [s ++ [-1], s ++ [0], s ++ [1]]).map eI))) (fun x => .tup (tlD (eI (allPat i)[k]) ++ [x])) hl (fun _ => trivial) (fun x hx acc Ky Kn h => ?_) (by rw [sizeLine_eq]; show 3 ≤ _; omega) ?_
      · unfold eI
        walk_at "dl"
        refine ⟨by rw [sizeLine_eq]; omega, ?_, h⟩
        rw [List.length_map, hsl, sizeLine_eq]
        omega
      · walk_at "dl"
        rw [List.length_map, sizeLine_eq]
        refine ⟨by omega, kg _ _ ⟨?_, _, _, rfl⟩⟩
        congr 2
        rw [List.take_succ, List.getElem?_eq_getElem hk, List.flatMap_append, List.map_append]
        congr 1
        have e3 : ∀ x : Int, DV.tup (tlD (eI (allPat i)[k]) ++ [.int x]) = eI ((allPat i)[k] ++ [x]) := fun x => by
          show DV.tup ((allPat i)[k].map .int ++ [.int x]) = .tup (((allPat i)[k] ++ [x]).map .int)
          rw [List.map_append]
          rfl
        rw [e3, e3, e3]
        rfl
def sp_Llex : DSp := fun ds M E Q => ∃ (ns : List Str) (vals : List Int) (items : List Str), ds = [eS ns, eI vals, eS items] ∧ vals.length = ns.length ∧ GNs ns ∧ (∀ it ∈ items, GI ns it) ∧ Q (.int (lexM (fv ns vals) items)) M
theorem ok_Llex (T : Tx K mg) : FnOk P w K mg base CX0 1 T.f_Llex T.d_Llex ["_law_names_here", "_law_pattern", "_law_wish"] (lSp K sp_Llex) := by
  refine Fun.dl T.F_Llex sc_Llex (fun ds M E Q ⟨_, _, _, e, _⟩ => by rw [e]; rfl) (fun cdv A outer s H E hr => (dss_cons (ds_for PassesOwn.never rfl (di_seq (de_var (i := 2))) (dg_name (i := 3) sc_Llex.nd rfl (Or.inl rfl)) (dss_cons (ds_set (i := 4) sc_Llex.nd rfl (Or.inl rfl) (de_ix (de_var (i := 1)) (de_mt PySem.F.plainAttrs_tuple PySem.F.slot_tuple_index PySem.F.type_tuple_index mt_tup_index lift_index (de_var (i := 0)) (da_cons (de_mt PySem.F.plainAttrs_str PySem.F.slot_str_lstrip PySem.F.type_str_lstrip mt_lstripChars lift_lstrip (de_var (i := 3)) (da_cons de_str da_nil')) da_nil'))))
        (dss_one (ds_if (dt_ne (hu64 hr) (de_var (i := 4)) de_int) (dss_one (ds_ret (de_if (dt_eq (hu64 hr) (de_ix (de_var (i := 3)) de_int) de_str) (de_neg (de_var (i := 4))) (de_var (i := 4))))) dss_nil))))
        (dss_one (ds_ret de_int)))) ?_
  rintro ds M E Q ⟨cols, vals, items, rfl, h1, G, hi, q⟩
  unfold eS eI
  walk_at "dl"
  refine for_ind (fun xs sd M' => ∃ rest : List Str, xs = rest.map .str ∧ (∀ it ∈ rest, it ∈ items) ∧ M' = M ∧ Q (.int (lexM (fv cols vals) rest)) M ∧ ∃ a b, sd = [some (.tup (cols.map .str)), some (.tup (vals.map .int)), some (.tup (items.map .str)), a, b]) ?_ ?_ _ _ _ ⟨items, rfl, fun _ h => h, rfl, q, _, _, rfl⟩
  · rintro sd M' ⟨rest, e, _, rfl, q, a, b, rfl⟩
    have : rest = [] := List.map_eq_nil_iff.mp e.symm
    subst this
    exact ⟨trivial, fin_id q⟩
  · rintro x xs sd M' Kf ⟨rest, e, hr, rfl, q, a, b, rfl⟩ kf
    cases rest with
    | nil => cases e
    | cons it rest =>
      rw [List.map_cons] at e
      injection e with e1 e2
      subst e1 e2
      have gi := hi it (hr it (List.mem_cons_self ..))
      obtain ⟨j, hj, hjl⟩ := idx_mem gi.mem
      have hd : fv cols vals (col it) = vals.getD j 0 := by
        unfold fv
        rw [hj]
      have gl := gi.len
      walk_at "dl"
      refine ⟨by rw [sizeLine_eq]; omega, cols, rfl, ?_⟩
      rw [lstrip_col (gi.gd G), hj]
      walk_at "dl"
      rw [at_get (by omega : j < vals.length)]
      walk_at "dl"
      refine eqR_int' ?_
      walk_at "dl"
      by_cases e : vals.getD j 0 = 0
      · rw [decide_eq_true e]
        show Kf _ _
        refine kf _ _ ⟨rest, rfl, fun y hy => hr y (List.mem_cons_of_mem _ hy), rfl, ?_, _, _, rfl⟩
        have z : sg (fv cols vals) it = 0 := sg_zero.mpr (by rw [hd]; exact e)
        unfold lexM at q ⊢
        rw [List.map_cons] at q
        unfold fnz at q
        rw [if_pos z] at q
        exact q
      · rw [decide_eq_false e]
        have z : ¬ sg (fv cols vals) it = 0 := fun z => e (by rw [← hd]; exact sg_zero.mp z)
        have q' : Q (.int (sg (fv cols vals) it)) M' := by
          unfold lexM at q
          rw [List.map_cons] at q
          unfold fnz at q
          rw [if_neg z] at q
          exact q
        unfold sg at q'
        rw [hd] at q'
        walk_at "dl"
        refine ⟨by rw [sizeLine_eq]; omega, ?_⟩
        cases hc : it.cps.toList with
        | nil => exact absurd hc gi.ne
        | cons c r =>
          rw [at_0]
          walk_at "dl"
          refine eqR_str' ?_
          have e : decide ((⟨#[c]⟩ : Str) = ("-" : Str)) = fall it := by
            unfold fall
            rw [hc]
            show _ = decide (some c = some 45)
            by_cases h : c = 45
            · subst h
              decide +kernel
            · rw [decide_eq_false (fun z => h (Option.some.inj z)), decide_eq_false fun z => h (by
                have := congrArg (fun s : Str => s.cps.toList) z
                have e2 : [c] = [45] := this.trans dash_cps
                injection e2)]
          rw [e]
          walk_at "dl"
          by_cases f : fall it = true
          · rw [if_pos f] at q' ⊢
            exact fin_id q'
          · rw [if_neg f] at q' ⊢
            exact fin_id q'
end
end K78
set_option Elab.async false
set_option linter.all false
set_option maxRecDepth 100000
set_option maxHeartbeats 4000000
namespace K78
open PySem PySem.Spec PyProof.Rows L2 DL
local macro_rules | `(tactic| walk_at "dl") => `(tactic| simp only [sSeq, sAsg, sRet, sRetF, sRetN, sIf, sFor, sPar, sDrop, sNext, sBrk, sCnt, dVar, dC, dCons, dNil, dTup, dLst, dLstM, dOp, dUn, dTest, dAnd, dOr, dNot, dAndV, dOrV, dNotV, dIf, dSl, dPart, dNoPart, dCB, dMt, dCall, dCallD, dYes, gNm, gTp, gConsD, gNilD, slot, setS, dAt, ifB, atSeq, atO, seqD, addD, ntD, ntD0, ordD, negD, ixR, slR, lenD, tupleD, startD, iSeqD, iR1, iR2, iEnumD, dSortSC, dLcR, dLc2R, lcStep, wipeD, unset, indexD, appendD, extendD, tyD, DL.intOfD, put_same, put_put, absD, maxD, minD, listD, listMD, allD, anyD, joinD, lstripD, DL.inR, flatD, List.all_cons, List.all_nil, Bool.and_self, List.any_cons, List.any_nil, popD, gSubD, setItemD, rFz, rMu, isT, true_and, Bool.not_true, Bool.not_false, Bool.false_eq_true, if_true, if_false, reduceIte, at_0, at_1, at_2, at_3, List.map_cons, List.map_nil, List.length_cons, List.length_nil, List.replicate, List.cons_append, List.nil_append, Nat.reduceAdd, Nat.reduceSub])
section
variable {P : Program} {w : World} {K : PySem.W.Frag} {mg : Str → Option Value} {base : Heap}

def sp_obeyed : DSp := fun ds M E Q => ∃ (ns : List Str) (vals : List Int) (r : List Str × List Str), ds = [eS ns, eI vals, .tup [eR r]] ∧ vals.length = ns.length ∧ GNs ns ∧ (∀ it ∈ r.1, GI ns it) ∧ (∀ it ∈ r.2, GI ns it) ∧ Q (.bl (keepsF (fv ns vals) r.1 r.2)) M
theorem ok_Lobeyed (T : Tx K mg) : FnOk P w K mg base CX0 2 T.f_Lobeyed T.d_Lobeyed ["_law_names_here", "_law_pattern", "_law_pairs"] (lSp K sp_obeyed) := by
  refine Fun.dl T.F_Lobeyed sc_Lobeyed (fun ds M E Q ⟨_, _, _, e, _⟩ => by rw [e]; rfl) (fun cdv A outer s H E hr => (dss_cons (ds_for PassesOwn.never rfl (di_seq (de_var (i := 2))) (dg_tup (n := 2) rfl (dgs_cons (dg_name (i := 3) sc_Lobeyed.nd rfl (Or.inl rfl)) (dgs_cons (dg_name (i := 4) sc_Lobeyed.nd rfl (Or.inl rfl)) dgs_nil))) (dss_one (ds_if (dt_nin (hu65 hr) (de_call (ok_Llex T) (hr.mono (by decide)) (by rfl) T.g_Llex T.F_Llex.kp T.B_Llex (da_cons (de_var (i := 0)) (da_cons (de_var (i := 1)) (da_cons (de_var (i := 4)) da_nil')))) (de_tup (da_cons de_int (da_cons (de_call (ok_Llex T) (hr.mono (by decide)) (by rfl) T.g_Llex T.F_Llex.kp T.B_Llex (da_cons (de_var (i := 0)) (da_cons (de_var (i := 1)) (da_cons (de_var (i := 3)) da_nil')))) da_nil')))) (dss_one (ds_ret de_bl)) dss_nil)))
        (dss_one (ds_ret de_bl)))) ?_
  rintro ds M E Q ⟨ns, vals, r, rfl, h1, G, i1, i2, q⟩
  walk_at "dl"
  unfold forGo
  refine ⟨trivial, ?_⟩
  unfold eR
  walk_at "dl"
  refine ⟨ns, vals, r.2, rfl, h1, G, i2, ?_⟩
  walk_at "dl"
  refine ⟨ns, vals, r.1, rfl, h1, G, i1, ?_⟩
  walk_at "dl"
  refine ⟨by rw [sizeLine_eq]; omega, .inl trivial, ?_⟩
  rw [eqD_int, eqD_int]
  unfold keepsF at q
  have sym : ∀ x y : Int, decide (x = y) = decide (y = x) := fun x y => by
    by_cases h : x = y
    · subst h; rfl
    · rw [decide_eq_false h, decide_eq_false fun z => h z.symm]
  rw [sym 0, sym (lexM (fv ns vals) r.1), Bool.or_false]
  generalize (decide (lexM (fv ns vals) r.2 = 0) || decide (lexM (fv ns vals) r.2 = lexM (fv ns vals) r.1)) = b at q ⊢
  cases b with
  | true =>
    walk_at "dl"
    unfold forGo
    exact ⟨trivial, by walk_at "dl"; exact fin_id q⟩
  | false =>
    walk_at "dl"
    exact fin_id q
def sp_rows : DSp := fun ds M E Q => ∃ (a : Addr) (s : Pot) (n : Nat) (ns : List Str) (k : Nat) (top : Int), ds = [.ref a, eS ns, .int k, .int top] ∧ ns.length ≤ 60 ∧ k ≤ 100 ∧ 0 ≤ top ∧ top ≤ 1000 ∧ M a = some (pc s) ∧ PB n s ∧ n ≤ 60000 ∧
  ∀ (s' : Pot) (rows : List (List Int)), PB (n + k * (2 * ns.length)) s' → rows.length = k → (∀ r ∈ rows, r.length = ns.length) → Q (.tup (rows.map eI)) (put M a (pc s'))
theorem ok_Lrows_of (T : Tx K mg) : FnOk P w K mg base CX0 3 T.f_Lrows_of T.d_Lrows_of ["_law_pot_here", "_law_names_here", "_law_many", "_law_top"] (lSp K sp_rows) := by
  refine Fun.dl T.F_Lrows_of sc_Lrows_of (fun ds M E Q ⟨_, _, _, _, _, _, e, _⟩ => by rw [e]; rfl) (fun cdv A outer s H E hr => (dss_cons (ds_set (i := 4) sc_Lrows_of.nd rfl (Or.inl rfl) (de_lstM da_nil'))
        (dss_cons (ds_for PassesOwn.never rfl (di_range1 (by rfl) T.b_range (da_cons (de_var (i := 2)) da_nil')) (dg_name (i := 5) sc_Lrows_of.nd rfl (Or.inl rfl)) (dss_one (ds_expr (de_mt PySem.F.plainAttrs_list PySem.F.slot_list_append PySem.F.type_list_append mt_append lift_append (de_var (i := 4)) (da_cons (de_tuple T.b_tuple (by rfl) (da_cons (de_lc (own := [("_law_name", 6)]) rFz_ok rfl sc_Lrows_of.nd (di_seq (de_var (i := 1))) (blkOk_by (own := [("_law_name", 6)]) (N := N_Lrows_of) (sc := (defScope s_Lrows_of)) (by decide +kernel)) (fun _ _ _ _ _ => dg_name (i := 6) sc_Lrows_of.nd rfl (by first | exact Or.inl rfl | exact Or.inr rfl)) (fun _ _ _ _ _ => dts_nil) (fun _ _ _ _ _ => (de_call (ok_Lof T) (hr.mono (by decide)) (by rfl) T.g_Lof T.F_Lof.kp T.B_Lof (da_cons (de_var (i := 0)) (da_cons (de_lst (da_cons de_int (da_cons de_int (da_cons de_int (da_cons (de_neg de_int) (da_cons (de_var (i := 3)) (da_cons (de_neg (de_var (i := 3))) (da_cons (de_call (ok_Ltake T) (hr.mono (by decide)) (by rfl) T.g_Ltake T.F_Ltake.kp T.B_Ltake (da_cons (de_var (i := 0)) (da_cons (de_add (de_var (i := 3)) de_int) da_nil'))) da_nil')))))))) da_nil'))))) da_nil')) da_nil')))))
        (dss_one (ds_ret (de_tuple T.b_tuple (by rfl) (da_cons (de_var (i := 4)) da_nil'))))))) ?_
  rintro ds M E Q ⟨a, s, n, ns, k, top, rfl, hl, hk, t0, t1, ha, hb, hn, q⟩
  unfold eS
  walk_at "dl"
  refine ⟨by rw [sizeLine_eq]; omega, fun p hp => ⟨by omega, ?_⟩⟩
  have hap : a ≠ p := ne_put ha hp
  have hps : ∀ s', put M a (pc s') p = none := fun s' => by rw [put_ne (Ne.symm hap)]; exact hp
  rw [Int.toNat_natCast]
  refine for_range (fun i sd M' => ∃ s' rows, M' = put (put M a (pc s')) p (.lst (rows.map eI)) ∧ PB (n + i * (2 * ns.length)) s' ∧ rows.length = i ∧ (∀ r ∈ rows, r.length = ns.length) ∧ ∃ c d, sd = [some (.ref a), some (.tup (ns.map .str)), some (.int k), some (.int top), some (.ref p), c, d]) ?_ ?_ ⟨s, [], ?_, by rw [Nat.zero_mul]; exact hb, rfl, fun _ h => (by cases h), _, _, rfl⟩
  · rintro sd M' ⟨s', rows, rfl, hb', hl', hg, c, d, rfl⟩
    refine ⟨trivial, ?_⟩
    walk_at "dl"
    exact ⟨put M a (pc s'), subM_put (hps s'), q s' rows hb' hl' hg⟩
  · rintro i hi sd M' Kf ⟨s', rows, rfl, hb', hl', hg, c, d, rfl⟩ kf
    refine ⟨trivial, ?_⟩
    walk_at "dl"
    refine ⟨rfl, fun l hl2 => ?_⟩
    have hpl : p ≠ l := ne_put put_same hl2
    have hal : a ≠ l := ne_put (M := put (put M a (pc s')) p (.lst (rows.map eI))) (by rw [put_ne hap, put_same]) hl2
    have mid : ∀ (c c' d e : Cell), put (put (put (put M a c) p d) l e) a c' = put (put (put M a c') p d) l e := fun c c' d e => by rw [put_comm (Ne.symm hal), put_mid hap]
    have at_a : ∀ (c d e : Cell), put (put (put M a c) p d) l e a = some c := fun c d e => by rw [put_ne hal, put_ne hap, put_same]
    have hln : ∀ (c d : Cell), put (put M a c) p d l = none := fun c d => by
      rw [put_ne (Ne.symm hpl), put_ne (Ne.symm hal)]
      rw [put_ne (Ne.symm hpl), put_ne (Ne.symm hal)] at hl2
      exact hl2
    have hbd : i * (2 * ns.length) ≤ 100 * (2 * 60) := Nat.mul_le_mul (by omega) (by omega)
    refine lc_inv (fun xs acc M2 => ∃ s2 vs, M2 = put (put (put M a (pc s2)) p (.lst (rows.map eI))) l (.lst (vs.map .int)) ∧ acc = vs.map .int ∧ PB (n + i * (2 * ns.length) + 2 * vs.length) s2 ∧ vs.length + xs.length = ns.length) ?_ ?_ ?_ _ _ _ ⟨s', [], rfl, rfl, hb', by rw [List.length_map]; exact Nat.zero_add _⟩
    · rintro xs acc M2 ⟨s2, vs, rfl, rfl, _, h⟩
      refine ⟨put_same, ?_⟩
      rw [List.length_map, sizeLine_eq]
      omega
    · rintro acc M2 ⟨s2, vs, rfl, rfl, hb2, hv⟩
      rw [List.length_nil] at hv
      refine ⟨trivial, ?_⟩
      walk_at "dl"
      rw [drop_put (hln _ _)]
      walk_at "dl"
      refine ⟨by rw [List.length_map, sizeLine_eq]; omega, ?_⟩
      refine kf _ _ ⟨s2, rows ++ [vs], by rw [List.map_append]; rfl, hb2.mono (by have e : (i + 1) * (2 * ns.length) = i * (2 * ns.length) + 2 * ns.length := Nat.succ_mul _ _; omega), by rw [List.length_append, List.length_singleton, hl'], fun r hr => ?_, _, _, rfl⟩
      rcases List.mem_append.mp hr with hr | hr
      · exact hg r hr
      · rw [List.mem_singleton.mp hr]
        omega
    · rintro x xs acc M2 Ky Kn ⟨s2, vs, rfl, rfl, hb2, hv⟩ ky kn
      rw [List.length_cons] at hv
      refine ⟨trivial, ?_⟩
      walk_at "dl"
      refine ⟨a, s2, n + i * (2 * ns.length) + 2 * vs.length, _, rfl, at_a _ _ _, hb2, by omega, by omega, by omega, fun s3 v hb3 v0 v1 => ?_⟩
      rw [mid]
      refine ⟨by rw [sizeLine_eq]; omega, a, s3, n + i * (2 * ns.length) + 2 * vs.length + 1, _, _, rfl, ⟨by simp, by simp, .inl rfl⟩, at_a _ _ _, hb3, by omega, fun s4 x hb4 hx => ?_⟩
      rw [mid]
      obtain ⟨u, rfl⟩ : ∃ u : Int, x = .int u := by
        simp only [List.mem_cons, List.not_mem_nil, or_false] at hx
        rcases hx with rfl | rfl | rfl | rfl | rfl | rfl | rfl <;> exact ⟨_, rfl⟩
      exact ky _ _ put_same ⟨s4, vs ++ [u], by rw [put_put, List.map_append]; rfl, by rw [List.map_append]; rfl, hb4.mono (by rw [List.length_append, List.length_singleton]; omega), by rw [List.length_append, List.length_singleton]; omega⟩
  · rw [show put M a (pc s) = M from put_self ha]
    rfl
def bzD (ns : List Str) (vals : List Int) : DV → DV
  | .str y => .bl (!decide (fv ns vals y = 0))
  | d => d
/-- a part of these columns -/
def PG (ns : List Str) : Part → Prop
  | .fixed ctx c => (∀ y ∈ ctx, y ∈ ns) ∧ c ∈ ns
  | .tog ctx a b => (∀ y ∈ ctx, y ∈ ns) ∧ GI ns a ∧ GI ns b
def sp_against : DSp := fun ds M E Q => ∃ (ns : List Str) (vals : List Int) (p : Part), ds = [eS ns, eI vals, eP p] ∧ vals.length = ns.length ∧ V1 vals ∧ GNs ns ∧ PG ns p ∧ p.ctx.length ≤ 1000 ∧ Q (.bl (agst (fv ns vals) p)) M
theorem ok_Lis_against (T : Tx K mg) : FnOk P w K mg base CX0 2 T.f_Lis_against T.d_Lis_against ["_law_names_here", "_law_pattern", "_law_piece"] (lSp K sp_against) := by
  refine Fun.dl T.F_Lis_against sc_Lis_against (fun ds M E Q ⟨_, _, _, e, _⟩ => by rw [e]; rfl) (fun cdv A outer s H E hr => (dss_cons (ds_if (dt_val (de_any rfl T.b_any (by rfl) (da_cons (de_lc (own := [("_law_name", 4)]) rFz_ok rfl sc_Lis_against.nd (di_seq (de_ix (de_var (i := 2)) de_int)) (blkOk_by (own := [("_law_name", 4)]) (N := N_Lis_against) (sc := (defScope s_Lis_against)) (by decide +kernel)) (fun _ _ _ _ _ => dg_name (i := 4) sc_Lis_against.nd rfl (by first | exact Or.inl rfl | exact Or.inr rfl)) (fun _ _ _ _ _ => dts_nil) (fun _ _ _ _ _ => (de_ne (hu64 hr) (de_ix (de_var (i := 1)) (de_mt PySem.F.plainAttrs_tuple PySem.F.slot_tuple_index PySem.F.type_tuple_index mt_tup_index lift_index (de_var (i := 0)) (da_cons (de_var (i := 4)) da_nil'))) de_int))) da_nil'))) (dss_one (ds_ret de_bl)) dss_nil)
        (dss_cons (ds_set (i := 3) sc_Lis_against.nd rfl (Or.inl rfl) (de_call (ok_Llex T) (hr.mono (by decide)) (by rfl) T.g_Llex T.F_Llex.kp T.B_Llex (da_cons (de_var (i := 0)) (da_cons (de_var (i := 1)) (da_cons (de_sl (de_var (i := 2)) (do_some de_int) (do_some de_int)) da_nil')))))
        (dss_one (ds_ret (de_if (dt_eq (hu64 hr) (de_ix (de_var (i := 2)) de_int) de_str) (de_ne (hu64 hr) (de_var (i := 3)) de_int) (de_eq (hu64 hr) (de_mul (de_var (i := 3)) (de_call (ok_Llex T) (hr.mono (by decide)) (by rfl) T.g_Llex T.F_Llex.kp T.B_Llex (da_cons (de_var (i := 0)) (da_cons (de_var (i := 1)) (da_cons (de_sl (de_var (i := 2)) (do_some de_int) do_none) da_nil'))))) (de_neg de_int)))))))) ?_
  rintro ds M E Q ⟨ns, vals, p, rfl, h1, hv, G, hp, hc, q⟩
  unfold eS eI
  have bs : ∀ (ctx : List Str), (∀ y ∈ ctx, y ∈ ns) → (ctx.map fun y => !decide (fv ns vals y = 0)).any id = !decide (lexM (fv ns vals) ctx = 0) := fun ctx hx => by
    have e : lexM (fv ns vals) ctx = 0 ↔ ∀ y ∈ ctx, fv ns vals y = 0 := by
      rw [lexM_zero]
      exact ⟨fun h y hy => by have := h y hy; rw [name_col G (hx y hy)] at this; exact this, fun h y hy => by rw [name_col G (hx y hy)]; exact h y hy⟩
    cases z : (ctx.map fun y => !decide (fv ns vals y = 0)).any id with
    | true =>
      obtain ⟨b, hb, hb2⟩ := List.any_eq_true.mp z
      obtain ⟨y, hy, rfl⟩ := List.mem_map.mp hb
      rw [decide_eq_false fun w => ?_]
      · rfl
      · have := e.mp w y hy
        rw [decide_eq_true this] at hb2
        cases hb2
    | false =>
      rw [decide_eq_true (e.mpr fun y hy => ?_)]
      · rfl
      · have := List.any_eq_false.mp z _ (List.mem_map.mpr ⟨y, hy, rfl⟩)
        simpa using this
  have step : ∀ (sd : DSt) (rest : DSt) (ctx : List Str), True := fun _ _ _ => trivial
  cases p with
  | fixed ctx c =>
    have hc' : ctx.length ≤ 1000 := hc
    unfold eP eS
    walk_at "dl"
    intro p hn
    refine lc_map (bzD ns vals) hn (fun _ => trivial) (fun x hx acc Ky Kn h => ?_) (by rw [List.length_map, sizeLine_eq]; omega) ?_
    · obtain ⟨y, hy, rfl⟩ := List.mem_map.mp hx
      obtain ⟨j, hj, hjl⟩ := idx_mem (hp.1 y hy)
      have hd : fv ns vals y = vals.getD j 0 := by
        unfold fv
        rw [hj]
      walk_at "dl"
      refine ⟨ns, rfl, ?_⟩
      rw [hj]
      walk_at "dl"
      rw [at_get (by omega : j < vals.length)]
      refine eqR_int' ?_
      rw [← hd]
      exact h
    · rw [List.map_map]
      walk_at "dl"
      refine ⟨ctx.map fun y => !decide (fv ns vals y = 0), by rw [List.map_map]; rfl, ?_⟩
      rw [bs ctx hp.1]
      rw [agst_fx] at q
      by_cases e : lexM (fv ns vals) ctx = 0
      · rw [decide_eq_true e] at q ⊢
        walk_at "dl"
        refine ⟨ns, vals, [c], rfl, h1, G, fun it hi => ?_, ?_⟩
        · rw [List.mem_singleton.mp hi]
          exact name_gi G hp.2
        · refine eqR_str' ?_
          rw [decide_eq_true fx_fx]
          walk_at "dl"
          exact eqR_int' (fin_id q)
      · rw [decide_eq_false e] at q ⊢
        walk_at "dl"
        exact fin_id q
  | tog ctx x y =>
    have hc' : ctx.length ≤ 1000 := hc
    unfold eP eS
    walk_at "dl"
    intro p hn
    refine lc_map (bzD ns vals) hn (fun _ => trivial) (fun x hx acc Ky Kn h => ?_) (by rw [List.length_map, sizeLine_eq]; omega) ?_
    · obtain ⟨y, hy, rfl⟩ := List.mem_map.mp hx
      obtain ⟨j, hj, hjl⟩ := idx_mem (hp.1 y hy)
      have hd : fv ns vals y = vals.getD j 0 := by
        unfold fv
        rw [hj]
      walk_at "dl"
      refine ⟨ns, rfl, ?_⟩
      rw [hj]
      walk_at "dl"
      rw [at_get (by omega : j < vals.length)]
      refine eqR_int' ?_
      rw [← hd]
      exact h
    · rw [List.map_map]
      walk_at "dl"
      refine ⟨ctx.map fun y => !decide (fv ns vals y = 0), by rw [List.map_map]; rfl, ?_⟩
      rw [bs ctx hp.1]
      rw [agst_tg] at q
      by_cases e : lexM (fv ns vals) ctx = 0
      · rw [decide_eq_true e] at q ⊢
        walk_at "dl"
        refine ⟨ns, vals, [x], rfl, h1, G, fun it hi => ?_, ?_⟩
        · rw [List.mem_singleton.mp hi]
          exact hp.2.1
        · refine eqR_str' ?_
          rw [decide_eq_false tg_fx]
          walk_at "dl"
          refine ⟨ns, vals, [y], rfl, h1, G, fun it hi => ?_, ?_⟩
          · rw [List.mem_singleton.mp hi]
            exact hp.2.2
          · have vx := lexM_v1 (fv_v1 (cols := ns) hv) [x]
            have vy := lexM_v1 (fv_v1 (cols := ns) hv) [y]
            refine ⟨cmul_small vx vy, eqR_int' (fin_id ?_)⟩
            have e : decide (lexM (fv ns vals) [x] * lexM (fv ns vals) [y] = -1) = decide (lexM (fv ns vals) [x] * lexM (fv ns vals) [y] < 0) := by
              rcases vx with a | a | a <;> rcases vy with b | b | b <;> rw [a, b] <;> decide
            rw [e]
            exact q
      · rw [decide_eq_false e] at q ⊢
        walk_at "dl"
        exact fin_id q
end
end K78
set_option Elab.async false
set_option linter.all false
set_option maxRecDepth 100000
set_option maxHeartbeats 4000000
namespace K78
open PySem PySem.Spec PyProof.Rows L2 DL
local macro_rules | `(tactic| walk_at "dl") => `(tactic| simp only [sSeq, sAsg, sRet, sRetF, sRetN, sIf, sFor, sPar, sDrop, sNext, sBrk, sCnt, dVar, dC, dCons, dNil, dTup, dLst, dLstM, dOp, dUn, dTest, dAnd, dOr, dNot, dAndV, dOrV, dNotV, dIf, dSl, dPart, dNoPart, dCB, dMt, dCall, dCallD, dYes, gNm, gTp, gConsD, gNilD, slot, setS, dAt, ifB, atSeq, atO, seqD, addD, ntD, ntD0, ordD, negD, ixR, slR, lenD, tupleD, startD, iSeqD, iR1, iR2, iEnumD, dSortSC, dLcR, dLc2R, lcStep, wipeD, unset, indexD, appendD, extendD, tyD, DL.intOfD, put_same, put_put, absD, maxD, minD, listD, listMD, allD, anyD, joinD, lstripD, DL.inR, flatD, List.all_cons, List.all_nil, Bool.and_self, List.any_cons, List.any_nil, popD, gSubD, setItemD, rFz, rMu, isT, true_and, Bool.not_true, Bool.not_false, Bool.false_eq_true, if_true, if_false, reduceIte, at_0, at_1, at_2, at_3, List.map_cons, List.map_nil, List.length_cons, List.length_nil, List.replicate, List.cons_append, List.nil_append, Nat.reduceAdd, Nat.reduceSub])
section
variable {P : Program} {w : World} {K : PySem.W.Frag} {mg : Str → Option Value} {base : Heap}

/-! ### what the law says -/
theorem dif_neg {cols : List Str} {one other : List Int} : (fun x => -dif cols one other x) = dif cols other one := funext fun x => by
  unfold dif
  cases idxS x cols with
  | none => rfl
  | some j =>
    show -sg2 _ _ = sg2 _ _
    unfold sg2
    split <;> split <;> omega
theorem obeys_law {cols : List Str} {rows : List (List Int)} {first second : List Str} {ps : List Part} (h : PartsOK first second ps) (g1 : ∀ it ∈ first, Gd it) (g2 : ∀ it ∈ second, Gd it) :
    obeysF cols rows (first, second) = ps.all (holdsF cols rows) := by
  have part : ∀ one other, (ps.any (agst (dif cols one other))) = !keepsF (dif cols one other) first second := fun one other => parts_law dif_v1 h g1 g2
  have e1 : obeysF cols rows (first, second) = true ↔ ∀ one ∈ rows, ∀ other ∈ rows, contra (dif cols one other) first second = false := by
    unfold obeysF
    rw [List.all_eq_true]
    constructor
    · intro z one ho other hx
      have := List.all_eq_true.mp (z one ho) other hx
      simpa using this
    · intro z one ho
      rw [List.all_eq_true]
      intro other hx
      rw [z one ho other hx]
      rfl
  have e2 : (ps.all (holdsF cols rows)) = true ↔ ∀ one ∈ rows, ∀ other ∈ rows, keepsF (dif cols one other) first second = true := by
    rw [List.all_eq_true]
    constructor
    · intro z one ho other hx
      have q := part one other
      cases k : keepsF (dif cols one other) first second with
      | true => rfl
      | false =>
        rw [k] at q
        obtain ⟨p, hp, hq⟩ := List.any_eq_true.mp q
        have w := z p hp
        unfold holdsF at w
        rw [Bool.not_eq_true'] at w
        have := List.any_eq_false.mp w (agst (dif cols one other) p) (List.mem_flatMap.mpr ⟨one, ho, List.mem_map.mpr ⟨other, hx, rfl⟩⟩)
        exact absurd hq this
    · intro z p hp
      unfold holdsF
      rw [Bool.not_eq_true', List.any_eq_false]
      intro b hb hb2
      obtain ⟨one, ho, hb⟩ := List.mem_flatMap.mp hb
      obtain ⟨other, hx, rfl⟩ := List.mem_map.mp hb
      have q := part one other
      rw [z one ho other hx] at q
      have := List.any_eq_false.mp q p hp
      exact this hb2
  have e : (obeysF cols rows (first, second) = true) ↔ (ps.all (holdsF cols rows) = true) := by
    rw [e1, e2]
    constructor
    · intro z one ho other hx
      refine contra_keeps dif_v1 (z one ho other hx) ?_
      rw [dif_neg]
      exact z other hx one ho
    · intro z one ho other hx
      exact keeps_contra (z one ho other hx)
  cases a : obeysF cols rows (first, second) <;> cases b : ps.all (holdsF cols rows) <;> first | rfl | (rw [a, b] at e; simp at e)
theorem allowed_law {cols : List Str} {first second : List Str} {ps : List Part} (h : PartsOK first second ps) (g1 : ∀ it ∈ first, Gd it) (g2 : ∀ it ∈ second, Gd it) :
    allowedF cols (ps.flatMap rulesP) = allowedF cols [(first, second)] := by
  unfold allowedF
  refine List.filter_congr fun s hs => ?_
  rw [rules_law (fv_v1 (pat_v1 hs)) h g1 g2, List.all_cons, List.all_nil, Bool.and_true]
theorem follows_c {cols : List Str} {first second : List Str} : followsF cols [(first, second)] first second = true := by
  unfold followsF
  rw [List.all_eq_true]
  intro s hs
  have := (List.mem_filter.mp hs).2
  rw [List.all_cons, List.all_nil, Bool.and_true] at this
  rw [keeps_contra this]
  rfl
theorem follows_d {cols : List Str} {first second : List Str} {ps : List Part} (h : PartsOK first second ps) (g1 : ∀ it ∈ first, Gd it) (g2 : ∀ it ∈ second, Gd it) {r : List Str × List Str} (hr : r ∈ ps.flatMap rulesP) :
    followsF cols [(first, second)] r.1 r.2 = true := by
  unfold followsF
  rw [← allowed_law h g1 g2, List.all_eq_true]
  intro s hs
  have := List.all_eq_true.mp (List.mem_filter.mp hs).2 r hr
  rw [keeps_contra this]
  rfl
theorem part_pg {ns first second : List Str} (h1 : ∀ it ∈ first, GI ns it) (h2 : ∀ it ∈ second, GI ns it) {p : Part} (h : isP first second p) : PG ns p ∧ p.ctx.length ≤ 10 := by
  cases p with
  | fixed ctx c =>
    obtain ⟨l, s, it, hi, rfl⟩ := h
    refine ⟨⟨fun y hy => ?_, (h2 it hi).mem⟩, l⟩
    obtain ⟨it, hi, rfl⟩ := (s y).mp hy
    exact (h1 it hi).mem
  | tog ctx a b =>
    obtain ⟨l, i, j, hi, hj, s, rfl, rfl⟩ := h
    refine ⟨⟨fun y hy => ?_, h1 _ (List.getElem_mem hi), h2 _ (List.getElem_mem hj)⟩, l⟩
    obtain ⟨it, hi, rfl⟩ := (s y).mp hy
    rcases List.mem_append.mp hi with hi | hi
    · exact (h1 it (List.mem_of_mem_take hi)).mem
    · exact (h2 it (List.mem_of_mem_take hi)).mem
theorem pg_gi {ns : List Str} (G : GNs ns) {p : Part} (h : PG ns p) {r : List Str × List Str} (hr : r ∈ rulesP p) : (∀ it ∈ r.1, GI ns it) ∧ ∀ it ∈ r.2, GI ns it := by
  cases p with
  | fixed ctx c =>
    rw [List.mem_singleton.mp hr]
    refine ⟨fun it hi => name_gi G (h.1 it hi), fun it hi => ?_⟩
    rcases List.mem_append.mp hi with hi | hi
    · exact name_gi G (h.1 it hi)
    · rw [List.mem_singleton.mp hi]
      exact name_gi G h.2
  | tog ctx a b =>
    have ab : ∀ it ∈ ctx ++ [a, b], GI ns it := fun it hi => by
      rcases List.mem_append.mp hi with hi | hi
      · exact name_gi G (h.1 it hi)
      · rcases List.mem_cons.mp hi with rfl | hi
        · exact h.2.1
        · rw [List.mem_singleton.mp hi]
          exact h.2.2
    have ba : ∀ it ∈ ctx ++ [b, a], GI ns it := fun it hi => by
      rcases List.mem_append.mp hi with hi | hi
      · exact name_gi G (h.1 it hi)
      · rcases List.mem_cons.mp hi with rfl | hi
        · exact h.2.2
        · rw [List.mem_singleton.mp hi]
          exact h.2.1
    rcases List.mem_cons.mp hr with rfl | hr
    · exact ⟨ab, ba⟩
    · rw [List.mem_singleton.mp hr]
      exact ⟨ba, ab⟩
theorem pg_its {ns : List Str} (G : GNs ns) {p : Part} (h : PG ns p) : PIts ns p := by
  cases p with
  | fixed ctx c => exact ⟨gi_its G fun it hi => name_gi G (h.1 it hi), gi_its G fun it hi => by rw [List.mem_singleton.mp hi]; exact name_gi G h.2⟩
  | tog ctx a b => exact ⟨gi_its G fun it hi => name_gi G (h.1 it hi), gi_its G fun it hi => by rw [List.mem_singleton.mp hi]; exact h.2.1, gi_its G fun it hi => by rw [List.mem_singleton.mp hi]; exact h.2.2⟩
def unS (ds : List DV) : List Str := ds.map fun d => match d with
  | .str x => x
  | _ => ""
theorem unS_map (xs : List Str) : unS (xs.map .str) = xs := by
  unfold unS
  rw [List.map_map]
  exact List.map_id' xs
def unP : DV → Part
  | .tup [_, .tup c, .str x] => .fixed (unS c) x
  | .tup [_, .tup c, .str a, .str b] => .tog (unS c) a b
  | _ => .fixed [] ""
theorem unP_eP (p : Part) : unP (eP p) = p := by
  cases p with
  | fixed c a =>
    show Part.fixed (unS (c.map .str)) a = _
    rw [unS_map]
  | tog c a b =>
    show Part.tog (unS (c.map .str)) a b = _
    rw [unS_map]
theorem okD_pats (l : List (List Int)) : okD 64 (.tup (l.map eI)) := fun d hd => by
  obtain ⟨r, _, rfl⟩ := List.mem_map.mp hd
  intro e he
  obtain ⟨i, _, rfl⟩ := List.mem_map.mp he
  exact trivial
theorem eqD_self {d : DV} (h : okD 64 d) : eqD d d = true := PySem.SeqAt.eqv_refl _ (okD_lay 64 d h).1
theorem eqR_data {neg : Bool} {d e : DV} {M : DM} {Q : DVK} (h1 : okD 64 d) (h2 : okD 64 e) (q : Q (.bl (if neg then !eqD d e else eqD d e)) M) : eqR neg d e M Q := ⟨.inr ⟨h1, h2⟩, q⟩
theorem isR_bl {neg a b : Bool} {M : DM} {Q : DVK} (q : Q (.bl (if neg then !decide (a = b) else decide (a = b))) M) : isR neg (.bl a) (.bl b) M Q := q
def sp_right : DSp := fun ds M E Q => ∃ (a : Addr) (s : Pot), ds = [.ref a] ∧ M a = some (pc s) ∧ PB 0 s ∧ ∀ s', Q (.bl true) (put M a (pc s'))
theorem ok_Lright (T : Tx K mg) : FnOk P w K mg base CX0 8 T.f_Lright T.d_Lright ["_law_pot_here"] (lSp K sp_right) := by
  refine Fun.dl T.F_Lright sc_Lright (fun ds M E Q ⟨_, _, e, _⟩ => by rw [e]; rfl) (fun cdv A outer s H E hr => (dss_cons (ds_set (i := 1) sc_Lright.nd rfl (Or.inr rfl) (de_call (ok_Lnames T) (hr.mono (by decide)) (by rfl) T.g_Lnames T.F_Lnames.kp T.B_Lnames (da_cons (de_var (i := 0)) (da_cons (de_add de_int (de_call (ok_Ltake T) (hr.mono (by decide)) (by rfl) T.g_Ltake T.F_Ltake.kp T.B_Ltake (da_cons (de_var (i := 0)) (da_cons de_int da_nil')))) da_nil'))))
        (dss_cons (ds_for PassesOwn.never rfl (di_range1 (by rfl) T.b_range (da_cons de_int da_nil')) (dg_name (i := 2) sc_Lright.nd rfl (Or.inl rfl)) (dss_cons (ds_set (i := 3) sc_Lright.nd rfl (Or.inr rfl) (de_tup (da_cons (de_call (ok_Llisted T) (hr.mono (by decide)) (by rfl) T.g_Llisted T.F_Llisted.kp T.B_Llisted (da_cons (de_var (i := 0)) (da_cons (de_var (i := 1)) (da_cons de_int da_nil')))) (da_cons (de_call (ok_Llisted T) (hr.mono (by decide)) (by rfl) T.g_Llisted T.F_Llisted.kp T.B_Llisted (da_cons (de_var (i := 0)) (da_cons (de_var (i := 1)) (da_cons de_int da_nil')))) da_nil'))))
        (dss_cons (ds_par (i := 4) (j := 5) rfl sc_Lright.nd rfl rfl (by decide) rfl rfl (da_cons (de_call (ok_parts_of T) (hr.mono (by decide)) (by rfl) T.g_parts_of T.F_parts_of.kp T.B_parts_of (da_cons (de_var (i := 3)) da_nil')) (da_cons (de_lstM da_nil') da_nil')) (by rfl))
        (dss_cons (ds_for PassesOwn.never rfl (di_seq (de_call (ok_Levery T) (hr.mono (by decide)) (by rfl) T.g_Levery T.F_Levery.kp T.B_Levery (da_cons (de_len T.b_len (by rfl) (da_cons (de_var (i := 1)) da_nil')) da_nil'))) (dg_name (i := 6) sc_Lright.nd rfl (Or.inr rfl)) (dss_cons (ds_setLc (own := [("_law_piece", 7)]) (i := 9) rFz_ok rfl sc_Lright.nd rfl rfl (sw_true rfl rfl rfl (by decide +kernel)) (di_seq (de_var (i := 4))) (blkOk_by (own := [("_law_piece", 7)]) (N := N_Lright) (sc := (defScope s_Lright)) (by decide +kernel)) (fun _ _ _ _ _ => dg_name (i := 7) sc_Lright.nd rfl (by first | exact Or.inl rfl | exact Or.inr rfl)) (fun _ _ _ _ _ => dts_nil) (fun _ _ _ _ _ => (de_call (ok_Lis_against T) (hr.mono (by decide)) (by rfl) T.g_Lis_against T.F_Lis_against.kp T.B_Lis_against (da_cons (de_var (i := 1)) (da_cons (de_var (i := 6)) (da_cons (de_var (i := 7)) da_nil'))))))
        (dss_one (ds_if (dt_eq (hu64 hr) (de_call (ok_Lobeyed T) (hr.mono (by decide)) (by rfl) T.g_Lobeyed T.F_Lobeyed.kp T.B_Lobeyed (da_cons (de_var (i := 1)) (da_cons (de_var (i := 6)) (da_cons (de_tup (da_cons (de_var (i := 3)) da_nil')) da_nil')))) (de_any rfl T.b_any (by rfl) (da_cons (de_var (i := 9)) da_nil'))) (dss_one (ds_ret de_bl)) dss_nil))))
        (dss_cons (ds_for PassesOwn.never rfl (di_seq (de_var (i := 4))) (dg_name (i := 7) sc_Lright.nd rfl (Or.inl rfl)) (dss_one (ds_expr (de_mt PySem.F.plainAttrs_list PySem.F.slot_list_extend PySem.F.type_list_extend mt_extend lift_extend (de_var (i := 5)) (da_cons (de_list T.b_list (by rfl) (da_cons (de_call (ok_rules_of T) (hr.mono (by decide)) (by rfl) T.g_rules_of T.F_rules_of.kp T.B_rules_of (da_cons (de_var (i := 7)) da_nil')) da_nil')) da_nil')))))
        (dss_cons (ds_if (dt_ne (hu64 hr) (de_call (ok_allowed T) (hr.mono (by decide)) (by rfl) T.g_allowed T.F_allowed.kp T.B_allowed (da_cons (de_var (i := 1)) (da_cons (de_tuple T.b_tuple (by rfl) (da_cons (de_var (i := 5)) da_nil')) da_nil'))) (de_call (ok_allowed T) (hr.mono (by decide)) (by rfl) T.g_allowed T.F_allowed.kp T.B_allowed (da_cons (de_var (i := 1)) (da_cons (de_tup (da_cons (de_var (i := 3)) da_nil')) da_nil')))) (dss_one (ds_ret de_bl)) dss_nil)
        (dss_cons (ds_if (dt_isn (de_call (ok_follows T) (hr.mono (by decide)) (by rfl) T.g_follows T.F_follows.kp T.B_follows (da_cons (de_var (i := 1)) (da_cons (de_tuple T.b_tuple (by rfl) (da_cons (de_var (i := 5)) da_nil')) (da_cons (de_ix (de_var (i := 3)) de_int) (da_cons (de_ix (de_var (i := 3)) de_int) da_nil'))))) de_bl) (dss_one (ds_ret de_bl)) dss_nil)
        (dss_cons (ds_if (dt_not (dt_val (de_all rfl T.b_all (by rfl) (da_cons (de_lc (own := [("_law_mine", 11), ("_law_its", 12)]) rFz_ok rfl sc_Lright.nd (di_seq (de_sl (de_var (i := 5)) do_none (do_some de_int))) (blkOk_by (own := [("_law_mine", 11), ("_law_its", 12)]) (N := N_Lright) (sc := (defScope s_Lright)) (by decide +kernel)) (fun _ _ _ _ _ => dg_tup (n := 2) rfl (dgs_cons (dg_name (i := 11) sc_Lright.nd rfl (by first | exact Or.inl rfl | exact Or.inr rfl)) (dgs_cons (dg_name (i := 12) sc_Lright.nd rfl (by first | exact Or.inl rfl | exact Or.inr rfl)) dgs_nil))) (fun _ _ _ _ _ => dts_nil) (fun _ _ _ _ _ => (de_call (ok_follows T) (hr.mono (by decide)) (by rfl) T.g_follows T.F_follows.kp T.B_follows (da_cons (de_var (i := 1)) (da_cons (de_tup (da_cons (de_var (i := 3)) da_nil')) (da_cons (de_var (i := 11)) (da_cons (de_var (i := 12)) da_nil'))))))) da_nil')))) (dss_one (ds_ret de_bl)) dss_nil)
        (dss_one (ds_for PassesOwn.never rfl (di_range1 (by rfl) T.b_range (da_cons de_int da_nil')) (dg_name (i := 8) sc_Lright.nd rfl (Or.inl rfl)) (dss_cons (ds_set (i := 10) sc_Lright.nd rfl (Or.inr rfl) (de_tup (da_cons (de_var (i := 1)) (da_cons (de_call (ok_Lrows_of T) (hr.mono (by decide)) (by rfl) T.g_Lrows_of T.F_Lrows_of.kp T.B_Lrows_of (da_cons (de_var (i := 0)) (da_cons (de_var (i := 1)) (da_cons (de_add de_int (de_call (ok_Ltake T) (hr.mono (by decide)) (by rfl) T.g_Ltake T.F_Ltake.kp T.B_Ltake (da_cons (de_var (i := 0)) (da_cons de_int da_nil')))) (da_cons (de_call (ok_Lof T) (hr.mono (by decide)) (by rfl) T.g_Lof T.F_Lof.kp T.B_Lof (da_cons (de_var (i := 0)) (da_cons (de_lst (da_cons de_int (da_cons de_int da_nil'))) da_nil'))) da_nil'))))) da_nil'))))
        (dss_one (ds_if (dt_ne (hu64 hr) (de_call (ok_obeys T) (hr.mono (by decide)) (by rfl) T.g_obeys T.F_obeys.kp T.B_obeys (da_cons (de_var (i := 10)) (da_cons (de_var (i := 3)) da_nil'))) (de_all rfl T.b_all (by rfl) (da_cons (de_lc (own := [("_law_piece", 7)]) rFz_ok rfl sc_Lright.nd (di_seq (de_var (i := 4))) (blkOk_by (own := [("_law_piece", 7)]) (N := N_Lright) (sc := (defScope s_Lright)) (by decide +kernel)) (fun _ _ _ _ _ => dg_name (i := 7) sc_Lright.nd rfl (by first | exact Or.inl rfl | exact Or.inr rfl)) (fun _ _ _ _ _ => dts_nil) (fun _ _ _ _ _ => (de_call (ok_holds T) (hr.mono (by decide)) (by rfl) T.g_holds T.F_holds.kp T.B_holds (da_cons (de_var (i := 10)) (da_cons (de_var (i := 7)) da_nil'))))) da_nil'))) (dss_one (ds_ret de_bl)) dss_nil)))))))))))))
        (dss_one (ds_ret de_bl))))) ?_
  rintro ds M E Q ⟨a, s, rfl, ha, hb, q⟩
  walk_at "dl"
  refine ⟨a, s, 0, 5, rfl, ha, hb, by omega, by omega, by omega, fun s1 k hb1 k0 k1 => ?_⟩
  obtain ⟨k, rfl⟩ := Int.eq_ofNat_of_zero_le k0
  walk_at "dl"
  refine ⟨a, s1, 1, 1 + k, by rw [show (1 + (k : Nat) : Int) = ((1 + k : Nat) : Int) by omega], by omega, put_same, hb1, by omega, fun s2 ns hb2 hl G => ?_⟩
  walk_at "dl"
  refine ⟨by omega, ?_⟩
  refine for_range (fun i sd M' => ∃ s', M' a = some (pc s') ∧ (∀ x c, x ≠ a → M x = some c → M' x = some c) ∧ PB (13 + 268 * i) s' ∧ ∃ b c d e f g h i j k l, sd = [some (.ref a), some (eS ns), b, c, d, e, f, g, h, i, j, k, l]) ?_ ?_ ⟨s2, by rw [put_same], fun x c hx h => by rw [put_ne hx]; exact h, hb2, _, _, _, _, _, _, _, _, _, _, _, rfl⟩
  · rintro sd M' ⟨s', h1, h2, hb', b, c, d, e, f, g, h, i, j, k, l, rfl⟩
    refine ⟨trivial, ?_⟩
    walk_at "dl"
    refine ⟨put M a (pc s'), fun x c hx => ?_, q s'⟩
    by_cases e : x = a
    · subst e
      rw [put_same] at hx
      cases hx
      exact h1
    · rw [put_ne e] at hx
      exact h2 x c e hx
  · rintro i hi sd M' Kf ⟨s', h1, h2, hb', b, c, d, e, f, g, h, i', j, k, l, rfl⟩ kf
    refine ⟨trivial, ?_⟩
    walk_at "dl"
    refine ⟨a, s', 13 + 268 * i, ns, 5, rfl, G, fun e => by rw [e, List.length_nil] at hl; omega, by omega, by omega, h1, hb', by omega, fun s3 first hb3 f5 gf => ?_⟩
    refine ⟨a, s3, 13 + 268 * i + 11, ns, 5, rfl, G, fun e => by rw [e, List.length_nil] at hl; omega, by omega, by omega, put_same, hb3, by omega, fun s4 second hb4 f6 gs => ?_⟩
    rw [put_put]
    have h0 : 0 ≤ sizeLine := Nat.zero_le _
    refine ⟨by rw [sizeLine_eq]; omega, first, second, rfl, f5, f6, fun x hx => (gf x hx).len, fun x hx => (gs x hx).len, fun ps hP hn => ⟨h0, fun p hp => ?_⟩⟩
    have hap : a ≠ p := ne_put put_same hp
    have hMp : M' p = none := by rw [put_ne (Ne.symm hap)] at hp; exact hp
    have g1 : ∀ it ∈ first, Gd it := fun it hi => (gf it hi).gd G
    have g2 : ∀ it ∈ second, Gd it := fun it hi => (gs it hi).gd G
    have pg : ∀ z ∈ ps, PG ns z ∧ z.ctx.length ≤ 10 := fun z hz => part_pg gf gs (hP.is_ z hz)
    have if1 := gi_its G gf
    have is1 := gi_its G gs
    unfold eS
    walk_at "dl"
    rw [List.length_map]
    refine ⟨ns.length, rfl, by omega, ?_⟩
    walk_at "dl"
    refine for_map (fun k sd M2 => M2 = put (put M' a (pc s4)) p (.lst []) ∧ ∃ b c d e f g h, sd = [some (.ref a), some (.tup (ns.map .str)), some (.int (0 + (i : Nat))), some (.tup [.tup (first.map .str), .tup (second.map .str)]), some (.tup (ps.map eP)), some (.ref p), b, c, d, e, f, g, h]) ?_ ?_ ⟨rfl, _, _, _, _, _, _, _, rfl⟩
    · rintro sd M2 ⟨rfl, b, c, d, e, f, g, h, rfl⟩
      refine ⟨trivial, ?_⟩
      walk_at "dl"
      have len2 : ∀ z : Part, (rulesP z).length ≤ 2 := fun z => by cases z <;> (unfold rulesP; simp)
      have lenF : ∀ l : List Part, (l.flatMap rulesP).length ≤ 2 * l.length := fun l => by
        induction l with
        | nil => exact Nat.le_refl _
        | cons z l ih =>
          rw [List.flatMap_cons, List.length_append, List.length_cons]
          have := len2 z
          omega
      refine for_map (fun k sd M2 => M2 = put (put M' a (pc s4)) p (.lst (((ps.take k).flatMap rulesP).map eR)) ∧ ∃ b c d e f g h, sd = [some (.ref a), some (.tup (ns.map .str)), some (.int (0 + (i : Nat))), some (.tup [.tup (first.map .str), .tup (second.map .str)]), some (.tup (ps.map eP)), some (.ref p), b, c, d, e, f, g, h]) ?_ ?_ ⟨by rw [List.take_zero]; rfl, _, _, _, _, _, _, _, rfl⟩
      · rintro sd M2 ⟨rfl, b, c, d, e, f, g, h, rfl⟩
        refine ⟨trivial, ?_⟩
        rw [List.take_length]
        have rit : RIts ns (ps.flatMap rulesP) := fun r hr => by
          obtain ⟨z, hz, hr⟩ := List.mem_flatMap.mp hr
          have := pg_gi G (pg z hz).1 hr
          exact ⟨gi_its G this.1, gi_its G this.2⟩
        have rit1 : RIts ns [(first, second)] := fun r hr => by
          rw [List.mem_singleton.mp hr]
          exact ⟨if1, is1⟩
        walk_at "dl"
        refine ⟨ns, ps.flatMap rulesP, rfl, by omega, rit, ?_⟩
        refine ⟨by rw [sizeLine_eq]; omega, ns, [(first, second)], rfl, by omega, rit1, ?_⟩
        rw [allowed_law hP g1 g2]
        refine eqR_data (okD_pats _) (okD_pats _) ?_
        rw [eqD_self (okD_pats _)]
        walk_at "dl"
        refine ⟨ns, ps.flatMap rulesP, first, second, rfl, by omega, rit, if1, is1, ?_⟩
        have fc : followsF ns (ps.flatMap rulesP) first second = true := by
          have := follows_c (cols := ns) (first := first) (second := second)
          unfold followsF at this ⊢
          rw [allowed_law hP g1 g2]
          exact this
        rw [fc]
        refine isR_bl ?_
        rw [decide_eq_true (rfl : true = true)]
        walk_at "dl"
        intro l hn3
        rw [show cutL ((ps.flatMap rulesP).map eR) none (some 6) = ((ps.flatMap rulesP).take 6).map eR by
          rw [show (6 : Int) = ((6 : Nat) : Int) from rfl, cut_take, List.map_take]]
        refine lc_map (fun _ => .bl true) hn3 (fun _ => trivial) (fun x hx acc Ky Kn q => ?_) (by rw [List.length_map, List.length_take, sizeLine_eq]; omega) ?_
        · obtain ⟨r, hr, rfl⟩ := List.mem_map.mp hx
          have hr' := List.mem_of_mem_take hr
          unfold eR
          walk_at "dl"
          refine ⟨by rw [sizeLine_eq]; omega, ns, [(first, second)], r.1, r.2, rfl, by omega, rit1, (rit r hr').1, (rit r hr').2, ?_⟩
          rw [follows_d hP g1 g2 hr']
          exact q
        · walk_at "dl"
          refine ⟨((ps.flatMap rulesP).take 6).map fun _ => true, by rw [List.map_map, List.map_map]; rfl, ?_⟩
          have all1 : (((ps.flatMap rulesP).take 6).map fun _ => true).all id = true := by
            rw [List.all_eq_true]
            intro b hb
            obtain ⟨_, _, rfl⟩ := List.mem_map.mp hb
            rfl
          rw [all1]
          walk_at "dl"
          refine ⟨by omega, ?_⟩
          refine for_range (fun k sd M2 => ∃ s5, M2 = put (put M' a (pc s5)) p (.lst ((ps.flatMap rulesP).map eR)) ∧ PB (13 + 268 * i + 22 + 82 * k) s5 ∧ ∃ b c d e f g, sd = [some (.ref a), some (.tup (ns.map .str)), some (.int (0 + (i : Nat))), some (.tup [.tup (first.map .str), .tup (second.map .str)]), some (.tup (ps.map eP)), some (.ref p), b, c, d, e, f, g, h]) ?_ ?_ ⟨s4, rfl, hb4, _, _, _, _, _, _, rfl⟩
          · rintro sd M2 ⟨s5, rfl, hb5, b, c, d, e, f, g, rfl⟩
            refine ⟨trivial, kf _ _ ⟨s5, by rw [put_ne hap, put_same], fun x c hx hc => ?_, hb5.mono (by omega), _, _, _, _, _, _, _, _, _, _, _, rfl⟩⟩
            have hc' := h2 x c hx hc
            rw [put_ne (fun e => by rw [e, hMp] at hc'; cases hc'), put_ne hx]
            exact hc'
          · rintro u hu sd M2 Kg ⟨s5, rfl, hb5, b, c, d, e, f, g, rfl⟩ kg
            have hu' : u < 3 := hu
            refine ⟨trivial, ?_⟩
            walk_at "dl"
            refine ⟨a, s5, 13 + 268 * i + 22 + 82 * u, 7, rfl, by rw [put_ne hap, put_same], hb5, by omega, by omega, by omega, fun s6 v hb6 v0 v1 => ?_⟩
            rw [put_mid hap]
            obtain ⟨v, rfl⟩ := Int.eq_ofNat_of_zero_le v0
            walk_at "dl"
            refine ⟨by rw [sizeLine_eq]; omega, a, s6, 13 + 268 * i + 22 + 82 * u + 1, _, _, rfl, ⟨by simp, by simp, .inl rfl⟩, by rw [put_ne hap, put_same], hb6, by omega, fun s7 x hb7 hx => ?_⟩
            rw [put_mid hap]
            obtain ⟨top, rfl, p0, p1⟩ : ∃ t : Int, x = .int t ∧ 0 ≤ t ∧ t ≤ 2 := by
              simp only [List.mem_cons, List.not_mem_nil, or_false] at hx
              rcases hx with rfl | rfl <;> exact ⟨_, rfl, by omega, by omega⟩
            refine ⟨a, s7, 13 + 268 * i + 22 + 82 * u + 2, ns, 2 + v, top, by rw [show (2 + (v : Nat) : Int) = ((2 + v : Nat) : Int) by omega]; rfl, by omega, by omega, by omega, by omega, by rw [put_ne hap, put_same], hb7, by omega, fun s8 rows hb8 hrl hrw => ?_⟩
            rw [put_mid hap]
            have hmul : (2 + v) * (2 * ns.length) ≤ 8 * 10 := Nat.mul_le_mul (by omega) (by omega)
            refine ⟨by rw [sizeLine_eq]; omega, ns, rows, (first, second), rfl, hrw, by omega, if1, is1, ?_⟩
            intro l hn4
            refine lc_map (fun x => .bl (holdsF ns rows (unP x))) hn4 (fun _ => trivial) (fun x hx acc Ky Kn q => ?_) (by rw [List.length_map, sizeLine_eq]; omega) ?_
            · obtain ⟨z, hz, rfl⟩ := List.mem_map.mp hx
              rw [unP_eP] at q
              walk_at "dl"
              exact ⟨ns, rows, z, rfl, hrw, by omega, pg_its G (pg z hz).1, q⟩
            · have e : (ps.map eP).map (fun x => DV.bl (holdsF ns rows (unP x))) = (ps.map (holdsF ns rows)).map .bl := by
                rw [List.map_map, List.map_map]
                refine List.map_congr_left fun z _ => ?_
                show DV.bl (holdsF _ _ (unP (eP z))) = _
                rw [unP_eP]
                rfl
              rw [e]
              walk_at "dl"
              refine ⟨_, rfl, ?_⟩
              have law := obeys_law (cols := ns) (rows := rows) hP g1 g2
              rw [eqR_bl, law, List.all_map]
              rw [decide_eq_true (show ps.all (holdsF ns rows) = ps.all (id ∘ holdsF ns rows) from rfl)]
              walk_at "dl"
              exact kg _ _ ⟨s8, rfl, hb8.mono (by omega), _, _, _, _, _, _, rfl⟩
      · rintro t ht sd M2 Kg ⟨rfl, b, c, d, e, f, g, h, rfl⟩ kg
        refine ⟨trivial, ?_⟩
        walk_at "dl"
        refine ⟨rfl, ps[t], rfl, by have := (pg _ (List.getElem_mem ht)).2; omega, ?_⟩
        walk_at "dl"
        have l1 := lenF (ps.take t)
        rw [List.length_take] at l1
        have l2 := len2 ps[t]
        refine ⟨by rw [List.length_map, List.length_map, sizeLine_eq]; omega, kg _ _ ⟨?_, _, _, _, _, _, _, _, rfl⟩⟩
        rw [List.take_succ, List.getElem?_eq_getElem ht, List.flatMap_append, List.map_append]
        congr 3
        show _ = List.map eR (rulesP ps[t] ++ [])
        rw [List.append_nil]
    · rintro t ht sd M2 Kg ⟨rfl, b, c, d, e, f, g, h, rfl⟩ kg
      have hpl := pat_len (List.getElem_mem ht)
      have hpv := pat_v1 (List.getElem_mem ht)
      refine ⟨trivial, ?_⟩
      walk_at "dl"
      intro l hn2
      refine lc_map (fun x => .bl (agst (fv ns (allPat ns.length)[t]) (unP x))) hn2 (fun _ => trivial) (fun x hx acc Ky Kn q => ?_) (by rw [List.length_map, sizeLine_eq]; omega) ?_
      · obtain ⟨z, hz, rfl⟩ := List.mem_map.mp hx
        rw [unP_eP] at q
        walk_at "dl"
        exact ⟨ns, (allPat ns.length)[t], z, rfl, hpl, hpv, G, (pg z hz).1, by have := (pg z hz).2; omega, q⟩
      · have e : (ps.map eP).map (fun x => DV.bl (agst (fv ns (allPat ns.length)[t]) (unP x))) = (ps.map (agst (fv ns (allPat ns.length)[t]))).map .bl := by
          rw [List.map_map, List.map_map]
          refine List.map_congr_left fun z _ => ?_
          show DV.bl (agst _ (unP (eP z))) = _
          rw [unP_eP]
          rfl
        rw [e]
        walk_at "dl"
        refine ⟨by rw [sizeLine_eq]; omega, ns, (allPat ns.length)[t], (first, second), rfl, hpl, G, gf, gs, ?_⟩
        walk_at "dl"
        refine ⟨_, rfl, ?_⟩
        rw [eqR_bl]
        walk_at "dl"
        have law := parts_law (fv_v1 (cols := ns) hpv) hP g1 g2
        have law2 : ((ps.map (agst (fv ns (allPat ns.length)[t]))).any id) = !keepsF (fv ns (allPat ns.length)[t]) first second := by
          rw [← law, List.any_map]
          rfl
        rw [law2]
        have ne : decide (keepsF (fv ns (allPat ns.length)[t]) first second = !keepsF (fv ns (allPat ns.length)[t]) first second) = false := by
          cases keepsF (fv ns (allPat ns.length)[t]) first second <;> decide
        rw [ne]
        walk_at "dl"
        exact kg _ _ ⟨rfl, _, _, _, _, _, _, _, rfl⟩
/-! ### the law -/
def sp_law : DSp := fun ds M E Q => ∃ ns : List Int, ds = [.scr (ns.map .int)] ∧ ns.length ≤ sizeLine ∧ Q (.bl true) M
theorem ok_law (T : Tx K mg) : FnOk P w K mg base CX0 9 T.f_law T.d_law ["_law_script"] (lSp K sp_law) := by
  refine Fun.dl T.F_law sc_law (fun ds M E Q ⟨_, e, _⟩ => by rw [e]; rfl) (fun cdv A outer s H E hr => (dss_one (ds_ret (de_all rfl T.b_all (by rfl) (da_cons (de_lc (own := [("_law_k", 1)]) rFz_ok rfl sc_law.nd (di_range1 (by rfl) T.b_range (da_cons (de_max rfl T.b_max (by rfl) (da_cons de_int (da_cons (de_min rfl T.b_min (by rfl) (da_cons de_int (da_cons (de_len T.b_len (by rfl) (da_cons (de_var (i := 0)) da_nil')) da_nil'))) da_nil'))) da_nil')) (blkOk_by (own := [("_law_k", 1)]) (N := N_law) (sc := (defScope s_law)) (by decide +kernel)) (fun _ _ _ _ _ => dg_name (i := 1) sc_law.nd rfl (by first | exact Or.inl rfl | exact Or.inr rfl)) (fun _ _ _ _ _ => dts_nil) (fun _ _ _ _ _ => (de_call (ok_Lright T) (hr.mono (by decide)) (by rfl) T.g_Lright T.F_Lright.kp T.B_Lright (da_cons (de_call (ok_Lpot T) (hr.mono (by decide)) (by rfl) T.g_Lpot T.F_Lpot.kp T.B_Lpot (da_cons (de_var (i := 0)) (da_cons (de_var (i := 1)) da_nil'))) da_nil')))) da_nil'))))) ?_
  rintro ds M E Q ⟨ns, rfl, hz, q⟩
  walk_at "dl"
  rw [List.length_map]
  obtain ⟨m, hm, hm3⟩ : ∃ m : Nat, (if (if (ns.length : Int) < 3 then (ns.length : Int) else 3) > 1 then if (ns.length : Int) < 3 then (ns.length : Int) else 3 else 1) = (m : Nat) ∧ m ≤ 3 := by
    have h : 0 ≤ (if (if (ns.length : Int) < 3 then (ns.length : Int) else 3) > 1 then if (ns.length : Int) < 3 then (ns.length : Int) else 3 else 1) ∧ (if (if (ns.length : Int) < 3 then (ns.length : Int) else 3) > 1 then if (ns.length : Int) < 3 then (ns.length : Int) else 3 else 1) ≤ 3 := by
      by_cases h1 : (ns.length : Int) < 3
      · simp only [h1, if_true]
        split <;> omega
      · simp only [h1, if_false]
        decide
    obtain ⟨m, e⟩ := Int.eq_ofNat_of_zero_le h.1
    exact ⟨m, e, by omega⟩
  rw [hm]
  refine ⟨by omega, fun p hp => ?_⟩
  rw [Int.toNat_natCast]
  refine lc_inv (fun xs acc M' => ∃ j : Nat, acc = List.replicate j (.bl true) ∧ j + xs.length = m ∧ (∀ x ∈ xs, ∃ i : Nat, x = .int i ∧ i < 100) ∧ M' p = some (.lst acc) ∧ ∀ x c, M x = some c → M' x = some c) ?_ ?_ ?_ _ _ _ ⟨0, rfl, by rw [rangeD_len, Nat.zero_add], fun x hx => ?_, put_same, fun x c h => by rw [put_ne (fun e => by rw [e, hp] at h; cases h)]; exact h⟩
  · rintro xs acc M' ⟨j, rfl, hj, _, h, _⟩
    refine ⟨h, ?_⟩
    rw [List.length_replicate, sizeLine_eq]
    omega
  · rintro acc M' ⟨j, rfl, hj, _, h, hs⟩
    refine ⟨trivial, ?_⟩
    unfold DL.rFz
    rw [seqD_ref h]
    walk_at "dl"
    refine ⟨List.replicate j true, by rw [List.map_replicate], M, fun x c hx => ?_, ?_⟩
    · rw [drop_ne (fun e => by rw [e, hp] at hx; cases hx)]
      exact hs x c hx
    · have e : (List.replicate j true).all id = true := by
        rw [List.all_eq_true]
        intro b hb
        rw [List.eq_of_mem_replicate hb]
        rfl
      rw [e]
      exact q
  · rintro x xs acc M' Ky Kn ⟨j, rfl, hj, hx, h, hs⟩ ky kn
    obtain ⟨i, rfl, hi⟩ := hx x (List.mem_cons_self ..)
    rw [List.length_cons] at hj
    refine ⟨trivial, ?_⟩
    walk_at "dl"
    refine ⟨ns, i, rfl, hi, fun a s ha hb => ⟨a, s, rfl, put_same, hb, fun s' => ?_⟩⟩
    rw [put_put]
    have hap : p ≠ a := ne_put h ha
    refine ky _ _ (by rw [put_ne hap]; exact h) ⟨j + 1, by rw [List.replicate_succ'], by omega, fun y hy => hx y (List.mem_cons_of_mem _ hy), put_same, fun y c hy => ?_⟩
    have hy' := hs y c hy
    rw [put_ne (fun e => by rw [e, hp] at hy; cases hy), put_ne (fun e => by rw [e, ha] at hy'; cases hy')]
    exact hy'
  · unfold rangeD at hx
    obtain ⟨i, hi, rfl⟩ := List.mem_map.mp hx
    rw [List.mem_range] at hi
    exact ⟨i, by rw [Int.zero_add], by omega⟩
end
end K78
set_option Elab.async false
set_option linter.all false
set_option maxRecDepth 100000
set_option maxHeartbeats 4000000
/-! DLV: constants of the module by content; the Hook with them -/
namespace DL
open PySem PySem.Spec PyProof.Rows L2
/-- a value of the written part, by content -/
def dvB (K : PySem.W.Frag) : Nat → Value → DV → Bool
  | 0, _, _ => false
  | n + 1, u, d => match u, d with
    | .none, .non => true
    | .bool b, .bl c => b == c
    | .int i _, .int j => decide (i = j)
    | .str x _, .str y => decide (x = y)
    | .type x, .ty y => decide (x = y)
    | .ref a, .tup ds => (match K.lookup a with
      | some ⟨.type c, none, .seq its _, _⟩ => decide (c = "tuple") && (decide (its.size ≤ sizeLine) && dvsB K n its.toList ds)
      | _ => false)
    | .ref a, .scr ds => (match K.lookup a with
      | some ⟨.type c, none, .seq its _, _⟩ => decide (c = "list") && (decide (its.size ≤ sizeLine) && dvsB K n its.toList ds)
      | _ => false)
    | _, _ => false
where dvsB (K : PySem.W.Frag) : Nat → List Value → List DV → Bool
  | 0, _, _ => false
  | _ + 1, [], [] => true
  | n + 1, u :: us, d :: ds => dvB K n u d && dvsB K n us ds
  | _ + 1, _, _ => false
theorem dv_ok {K : PySem.W.Frag} : ∀ n : Nat, (∀ (u : Value) (d : DV), dvB K n u d = true → ∃ v, RelV v u ∧ ∀ H M, Fz K H M v d) ∧ (∀ (us : List Value) (ds : List DV), dvB.dvsB K n us ds = true → ∃ vs, Vals vs us ∧ ∀ H M, Fzs K H M vs ds)
  | 0 => ⟨fun _ _ h => by simp [dvB] at h, fun _ _ h => by simp [dvB.dvsB] at h⟩
  | n + 1 => by
    obtain ⟨i1, i2⟩ := dv_ok (K := K) n
    refine ⟨fun u d h => ?_, fun us ds h => ?_⟩
    · unfold dvB at h
      split at h
      · exact ⟨.non, rfl, fun _ _ => .non⟩
      · rename_i b c
        have e : b = c := eq_of_beq h
        subst e
        exact ⟨.bl b, rfl, fun _ _ => .bl b⟩
      · rename_i i t j
        have e : i = j := of_decide_eq_true h
        subst e
        exact ⟨.int i, ⟨t, rfl⟩, fun _ _ => .int i⟩
      · rename_i x t y
        have e : x = y := of_decide_eq_true h
        subst e
        exact ⟨.str x, ⟨t, rfl⟩, fun _ _ => .str x⟩
      · rename_i x y
        have e : x = y := of_decide_eq_true h
        subst e
        exact ⟨.ty x, rfl, fun _ _ => .ty x⟩
      · rename_i a ds
        split at h
        · rename_i c its m sl q
          obtain ⟨h1, h2⟩ := He.ba h
          obtain ⟨h3, h4⟩ := He.ba h2
          obtain ⟨vs, r, z⟩ := i2 _ _ h4
          exact ⟨.ref a, rfl, fun H M => .ktup ⟨_, its, m, q, congrArg Value.type (of_decide_eq_true h1), rfl, rfl, of_decide_eq_true h3, r⟩ (z H M)⟩
        · cases h
      · rename_i a ds
        split at h
        · rename_i c its m sl q
          obtain ⟨h1, h2⟩ := He.ba h
          obtain ⟨h3, h4⟩ := He.ba h2
          obtain ⟨vs, r, z⟩ := i2 _ _ h4
          exact ⟨.ref a, rfl, fun H M => .kscr ⟨_, its, m, q, congrArg Value.type (of_decide_eq_true h1), rfl, rfl, of_decide_eq_true h3, r⟩ (z H M)⟩
        · cases h
      · cases h
    · unfold dvB.dvsB at h
      split at h
      · cases h
      · exact ⟨[], .nil, fun _ _ => .nil⟩
      · rename_i m u us d ds e
        cases e
        obtain ⟨h1, h2⟩ := He.ba h
        obtain ⟨v, r1, z1⟩ := i1 _ _ h1
        obtain ⟨vs, r2, z2⟩ := i2 _ _ h2
        exact ⟨v :: vs, .cons r1 r2, fun H M => .cons (z1 H M) (z2 H M)⟩
      · cases h
theorem kt_of {K : PySem.W.Frag} {n : Nat} {a : Addr} {d : DV} (h : dvB K n (.ref a) d = true) : KT K a d := by
  obtain ⟨v, r, z⟩ := (dv_ok n).1 _ _ h
  cases v with
  | ref b =>
    have e : Value.ref a = Value.ref b := r
    cases e
    exact ⟨z⟩
  | _ => first | (obtain ⟨_, e⟩ := r; cases e) | cases r
abbrev Tb : Type := List (Str × DV)
def tbOk (K : PySem.W.Frag) (tbs : Tb) : Bool := tbs.all fun p => dvB K 16 (.ref (He.ga K p.1)) p.2
theorem tb_at {K : PySem.W.Frag} {tbs : Tb} (h : tbOk K tbs = true) (i : Nat) {x : Str} {d : DV} (e : tbs[i]? = some (x, d)) : KT K (He.ga K x) d :=
  kt_of (List.all_eq_true.mp h _ (List.mem_of_getElem? e))
abbrev AlT : Type := He.AlD × Bool
def obsT (n : Nat) (fa : List He.Fa) (fn : List He.DefD) (tb : Tb) (g : Addr → Option Obj) : AlT := (He.obsDG n fa fn g, tbOk (He.frG g (He.asD g n)) tb)
def hookT (n : Nat) (fa : List He.Fa) (fn : List He.DefD) (tb : Tb) : PySem.W.Hook where
  α := AlT
  obs := fun s => obsT n fa fn tb s.heap.get?
  val := fun _ => (He.valD fn, true)
  says := fun _ h => ∃ K : PySem.W.Frag, K.In h ∧ He.SaysD fa fn K ∧ tbOk K tb = true
  of := fun _ s e => ⟨He.frG s.heap.get? (He.asD s.heap.get? n), He.frG_in, congrArg (fun z : AlT => z.1) e, congrArg (fun z : AlT => z.2) e⟩
  keeps := fun _ _ _ ⟨K, hK, c⟩ k => ⟨K, PySem.W.Frag.In.keeps hK k, c⟩
theorem obsT_eq {n : Nat} {fa : List He.Fa} {fn : List He.DefD} {tb : Tb} {g : Addr → Option Obj} {s : Shared} (h : ∀ a, g a = s.heap.get? a) : obsT n fa fn tb g = (hookT n fa fn tb).obs s := by
  have e : g = s.heap.get? := funext h
  rw [e] <;> rfl
theorem fun_of {K : PySem.W.Frag} {x qual : Str} {st : Stmt} {kws : List (Str × V)} {f : Addr} {fd : FuncData} (F : FunD K x qual (defArgs st) (defBody st) (defScope st) [] kws f fd) : Fun K x qual st f fd := by
  obtain ⟨⟨oc, od, dV, kV, doc, pm, an, cdv, ct, osl, e, lk, hcd, hD, _⟩, kp⟩ := F
  rcases hD with ⟨_, rfl⟩ | ⟨z, _⟩
  · exact ⟨⟨oc, od, kV, doc, pm, an, cdv, ct, osl, e, lk, hcd⟩, kp⟩
  · exact absurd rfl z
theorem funD_of {K : PySem.W.Frag} {x qual : Str} {st : Stmt} {f : Addr} {fd : FuncData} (F : Fun K x qual st f fd) : FunD K x qual (defArgs st) (defBody st) (defScope st) [] [] f fd := by
  obtain ⟨⟨oc, od, kV, doc, pm, an, cdv, ct, osl, e, lk, hcd⟩, kp⟩ := F
  exact ⟨⟨oc, od, _, kV, doc, pm, an, cdv, ct, osl, e, lk, hcd, .inl ⟨rfl, rfl⟩, .inl rfl⟩, kp⟩
/-- the script, as the law is given it -/
theorem law_in {K : PySem.W.Frag} {H : Hp} {a : Addr} {ns : List Int} (hS : SqL K H a (ns.map V.int)) {sp : DSp} (h : sp [.scr (ns.map .int)] (fun _ => none) noX fun d _ => d = .bl true) : lSp K sp [.ref a] H (fun v _ => v = .bl true) fun _ _ _ => False := by
  have z : ∀ (H : Hp) (M : DM) (ns : List Int), Fzs K H M (ns.map V.int) (ns.map DV.int) := fun H M ns => by
    induction ns with
    | nil => exact .nil
    | cons i r ih => exact .cons (.int i) ih
  refine ⟨_, fun _ => none, noX, fun d _ => d = .bl true, fun a c e => (by cases e), .cons (?_ : Fz K H (fun _ => none) (.ref a) (.scr (ns.map .int))) .nil, h, fun v d H' M' _ _ hf e => ?_, fun _ _ _ _ _ _ _ _ e => e⟩
  · rcases hS with hS | hS
    · exact .scr hS rfl (z _ _ _)
    · exact .kscr hS (z _ _ _)
  · subst e
    cases hf
    rfl
end DL
set_option Elab.async false
set_option linter.all false
set_option maxRecDepth 100000
set_option maxHeartbeats 0
namespace K78
open PySem PySem.Spec PyProof.Rows L2 DL
def df_is_falling : He.DefD := ⟨("is_falling", none), "is_falling", "is_falling", defArgs s_is_falling, defBody s_is_falling, defScope s_is_falling, [], []⟩
def df_column_of : He.DefD := ⟨("column_of", none), "column_of", "column_of", defArgs s_column_of, defBody s_column_of, defScope s_column_of, [], []⟩
def df_columns_in : He.DefD := ⟨("columns_in", none), "columns_in", "columns_in", defArgs s_columns_in, defBody s_columns_in, defScope s_columns_in, [], []⟩
def df_order_of : He.DefD := ⟨("order_of", none), "order_of", "order_of", defArgs s_order_of, defBody s_order_of, defScope s_order_of, [], []⟩
def df_compare : He.DefD := ⟨("compare", none), "compare", "compare", defArgs s_compare, defBody s_compare, defScope s_compare, [], []⟩
def df_parts_of : He.DefD := ⟨("parts_of", none), "parts_of", "parts_of", defArgs s_parts_of, defBody s_parts_of, defScope s_parts_of, [], []⟩
def df_differ : He.DefD := ⟨("differ", none), "differ", "differ", defArgs s_differ, defBody s_differ, defScope s_differ, [], []⟩
def df_holds : He.DefD := ⟨("holds", none), "holds", "holds", defArgs s_holds, defBody s_holds, defScope s_holds, [], []⟩
def df_rules_of : He.DefD := ⟨("rules_of", none), "rules_of", "rules_of", defArgs s_rules_of, defBody s_rules_of, defScope s_rules_of, [], []⟩
def df_contradict : He.DefD := ⟨("contradict", none), "contradict", "contradict", defArgs s_contradict, defBody s_contradict, defScope s_contradict, [], []⟩
def df_violation : He.DefD := ⟨("violation", none), "violation", "violation", defArgs s_violation, defBody s_violation, defScope s_violation, [], [("start", .int (0))]⟩
def df_obeys : He.DefD := ⟨("obeys", none), "obeys", "obeys", defArgs s_obeys, defBody s_obeys, defScope s_obeys, [], []⟩
def df_lex : He.DefD := ⟨("lex", none), "lex", "lex", defArgs s_lex, defBody s_lex, defScope s_lex, [], []⟩
def df_keeps : He.DefD := ⟨("keeps", none), "keeps", "keeps", defArgs s_keeps, defBody s_keeps, defScope s_keeps, [], []⟩
def df_every_signs : He.DefD := ⟨("every_signs", none), "every_signs", "every_signs", defArgs s_every_signs, defBody s_every_signs, defScope s_every_signs, [], []⟩
def df_allowed : He.DefD := ⟨("allowed", none), "allowed", "allowed", defArgs s_allowed, defBody s_allowed, defScope s_allowed, [], []⟩
def df_contradicting : He.DefD := ⟨("contradicting", none), "contradicting", "contradicting", defArgs s_contradicting, defBody s_contradicting, defScope s_contradicting, [], []⟩
def df_follows : He.DefD := ⟨("follows", none), "follows", "follows", defArgs s_follows, defBody s_follows, defScope s_follows, [], []⟩
def df_Lpot : He.DefD := ⟨("_law_pot", none), "_law_pot", "_law_pot", defArgs s_Lpot, defBody s_Lpot, defScope s_Lpot, [], []⟩
def df_Ltake : He.DefD := ⟨("_law_take", none), "_law_take", "_law_take", defArgs s_Ltake, defBody s_Ltake, defScope s_Ltake, [], []⟩
def df_Lof : He.DefD := ⟨("_law_of", none), "_law_of", "_law_of", defArgs s_Lof, defBody s_Lof, defScope s_Lof, [], []⟩
def df_Lnames : He.DefD := ⟨("_law_names", none), "_law_names", "_law_names", defArgs s_Lnames, defBody s_Lnames, defScope s_Lnames, [], []⟩
def df_Llisted : He.DefD := ⟨("_law_listed", none), "_law_listed", "_law_listed", defArgs s_Llisted, defBody s_Llisted, defScope s_Llisted, [], []⟩
def df_Levery : He.DefD := ⟨("_law_every", none), "_law_every", "_law_every", defArgs s_Levery, defBody s_Levery, defScope s_Levery, [], []⟩
def df_Llex : He.DefD := ⟨("_law_lex", none), "_law_lex", "_law_lex", defArgs s_Llex, defBody s_Llex, defScope s_Llex, [], []⟩
def df_Lobeyed : He.DefD := ⟨("_law_obeyed", none), "_law_obeyed", "_law_obeyed", defArgs s_Lobeyed, defBody s_Lobeyed, defScope s_Lobeyed, [], []⟩
def df_Lrows_of : He.DefD := ⟨("_law_rows_of", none), "_law_rows_of", "_law_rows_of", defArgs s_Lrows_of, defBody s_Lrows_of, defScope s_Lrows_of, [], []⟩
def df_Lis_against : He.DefD := ⟨("_law_is_against", none), "_law_is_against", "_law_is_against", defArgs s_Lis_against, defBody s_Lis_against, defScope s_Lis_against, [], []⟩
def df_Lright : He.DefD := ⟨("_law_right", none), "_law_right", "_law_right", defArgs s_Lright, defBody s_Lright, defScope s_Lright, [], []⟩
def df_law : He.DefD := ⟨("law", none), "law", "law", defArgs s_law, defBody s_law, defScope s_law, [], []⟩
def fns : List He.DefD := [df_is_falling, df_column_of, df_columns_in, df_order_of, df_compare, df_parts_of, df_differ, df_holds, df_rules_of, df_contradict, df_violation, df_obeys, df_lex, df_keeps, df_every_signs, df_allowed, df_contradicting, df_follows, df_Lpot, df_Ltake, df_Lof, df_Lnames, df_Llisted, df_Levery, df_Llex, df_Lobeyed, df_Lrows_of, df_Lis_against, df_Lright, df_law]
def fas : List He.Fa := [.glo "is_falling", .glo "column_of", .glo "columns_in", .glo "order_of", .glo "compare", .glo "parts_of", .glo "differ", .glo "holds", .glo "rules_of", .glo "contradict", .glo "violation", .glo "obeys", .glo "lex", .glo "keeps", .glo "every_signs", .glo "allowed", .glo "contradicting", .glo "follows", .glo "_law_pot", .glo "_law_take", .glo "_law_of", .glo "_law_names", .glo "_law_listed", .glo "_law_every", .glo "_law_lex", .glo "_law_obeyed", .glo "_law_rows_of", .glo "_law_is_against", .glo "_law_right", .glo "law", .free "abs", .free "all", .free "any", .free "enumerate", .free "int", .free "len", .free "list", .free "max", .free "min", .free "range", .free "sorted", .free "tuple", .str "FALLING" "-", .str "FIXED" "fixed", .str "TOGETHER" "together", .glo "SIGNS"]
def tbs : Tb := [("SIGNS", (.tup [.int (-1), .int 0, .int 1]))]
def loose0 : List Str := ["is_falling", "column_of", "columns_in", "order_of", "compare", "parts_of", "differ", "holds", "rules_of", "contradict", "violation", "obeys", "lex", "keeps", "every_signs", "allowed", "contradicting", "follows", "_law_pot", "_law_take", "_law_of", "_law_names", "_law_listed", "_law_every", "_law_lex", "_law_obeyed", "_law_rows_of", "_law_is_against", "_law_right", "FALLING"]
def loose1 : List Str := ["FIXED", "TOGETHER", "SIGNS"]
def loose : List Str := loose0 ++ loose1
theorem tx_of {K : PySem.W.Frag} {h : Heap} {mg : Str → Option Value} (X : K.In h) (G : h.Ns mainGlobals mg) (c : He.SaysD fas fns K) (tb : tbOk K tbs = true) : Nonempty (Tx K mg) := by
  obtain ⟨d_is_falling, Z_is_falling⟩ := c.def_ 0 (d := df_is_falling) rfl
  obtain ⟨d_column_of, Z_column_of⟩ := c.def_ 1 (d := df_column_of) rfl
  obtain ⟨d_columns_in, Z_columns_in⟩ := c.def_ 2 (d := df_columns_in) rfl
  obtain ⟨d_order_of, Z_order_of⟩ := c.def_ 3 (d := df_order_of) rfl
  obtain ⟨d_compare, Z_compare⟩ := c.def_ 4 (d := df_compare) rfl
  obtain ⟨d_parts_of, Z_parts_of⟩ := c.def_ 5 (d := df_parts_of) rfl
  obtain ⟨d_differ, Z_differ⟩ := c.def_ 6 (d := df_differ) rfl
  obtain ⟨d_holds, Z_holds⟩ := c.def_ 7 (d := df_holds) rfl
  obtain ⟨d_rules_of, Z_rules_of⟩ := c.def_ 8 (d := df_rules_of) rfl
  obtain ⟨d_contradict, Z_contradict⟩ := c.def_ 9 (d := df_contradict) rfl
  obtain ⟨d_violation, Z_violation⟩ := c.def_ 10 (d := df_violation) rfl
  obtain ⟨d_obeys, Z_obeys⟩ := c.def_ 11 (d := df_obeys) rfl
  obtain ⟨d_lex, Z_lex⟩ := c.def_ 12 (d := df_lex) rfl
  obtain ⟨d_keeps, Z_keeps⟩ := c.def_ 13 (d := df_keeps) rfl
  obtain ⟨d_every_signs, Z_every_signs⟩ := c.def_ 14 (d := df_every_signs) rfl
  obtain ⟨d_allowed, Z_allowed⟩ := c.def_ 15 (d := df_allowed) rfl
  obtain ⟨d_contradicting, Z_contradicting⟩ := c.def_ 16 (d := df_contradicting) rfl
  obtain ⟨d_follows, Z_follows⟩ := c.def_ 17 (d := df_follows) rfl
  obtain ⟨d_Lpot, Z_Lpot⟩ := c.def_ 18 (d := df_Lpot) rfl
  obtain ⟨d_Ltake, Z_Ltake⟩ := c.def_ 19 (d := df_Ltake) rfl
  obtain ⟨d_Lof, Z_Lof⟩ := c.def_ 20 (d := df_Lof) rfl
  obtain ⟨d_Lnames, Z_Lnames⟩ := c.def_ 21 (d := df_Lnames) rfl
  obtain ⟨d_Llisted, Z_Llisted⟩ := c.def_ 22 (d := df_Llisted) rfl
  obtain ⟨d_Levery, Z_Levery⟩ := c.def_ 23 (d := df_Levery) rfl
  obtain ⟨d_Llex, Z_Llex⟩ := c.def_ 24 (d := df_Llex) rfl
  obtain ⟨d_Lobeyed, Z_Lobeyed⟩ := c.def_ 25 (d := df_Lobeyed) rfl
  obtain ⟨d_Lrows_of, Z_Lrows_of⟩ := c.def_ 26 (d := df_Lrows_of) rfl
  obtain ⟨d_Lis_against, Z_Lis_against⟩ := c.def_ 27 (d := df_Lis_against) rfl
  obtain ⟨d_Lright, Z_Lright⟩ := c.def_ 28 (d := df_Lright) rfl
  obtain ⟨d_law, Z_law⟩ := c.def_ 29 (d := df_law) rfl
  obtain ⟨t_FALLING, c_FALLING⟩ := He.str_ok X G (c.fact 42 (f := .str "FALLING" "-") rfl)
  obtain ⟨t_FIXED, c_FIXED⟩ := He.str_ok X G (c.fact 43 (f := .str "FIXED" "fixed") rfl)
  obtain ⟨t_TOGETHER, c_TOGETHER⟩ := He.str_ok X G (c.fact 44 (f := .str "TOGETHER" "together") rfl)
  exact ⟨{
    g_is_falling := He.glo_ok X G (c.fact 0 (f := .glo "is_falling") rfl)
    g_column_of := He.glo_ok X G (c.fact 1 (f := .glo "column_of") rfl)
    g_columns_in := He.glo_ok X G (c.fact 2 (f := .glo "columns_in") rfl)
    g_order_of := He.glo_ok X G (c.fact 3 (f := .glo "order_of") rfl)
    g_compare := He.glo_ok X G (c.fact 4 (f := .glo "compare") rfl)
    g_parts_of := He.glo_ok X G (c.fact 5 (f := .glo "parts_of") rfl)
    g_differ := He.glo_ok X G (c.fact 6 (f := .glo "differ") rfl)
    g_holds := He.glo_ok X G (c.fact 7 (f := .glo "holds") rfl)
    g_rules_of := He.glo_ok X G (c.fact 8 (f := .glo "rules_of") rfl)
    g_contradict := He.glo_ok X G (c.fact 9 (f := .glo "contradict") rfl)
    g_violation := He.glo_ok X G (c.fact 10 (f := .glo "violation") rfl)
    g_obeys := He.glo_ok X G (c.fact 11 (f := .glo "obeys") rfl)
    g_lex := He.glo_ok X G (c.fact 12 (f := .glo "lex") rfl)
    g_keeps := He.glo_ok X G (c.fact 13 (f := .glo "keeps") rfl)
    g_every_signs := He.glo_ok X G (c.fact 14 (f := .glo "every_signs") rfl)
    g_allowed := He.glo_ok X G (c.fact 15 (f := .glo "allowed") rfl)
    g_contradicting := He.glo_ok X G (c.fact 16 (f := .glo "contradicting") rfl)
    g_follows := He.glo_ok X G (c.fact 17 (f := .glo "follows") rfl)
    g_Lpot := He.glo_ok X G (c.fact 18 (f := .glo "_law_pot") rfl)
    g_Ltake := He.glo_ok X G (c.fact 19 (f := .glo "_law_take") rfl)
    g_Lof := He.glo_ok X G (c.fact 20 (f := .glo "_law_of") rfl)
    g_Lnames := He.glo_ok X G (c.fact 21 (f := .glo "_law_names") rfl)
    g_Llisted := He.glo_ok X G (c.fact 22 (f := .glo "_law_listed") rfl)
    g_Levery := He.glo_ok X G (c.fact 23 (f := .glo "_law_every") rfl)
    g_Llex := He.glo_ok X G (c.fact 24 (f := .glo "_law_lex") rfl)
    g_Lobeyed := He.glo_ok X G (c.fact 25 (f := .glo "_law_obeyed") rfl)
    g_Lrows_of := He.glo_ok X G (c.fact 26 (f := .glo "_law_rows_of") rfl)
    g_Lis_against := He.glo_ok X G (c.fact 27 (f := .glo "_law_is_against") rfl)
    g_Lright := He.glo_ok X G (c.fact 28 (f := .glo "_law_right") rfl)
    g_law := He.glo_ok X G (c.fact 29 (f := .glo "law") rfl)
    b_abs := He.free_ok X G (c.fact 30 (f := .free "abs") rfl)
    b_all := He.free_ok X G (c.fact 31 (f := .free "all") rfl)
    b_any := He.free_ok X G (c.fact 32 (f := .free "any") rfl)
    b_enumerate := He.free_ok X G (c.fact 33 (f := .free "enumerate") rfl)
    b_int := He.free_ok X G (c.fact 34 (f := .free "int") rfl)
    b_len := He.free_ok X G (c.fact 35 (f := .free "len") rfl)
    b_list := He.free_ok X G (c.fact 36 (f := .free "list") rfl)
    b_max := He.free_ok X G (c.fact 37 (f := .free "max") rfl)
    b_min := He.free_ok X G (c.fact 38 (f := .free "min") rfl)
    b_range := He.free_ok X G (c.fact 39 (f := .free "range") rfl)
    b_sorted := He.free_ok X G (c.fact 40 (f := .free "sorted") rfl)
    b_tuple := He.free_ok X G (c.fact 41 (f := .free "tuple") rfl)
    t_FALLING := t_FALLING
    c_FALLING := c_FALLING
    t_FIXED := t_FIXED
    c_FIXED := c_FIXED
    t_TOGETHER := t_TOGETHER
    c_TOGETHER := c_TOGETHER
    a_SIGNS := _
    c_SIGNS := He.glo_ok X G (c.fact 45 (f := .glo "SIGNS") rfl)
    k_SIGNS := tb_at tb 0 rfl
    f_is_falling := _
    d_is_falling := d_is_falling
    F_is_falling := fun_of Z_is_falling
    B_is_falling := FunD.bindsN (ps := ["item"]) Z_is_falling fun _ _ _ _ _ _ us hl => match us, hl with | [_], _ => rfl
    f_column_of := _
    d_column_of := d_column_of
    F_column_of := fun_of Z_column_of
    B_column_of := FunD.bindsN (ps := ["item"]) Z_column_of fun _ _ _ _ _ _ us hl => match us, hl with | [_], _ => rfl
    f_columns_in := _
    d_columns_in := d_columns_in
    F_columns_in := fun_of Z_columns_in
    B_columns_in := FunD.bindsN (ps := ["items"]) Z_columns_in fun _ _ _ _ _ _ us hl => match us, hl with | [_], _ => rfl
    f_order_of := _
    d_order_of := d_order_of
    F_order_of := fun_of Z_order_of
    B_order_of := FunD.bindsN (ps := ["number", "other"]) Z_order_of fun _ _ _ _ _ _ us hl => match us, hl with | [_, _], _ => rfl
    f_compare := _
    d_compare := d_compare
    F_compare := fun_of Z_compare
    B_compare := FunD.bindsN (ps := ["columns", "one", "other", "items"]) Z_compare fun _ _ _ _ _ _ us hl => match us, hl with | [_, _, _, _], _ => rfl
    f_parts_of := _
    d_parts_of := d_parts_of
    F_parts_of := fun_of Z_parts_of
    B_parts_of := FunD.bindsN (ps := ["rule"]) Z_parts_of fun _ _ _ _ _ _ us hl => match us, hl with | [_], _ => rfl
    f_differ := _
    d_differ := d_differ
    F_differ := fun_of Z_differ
    B_differ := FunD.bindsN (ps := ["columns", "one", "other", "part"]) Z_differ fun _ _ _ _ _ _ us hl => match us, hl with | [_, _, _, _], _ => rfl
    f_holds := _
    d_holds := d_holds
    F_holds := fun_of Z_holds
    B_holds := FunD.bindsN (ps := ["table", "part"]) Z_holds fun _ _ _ _ _ _ us hl => match us, hl with | [_, _], _ => rfl
    f_rules_of := _
    d_rules_of := d_rules_of
    F_rules_of := fun_of Z_rules_of
    B_rules_of := FunD.bindsN (ps := ["part"]) Z_rules_of fun _ _ _ _ _ _ us hl => match us, hl with | [_], _ => rfl
    f_contradict := _
    d_contradict := d_contradict
    F_contradict := fun_of Z_contradict
    B_contradict := FunD.bindsN (ps := ["columns", "one", "other", "rule"]) Z_contradict fun _ _ _ _ _ _ us hl => match us, hl with | [_, _, _, _], _ => rfl
    f_violation := _
    d_violation := d_violation
    F_violation := fun_of Z_violation
    B_violation_2 := FunD.binds0 (ps := ["table", "rule", "start"]) Z_violation 2 (fun e => by cases e) rfl fun _ _ _ _ _ _ us ks l1 l2 => match us, ks, l1, l2 with | [_, _], [_], _, _ => ⟨_, _, _, _, _, _, rfl, rfl, rfl⟩
    f_obeys := _
    d_obeys := d_obeys
    F_obeys := fun_of Z_obeys
    B_obeys := FunD.bindsN (ps := ["table", "rule"]) Z_obeys fun _ _ _ _ _ _ us hl => match us, hl with | [_, _], _ => rfl
    f_lex := _
    d_lex := d_lex
    F_lex := fun_of Z_lex
    B_lex := FunD.bindsN (ps := ["columns", "signs", "items"]) Z_lex fun _ _ _ _ _ _ us hl => match us, hl with | [_, _, _], _ => rfl
    f_keeps := _
    d_keeps := d_keeps
    F_keeps := fun_of Z_keeps
    B_keeps := FunD.bindsN (ps := ["columns", "signs", "rule"]) Z_keeps fun _ _ _ _ _ _ us hl => match us, hl with | [_, _, _], _ => rfl
    f_every_signs := _
    d_every_signs := d_every_signs
    F_every_signs := fun_of Z_every_signs
    B_every_signs := FunD.bindsN (ps := ["columns"]) Z_every_signs fun _ _ _ _ _ _ us hl => match us, hl with | [_], _ => rfl
    f_allowed := _
    d_allowed := d_allowed
    F_allowed := fun_of Z_allowed
    B_allowed := FunD.bindsN (ps := ["columns", "rules"]) Z_allowed fun _ _ _ _ _ _ us hl => match us, hl with | [_, _], _ => rfl
    f_contradicting := _
    d_contradicting := d_contradicting
    F_contradicting := fun_of Z_contradicting
    B_contradicting := FunD.bindsN (ps := ["columns", "rules", "known", "wanted"]) Z_contradicting fun _ _ _ _ _ _ us hl => match us, hl with | [_, _, _, _], _ => rfl
    f_follows := _
    d_follows := d_follows
    F_follows := fun_of Z_follows
    B_follows := FunD.bindsN (ps := ["columns", "rules", "known", "wanted"]) Z_follows fun _ _ _ _ _ _ us hl => match us, hl with | [_, _, _, _], _ => rfl
    f_Lpot := _
    d_Lpot := d_Lpot
    F_Lpot := fun_of Z_Lpot
    B_Lpot := FunD.bindsN (ps := ["_law_script", "_law_k"]) Z_Lpot fun _ _ _ _ _ _ us hl => match us, hl with | [_, _], _ => rfl
    f_Ltake := _
    d_Ltake := d_Ltake
    F_Ltake := fun_of Z_Ltake
    B_Ltake := FunD.bindsN (ps := ["_law_pot_here", "_law_bound"]) Z_Ltake fun _ _ _ _ _ _ us hl => match us, hl with | [_, _], _ => rfl
    f_Lof := _
    d_Lof := d_Lof
    F_Lof := fun_of Z_Lof
    B_Lof := FunD.bindsN (ps := ["_law_pot_here", "_law_some"]) Z_Lof fun _ _ _ _ _ _ us hl => match us, hl with | [_, _], _ => rfl
    f_Lnames := _
    d_Lnames := d_Lnames
    F_Lnames := fun_of Z_Lnames
    B_Lnames := FunD.bindsN (ps := ["_law_pot_here", "_law_many"]) Z_Lnames fun _ _ _ _ _ _ us hl => match us, hl with | [_, _], _ => rfl
    f_Llisted := _
    d_Llisted := d_Llisted
    F_Llisted := fun_of Z_Llisted
    B_Llisted := FunD.bindsN (ps := ["_law_pot_here", "_law_names_here", "_law_most"]) Z_Llisted fun _ _ _ _ _ _ us hl => match us, hl with | [_, _, _], _ => rfl
    f_Levery := _
    d_Levery := d_Levery
    F_Levery := fun_of Z_Levery
    B_Levery := FunD.bindsN (ps := ["_law_size"]) Z_Levery fun _ _ _ _ _ _ us hl => match us, hl with | [_], _ => rfl
    f_Llex := _
    d_Llex := d_Llex
    F_Llex := fun_of Z_Llex
    B_Llex := FunD.bindsN (ps := ["_law_names_here", "_law_pattern", "_law_wish"]) Z_Llex fun _ _ _ _ _ _ us hl => match us, hl with | [_, _, _], _ => rfl
    f_Lobeyed := _
    d_Lobeyed := d_Lobeyed
    F_Lobeyed := fun_of Z_Lobeyed
    B_Lobeyed := FunD.bindsN (ps := ["_law_names_here", "_law_pattern", "_law_pairs"]) Z_Lobeyed fun _ _ _ _ _ _ us hl => match us, hl with | [_, _, _], _ => rfl
    f_Lrows_of := _
    d_Lrows_of := d_Lrows_of
    F_Lrows_of := fun_of Z_Lrows_of
    B_Lrows_of := FunD.bindsN (ps := ["_law_pot_here", "_law_names_here", "_law_many", "_law_top"]) Z_Lrows_of fun _ _ _ _ _ _ us hl => match us, hl with | [_, _, _, _], _ => rfl
    f_Lis_against := _
    d_Lis_against := d_Lis_against
    F_Lis_against := fun_of Z_Lis_against
    B_Lis_against := FunD.bindsN (ps := ["_law_names_here", "_law_pattern", "_law_piece"]) Z_Lis_against fun _ _ _ _ _ _ us hl => match us, hl with | [_, _, _], _ => rfl
    f_Lright := _
    d_Lright := d_Lright
    F_Lright := fun_of Z_Lright
    B_Lright := FunD.bindsN (ps := ["_law_pot_here"]) Z_Lright fun _ _ _ _ _ _ us hl => match us, hl with | [_], _ => rfl
    f_law := _
    d_law := d_law
    F_law := fun_of Z_law
    B_law := FunD.bindsN (ps := ["_law_script"]) Z_law fun _ _ _ _ _ _ us hl => match us, hl with | [_], _ => rfl
  }⟩
abbrev R : PySem.W.OpenRow := PySem.W.OpenLaw.row PySem.Challenge.rw_sortfollow_k78_whole_rules_are_their_par
abbrev hk : PySem.W.Hook := hookT 4 fas fns tbs
def ob (s : PySem.W.SharedT) : AlT := obsT 4 fas fns tbs (HandSHeadRun.getT s)
theorem ob_eq (s : PySem.W.SharedT) : ob s = hk.obs s.abs := obsT_eq (HandSHeadRun.getT_eq s)
theorem run (w : World) : HandSHeadRun.RunEq R (PySem.W.view R.prog [39]) hk ob 6000 loose w := by
  intro os
  kernel_rfl
end K78
open PySem PySem.W PySem.Calls PyProof.Rows
theorem PySem.Challenge.cw_sortfollow_k78_whole_rules_are_their_par_holds : PySem.Challenge.rw_sortfollow_k78_whole_rules_are_their_par.Holds := by
  w_on; o_law
  refine HandSHeadRun.head_any (r := OpenLaw.row PySem.Challenge.rw_sortfollow_k78_whole_rules_are_their_par) (q := view (OpenLaw.row PySem.Challenge.rw_sortfollow_k78_whole_rules_are_their_par).prog [39]) (H := K78.hk) (ob := K78.ob) (M := 6000) (loose := K78.loose) (d := HandSHeadRun.topDef (OpenLaw.row PySem.Challenge.rw_sortfollow_k78_whole_rules_are_their_par).prog 39) (kwd := []) K78.ob_eq
    (by kernel_rfl) (fun s => by kernel_rfl) K78.run (by kernel_rfl) (by kernel_rfl) (by kernel_rfl) (by rfl) (by first | assumption | decide +kernel) (by decide +kernel) ⟨rfl, rfl, rfl, rfl, rfl, by decide +kernel⟩ ?hw ?hc
  case hw => w_witness2
  case hc =>
    refine L2.walk_ofE (l := PySem.Challenge.rw_sortfollow_k78_whole_rules_are_their_par) (n := 63) (k := 9) (x := "_law_script") (CX := L2.CX0) rfl (by decide) (by kernel_rfl) ⟨rfl, by decide, by decide⟩ ?F (fun _ _ _ _ z => z)
    intro w mg fa h Y G hmg0
    obtain ⟨K, KX, c, tb⟩ := Y
    have hmg : mg ("law" : PySem.Str) = some (.ref fa) := by
      have e : (HandSHeadRun.topDef (OpenLaw.row PySem.Challenge.rw_sortfollow_k78_whole_rules_are_their_par).prog 39).name = ("law" : PySem.Str) := by kernel_rfl
      rw [← e]
      exact hmg0
    obtain ⟨T⟩ := K78.tx_of KX G c tb
    have e := hmg.symm.trans T.g_law
    cases e
    exact ⟨K, T.d_law, DL.lSp K K78.sp_law, KX, fun s v => (L2.FunD.bindsA (ps := ["_law_script"]) (DL.funD_of T.F_law) fun _ _ _ _ _ _ us hl => match us, hl with | [_], _ => rfl) s [v] rfl, fun H a ns hl _ hS => DL.law_in hS ⟨ns, rfl, Nat.le_trans hl (by decide), rfl⟩, fun base _ _ => K78.ok_law T⟩
