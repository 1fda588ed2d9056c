import PyProof.Rows.All
import Wide.All
import OpenK.AllK
import Wide.FinOn
import HandS.ForMost
import HandS.Exc
import HandS.WordsExc
import HandS.Defaults
import HandS.CallSlots
import HandS.HeadHook1
import HandS.Wide
import HandS.IsInst
import HandS.Style
import HandS.Deep
import HandS.Conv
import HandS.More
import HandS.Iter
import KE.KCallOwn
import KE.KOpsOwn
import KE.KOwnIter
import HandS.IterVal
import HandS.HeadHook4
import HandS.HeadEnd
import HandS.Words
import HandS.Property
import HandS.ClsMeth
import HandS.SetKeys
import HandS.SortInts
import HandS.NoneIn
import HandS.MakeKw
import HandS.FStr
import HandS.Text
import HandS.ExcOwn
import HandS.ExcIs
import HandS.TryMany
import PyProof.ExcBaseAll.ValueError
import HandS.Star
import KE.KExcSuper
import KE.KSuper
import HandS.ExcInit
import HandS.ExcField
import HandS.Nested
import PySem.Challenge.RW_onekept_k06_rule_terms_refused
import KE.KStateDown
import HandS.Head0
import HandS.Head1
import HandS.Head2
import HandS.HeadWalk
set_option Elab.async false
set_option linter.all false
set_option maxRecDepth 100000
set_option maxHeartbeats 1000000
namespace PD
open PySem L2
/-! ### data -/
/-- a value as a tree -/
inductive D where
  | non | bl (b : Bool) | int (i : Int) | str (s : Str)
  | tup (xs : List D) | lst (xs : List D)
  | dic (kvs : List (Key × D))
  | ins (C : Addr) (fs : List (Str × D))
  | obj (a : Addr)
  | exn (a C dx : Addr) (fs : List (Str × D))
  | stm
  | scr (ns : List Int)
  | fn (x : Str)
/-- what the ghost heap says of an address: this object stands there for good; a stream -/
inductive Gh where
  | hard (o : HO) | strm
abbrev Fz := Addr → Option Gh
def hp (F : Fz) : Hp := fun a => match F a with
  | some (.hard o) => some o
  | _ => none
def Fle (F F' : Fz) : Prop := ∀ a g, F a = some g → F' a = some g
theorem Fle.refl (F : Fz) : Fle F F := fun _ _ h => h
theorem Fle.trans {F F1 F2 : Fz} (h : Fle F F1) (h' : Fle F1 F2) : Fle F F2 := fun a g e => h' a g (h a g e)
theorem Fle.hp {F F' : Fz} (h : Fle F F') {a : Addr} {o : HO} (e : hp F a = some o) : PD.hp F' a = some o := by
  unfold PD.hp at e ⊢
  cases q : F a with
  | none => rw [q] at e; cases e
  | some g =>
    rw [h a g q]
    rw [q] at e
    exact e
theorem hp_of {F : Fz} {a : Addr} {o : HO} (h : F a = some (.hard o)) : hp F a = some o := by
  unfold hp
  rw [h]
theorem of_hp {F : Fz} {a : Addr} {o : HO} (h : hp F a = some o) : F a = some (.hard o) := by
  unfold hp at h
  cases q : F a with
  | none => rw [q] at h; cases h
  | some g =>
    rw [q] at h
    cases g with
    | hard u => cases h; rfl
    | strm => cases h
def updF (F : Fz) (a : Addr) (g : Gh) : Fz := fun b => if b = a then some g else F b
theorem updF_same {F : Fz} {a : Addr} {g : Gh} : updF F a g a = some g := by unfold updF; rw [if_pos rfl]
theorem updF_ne {F : Fz} {a b : Addr} {g : Gh} (h : b ≠ a) : updF F a g b = F b := by unfold updF; rw [if_neg h]
theorem Fle.upd {F : Fz} {a : Addr} {g : Gh} (h : F a = none) : Fle F (updF F a g) := fun b u e => by
  rw [updF_ne (fun z => by rw [z, h] at e; cases e)]
  exact e
/-- what the ghost heap says is so -/
def Fit (F : Fz) (H : Hp) : Prop := ∀ a g, F a = some g → match g with
  | .hard o => H a = some o
  | .strm => ∃ x y : Int, 0 ≤ x ∧ 0 ≤ y ∧ H a = some (.lst [.int x, .int y])
theorem Fit.rd {F : Fz} {H : Hp} (f : Fit F H) {a : Addr} {o : HO} (h : hp F a = some o) : H a = some o := f a _ (of_hp h)
theorem Fit.there {F : Fz} {H : Hp} (f : Fit F H) {a : Addr} {g : Gh} (h : F a = some g) : ∃ o, H a = some o := by
  have q := f a g h
  cases g with
  | hard o => exact ⟨_, q⟩
  | strm =>
    obtain ⟨x, y, _, _, q⟩ := q
    exact ⟨_, q⟩
/-- a list of the written part -/
def KL (K : PySem.W.Frag) (a : Addr) (vs : List V) : Prop :=
  ∃ (o : Obj) (its : Array Value) (n : Nat), K.lookup a = some o ∧ o.cls = .type "list" ∧ o.dict = none ∧ o.data = .seq its n ∧ its.size ≤ sizeLine ∧ Vals vs its.toList
/-- a tuple that the ghost heap or the written part knows -/
def TAt (K : PySem.W.Frag) (F : Fz) (a : Addr) (vs : List V) : Prop := hp F a = some (.tup vs) ∨
  ∃ (o : Obj) (its : Array Value) (n : Nat), K.lookup a = some o ∧ o.cls = .type "tuple" ∧ o.data = .seq its n ∧ its.size ≤ sizeLine ∧ Vals vs its.toList
theorem TAt.sq {K : PySem.W.Frag} {F : Fz} {H : Hp} (f : Fit F H) {a : Addr} {vs : List V} (h : TAt K F a vs) : SqT K H a vs := by
  rcases h with h | h
  · exact .inl (.inl (f.rd h))
  · exact .inr h
theorem TAt.le {K : PySem.W.Frag} {F F' : Fz} (h : Fle F F') {a : Addr} {vs : List V} (q : TAt K F a vs) : TAt K F' a vs := q.imp h.hp id
/-- the script -/
def ScAt (K : PySem.W.Frag) (F : Fz) (a : Addr) (vs : List V) : Prop := (∃ o, hp F a = some (.frz o (.lst vs))) ∨ hp F a = some (.lst vs) ∨ KL K a vs
theorem ScAt.sq {K : PySem.W.Frag} {F : Fz} {H : Hp} (f : Fit F H) {a : Addr} {vs : List V} (h : ScAt K F a vs) : SqL K H a vs := by
  rcases h with ⟨o, h⟩ | h | h
  · exact .inl (.inr ⟨o, f.rd h⟩)
  · exact .inl (.inl (f.rd h))
  · exact .inr h
theorem ScAt.le {K : PySem.W.Frag} {F F' : Fz} (h : Fle F F') {a : Addr} {vs : List V} (q : ScAt K F a vs) : ScAt K F' a vs := by
  rcases q with ⟨o, q⟩ | q | q
  · exact .inl ⟨o, h.hp q⟩
  · exact .inr (.inl (h.hp q))
  · exact .inr (.inr q)
/-! ### a value denotes a tree, for good -/
mutual
inductive Den (K : PySem.W.Frag) (F : Fz) : V → D → Prop
  | non : Den K F .non .non
  | bl (b : Bool) : Den K F (.bl b) (.bl b)
  | int (i : Int) : Den K F (.int i) (.int i)
  | str (s : Str) : Den K F (.str s) (.str s)
  | tup {a : Addr} {vs : List V} {ds : List D} : TAt K F a vs → DenL K F vs ds → Den K F (.ref a) (.tup ds)
  | lst {a : Addr} {vs : List V} {ds : List D} : hp F a = some (.lst vs) → DenL K F vs ds → Den K F (.ref a) (.lst ds)
  | dic {a : Addr} {vs : List (Key × V)} {ds : List (Key × D)} : hp F a = some (.dK vs) → DenK K F vs ds → Den K F (.ref a) (.dic ds)
  | ins {a C dx : Addr} {vs : List (Str × V)} {ds : List (Str × D)} : hp F a = some (.ins C dx vs) → DenF K F vs ds → Den K F (.ref a) (.ins C ds)
  | obj (a : Addr) : Den K F (.ref a) (.obj a)
  | exn {a C dx : Addr} {vs : List (Str × V)} {ds : List (Str × D)} : hp F dx = some (.xd vs) → DenF K F vs ds → Den K F (.ref a) (.exn a C dx ds)
  | stm {a : Addr} : F a = some .strm → Den K F (.ref a) .stm
  | scr {a : Addr} {ns : List Int} : ScAt K F a (ns.map V.int) → Den K F (.ref a) (.scr ns)
  | fn (x : Str) : Den K F (.ref (He.ga K x)) (.fn x)
inductive DenL (K : PySem.W.Frag) (F : Fz) : List V → List D → Prop
  | nil : DenL K F [] []
  | cons {v : V} {d : D} {vs : List V} {ds : List D} : Den K F v d → DenL K F vs ds → DenL K F (v :: vs) (d :: ds)
inductive DenK (K : PySem.W.Frag) (F : Fz) : List (Key × V) → List (Key × D) → Prop
  | nil : DenK K F [] []
  | cons {k : Key} {v : V} {d : D} {vs : List (Key × V)} {ds : List (Key × D)} : Den K F v d → DenK K F vs ds → DenK K F ((k, v) :: vs) ((k, d) :: ds)
inductive DenF (K : PySem.W.Frag) (F : Fz) : List (Str × V) → List (Str × D) → Prop
  | nil : DenF K F [] []
  | cons {k : Str} {v : V} {d : D} {vs : List (Str × V)} {ds : List (Str × D)} : Den K F v d → DenF K F vs ds → DenF K F ((k, v) :: vs) ((k, d) :: ds)
end
mutual
theorem Den.le {K : PySem.W.Frag} {F F' : Fz} (h : Fle F F') : ∀ {v : V} {d : D}, Den K F v d → Den K F' v d
  | _, _, .non => .non
  | _, _, .bl b => .bl b
  | _, _, .int i => .int i
  | _, _, .str s => .str s
  | _, _, .tup q r => .tup (q.le h) (DenL.le h r)
  | _, _, .lst q r => .lst (h.hp q) (DenL.le h r)
  | _, _, .dic q r => .dic (h.hp q) (DenK.le h r)
  | _, _, .ins q r => .ins (h.hp q) (DenF.le h r)
  | _, _, .obj a => .obj a
  | _, _, .exn q r => .exn (h.hp q) (DenF.le h r)
  | _, _, .stm q => .stm (h _ _ q)
  | _, _, .scr q => .scr (q.le h)
  | _, _, .fn x => .fn x
theorem DenL.le {K : PySem.W.Frag} {F F' : Fz} (h : Fle F F') : ∀ {v : List V} {d : List D}, DenL K F v d → DenL K F' v d
  | _, _, .nil => .nil
  | _, _, .cons q r => .cons (Den.le h q) (DenL.le h r)
theorem DenK.le {K : PySem.W.Frag} {F F' : Fz} (h : Fle F F') : ∀ {v : List (Key × V)} {d : List (Key × D)}, DenK K F v d → DenK K F' v d
  | _, _, .nil => .nil
  | _, _, .cons q r => .cons (Den.le h q) (DenK.le h r)
theorem DenF.le {K : PySem.W.Frag} {F F' : Fz} (h : Fle F F') : ∀ {v : List (Str × V)} {d : List (Str × D)}, DenF K F v d → DenF K F' v d
  | _, _, .nil => .nil
  | _, _, .cons q r => .cons (Den.le h q) (DenF.le h r)
end
theorem DenL.length {K : PySem.W.Frag} {F : Fz} : ∀ {vs : List V} {ds : List D}, DenL K F vs ds → vs.length = ds.length
  | _, _, .nil => rfl
  | _, _, .cons _ r => by rw [List.length_cons, List.length_cons, DenL.length r]
theorem DenL.get {K : PySem.W.Frag} {F : Fz} : ∀ {vs : List V} {ds : List D} {i : Nat} {d : D}, DenL K F vs ds → ds[i]? = some d → ∃ v, vs[i]? = some v ∧ Den K F v d
  | _, _, _, _, .nil, e => by simp at e
  | _, _, 0, d, .cons q _, e => by simp at e; subst e; exact ⟨_, rfl, q⟩
  | _, _, i + 1, d, .cons _ r, e => by
    obtain ⟨v, e1, e2⟩ := DenL.get r (by simpa using e)
    exact ⟨v, by simpa using e1, e2⟩
theorem DenL.get' {K : PySem.W.Frag} {F : Fz} : ∀ {vs : List V} {ds : List D} {i : Nat} {v : V}, DenL K F vs ds → vs[i]? = some v → ∃ d, ds[i]? = some d ∧ Den K F v d
  | _, _, _, _, .nil, e => by simp at e
  | _, _, 0, d, .cons q _, e => by simp at e; subst e; exact ⟨_, rfl, q⟩
  | _, _, i + 1, d, .cons _ r, e => by
    obtain ⟨v, e1, e2⟩ := DenL.get' r (by simpa using e)
    exact ⟨v, by simpa using e1, e2⟩
theorem DenL.append {K : PySem.W.Frag} {F : Fz} : ∀ {vs us : List V} {ds es : List D}, DenL K F vs ds → DenL K F us es → DenL K F (vs ++ us) (ds ++ es)
  | _, _, _, _, .nil, r => r
  | _, _, _, _, .cons q r, s => .cons q (DenL.append r s)
theorem DenL.take {K : PySem.W.Frag} {F : Fz} : ∀ {vs : List V} {ds : List D} (n : Nat), DenL K F vs ds → DenL K F (vs.take n) (ds.take n)
  | _, _, 0, _ => .nil
  | _, _, _ + 1, .nil => .nil
  | _, _, n + 1, .cons q r => .cons q (DenL.take n r)
theorem DenL.drop {K : PySem.W.Frag} {F : Fz} : ∀ {vs : List V} {ds : List D} (n : Nat), DenL K F vs ds → DenL K F (vs.drop n) (ds.drop n)
  | _, _, 0, r => r
  | _, _, _ + 1, .nil => .nil
  | _, _, n + 1, .cons q r => DenL.drop n r
theorem DenL.set {K : PySem.W.Frag} {F : Fz} {v : V} {d : D} (q : Den K F v d) : ∀ {vs : List V} {ds : List D} (i : Nat), DenL K F vs ds → DenL K F (vs.set i v) (ds.set i d)
  | _, _, _, .nil => .nil
  | _, _, 0, .cons _ r => .cons q r
  | _, _, i + 1, .cons p r => .cons p (DenL.set q i r)
theorem DenF.lookup {K : PySem.W.Frag} {F : Fz} {f : Str} : ∀ {vs : List (Str × V)} {ds : List (Str × D)} {d : D}, DenF K F vs ds → ds.lookup f = some d → ∃ v, vs.lookup f = some v ∧ Den K F v d
  | _, _, _, .nil, e => by cases e
  | _, _, d, .cons (k := k) q r, e => by
    rw [List.lookup_cons] at e ⊢
    cases z : (f == k) with
    | true => rw [z] at e; cases e; exact ⟨_, rfl, q⟩
    | false => rw [z] at e; exact DenF.lookup r e
theorem DenF.lookup_none {K : PySem.W.Frag} {F : Fz} {f : Str} : ∀ {vs : List (Str × V)} {ds : List (Str × D)}, DenF K F vs ds → ds.lookup f = none → vs.lookup f = none
  | _, _, .nil, e => rfl
  | _, _, .cons (k := k) q r, e => by
    rw [List.lookup_cons] at e ⊢
    cases z : (f == k) with
    | true => rw [z] at e; cases e
    | false => rw [z] at e; exact DenF.lookup_none r e
theorem DenF.length {K : PySem.W.Frag} {F : Fz} : ∀ {vs : List (Str × V)} {ds : List (Str × D)}, DenF K F vs ds → vs.length = ds.length
  | _, _, .nil => rfl
  | _, _, .cons _ r => by rw [List.length_cons, List.length_cons, DenF.length r]
/-- a field put -/
def putD (f : Str) (d : D) : List (Str × D) → List (Str × D)
  | [] => [(f, d)]
  | (g, e) :: r => if g = f then (g, d) :: r else (g, e) :: putD f d r
end PD
set_option maxHeartbeats 1000000
namespace PD
open PySem L2
/-! ### owned objects -/
inductive Box where
  | lst (xs : List D) | dic (kvs : List (Key × D)) | ins (C : Addr) (fs : List (Str × D)) | dil (kvs : List (Key × List D))
/-- what a slot holds, what an expression gives: a tree for good; an object of one's own; one's caller's -/
inductive DV where
  | v (d : D) | o (b : Box) | l (b : Box)
def Box.fz : Box → Option D
  | .lst xs => some (.lst xs)
  | .dic kvs => some (.dic kvs)
  | .ins C fs => some (.ins C fs)
  | .dil _ => none
def BoxAt (K : PySem.W.Frag) (F : Fz) (H : Hp) (R : Addr → Prop) : Box → V → Prop
  | .lst xs, v => ∃ p vs, v = .ref p ∧ R p ∧ H p = some (.lst vs) ∧ DenL K F vs xs
  | .dic kvs, v => ∃ p vs, v = .ref p ∧ R p ∧ H p = some (.dK vs) ∧ DenK K F vs kvs
  | .ins C fs, v => ∃ p dx vs, v = .ref p ∧ R p ∧ H p = some (.ins C dx vs) ∧ DenF K F vs fs
  | .dil kvs, v => ∃ p, ∃ qs : List (Key × Addr), v = .ref p ∧ R p ∧ H p = some (.dK (qs.map fun q => (q.1, .ref q.2))) ∧ (qs.map (·.2)).Nodup ∧ (∀ q ∈ qs, q.2 ≠ p ∧ R q.2) ∧
      Paired (fun (q : Key × Addr) (kv : Key × List D) => q.1 = kv.1 ∧ ∃ vs, H q.2 = some (.lst vs) ∧ DenL K F vs kv.2) qs kvs
def AtV (K : PySem.W.Frag) (F : Fz) (H : Hp) (R : Addr → Prop) : DV → V → Prop
  | .v d, v => Den K F v d
  | .o b, v => BoxAt K F H R b v
  | .l b, v => BoxAt K F H R b v
theorem Paired.imp {α β : Type} {P Q : α → β → Prop} (h : ∀ a b, P a b → Q a b) : ∀ {l : List α} {m : List β}, Paired P l m → Paired Q l m
  | _, _, .nil => .nil
  | _, _, .cons r t => .cons (h _ _ r) (Paired.imp h t)
theorem Paired.impM {α β : Type} {P Q : α → β → Prop} : ∀ {l : List α} {m : List β}, (∀ a ∈ l, ∀ b, P a b → Q a b) → Paired P l m → Paired Q l m
  | _, _, _, .nil => .nil
  | _, _, h, .cons r t => .cons (h _ List.mem_cons_self _ r) (Paired.impM (fun a ha b => h a (List.mem_cons_of_mem _ ha) b) t)
theorem BoxAt.keep {K : PySem.W.Frag} {F F' : Fz} {H H' : Hp} {R R' : Addr → Prop} (le : Fle F F') (k : ∀ a, R a → H' a = H a) (hr : ∀ a, R a → R' a) : ∀ {b : Box} {v : V}, BoxAt K F H R b v → BoxAt K F' H' R' b v
  | .lst _, _, ⟨p, vs, e, r, h, d⟩ => ⟨p, vs, e, hr p r, (k p r).trans h, d.le le⟩
  | .dic _, _, ⟨p, vs, e, r, h, d⟩ => ⟨p, vs, e, hr p r, (k p r).trans h, d.le le⟩
  | .ins _ _, _, ⟨p, dx, vs, e, r, h, d⟩ => ⟨p, dx, vs, e, hr p r, (k p r).trans h, d.le le⟩
  | .dil _, _, ⟨p, qs, e, r, h, nd, hq, pr⟩ => ⟨p, qs, e, hr p r, (k p r).trans h, nd, fun q m => ⟨(hq q m).1, hr _ (hq q m).2⟩,
      Paired.impM (fun q m kv z => ⟨z.1, let ⟨vs, e1, d⟩ := z.2; ⟨vs, (k _ (hq q m).2).trans e1, d.le le⟩⟩) pr⟩
theorem AtV.keep {K : PySem.W.Frag} {F F' : Fz} {H H' : Hp} {R R' : Addr → Prop} (le : Fle F F') (k : ∀ a, R a → H' a = H a) (hr : ∀ a, R a → R' a) : ∀ {x : DV} {v : V}, AtV K F H R x v → AtV K F' H' R' x v
  | .v _, _, h => Den.le le h
  | .o _, _, h => BoxAt.keep le k hr h
  | .l _, _, h => BoxAt.keep le k hr h
/-- a value reads as this tree now -/
def See (K : PySem.W.Frag) (F : Fz) (H : Hp) (v : V) (d : D) : Prop := Den K F v d ∨ ∃ R b, BoxAt K F H R b v ∧ b.fz = some d
section
variable {K : PySem.W.Frag} {F : Fz} {H : Hp} {v : V}
theorem See.int {i : Int} (h : See K F H v (.int i)) : v = .int i := by
  rcases h with h | ⟨R, b, h, e⟩
  · cases h; rfl
  · cases b <;> cases e
theorem See.bl {i : Bool} (h : See K F H v (.bl i)) : v = .bl i := by
  rcases h with h | ⟨R, b, h, e⟩
  · cases h; rfl
  · cases b <;> cases e
theorem See.str {i : Str} (h : See K F H v (.str i)) : v = .str i := by
  rcases h with h | ⟨R, b, h, e⟩
  · cases h; rfl
  · cases b <;> cases e
theorem See.non (h : See K F H v .non) : v = .non := by
  rcases h with h | ⟨R, b, h, e⟩
  · cases h; rfl
  · cases b <;> cases e
theorem See.stm (f : Fit F H) (h : See K F H v .stm) : ∃ a x y, v = .ref a ∧ F a = some .strm ∧ 0 ≤ x ∧ 0 ≤ y ∧ H a = some (.lst [.int x, .int y]) := by
  rcases h with h | ⟨R, b, h, e⟩
  · cases h with
    | stm h =>
      obtain ⟨x, y, h1, h2, h3⟩ := f _ _ h
      exact ⟨_, x, y, rfl, h, h1, h2, h3⟩
  · cases b <;> cases e
theorem See.obj {a : Addr} (h : See K F H v (.obj a)) : v = .ref a := by
  rcases h with h | ⟨R, b, h, e⟩
  · cases h; rfl
  · cases b <;> cases e
theorem See.tup {ds : List D} (f : Fit F H) (h : See K F H v (.tup ds)) : ∃ a vs, v = .ref a ∧ SqT K H a vs ∧ DenL K F vs ds := by
  rcases h with h | ⟨R, b, h, e⟩
  · cases h with
    | tup h1 h2 => exact ⟨_, _, rfl, h1.sq f, h2⟩
  · cases b <;> cases e
theorem See.lst {ds : List D} (f : Fit F H) (h : See K F H v (.lst ds)) : ∃ a vs, v = .ref a ∧ H a = some (.lst vs) ∧ DenL K F vs ds := by
  rcases h with h | ⟨R, b, h, e⟩
  · cases h with
    | lst h1 h2 => exact ⟨_, _, rfl, f.rd h1, h2⟩
  · cases b <;> cases e
    obtain ⟨p, vs, e, _, h, d⟩ := h
    exact ⟨p, vs, e, h, d⟩
theorem See.scr {ns : List Int} (f : Fit F H) (h : See K F H v (.scr ns)) : ∃ a, v = .ref a ∧ SqL K H a (ns.map V.int) := by
  rcases h with h | ⟨R, b, h, e⟩
  · cases h with
    | scr h1 => exact ⟨_, rfl, h1.sq f⟩
  · cases b <;> cases e
theorem See.ins {C : Addr} {ds : List (Str × D)} (f : Fit F H) (h : See K F H v (.ins C ds)) : ∃ a dx vs, v = .ref a ∧ H a = some (.ins C dx vs) ∧ DenF K F vs ds := by
  rcases h with h | ⟨R, b, h, e⟩
  · cases h with
    | ins h1 h2 => exact ⟨_, _, _, rfl, f.rd h1, h2⟩
  · cases b <;> cases e
    obtain ⟨p, dx, vs, e, _, h, d⟩ := h
    exact ⟨p, dx, vs, e, h, d⟩
theorem See.dic {ds : List (Key × D)} (f : Fit F H) (h : See K F H v (.dic ds)) : ∃ a vs, v = .ref a ∧ H a = some (.dK vs) ∧ DenK K F vs ds := by
  rcases h with h | ⟨R, b, h, e⟩
  · cases h with
    | dic h1 h2 => exact ⟨_, _, rfl, f.rd h1, h2⟩
  · cases b <;> cases e
    obtain ⟨p, vs, e, _, h, d⟩ := h
    exact ⟨p, vs, e, h, d⟩
end
/-! ### the state -/
abbrev Rho := List (Option DV)
/-- what is fixed while a def's body runs: the objects outside, where the lent objects stand -/
structure Gd where
  Ho : Hp
  L : Nat → V
structure Rp (K : PySem.W.Frag) (G : Gd) (F : Fz) (H : Hp) (R : Nat → Addr → Prop) (σ : St) (ρ : Rho) : Prop where
  fit : Fit F H
  out : ∀ a o, G.Ho a = some o → H a = some o ∧ F a = none
  len : σ.length = ρ.length
  at_ : ∀ (i : Nat) (x : DV), ρ[i]? = some (some x) → ∃ v, σ[i]? = some (some v) ∧ AtV K F H (R i) x v
  reg : ∀ i a, R i a → F a = none ∧ G.Ho a = none ∧ H a ≠ none
  dis : ∀ i j a, R i a → R j a → i = j
  lnt : ∀ (i : Nat) (b : Box), ρ[i]? = some (some (.l b)) → σ[i]? = some (some (G.L i))
/-- the objects of a value on the way -/
def Tmp (G : Gd) (F : Fz) (H : Hp) (R : Nat → Addr → Prop) (T : Addr → Prop) : Prop := ∀ a, T a → F a = none ∧ G.Ho a = none ∧ H a ≠ none ∧ ∀ i, ¬ R i a
def NoR : Addr → Prop := fun _ => False
theorem Tmp.no {G : Gd} {F : Fz} {H : Hp} {R : Nat → Addr → Prop} : Tmp G F H R NoR := fun _ h => h.elim
/-- both heaps grow by new objects -/
structure Grow (F : Fz) (H : Hp) (F' : Fz) (H' : Hp) : Prop where
  le : Fle F F'
  keep : ∀ a o, H a = some o → H' a = some o
  new : ∀ a, F' a ≠ none → F a = none → H a = none
  fit : Fit F' H'
theorem Grow.refl {F : Fz} {H : Hp} (f : Fit F H) : Grow F H F H := ⟨.refl F, fun _ _ h => h, fun _ h e => absurd e h, f⟩
theorem Grow.trans {F F1 F2 : Fz} {H H1 H2 : Hp} (g : Grow F H F1 H1) (g' : Grow F1 H1 F2 H2) : Grow F H F2 H2 := by
  refine ⟨g.le.trans g'.le, fun a o h => g'.keep a o (g.keep a o h), fun a h e => ?_, g'.fit⟩
  cases q : F1 a with
  | some x => exact g.new a (by rw [q]; exact fun z => nomatch z) e
  | none =>
    have n1 := g'.new a h q
    cases q2 : H a with
    | none => rfl
    | some o => rw [g.keep a o q2] at n1; cases n1
theorem Grow.free {F F' : Fz} {H H' : Hp} (g : Grow F H F' H') {a : Addr} (h : F a = none) (n : H a ≠ none) : F' a = none := by
  cases q : F' a with
  | none => rfl
  | some x => exact absurd (g.new a (by rw [q]; exact fun z => nomatch z) h) n
theorem Fit.upd {F : Fz} {H : Hp} (f : Fit F H) {p : Addr} {o : HO} (hp : H p = none) : Fit F (upd H p o) := fun a g e => by
  obtain ⟨u, hu⟩ := f.there e
  have ne : a ≠ p := ne_of_none hu hp
  have q := f a g e
  cases g with
  | hard o' => exact (upd_ne ne).trans q
  | strm =>
    obtain ⟨x, y, h1, h2, h3⟩ := q
    exact ⟨x, y, h1, h2, by rw [upd_ne ne]; exact h3⟩
theorem Fit.free {F : Fz} {H : Hp} (f : Fit F H) {p : Addr} (hp : H p = none) : F p = none := by
  cases q : F p with
  | none => rfl
  | some g => obtain ⟨o, e⟩ := f.there q; rw [hp] at e; cases e
/-- a new object, for good -/
theorem Grow.hard {F : Fz} {H : Hp} (f : Fit F H) {p : Addr} {o : HO} (h : H p = none) : Grow F H (updF F p (.hard o)) (upd H p o) := by
  refine ⟨Fle.upd (f.free h), fun a u e => by rw [upd_ne (ne_of_none e h)]; exact e, fun a n e => ?_, fun a g e => ?_⟩
  · by_cases q : a = p
    · rw [q]; exact h
    · rw [updF_ne q] at n; exact absurd e n
  · by_cases q : a = p
    · subst q
      rw [updF_same] at e
      cases e
      exact upd_same
    · rw [updF_ne q] at e
      exact (f.upd h) a g e
/-- a new object, one's own -/
theorem Grow.own {F : Fz} {H : Hp} (f : Fit F H) {p : Addr} {o : HO} (h : H p = none) : Grow F H F (upd H p o) :=
  ⟨.refl F, fun a u e => by rw [upd_ne (ne_of_none e h)]; exact e, fun a n e => absurd e n, f.upd h⟩
section
variable {K : PySem.W.Frag} {G : Gd} {F F' : Fz} {H H' : Hp} {R : Nat → Addr → Prop} {σ : St} {ρ : Rho}
theorem Rp.grow (r : Rp K G F H R σ ρ) (g : Grow F H F' H') : Rp K G F' H' R σ ρ := by
  refine ⟨g.fit, fun a o e => ?_, r.len, fun i x e => ?_, fun i a e => ?_, r.dis, r.lnt⟩
  · obtain ⟨h1, h2⟩ := r.out a o e
    exact ⟨g.keep a o h1, g.free h2 (by rw [h1]; exact fun z => nomatch z)⟩
  · obtain ⟨v, h1, h2⟩ := r.at_ i x e
    refine ⟨v, h1, h2.keep g.le (fun a ra => ?_) fun _ ra => ra⟩
    have n := (r.reg i a ra).2.2
    cases q : H a with
    | none => exact absurd q n
    | some o => exact g.keep a o q
  · obtain ⟨h1, h2, h3⟩ := r.reg i a e
    refine ⟨g.free h1 h3, h2, fun z => ?_⟩
    cases q : H a with
    | none => exact h3 q
    | some o => rw [g.keep a o q] at z; cases z
theorem Tmp.grow {T : Addr → Prop} (t : Tmp G F H R T) (g : Grow F H F' H') : Tmp G F' H' R T := fun a ha => by
  obtain ⟨h1, h2, h3, h4⟩ := t a ha
  refine ⟨g.free h1 h3, h2, fun z => ?_, h4⟩
  cases q : H a with
  | none => exact h3 q
  | some o => rw [g.keep a o q] at z; cases z
theorem Rp.see (r : Rp K G F H R σ ρ) {i : Nat} {x : DV} {d : D} (e : ρ[i]? = some (some x)) (hd : x = .v d ∨ (∃ b, (x = .o b ∨ x = .l b) ∧ b.fz = some d)) : ∃ v, σ[i]? = some (some v) ∧ See K F H v d := by
  obtain ⟨v, h1, h2⟩ := r.at_ i x e
  refine ⟨v, h1, ?_⟩
  rcases hd with rfl | ⟨b, rfl | rfl, hb⟩
  · exact .inl h2
  · exact .inr ⟨_, b, h2, hb⟩
  · exact .inr ⟨_, b, h2, hb⟩
/-- a name is stored -/
theorem Rp.set (r : Rp K G F H R σ ρ) {i : Nat} {x : DV} {v : V} {T : Addr → Prop} (t : Tmp G F H R T) (h : AtV K F H T x v) (hl : ∀ b, x ≠ .l b) :
    Rp K G F H (fun j a => if j = i then T a else R j a) (σ.set i (some v)) (ρ.set i (some x)) := by
  refine ⟨r.fit, r.out, by simpa using r.len, fun j y e => ?_, fun j a e => ?_, fun j k a e1 e2 => ?_, fun j b e => ?_⟩
  · by_cases q : j = i
    · subst q
      by_cases hlt : j < ρ.length
      · rw [List.getElem?_set_self hlt] at e
        cases e
        refine ⟨v, List.getElem?_set_self (by rw [r.len]; exact hlt), h.keep (.refl F) (fun _ _ => rfl) fun a ha => ?_⟩
        show if j = j then T a else R j a
        rw [if_pos rfl]
        exact ha
      · rw [List.getElem?_eq_none (by simpa using hlt)] at e; cases e
    · rw [List.getElem?_set_ne (Ne.symm q)] at e
      obtain ⟨u, h1, h2⟩ := r.at_ j y e
      refine ⟨u, by rw [List.getElem?_set_ne (Ne.symm q)]; exact h1, h2.keep (.refl F) (fun _ _ => rfl) fun a ha => ?_⟩
      show if j = i then T a else R j a
      rw [if_neg q]
      exact ha
  · have e' : if j = i then T a else R j a := e
    by_cases q : j = i
    · rw [if_pos q] at e'
      obtain ⟨h1, h2, h3, _⟩ := t a e'
      exact ⟨h1, h2, h3⟩
    · rw [if_neg q] at e'
      exact r.reg j a e'
  · have e1' : if j = i then T a else R j a := e1
    have e2' : if k = i then T a else R k a := e2
    by_cases q : j = i
    · by_cases q2 : k = i
      · rw [q, q2]
      · rw [if_pos q] at e1'
        rw [if_neg q2] at e2'
        exact absurd e2' ((t a e1').2.2.2 k)
    · rw [if_neg q] at e1'
      by_cases q2 : k = i
      · rw [if_pos q2] at e2'
        exact absurd e1' ((t a e2').2.2.2 j)
      · rw [if_neg q2] at e2'
        exact r.dis j k a e1' e2'
  · by_cases q : j = i
    · subst q
      by_cases hlt : j < ρ.length
      · rw [List.getElem?_set_self hlt] at e
        cases e
        exact absurd rfl (hl b)
      · rw [List.getElem?_eq_none (by simpa using hlt)] at e; cases e
    · rw [List.getElem?_set_ne (Ne.symm q)] at e ⊢
      exact r.lnt j b e
/-- a slot is forgotten -/
theorem Rp.forget (r : Rp K G F H R σ ρ) (i : Nat) : Rp K G F H R σ (ρ.set i none) := by
  refine ⟨r.fit, r.out, by simpa using r.len, fun j y e => ?_, r.reg, r.dis, fun j b e => ?_⟩
  · by_cases q : j = i
    · subst q
      by_cases hlt : j < ρ.length
      · rw [List.getElem?_set_self hlt] at e; cases e
      · rw [List.getElem?_eq_none (by simpa using hlt)] at e; cases e
    · rw [List.getElem?_set_ne (Ne.symm q)] at e
      exact r.at_ j y e
  · by_cases q : j = i
    · subst q
      by_cases hlt : j < ρ.length
      · rw [List.getElem?_set_self hlt] at e; cases e
      · rw [List.getElem?_eq_none (by simpa using hlt)] at e; cases e
    · rw [List.getElem?_set_ne (Ne.symm q)] at e
      exact r.lnt j b e
end
end PD
set_option maxHeartbeats 1000000
namespace PD
open PySem L2
/-! ### wishes -/
/-- an exception: its class, its fields (none: it has no dict) -/
structure Exn where
  C : Addr
  fs : Option (List (Str × D))
def ExAt (K : PySem.W.Frag) (F : Fz) (H : Hp) (T : Addr → Prop) (e : Exn) (dx : Option Addr) : Prop := match e.fs with
  | none => dx = none
  | some fs => ∃ d vs, dx = some d ∧ T d ∧ H d = some (.xd vs) ∧ DenF K F vs fs
abbrev XD := Exn → Rho → Prop
abbrev TED := Rho → (D → Rho → Prop) → XD → Prop
abbrev TXD := Rho → (DV → Rho → Prop) → XD → Prop
abbrev TTD := Rho → (Bool → Rho → Prop) → XD → Prop
abbrev TAD := Rho → (List D → Rho → Prop) → XD → Prop
/-- an operand: a tree, what the slot holds -/
inductive Opd where
  | d (x : D) | s (i : Nat)
abbrev TOD := Rho → (Opd → Rho → Prop) → XD → Prop
def PostX (K : PySem.W.Frag) (W : WX) (G : Gd) (F : Fz) (σ : St) (Xd : XD) : Prop :=
  ∀ e ρ' dx F' H' R' T, Rp K G F' H' R' σ ρ' → Fle F F' → Tmp G F' H' R' T → ExAt K F' H' T e dx → Xd e ρ' → W (.ref e.C) dx σ H'
theorem PostX.le {K : PySem.W.Frag} {W : WX} {G : Gd} {F F1 : Fz} {σ : St} {Xd : XD} (p : PostX K W G F σ Xd) (h : Fle F F1) : PostX K W G F1 σ Xd :=
  fun e ρ' dx F' H' R' T r l => p e ρ' dx F' H' R' T r (h.trans l)
def LE (K : PySem.W.Frag) (W : WX) (t : TED) : TE := fun σ H Q => ∃ G F R ρ Qd Xd, Rp K G F H R σ ρ ∧ t ρ Qd Xd ∧
  (∀ d ρ' v F' H' R', Rp K G F' H' R' σ ρ' → Fle F F' → Den K F' v d → Qd d ρ' → Q v H') ∧ PostX K W G F σ Xd
def LX (K : PySem.W.Frag) (W : WX) (t : TXD) : TE := fun σ H Q => ∃ G F R ρ Qd Xd, Rp K G F H R σ ρ ∧ t ρ Qd Xd ∧
  (∀ x ρ' v F' H' R' T, Rp K G F' H' R' σ ρ' → Fle F F' → Tmp G F' H' R' T → AtV K F' H' T x v → (∀ b, x ≠ .l b) → Qd x ρ' → Q v H') ∧ PostX K W G F σ Xd
def OpAt (K : PySem.W.Frag) (F : Fz) (σ : St) : Opd → V → Prop
  | .d d, v => Den K F v d
  | .s i, v => σ[i]? = some (some v)
def LO (K : PySem.W.Frag) (W : WX) (t : TOD) : TE := fun σ H Q => ∃ G F R ρ Qd Xd, Rp K G F H R σ ρ ∧ t ρ Qd Xd ∧
  (∀ od ρ' v F' H' R', Rp K G F' H' R' σ ρ' → Fle F F' → OpAt K F' σ od v → Qd od ρ' → Q v H') ∧ PostX K W G F σ Xd
def LT (K : PySem.W.Frag) (W : WX) (t : TTD) : TT := fun σ H Q => ∃ G F R ρ Qd Xd, Rp K G F H R σ ρ ∧ t ρ Qd Xd ∧
  (∀ b ρ' F' H' R', Rp K G F' H' R' σ ρ' → Fle F F' → Qd b ρ' → Q b H') ∧ PostX K W G F σ Xd
def LA (K : PySem.W.Frag) (W : WX) (t : TAD) : TA := fun σ H Q => ∃ G F R ρ Qd Xd, Rp K G F H R σ ρ ∧ t ρ Qd Xd ∧
  (∀ ds ρ' vs F' H' R', Rp K G F' H' R' σ ρ' → Fle F F' → DenL K F' vs ds → Qd ds ρ' → Q vs H') ∧ PostX K W G F σ Xd
def DE (X : Cx) (e : Expr) (t : TED) : Prop := ∀ W, Takes X W → PE X e (LE X.K W t)
def DX (X : Cx) (e : Expr) (t : TXD) : Prop := ∀ W, Takes X W → PE X e (LX X.K W t)
def DO (X : Cx) (e : Expr) (t : TOD) : Prop := ∀ W, Takes X W → PE X e (LO X.K W t)
def DT (X : Cx) (e : Expr) (t : TTD) : Prop := ∀ W, Takes X W → PT X e (LT X.K W t)
def DW (X : Cx) (e : Expr) (t : TTD) : Prop := ∀ W, Takes X W → PW X e (LT X.K W t)
def DA (X : Cx) (es : List Expr) (t : TAD) : Prop := ∀ W, Takes X W → PA X es (LA X.K W t)
theorem pe_imp {X : Cx} {e : Expr} {t t' : TE} (h : PE X e t) (w : ∀ σ H Q, t' σ H Q → t σ H Q) : PE X e t' := ⟨fun pins s σ H Q I q => h.run pins s σ H Q I (w σ H Q q)⟩
theorem pt_imp {X : Cx} {e : Expr} {t t' : TT} (h : PT X e t) (w : ∀ σ H Q, t' σ H Q → t σ H Q) : PT X e t' := ⟨fun pins s σ H Q I q => h.run pins s σ H Q I (w σ H Q q)⟩
theorem pw_imp {X : Cx} {e : Expr} {t t' : TT} (h : PW X e t) (w : ∀ σ H Q, t' σ H Q → t σ H Q) : PW X e t' := ⟨fun wh pins s σ H Q I q => h.run wh pins s σ H Q I (w σ H Q q)⟩
theorem pa_imp {X : Cx} {es : List Expr} {t t' : TA} (h : PA X es t) (w : ∀ σ H Q, t' σ H Q → t σ H Q) : PA X es t' := ⟨fun p pins s σ H Q I q => h.run p pins s σ H Q I (w σ H Q q)⟩
theorem ps_imp {X : Cx} {st : Stmt} {t t' : TS} (h : PS X st t) (w : ∀ D σ H, t' D σ H → t D σ H) : PS X st t' := ⟨fun pins s σ H D I q => h.run pins s σ H D I (w D σ H q)⟩
theorem pss_imp {X : Cx} {st : List Stmt} {t t' : TS} (h : PSs X st t) (w : ∀ D σ H, t' D σ H → t D σ H) : PSs X st t' := ⟨fun pins s σ H D I q => h.run pins s σ H D I (w D σ H q)⟩
/-! ### operands -/
def Rho.look (ρ : Rho) : Opd → Option D
  | .d x => some x
  | .s i => match ρ.getD i none with
    | some (.v d) => some d
    | some (.o b) => b.fz
    | some (.l b) => b.fz
    | none => none
theorem getD_some {ρ : Rho} {i : Nat} {x : DV} (h : ρ.getD i none = some x) : ρ[i]? = some (some x) := by
  rw [List.getD_eq_getElem?_getD] at h
  cases q : ρ[i]? with
  | none => rw [q] at h; cases h
  | some y => rw [q] at h; exact congrArg some h
theorem Rp.look {K : PySem.W.Frag} {G : Gd} {F : Fz} {H : Hp} {R : Nat → Addr → Prop} {σ : St} {ρ : Rho} (r : Rp K G F H R σ ρ) {od : Opd} {v : V} {d : D} (o : OpAt K F σ od v) (h : Rho.look ρ od = some d) : See K F H v d := by
  cases od with
  | d x => cases h; exact .inl o
  | s i =>
    have h' : (match ρ.getD i none with
      | some (.v d) => some d
      | some (.o b) => b.fz
      | some (.l b) => b.fz
      | none => none) = some d := h
    cases q : ρ.getD i none with
    | none => rw [q] at h'; cases h'
    | some x =>
      rw [q] at h'
      have e := getD_some q
      have z : ∃ v, σ[i]? = some (some v) ∧ See K F H v d := by
        cases x with
        | v y => cases h'; exact r.see e (.inl rfl)
        | o b => exact r.see e (.inr ⟨b, .inl rfl, h'⟩)
        | l b => exact r.see e (.inr ⟨b, .inr rfl, h'⟩)
      obtain ⟨u, e1, e2⟩ := z
      have o' : σ[i]? = some (some v) := o
      rw [e1] at o'
      cases o'
      exact e2
theorem OpAt.le {K : PySem.W.Frag} {F F' : Fz} {σ : St} {od : Opd} {v : V} (h : Fle F F') (o : OpAt K F σ od v) : OpAt K F' σ od v := by
  cases od with
  | d x => exact Den.le h o
  | s i => exact o
/-- with what the operand reads as -/
def see1 (ρ : Rho) (a : Opd) (k : D → Prop) : Prop := match ρ.look a with
  | some x => k x
  | none => False
def see2 (ρ : Rho) (a b : Opd) (k : D → D → Prop) : Prop := see1 ρ a fun x => see1 ρ b fun y => k x y
theorem see1_of {ρ : Rho} {a : Opd} {k : D → Prop} (h : see1 ρ a k) : ∃ x, ρ.look a = some x ∧ k x := by
  unfold see1 at h
  cases q : ρ.look a with
  | none => rw [q] at h; exact h.elim
  | some x => rw [q] at h; exact ⟨x, rfl, h⟩
/-! ### operations by values -/
def OpS (X : Cx) (f : D → D → (D → Prop) → Prop) (r : R2) : Prop := ∀ (F : Fz) (H : Hp) (x y : V) (dx dy : D) (P : D → Prop) (Q : VK), Fit F H → See X.K F H x dx → See X.K F H y dy → f dx dy P →
  (∀ z d F' H', Grow F H F' H' → Den X.K F' z d → P d → Q z H') → r x y H Q
def UnS (X : Cx) (f : D → (D → Prop) → Prop) (r : V → Hp → VK → Prop) : Prop := ∀ (F : Fz) (H : Hp) (x : V) (dx : D) (P : D → Prop) (Q : VK), Fit F H → See X.K F H x dx → f dx P →
  (∀ z d F' H', Grow F H F' H' → Den X.K F' z d → P d → Q z H') → r x H Q
/-- a fresh object of one's own -/
def Own (K : PySem.W.Frag) (F : Fz) (H : Hp) (F' : Fz) (H' : Hp) (b : Box) (z : V) : Prop := ∃ T : Addr → Prop, Grow F H F' H' ∧ (∀ a, T a → H a = none ∧ H' a ≠ none ∧ F' a = none) ∧ BoxAt K F' H' T b z
def OpO (X : Cx) (f : D → D → (Box → Prop) → Prop) (r : R2) : Prop := ∀ (F : Fz) (H : Hp) (x y : V) (dx dy : D) (P : Box → Prop) (Q : VK), Fit F H → See X.K F H x dx → See X.K F H y dy → f dx dy P →
  (∀ z b F' H', Own X.K F H F' H' b z → P b → Q z H') → r x y H Q
section
variable {X : Cx} {a b c : Expr} {pos : Pos}
/-! ### names, constants -/
/-- a slot, for good: an object of one's own is given away -/
def dVar (i : Nat) : TED := fun ρ Q _ => match ρ.getD i none with
  | some (.v d) => Q d ρ
  | _ => False
def dSlot (i : Nat) : TOD := fun ρ Q _ => Q (.s i) ρ
theorem de_var {i : Nat} (h : PE X a (tVar i)) : DE X a (dVar i) := fun W tk => pe_imp h fun σ H Q ⟨G, F, R, ρ, Qd, Xd, r, q, n, x⟩ => by
  have q' : (match ρ.getD i none with
    | some (.v d) => Qd d ρ
    | _ => False) := q
  cases e : ρ.getD i none with
  | none => rw [e] at q'; exact q'.elim
  | some y =>
    rw [e] at q'
    cases y with
    | v d =>
      obtain ⟨v, h1, h2⟩ := r.at_ i _ (getD_some e)
      exact ⟨v, h1, n d ρ v F H R r (.refl F) h2 q'⟩
    | o b => exact q'.elim
    | l b => exact q'.elim
/-- (the slot must hold something) -/
def dSlotH (i : Nat) : TOD := fun ρ Q _ => match ρ.getD i none with
  | some _ => Q (.s i) ρ
  | none => False
theorem do_var {i : Nat} (h : PE X a (tVar i)) : DO X a (dSlotH i) := fun W tk => pe_imp h fun σ H Q ⟨G, F, R, ρ, Qd, Xd, r, q, n, x⟩ => by
  have q' : (match ρ.getD i none with
    | some _ => Qd (.s i) ρ
    | none => False) := q
  cases e : ρ.getD i none with
  | none => rw [e] at q'; exact q'.elim
  | some y =>
    rw [e] at q'
    obtain ⟨v, h1, h2⟩ := r.at_ i _ (getD_some e)
    exact ⟨v, h1, n (.s i) ρ v F H R r (.refl F) h1 q'⟩
def dC (d : D) : TED := fun ρ Q _ => Q d ρ
theorem de_c {v : V} {d : D} (h : PE X a (tC v)) (hd : ∀ F, Den X.K F v d) : DE X a (dC d) := fun W tk => pe_imp h fun σ H Q ⟨G, F, R, ρ, Qd, Xd, r, q, n, x⟩ => n d ρ v F H R r (.refl F) (hd F) q
theorem de_int {i j pos} : DE X (.Constant (.int i) j pos) (dC (.int i)) := de_c pe_int fun _ => .int i
theorem de_bl {b j pos} : DE X (.Constant (.bool b) j pos) (dC (.bl b)) := de_c pe_bl fun _ => .bl b
theorem de_non {j pos} : DE X (.Constant .none j pos) (dC .non) := de_c pe_non fun _ => .non
theorem de_str {x j pos} : DE X (.Constant (.str x) j pos) (dC (.str x)) := de_c pe_str fun _ => .str x
/-- from a tree to an operand -/
def dOpd (t : TED) : TOD := fun ρ Q X => t ρ (fun d ρ' => Q (.d d) ρ') X
theorem do_of {t : TED} (h : DE X a t) : DO X a (dOpd t) := fun W tk => pe_imp (h W tk) fun σ H Q ⟨G, F, R, ρ, Qd, Xd, r, q, n, x⟩ =>
  ⟨G, F, R, ρ, fun d ρ' => Qd (.d d) ρ', Xd, r, q, fun d ρ' v F' H' R' r' l hd qd => n (.d d) ρ' v F' H' R' r' l hd qd, x⟩
/-- from a tree to a value -/
def dXof (t : TED) : TXD := fun ρ Q X => t ρ (fun d ρ' => Q (.v d) ρ') X
theorem dx_of {t : TED} (h : DE X a t) : DX X a (dXof t) := fun W tk => pe_imp (h W tk) fun σ H Q ⟨G, F, R, ρ, Qd, Xd, r, q, n, x⟩ =>
  ⟨G, F, R, ρ, fun d ρ' => Qd (.v d) ρ', Xd, r, q, fun d ρ' v F' H' R' r' l hd qd => n (.v d) ρ' v F' H' R' NoR r' l .no hd (fun b z => nomatch z) qd, x⟩
/-! ### freezing -/
theorem Fit.frz {F : Fz} {H : Hp} (f : Fit F H) {p : Addr} {o : HO} (h : H p = some o) (n : F p = none) : Fit (updF F p (.hard o)) H := fun a g e => by
  by_cases q : a = p
  · subst q
    rw [updF_same] at e
    cases e
    exact h
  · rw [updF_ne q] at e
    exact f a g e
/-- an object that is one's own (in no slot) is given to the ghost heap -/
theorem Rp.frz {K : PySem.W.Frag} {G : Gd} {F : Fz} {H : Hp} {R : Nat → Addr → Prop} {σ : St} {ρ : Rho} (r : Rp K G F H R σ ρ) {p : Addr} {o : HO} (h : H p = some o) (n : F p = none) (ho : G.Ho p = none) (nr : ∀ i, ¬ R i p) :
    Rp K G (updF F p (.hard o)) H R σ ρ := by
  refine ⟨r.fit.frz h n, fun a u e => ?_, r.len, fun i x e => ?_, fun i a e => ?_, r.dis, r.lnt⟩
  · obtain ⟨h1, h2⟩ := r.out a u e
    exact ⟨h1, by rw [updF_ne (fun z => by rw [z, ho] at e; cases e)]; exact h2⟩
  · obtain ⟨v, h1, h2⟩ := r.at_ i x e
    exact ⟨v, h1, h2.keep (.upd n) (fun _ _ => rfl) fun _ ra => ra⟩
  · obtain ⟨h1, h2, h3⟩ := r.reg i a e
    exact ⟨by rw [updF_ne (fun z => by subst z; exact nr i e)]; exact h1, h2, h3⟩
theorem frz_at {K : PySem.W.Frag} {G : Gd} {F : Fz} {H : Hp} {R : Nat → Addr → Prop} {σ : St} {ρ : Rho} {T : Addr → Prop} (r : Rp K G F H R σ ρ) (t : Tmp G F H R T) : ∀ {b : Box} {v : V} {d : D}, BoxAt K F H T b v → b.fz = some d →
    ∃ F', Rp K G F' H R σ ρ ∧ Fle F F' ∧ Den K F' v d
  | .lst xs, v, d, ⟨p, vs, e, rp, h, dl⟩, z => by
    cases z
    obtain ⟨t1, t2, t3, t4⟩ := t p rp
    subst e
    exact ⟨_, r.frz h t1 t2 t4, .upd t1, .lst (hp_of updF_same) (dl.le (.upd t1))⟩
  | .dic xs, v, d, ⟨p, vs, e, rp, h, dl⟩, z => by
    cases z
    obtain ⟨t1, t2, t3, t4⟩ := t p rp
    subst e
    exact ⟨_, r.frz h t1 t2 t4, .upd t1, .dic (hp_of updF_same) (dl.le (.upd t1))⟩
  | .ins C xs, v, d, ⟨p, dx, vs, e, rp, h, dl⟩, z => by
    cases z
    obtain ⟨t1, t2, t3, t4⟩ := t p rp
    subst e
    exact ⟨_, r.frz h t1 t2 t4, .upd t1, .ins (hp_of updF_same) (dl.le (.upd t1))⟩
  | .dil _, _, _, _, z => by cases z
/-- a fresh object given away at once -/
def dFz (t : TXD) : TED := fun ρ Q X => t ρ (fun x ρ' => match x with
  | .v d => Q d ρ'
  | .o b => ∃ d, b.fz = some d ∧ Q d ρ'
  | .l _ => False) X
theorem de_fz {t : TXD} (h : DX X a t) : DE X a (dFz t) := fun W tk => pe_imp (h W tk) fun σ H Q ⟨G, F, R, ρ, Qd, Xd, r, q, n, x⟩ =>
  ⟨G, F, R, ρ, _, Xd, r, q, fun y ρ' v F' H' R' T r' l t hy nl qd => by
    cases y with
    | v d => exact n d ρ' v F' H' R' r' l hy qd
    | o b =>
      obtain ⟨d, hd, qd⟩ := qd
      obtain ⟨F2, r2, l2, h2⟩ := frz_at r' t hy hd
      exact n d ρ' v F2 H' R' r2 (l.trans l2) h2 qd
    | l b => exact absurd rfl (nl b), x⟩
/-- a slot is forgotten, its region is free -/
theorem Rp.release {K : PySem.W.Frag} {G : Gd} {F : Fz} {H : Hp} {R : Nat → Addr → Prop} {σ : St} {ρ : Rho} (r : Rp K G F H R σ ρ) (i : Nat) :
    ∃ R', Rp K G F H R' σ (ρ.set i none) ∧ Tmp G F H R' (R i) := by
  have r0 := r.forget i
  -- the slot's region is free now
  have r1 : Rp K G F H (fun j a => if j = i then False else R j a) σ (ρ.set i none) := by
    refine ⟨r0.fit, r0.out, r0.len, fun j x ej => ?_, fun j a ej => ?_, fun j k a e1 e2 => ?_, r0.lnt⟩
    · obtain ⟨u, g1, g2⟩ := r0.at_ j x ej
      refine ⟨u, g1, g2.keep (.refl F) (fun _ _ => rfl) fun a ra => ?_⟩
      show if j = i then False else R j a
      rw [if_neg fun z => ?_]
      · exact ra
      · subst z
        by_cases hlt : j < ρ.length
        · rw [List.getElem?_set_self hlt] at ej; cases ej
        · rw [List.getElem?_eq_none (by simpa using hlt)] at ej; cases ej
    · have e' : if j = i then False else R j a := ej
      by_cases q : j = i
      · rw [if_pos q] at e'; exact e'.elim
      · rw [if_neg q] at e'; exact r.reg j a e'
    · have e1' : if j = i then False else R j a := e1
      have e2' : if k = i then False else R k a := e2
      by_cases q : j = i
      · rw [if_pos q] at e1'; exact e1'.elim
      · by_cases q2 : k = i
        · rw [if_pos q2] at e2'; exact e2'.elim
        · rw [if_neg q] at e1'; rw [if_neg q2] at e2'; exact r.dis j k a e1' e2'
  have t : Tmp G F H (fun j a => if j = i then False else R j a) (R i) := fun a ha => by
    obtain ⟨g1, g2, g3⟩ := r.reg i a ha
    refine ⟨g1, g2, g3, fun j hj => ?_⟩
    have hj' : if j = i then False else R j a := hj
    by_cases q : j = i
    · rw [if_pos q] at hj'; exact hj'
    · rw [if_neg q] at hj'; exact q (r.dis j i a hj' ha)
  exact ⟨_, r1, t⟩
/-- a slot's own object is given away, the slot still reads as it -/
def dGive (i : Nat) : TED := fun ρ Q _ => match ρ.getD i none with
  | some (.v d) => Q d ρ
  | some (.o b) => ∃ d, b.fz = some d ∧ Q d (ρ.set i (some (.v d)))
  | _ => False
theorem Rp.give {K : PySem.W.Frag} {G : Gd} {F : Fz} {H : Hp} {R : Nat → Addr → Prop} {σ : St} {ρ : Rho} {i : Nat} {b : Box} {d : D} (r : Rp K G F H R σ ρ) (e : ρ[i]? = some (some (.o b))) (hd : b.fz = some d) :
    ∃ F' R' v, σ[i]? = some (some v) ∧ Rp K G F' H R' σ (ρ.set i (some (.v d))) ∧ Fle F F' ∧ Den K F' v d := by
  obtain ⟨v, h1, h2⟩ := r.at_ i _ e
  obtain ⟨R1, r1, t⟩ := r.release i
  obtain ⟨F2, r2, l2, d2⟩ := frz_at r1 t h2 hd
  have r3 := r2.set (i := i) (x := .v d) (v := v) (T := NoR) Tmp.no d2 (fun b z => nomatch z)
  have es : σ.set i (some v) = σ := by
    obtain ⟨hl, he⟩ := List.getElem?_eq_some_iff.mp h1
    rw [← he]
    exact List.set_getElem_self hl
  rw [es, List.set_set] at r3
  exact ⟨F2, _, v, h1, r3, l2, d2⟩
theorem de_give {i : Nat} (h : PE X a (tVar i)) : DE X a (dGive i) := fun W tk => pe_imp h fun σ H Q ⟨G, F, R, ρ, Qd, Xd, r, q, n, x⟩ => by
  have q' : (match ρ.getD i none with
    | some (.v d) => Qd d ρ
    | some (.o b) => ∃ d, b.fz = some d ∧ Qd d (ρ.set i (some (.v d)))
    | _ => False) := q
  cases e : ρ.getD i none with
  | none => rw [e] at q'; exact q'.elim
  | some y =>
    rw [e] at q'
    cases y with
    | v d =>
      obtain ⟨v, h1, h2⟩ := r.at_ i _ (getD_some e)
      exact ⟨v, h1, n d ρ v F H R r (.refl F) h2 q'⟩
    | o b =>
      obtain ⟨d, hd, qd⟩ := q'
      obtain ⟨F2, R2, v, h1, r2, l2, d2⟩ := r.give (getD_some e) hd
      exact ⟨v, h1, n d _ v F2 H R2 r2 l2 d2 qd⟩
    | l b => exact q'.elim
/-- a slot's own object moves on (the slot is forgotten) -/
def dMove (i : Nat) : TXD := fun ρ Q _ => match ρ.getD i none with
  | some (.v d) => Q (.v d) ρ
  | some (.o b) => Q (.o b) (ρ.set i none)
  | _ => False
theorem dx_move {i : Nat} (h : PE X a (tVar i)) : DX X a (dMove i) := fun W tk => pe_imp h fun σ H Q ⟨G, F, R, ρ, Qd, Xd, r, q, n, x⟩ => by
  have q' : (match ρ.getD i none with
    | some (.v d) => Qd (.v d) ρ
    | some (.o b) => Qd (.o b) (ρ.set i none)
    | _ => False) := q
  cases e : ρ.getD i none with
  | none => rw [e] at q'; exact q'.elim
  | some y =>
    rw [e] at q'
    cases y with
    | v d =>
      obtain ⟨v, h1, h2⟩ := r.at_ i _ (getD_some e)
      exact ⟨v, h1, n (.v d) ρ v F H R NoR r (.refl F) .no h2 (fun b z => nomatch z) q'⟩
    | o b =>
      obtain ⟨v, h1, h2⟩ := r.at_ i _ (getD_some e)
      obtain ⟨R1, r1, t⟩ := r.release i
      exact ⟨v, h1, n (.o b) _ v F H _ (R i) r1 (.refl F) t h2 (fun b z => nomatch z) q'⟩
    | l b => exact q'.elim
end
end PD
set_option maxHeartbeats 1000000
namespace PD
open PySem L2
/-! ### operations: one reading by data -/
def rD (K : PySem.W.Frag) (f : D → D → (D → Prop) → Prop) : R2 := fun x y H Q => ∃ (F : Fz) (dx dy : D) (P : D → Prop), Fit F H ∧ See K F H x dx ∧ See K F H y dy ∧ f dx dy P ∧ ∀ z d F' H', Grow F H F' H' → Den K F' z d → P d → Q z H'
def uD (K : PySem.W.Frag) (f : D → (D → Prop) → Prop) : V → Hp → VK → Prop := fun x H Q => ∃ (F : Fz) (dx : D) (P : D → Prop), Fit F H ∧ See K F H x dx ∧ f dx P ∧ ∀ z d F' H', Grow F H F' H' → Den K F' z d → P d → Q z H'
def dOp (f : D → D → (D → Prop) → Prop) (ta tb : TOD) : TED := fun ρ Q X => ta ρ (fun oa ρ1 => tb ρ1 (fun ob ρ2 => see2 ρ2 oa ob fun x y => f x y fun d => Q d ρ2) X) X
def dUn (f : D → (D → Prop) → Prop) (ta : TOD) : TED := fun ρ Q X => ta ρ (fun oa ρ1 => see1 ρ1 oa fun x => f x fun d => Q d ρ1) X
theorem le_op {K : PySem.W.Frag} {W : WX} {f : D → D → (D → Prop) → Prop} {ta tb : TOD} {σ : St} {H : Hp} {Q : VK} (h : LE K W (dOp f ta tb) σ H Q) : tOp (rD K f) (LO K W ta) (LO K W tb) σ H Q := by
  obtain ⟨G, F, R, ρ, Qd, Xd, r, q, n, x⟩ := h
  refine ⟨G, F, R, ρ, _, Xd, r, q, fun oa ρ1 v F1 H1 R1 r1 l1 o1 q1 => ?_, x⟩
  refine ⟨G, F1, R1, ρ1, _, Xd, r1, q1, fun ob ρ2 w F2 H2 R2 r2 l2 o2 q2 => ?_, x.le l1⟩
  obtain ⟨dx, ex, q2⟩ := see1_of q2
  obtain ⟨dy, ey, q2⟩ := see1_of q2
  exact ⟨F2, dx, dy, _, r2.fit, r2.look (o1.le l2) ex, r2.look o2 ey, q2, fun z d F3 H3 g dz p => n d ρ2 z F3 H3 R2 (r2.grow g) ((l1.trans l2).trans g.le) dz p⟩
theorem le_un {K : PySem.W.Frag} {W : WX} {f : D → (D → Prop) → Prop} {ta : TOD} {σ : St} {H : Hp} {Q : VK} (h : LE K W (dUn f ta) σ H Q) : tUn (uD K f) (LO K W ta) σ H Q := by
  obtain ⟨G, F, R, ρ, Qd, Xd, r, q, n, x⟩ := h
  refine ⟨G, F, R, ρ, _, Xd, r, q, fun oa ρ1 v F1 H1 R1 r1 l1 o1 q1 => ?_, x⟩
  obtain ⟨dx, ex, q1⟩ := see1_of q1
  exact ⟨F1, dx, _, r1.fit, r1.look o1 ex, q1, fun z d F3 H3 g dz p => n d ρ1 z F3 H3 R1 (r1.grow g) (l1.trans g.le) dz p⟩
section
variable {X : Cx} {a b c : Expr} {pos : Pos} {ta tb tc : TOD} {f g : D → D → (D → Prop) → Prop}
theorem de_op {op : Operator} (ho : OpR X (binaryOp op) (rD X.K f)) (ha : DO X a ta) (hb : DO X b tb) : DE X (.BinOp a op b pos) (dOp f ta tb) := fun W tk => pe_imp (pe_op ho (ha W tk) (hb W tk)) fun _ _ _ h => le_op h
theorem de_cmp {op : CmpOp} (ho : OpR X (compareOp op) (rD X.K f)) (ha : DO X a ta) (hb : DO X b tb) (hm : behindInMarks op b = false) : DE X (.Compare a [op] [b] pos) (dOp f ta tb) := fun W tk => pe_imp (pe_cmpR ho (ha W tk) (hb W tk) hm) fun _ _ _ h => le_op h
theorem de_un {op : UnaryOp} {f : D → (D → Prop) → Prop} (ho : UnR X (unaryOp op) (uD X.K f)) (ha : DO X a ta) : DE X (.UnaryOp op a pos) (dUn f ta) := fun W tk => pe_imp (pe_un ho (ha W tk)) fun _ _ _ h => le_un h
/-- a test by a bool value -/
def dTest (t : TED) : TTD := fun ρ Q X => t ρ (fun d ρ' => match d with
  | .bl b => Q b ρ'
  | _ => False) X
theorem lt_test {K : PySem.W.Frag} {W : WX} {t : TED} {σ : St} {H : Hp} {Q : Bool → Hp → Prop} (h : LT K W (dTest t) σ H Q) : LE K W t σ H fun x H' => ∃ k, x = .bl k ∧ Q k H' := by
  obtain ⟨G, F, R, ρ, Qd, Xd, r, q, n, x⟩ := h
  refine ⟨G, F, R, ρ, _, Xd, r, q, fun d ρ' v F' H' R' r' l hd qd => ?_, x⟩
  cases d with
  | bl k => cases hd; exact ⟨k, rfl, n k ρ' F' H' R' r' l qd⟩
  | _ => exact qd.elim
theorem dt_cmp {op : CmpOp} (ho : OpR X (compareOp op) (rD X.K f)) (ha : DO X a ta) (hb : DO X b tb) (hm : behindInMarks op b = false) : DT X (.Compare a [op] [b] pos) (dTest (dOp f ta tb)) :=
  fun W tk => pt_imp (pt_cmpR ho (ha W tk) (hb W tk) hm) fun _ _ _ h => le_op (lt_test h)
theorem dt_val {t : TED} (h : DE X a t) (he : ∀ whole, isTrue a X.env whole = (do let v ← whole; standAt a.pos; holding [v] (truthy v)) := by intro _; rfl) : DT X a (dTest t) :=
  fun W tk => pt_imp (pt_val (h W tk) he) fun _ _ _ h => lt_test h
/-- a value's truth -/
def truD : D → (Bool → Prop) → Prop
  | .non, k => k false
  | .bl b, k => k b
  | .int i, k => k (i != 0)
  | .str y, k => y.length ≤ sizeLine ∧ k ((y.length : Int) != 0)
  | .lst xs, k => k (!xs.isEmpty)
  | .tup xs, k => k (!xs.isEmpty)
  | .dic xs, k => k (!xs.isEmpty)
  | _, _ => False
def dTruth (ta : TOD) : TTD := fun ρ Q X => ta ρ (fun oa ρ1 => see1 ρ1 oa fun x => truD x fun k => Q k ρ1) X
theorem DenL.isEmpty {K : PySem.W.Frag} {F : Fz} {vs : List V} {ds : List D} (h : DenL K F vs ds) : (!ds.isEmpty) = !vs.isEmpty := by cases h <;> rfl
theorem DenK.isEmpty {K : PySem.W.Frag} {F : Fz} {vs : List (Key × V)} {ds : List (Key × D)} (h : DenK K F vs ds) : (!ds.isEmpty) = !vs.isEmpty := by cases h <;> rfl
theorem truV_of {K : PySem.W.Frag} {F : Fz} {H : Hp} {v : V} {d : D} {k : Bool → Prop} (fit : Fit F H) (s : See K F H v d) (h : truD d k) : ∃ b, TruV K v H b ∧ k b := by
  cases d with
  | non => cases s.non; exact ⟨_, rfl, h⟩
  | bl b => cases s.bl; exact ⟨_, rfl, h⟩
  | int i => cases s.int; exact ⟨_, rfl, h⟩
  | str y => cases s.str; exact ⟨_, ⟨h.1, rfl⟩, h.2⟩
  | lst xs =>
    obtain ⟨p, vs, rfl, hp, dl⟩ := s.lst fit
    have h' : k (!xs.isEmpty) := h
    rw [dl.isEmpty] at h'
    exact ⟨_, .inl ⟨vs, SqL.of hp, rfl⟩, h'⟩
  | tup xs =>
    obtain ⟨p, vs, rfl, hp, dl⟩ := s.tup fit
    have h' : k (!xs.isEmpty) := h
    rw [dl.isEmpty] at h'
    exact ⟨_, .inr (.inl ⟨vs, hp, rfl⟩), h'⟩
  | dic xs =>
    obtain ⟨p, vs, rfl, hp, dl⟩ := s.dic fit
    have h' : k (!xs.isEmpty) := h
    rw [dl.isEmpty] at h'
    exact ⟨_, .inr (.inr ⟨vs, hp, rfl⟩), h'⟩
  | _ => exact h.elim
theorem dt_truth (h : DO X a ta) (he : ∀ whole, isTrue a X.env whole = (do let v ← whole; standAt a.pos; holding [v] (truthy v)) := by intro _; rfl) : DT X a (dTruth ta) :=
  fun W tk => pt_imp (pt_truth (h W tk) he) fun σ H Q ⟨G, F, R, ρ, Qd, Xd, r, q, n, x⟩ =>
    ⟨G, F, R, ρ, _, Xd, r, q, fun oa ρ1 v F1 H1 R1 r1 l1 o1 q1 => by
      obtain ⟨dx, ex, q1⟩ := see1_of q1
      obtain ⟨k, t, q2⟩ := truV_of r1.fit (r1.look o1 ex) q1
      exact ⟨k, t, n k ρ1 F1 H1 R1 r1 l1 q2⟩, x⟩
/-! ### and, or, not, if else -/
def dAnd (t u : TTD) : TTD := fun ρ Q X => t ρ (fun c ρ1 => if c = true then u ρ1 Q X else Q false ρ1) X
def dOr (t u : TTD) : TTD := fun ρ Q X => t ρ (fun c ρ1 => if c = true then Q true ρ1 else u ρ1 Q X) X
def dNot (t : TTD) : TTD := fun ρ Q X => t ρ (fun c ρ1 => Q (!c) ρ1) X
variable {t u : TTD} {rest : List Expr}
theorem dw_and1 (ha : DT X a t) : DW X (.BoolOp .And [a] pos) t := fun W tk => pw_and1 (ha W tk)
theorem dw_or1 (ha : DT X a t) : DW X (.BoolOp .Or [a] pos) t := fun W tk => pw_or1 (ha W tk)
theorem dw_and (ha : DT X a t) (hb : DW X (.BoolOp .And (b :: rest) pos) u) : DW X (.BoolOp .And (a :: b :: rest) pos) (dAnd t u) := fun W tk =>
  pw_imp (pw_and (ha W tk) (hb W tk)) fun σ H Q ⟨G, F, R, ρ, Qd, Xd, r, q, n, x⟩ => ⟨G, F, R, ρ, _, Xd, r, q, fun c ρ1 F1 H1 R1 r1 l1 q1 => by
    cases c with
    | true =>
      rw [if_pos rfl] at q1 ⊢
      exact ⟨G, F1, R1, ρ1, _, Xd, r1, q1, fun b ρ2 F2 H2 R2 r2 l2 q2 => n b ρ2 F2 H2 R2 r2 (l1.trans l2) q2, x.le l1⟩
    | false =>
      rw [if_neg Bool.false_ne_true] at q1 ⊢
      exact n false ρ1 F1 H1 R1 r1 l1 q1, x⟩
theorem dw_or (ha : DT X a t) (hb : DW X (.BoolOp .Or (b :: rest) pos) u) : DW X (.BoolOp .Or (a :: b :: rest) pos) (dOr t u) := fun W tk =>
  pw_imp (pw_or (ha W tk) (hb W tk)) fun σ H Q ⟨G, F, R, ρ, Qd, Xd, r, q, n, x⟩ => ⟨G, F, R, ρ, _, Xd, r, q, fun c ρ1 F1 H1 R1 r1 l1 q1 => by
    cases c with
    | true =>
      rw [if_pos rfl] at q1 ⊢
      exact n true ρ1 F1 H1 R1 r1 l1 q1
    | false =>
      rw [if_neg Bool.false_ne_true] at q1 ⊢
      exact ⟨G, F1, R1, ρ1, _, Xd, r1, q1, fun b ρ2 F2 H2 R2 r2 l2 q2 => n b ρ2 F2 H2 R2 r2 (l1.trans l2) q2, x.le l1⟩, x⟩
theorem DW.dt (h : DW X a t) : DT X a t := fun W tk => (h W tk).pt
theorem dt_not (ha : DT X a t) : DT X (.UnaryOp .Not a pos) (dNot t) := fun W tk =>
  pt_imp (pt_not (ha W tk)) fun σ H Q ⟨G, F, R, ρ, Qd, Xd, r, q, n, x⟩ => ⟨G, F, R, ρ, _, Xd, r, q, fun c ρ1 F1 H1 R1 r1 l1 q1 => n (!c) ρ1 F1 H1 R1 r1 l1 q1, x⟩
/-- .. as values (bools) -/
def dAndV (t u : TED) : TED := fun ρ Q X => t ρ (fun d ρ1 => match d with
  | .bl c => if c = true then u ρ1 Q X else Q (.bl false) ρ1
  | _ => False) X
def dOrV (t u : TED) : TED := fun ρ Q X => t ρ (fun d ρ1 => match d with
  | .bl c => if c = true then Q (.bl true) ρ1 else u ρ1 Q X
  | _ => False) X
def dNotV (t : TED) : TED := fun ρ Q X => t ρ (fun d ρ1 => match d with
  | .bl c => Q (.bl (!c)) ρ1
  | _ => False) X
def dIf (t : TTD) (a b : TED) : TED := fun ρ Q X => t ρ (fun c ρ1 => if c = true then a ρ1 Q X else b ρ1 Q X) X
def dIfX (t : TTD) (a b : TXD) : TXD := fun ρ Q X => t ρ (fun c ρ1 => if c = true then a ρ1 Q X else b ρ1 Q X) X
variable {ea eb : TED}
theorem de_one {op} (h : DE X a ea) : DE X (.BoolOp op [a] pos) ea := fun W tk => pe_one (h W tk)
theorem de_and (ha : DE X a ea) (hb : DE X (.BoolOp .And (b :: rest) pos) eb) : DE X (.BoolOp .And (a :: b :: rest) pos) (dAndV ea eb) := fun W tk =>
  pe_imp (pe_and (ha W tk) (hb W tk)) fun σ H Q ⟨G, F, R, ρ, Qd, Xd, r, q, n, x⟩ => ⟨G, F, R, ρ, _, Xd, r, q, fun d ρ1 v F1 H1 R1 r1 l1 hd q1 => by
    cases d with
    | bl c =>
      cases hd
      refine ⟨c, rfl, ?_⟩
      have q1' : if c = true then eb ρ1 Qd Xd else Qd (.bl false) ρ1 := q1
      cases c with
      | true =>
        rw [if_pos rfl] at q1' ⊢
        exact ⟨G, F1, R1, ρ1, _, Xd, r1, q1', fun b ρ2 v2 F2 H2 R2 r2 l2 h2 q2 => n b ρ2 v2 F2 H2 R2 r2 (l1.trans l2) h2 q2, x.le l1⟩
      | false =>
        rw [if_neg Bool.false_ne_true] at q1' ⊢
        exact n _ ρ1 _ F1 H1 R1 r1 l1 (.bl false) q1'
    | _ => exact q1.elim, x⟩
theorem de_or (ha : DE X a ea) (hb : DE X (.BoolOp .Or (b :: rest) pos) eb) : DE X (.BoolOp .Or (a :: b :: rest) pos) (dOrV ea eb) := fun W tk =>
  pe_imp (pe_or (ha W tk) (hb W tk)) fun σ H Q ⟨G, F, R, ρ, Qd, Xd, r, q, n, x⟩ => ⟨G, F, R, ρ, _, Xd, r, q, fun d ρ1 v F1 H1 R1 r1 l1 hd q1 => by
    cases d with
    | bl c =>
      cases hd
      refine ⟨c, rfl, ?_⟩
      have q1' : if c = true then Qd (.bl true) ρ1 else eb ρ1 Qd Xd := q1
      cases c with
      | true =>
        rw [if_pos rfl] at q1' ⊢
        exact n _ ρ1 _ F1 H1 R1 r1 l1 (.bl true) q1'
      | false =>
        rw [if_neg Bool.false_ne_true] at q1' ⊢
        exact ⟨G, F1, R1, ρ1, _, Xd, r1, q1', fun b ρ2 v2 F2 H2 R2 r2 l2 h2 q2 => n b ρ2 v2 F2 H2 R2 r2 (l1.trans l2) h2 q2, x.le l1⟩
    | _ => exact q1.elim, x⟩
theorem de_not (ha : DE X a ea) : DE X (.UnaryOp .Not a pos) (dNotV ea) := fun W tk =>
  pe_imp (pe_not (ha W tk)) fun σ H Q ⟨G, F, R, ρ, Qd, Xd, r, q, n, x⟩ => ⟨G, F, R, ρ, _, Xd, r, q, fun d ρ1 v F1 H1 R1 r1 l1 hd q1 => by
    cases d with
    | bl c => cases hd; exact ⟨c, rfl, n _ ρ1 _ F1 H1 R1 r1 l1 (.bl _) q1⟩
    | _ => exact q1.elim, x⟩
theorem de_ifExp (hc : DT X c t) (ha : DE X a ea) (hb : DE X b eb) : DE X (.IfExp c a b pos) (dIf t ea eb) := fun W tk =>
  pe_imp (pe_ifExp (hc W tk) (ha W tk) (hb W tk)) fun σ H Q ⟨G, F, R, ρ, Qd, Xd, r, q, n, x⟩ => ⟨G, F, R, ρ, _, Xd, r, q, fun k ρ1 F1 H1 R1 r1 l1 q1 => by
    cases k with
    | true =>
      rw [if_pos rfl] at q1 ⊢
      exact ⟨G, F1, R1, ρ1, _, Xd, r1, q1, fun b ρ2 v2 F2 H2 R2 r2 l2 h2 q2 => n b ρ2 v2 F2 H2 R2 r2 (l1.trans l2) h2 q2, x.le l1⟩
    | false =>
      rw [if_neg Bool.false_ne_true] at q1 ⊢
      exact ⟨G, F1, R1, ρ1, _, Xd, r1, q1, fun b ρ2 v2 F2 H2 R2 r2 l2 h2 q2 => n b ρ2 v2 F2 H2 R2 r2 (l1.trans l2) h2 q2, x.le l1⟩, x⟩
theorem dx_ifExp {xa xb : TXD} (hc : DT X c t) (ha : DX X a xa) (hb : DX X b xb) : DX X (.IfExp c a b pos) (dIfX t xa xb) := fun W tk =>
  pe_imp (pe_ifExp (hc W tk) (ha W tk) (hb W tk)) fun σ H Q ⟨G, F, R, ρ, Qd, Xd, r, q, n, x⟩ => ⟨G, F, R, ρ, _, Xd, r, q, fun k ρ1 F1 H1 R1 r1 l1 q1 => by
    cases k with
    | true =>
      rw [if_pos rfl] at q1 ⊢
      exact ⟨G, F1, R1, ρ1, _, Xd, r1, q1, fun b ρ2 v2 F2 H2 R2 T r2 l2 t2 h2 nl q2 => n b ρ2 v2 F2 H2 R2 T r2 (l1.trans l2) t2 h2 nl q2, x.le l1⟩
    | false =>
      rw [if_neg Bool.false_ne_true] at q1 ⊢
      exact ⟨G, F1, R1, ρ1, _, Xd, r1, q1, fun b ρ2 v2 F2 H2 R2 T r2 l2 t2 h2 nl q2 => n b ρ2 v2 F2 H2 R2 T r2 (l1.trans l2) t2 h2 nl q2, x.le l1⟩, x⟩
/-! ### argument lists, displays -/
def dNil : TAD := fun ρ Q _ => Q [] ρ
def dCons (t : TED) (u : TAD) : TAD := fun ρ Q X => t ρ (fun d ρ1 => u ρ1 (fun ds ρ2 => Q (d :: ds) ρ2) X) X
variable {e : Expr} {es : List Expr} {te : TED} {tr : TAD}
theorem da_nil : DA X [] dNil := fun W tk => pa_imp pa_nil fun σ H Q ⟨G, F, R, ρ, Qd, Xd, r, q, n, x⟩ => n [] ρ [] F H R r (.refl F) .nil q
theorem da_cons (ha : DE X e te) (hr : DA X es tr) (hs : starEach (e :: es) X.env = (false, eval e X.env) :: starEach es X.env := by rfl) : DA X (e :: es) (dCons te tr) := fun W tk =>
  pa_imp (pa_cons (ha W tk) (hr W tk) hs) fun σ H Q ⟨G, F, R, ρ, Qd, Xd, r, q, n, x⟩ => ⟨G, F, R, ρ, _, Xd, r, q, fun d ρ1 v F1 H1 R1 r1 l1 hd q1 =>
    ⟨G, F1, R1, ρ1, _, Xd, r1, q1, fun ds ρ2 vs F2 H2 R2 r2 l2 h2 q2 => n (d :: ds) ρ2 (v :: vs) F2 H2 R2 r2 (l1.trans l2) (.cons (hd.le l2) h2) q2, x.le l1⟩, x⟩
/-- (a, b), [a, b] -/
def dTup (t : TAD) : TED := fun ρ Q X => t ρ (fun ds ρ1 => ds.length ≤ sizeLine ∧ Q (.tup ds) ρ1) X
def dLst (t : TAD) : TXD := fun ρ Q X => t ρ (fun ds ρ1 => ds.length ≤ sizeLine ∧ Q (.o (.lst ds)) ρ1) X
theorem Den.newT {K : PySem.W.Frag} {F : Fz} {H : Hp} (f : Fit F H) {p : Addr} {vs : List V} {ds : List D} (hp : H p = none) (d : DenL K F vs ds) : Grow F H (updF F p (.hard (.tup vs))) (upd H p (.tup vs)) ∧ Den K (updF F p (.hard (.tup vs))) (.ref p) (.tup ds) :=
  ⟨.hard f hp, .tup (.inl (hp_of updF_same)) (d.le (.upd (f.free hp)))⟩
theorem Den.newL {K : PySem.W.Frag} {F : Fz} {H : Hp} (f : Fit F H) {p : Addr} {vs : List V} {ds : List D} (hp : H p = none) (d : DenL K F vs ds) : Grow F H (updF F p (.hard (.lst vs))) (upd H p (.lst vs)) ∧ Den K (updF F p (.hard (.lst vs))) (.ref p) (.lst ds) :=
  ⟨.hard f hp, .lst (hp_of updF_same) (d.le (.upd (f.free hp)))⟩
theorem Rp.ho_free {K : PySem.W.Frag} {G : Gd} {F : Fz} {H : Hp} {R : Nat → Addr → Prop} {σ : St} {ρ : Rho} (r : Rp K G F H R σ ρ) {p : Addr} (hp : H p = none) : F p = none ∧ G.Ho p = none ∧ ∀ i, ¬ R i p := by
  refine ⟨r.fit.free hp, ?_, fun i h => (r.reg i p h).2.2 hp⟩
  cases q : G.Ho p with
  | none => rfl
  | some o => rw [(r.out p o q).1] at hp; cases hp
theorem Tmp.new {K : PySem.W.Frag} {G : Gd} {F : Fz} {H : Hp} {R : Nat → Addr → Prop} {σ : St} {ρ : Rho} (r : Rp K G F H R σ ρ) {p : Addr} {o : HO} (hp : H p = none) : Tmp G F (upd H p o) R (fun a => a = p) := fun a e => by
  subst e
  obtain ⟨h1, h2, h3⟩ := r.ho_free hp
  exact ⟨h1, h2, by rw [upd_same]; exact fun z => (nomatch z), h3⟩
theorem de_tup {x1} (h : DA X es tr) : DE X (.Tuple es x1 pos) (dTup tr) := fun W tk => pe_imp (pe_tup (h W tk)) fun σ H Q ⟨G, F, R, ρ, Qd, Xd, r, q, n, x⟩ =>
  ⟨G, F, R, ρ, _, Xd, r, q, fun ds ρ1 vs F1 H1 R1 r1 l1 h1 ⟨z, q1⟩ => ⟨by rw [h1.length]; exact z, fun p hp => by
    obtain ⟨g, d⟩ := Den.newT r1.fit hp h1
    exact n _ ρ1 _ _ _ R1 (r1.grow g) (l1.trans g.le) d q1⟩, x⟩
theorem dx_lst (h : DA X es tr) : DX X (.List es pos) (dLst tr) := fun W tk => pe_imp (pe_lst (h W tk)) fun σ H Q ⟨G, F, R, ρ, Qd, Xd, r, q, n, x⟩ =>
  ⟨G, F, R, ρ, _, Xd, r, q, fun ds ρ1 vs F1 H1 R1 r1 l1 h1 ⟨z, q1⟩ => ⟨by rw [h1.length]; exact z, fun p hp =>
    n (.o (.lst ds)) ρ1 (.ref p) F1 _ R1 (fun a => a = p) (r1.grow (.own r1.fit hp)) l1 (.new r1 hp) ⟨p, vs, rfl, rfl, upd_same, h1⟩ (fun b z => nomatch z) q1⟩, x⟩
end
end PD
set_option maxHeartbeats 1000000
namespace PD
open PySem L2
/-! ### operators -/
def fAdd : D → D → (D → Prop) → Prop
  | .int i, .int j, P => P (.int (i + j))
  | .str s, .str t, P => s.length + t.length ≤ sizeLine ∧ P (.str (s ++ t))
  | .lst a, .lst b, P => a.length + b.length ≤ sizeLine ∧ P (.lst (a ++ b))
  | _, _, _ => False
def fSub : D → D → (D → Prop) → Prop
  | .int i, .int j, P => P (.int (i - j))
  | _, _, _ => False
def fMul : D → D → (D → Prop) → Prop
  | .int i, .int j, P => CMul i j ∧ P (.int (i * j))
  | _, _, _ => False
def fDiv : D → D → (D → Prop) → Prop
  | .int i, .int j, P => CDivW i j ∧ P (.int (i / j))
  | _, _, _ => False
def fMod : D → D → (D → Prop) → Prop
  | .int i, .int j, P => 0 < j ∧ P (.int (i % j))
  | _, _, _ => False
def fPow : D → D → (D → Prop) → Prop
  | .int i, .int j, P => CPow i j ∧ P (.int (i ^ j.toNat))
  | _, _, _ => False
def fLt : D → D → (D → Prop) → Prop
  | .int i, .int j, P => P (.bl (decide (i < j)))
  | _, _, _ => False
def fLe : D → D → (D → Prop) → Prop
  | .int i, .int j, P => P (.bl (decide (i ≤ j)))
  | _, _, _ => False
def fGt : D → D → (D → Prop) → Prop
  | .int i, .int j, P => P (.bl (decide (j < i)))
  | _, _, _ => False
def fGe : D → D → (D → Prop) → Prop
  | .int i, .int j, P => P (.bl (decide (j ≤ i)))
  | _, _, _ => False
def fNeg : D → (D → Prop) → Prop
  | .int i, P => P (.int (-i))
  | _, _ => False
mutual
/-- as the library's data -/
def D.py : D → PyData
  | .non => .none
  | .bl b => .bool b
  | .int i => .int i
  | .str s => .str s
  | .tup xs => .tuple (D.pyL xs)
  | .lst xs => .list (D.pyL xs)
  | .dic _ => .dict []
  | .ins _ _ => .dict []
  | .obj _ => .dict []
  | .exn _ _ _ _ => .dict []
  | .stm => .dict []
  | .scr _ => .dict []
  | .fn _ => .dict []
def D.pyL : List D → List PyData
  | [] => []
  | x :: xs => D.py x :: D.pyL xs
end
def fEq : D → D → (D → Prop) → Prop
  | .int i, .int j, P => P (.bl (decide (i = j)))
  | .str s, .str t, P => P (.bl (decide (s = t)))
  | .bl a, .bl b, P => P (.bl (decide (a = b)))
  | .non, .int _, P => P (.bl false)
  | .int _, .non, P => P (.bl false)
  | .non, .non, P => P (.bl true)
  | x, y, P => SeqAt.shaped x.py = true ∧ SeqAt.shaped y.py = true ∧ P (.bl (PyData.eqv x.py y.py))
def fNe (x y : D) (P : D → Prop) : Prop := fEq x y fun d => match d with
  | .bl b => P (.bl (!b))
  | _ => False
def fIs : D → D → (D → Prop) → Prop
  | .non, .non, P => P (.bl true)
  | _, .non, P => P (.bl false)
  | _, _, _ => False
def fIsNot : D → D → (D → Prop) → Prop
  | .non, .non, P => P (.bl false)
  | _, .non, P => P (.bl true)
  | _, _, _ => False
/-- flat things -/
def flatD : D → Bool
  | .non | .bl _ | .int _ | .str _ => true
  | _ => false
def eqD : D → D → Bool
  | .non, .non => true
  | .bl a, .bl b => a == b
  | .int a, .int b => a == b
  | .bl a, .int b => (if a then 1 else 0) == b
  | .int a, .bl b => a == (if b then 1 else 0)
  | .str a, .str b => decide (a = b)
  | _, _ => false
def inD (x : D) (xs : List D) : Bool := xs.any fun y => eqD y x
def fIn : D → D → (D → Prop) → Prop
  | .str i, .str j, P => P (.bl (!(Builtin.Str.occurrences j i 0 j.length 1).isEmpty))
  | x, .lst xs, P => (flatD x = true ∧ xs.all flatD = true ∧ P (.bl (inD x xs))) ∨ (SeqAt.shaped x.py = true ∧ SeqAt.shaped (D.lst xs).py = true ∧ P (.bl (xs.any fun z => PyData.eqv z.py x.py)))
  | x, .tup xs, P => flatD x = true ∧ xs.all flatD = true ∧ P (.bl (inD x xs))
  | _, _, _ => False
def fNotIn (x y : D) (P : D → Prop) : Prop := fIn x y fun d => match d with
  | .bl b => P (.bl (!b))
  | _ => False
theorem no_dict {p : Prop} (h : SeqAt.shaped (.dict []) = true ∨ PyData.canLay0 (.dict []) = true) : p := by
  rcases h with h | h
  · have h' := SeqAt.canLay_of_shaped h
    cases h'
  · cases h
mutual
theorem Den.dp {K : PySem.W.Frag} {F : Fz} {H : Hp} (f : Fit F H) : ∀ {v : V} {d : D}, Den K F v d → SeqAt.shaped d.py = true ∨ d.py.canLay0 = true → Dp K H v d.py
  | _, _, .non, _ => .non
  | _, _, .bl b, _ => .bl b
  | _, _, .int i, _ => .int i
  | _, _, .str s, _ => .str s
  | _, _, .tup (ds := ds) q r, h => by
    have h' : PyData.canLayAll0 (D.pyL ds) = true := h.elim SeqAt.canLay_of_shaped id
    exact .tup (q.sq f) (DenL.dp f r h')
  | _, _, .lst (ds := ds) q r, h => by
    have h' : PyData.canLayAll0 (D.pyL ds) = true := h.elim SeqAt.canLay_of_shaped id
    exact .lst (SqL.of (f.rd q)) (DenL.dp f r h')
  | _, _, .dic q r, h => no_dict h
  | _, _, .ins q r, h => no_dict h
  | _, _, .obj a, h => no_dict h
  | _, _, .exn q r, h => no_dict h
  | _, _, .stm q, h => no_dict h
  | _, _, .scr q, h => no_dict h
theorem DenL.dp {K : PySem.W.Frag} {F : Fz} {H : Hp} (f : Fit F H) : ∀ {vs : List V} {ds : List D}, DenL K F vs ds → PyData.canLayAll0 (D.pyL ds) = true → DpAll K H vs (D.pyL ds)
  | _, _, .nil, _ => .nil
  | _, _, .cons (d := d) (ds := ds) q r, h => by
    have h' : (d.py.canLay0 && PyData.canLayAll0 (D.pyL ds)) = true := h
    obtain ⟨h1, h2⟩ := Bool.and_eq_true_iff.mp h'
    exact .cons (Den.dp f q (.inr h1)) (DenL.dp f r h2)
end
theorem See.dp {K : PySem.W.Frag} {F : Fz} {H : Hp} (f : Fit F H) {v : V} {d : D} (s : See K F H v d) (h : SeqAt.shaped d.py = true) : Dp K H v d.py := by
  rcases s with s | ⟨R, b, s, e⟩
  · exact s.dp f (.inl h)
  · cases b with
    | lst xs =>
      cases e
      obtain ⟨p, vs, rfl, _, hp, dl⟩ := s
      have h' : PyData.canLayAll0 (D.pyL xs) = true := SeqAt.canLay_of_shaped h
      exact .lst (SqL.of hp) (dl.dp f h')
    | dic xs => cases e; exact no_dict (.inl h)
    | ins C xs => cases e; exact no_dict (.inl h)
    | dil _ => cases e
/-! ### they are the model's -/
theorem Den.flat {K : PySem.W.Frag} {F : Fz} {v : V} {d : D} (h : Den K F v d) (f : flatD d = true) : flatV v = true := by
  cases h <;> first | rfl | cases f
theorem eqD_V {K : PySem.W.Frag} {F : Fz} {v u : V} {d e : D} (h : Den K F v d) (g : Den K F u e) (hd : flatD d = true) (he : flatD e = true) : eqV v u = eqD d e := by
  cases h <;> first | (cases hd; done) | (cases g <;> first | (cases he; done) | rfl)
theorem inD_V {K : PySem.W.Frag} {F : Fz} {v : V} {d : D} (h : Den K F v d) (hd : flatD d = true) : ∀ {vs : List V} {ds : List D}, DenL K F vs ds → ds.all flatD = true → vs.all flatV = true ∧ inV v vs = inD d ds
  | _, _, .nil, _ => ⟨rfl, rfl⟩
  | _, _, .cons q r, f => by
    rw [List.all_cons, Bool.and_eq_true] at f
    obtain ⟨i1, i2⟩ := inD_V h hd r f.2
    refine ⟨by rw [List.all_cons, q.flat f.1, i1]; rfl, ?_⟩
    show (eqV _ v || inV v _) = (eqD _ d || inD d _)
    rw [eqD_V q h f.1 hd, i2]
theorem See.flat {K : PySem.W.Frag} {F : Fz} {H : Hp} {v : V} {d : D} (s : See K F H v d) (f : flatD d = true) : Den K F v d := by
  rcases s with s | ⟨R, b, s, e⟩
  · exact s
  · cases b <;> cases e <;> cases f
section
variable {X : Cx}
theorem rI_of {C : Int → Int → Prop} {g : Int → Int → D} {gv : Int → Int → V} (hg : ∀ i j F, Den X.K F (gv i j) (g i j)) {fn : Value → Value → Sem Value} (ho : OpR X fn (rI C gv)) {f : D → D → (D → Prop) → Prop}
    (hf : ∀ x y P, f x y P → ∃ i j, x = .int i ∧ y = .int j ∧ C i j ∧ P (g i j)) : OpR X fn (rD X.K f) := by
  intro pins s σ H x y v u Q I rx ry ⟨F, dx, dy, P, fit, sx, sy, h, k⟩
  obtain ⟨i, j, rfl, rfl, hc, p⟩ := hf _ _ _ h
  cases sx.int
  cases sy.int
  exact ho pins s σ H _ _ v u Q I rx ry ⟨i, j, rfl, rfl, hc, k _ _ F H (.refl fit) (hg i j F) p⟩
theorem rI0_of {g : Int → Int → D} {gv : Int → Int → V} (hg : ∀ i j F, Den X.K F (gv i j) (g i j)) {fn : Value → Value → Sem Value} (ho : OpR X fn (rI0 gv)) {f : D → D → (D → Prop) → Prop}
    (hf : ∀ x y P, f x y P → ∃ i j, x = .int i ∧ y = .int j ∧ P (g i j)) : OpR X fn (rD X.K f) := by
  intro pins s σ H x y v u Q I rx ry ⟨F, dx, dy, P, fit, sx, sy, h, k⟩
  obtain ⟨i, j, rfl, rfl, p⟩ := hf _ _ _ h
  cases sx.int
  cases sy.int
  exact ho pins s σ H _ _ v u Q I rx ry ⟨i, j, rfl, rfl, k _ _ F H (.refl fit) (hg i j F) p⟩
theorem ii_of {f : D → D → (D → Prop) → Prop} {C : Int → Int → (D → Prop) → Prop} (h1 : ∀ i j P, f (.int i) (.int j) P = C i j P) (h2 : ∀ x y P, f x y P → ∃ i j, x = .int i ∧ y = .int j) :
    ∀ x y P, f x y P → ∃ i j, x = .int i ∧ y = .int j ∧ C i j P := fun x y P h => by
  obtain ⟨i, j, rfl, rfl⟩ := h2 x y P h
  exact ⟨i, j, rfl, rfl, (h1 i j P) ▸ h⟩
theorem oSub : OpR X (binaryOp .Sub) (rD X.K fSub) := rI0_of (fun i j F => .int _) op_sub fun x y P h => by
  cases x with
  | int i => cases y with
    | int j => exact ⟨i, j, rfl, rfl, h⟩
    | _ => exact h.elim
  | _ => exact h.elim
theorem oMul : OpR X (binaryOp .Mult) (rD X.K fMul) := rI_of (fun i j F => .int _) op_mul fun x y P h => by
  cases x with
  | int i => cases y with
    | int j => exact ⟨i, j, rfl, rfl, h⟩
    | _ => exact h.elim
  | _ => exact h.elim
theorem oDiv : OpR X (binaryOp .FloorDiv) (rD X.K fDiv) := rI_of (fun i j F => .int _) op_fdivW fun x y P h => by
  cases x with
  | int i => cases y with
    | int j => exact ⟨i, j, rfl, rfl, h⟩
    | _ => exact h.elim
  | _ => exact h.elim
theorem oMod : OpR X (binaryOp .Mod) (rD X.K fMod) := rI_of (fun i j F => .int _) op_mod fun x y P h => by
  cases x with
  | int i => cases y with
    | int j => exact ⟨i, j, rfl, rfl, h⟩
    | _ => exact h.elim
  | _ => exact h.elim
theorem oPow : OpR X (binaryOp .Pow) (rD X.K fPow) := rI_of (fun i j F => .int _) op_pow fun x y P h => by
  cases x with
  | int i => cases y with
    | int j => exact ⟨i, j, rfl, rfl, h⟩
    | _ => exact h.elim
  | _ => exact h.elim
theorem oLt : OpR X (compareOp .Lt) (rD X.K fLt) := rI0_of (fun i j F => .bl _) op_lt fun x y P h => by
  cases x with
  | int i => cases y with
    | int j => exact ⟨i, j, rfl, rfl, h⟩
    | _ => exact h.elim
  | _ => exact h.elim
theorem oLe : OpR X (compareOp .LtE) (rD X.K fLe) := rI0_of (fun i j F => .bl _) op_le fun x y P h => by
  cases x with
  | int i => cases y with
    | int j => exact ⟨i, j, rfl, rfl, h⟩
    | _ => exact h.elim
  | _ => exact h.elim
theorem oGt : OpR X (compareOp .Gt) (rD X.K fGt) := rI0_of (fun i j F => .bl _) op_gt fun x y P h => by
  cases x with
  | int i => cases y with
    | int j => exact ⟨i, j, rfl, rfl, h⟩
    | _ => exact h.elim
  | _ => exact h.elim
theorem oGe : OpR X (compareOp .GtE) (rD X.K fGe) := rI0_of (fun i j F => .bl _) op_ge fun x y P h => by
  cases x with
  | int i => cases y with
    | int j => exact ⟨i, j, rfl, rfl, h⟩
    | _ => exact h.elim
  | _ => exact h.elim
theorem oNeg : UnR X (unaryOp .USub) (uD X.K fNeg) := by
  intro pins s σ H x v Q I rx ⟨F, dx, P, fit, sx, h, k⟩
  cases dx with
  | int i => cases sx.int; exact un_neg pins s σ H _ v Q I rx ⟨i, rfl, k _ _ F H (.refl fit) (.int _) h⟩
  | _ => exact h.elim
theorem oAdd : OpR X (binaryOp .Add) (rD X.K fAdd) := by
  intro pins s σ H x y v u Q I rx ry ⟨F, dx, dy, P, fit, sx, sy, h, k⟩
  cases dx with
  | int i => cases dy with
    | int j => cases sx.int; cases sy.int; exact op_add pins s σ H _ _ v u Q I rx ry ⟨i, j, rfl, rfl, k _ _ F H (.refl fit) (.int _) h⟩
    | _ => exact h.elim
  | str i => cases dy with
    | str j => cases sx.str; cases sy.str; exact op_add_str pins s σ H _ _ v u Q I rx ry ⟨i, j, rfl, rfl, h.1, k _ _ F H (.refl fit) (.str _) h.2⟩
    | _ => exact h.elim
  | lst i => cases dy with
    | lst j =>
      obtain ⟨p, vs, rfl, hp, d1⟩ := sx.lst fit
      obtain ⟨q, us, rfl, hq, d2⟩ := sy.lst fit
      refine op_cat pins s σ H _ _ v u Q I rx ry ⟨p, q, vs, us, rfl, rfl, hp, hq, by rw [d1.length, d2.length]; exact h.1, fun z hz => ?_⟩
      obtain ⟨g, d⟩ := Den.newL fit hz (d1.append d2)
      exact k _ _ _ _ g d h.2
    | _ => exact h.elim
  | _ => exact h.elim
theorem oEq_aux (hu : X.A.units + 64 < cLine) {fn : Value → Value → Sem Value} (neg : Bool) (h1 : OpR X fn fun x y H Q => scal x y = true ∧ Q (.bl (if neg then !decide (x = y) else decide (x = y))) H)
    (h2 : OpR X fn fun x y H Q => ∃ d e, Dp X.K H x d ∧ Dp X.K H y e ∧ SeqAt.shaped d = true ∧ SeqAt.shaped e = true ∧ Q (.bl (if neg then !PyData.eqv d e else PyData.eqv d e)) H) :
    OpR X fn (rD X.K fun x y P => fEq x y fun d => match d with
      | .bl b => P (.bl (if neg then !b else b))
      | _ => False) := by
  intro pins s σ H x y v u Q I rx ry ⟨F, dx, dy, P, fit, sx, sy, h, k⟩
  have deep : ∀ {dx dy : D}, See X.K F H x dx → See X.K F H y dy → SeqAt.shaped dx.py = true ∧ SeqAt.shaped dy.py = true ∧ P (.bl (if neg then !PyData.eqv dx.py dy.py else PyData.eqv dx.py dy.py)) →
      wpAny (model X.prog X.w) X.A (fn v u) (EP X pins σ Q) X.xe s := fun s1 s2 ⟨g1, g2, g3⟩ =>
    h2 pins s σ H x y v u Q I rx ry ⟨_, _, s1.dp fit g1, s2.dp fit g2, g1, g2, k _ _ F H (.refl fit) (.bl _) g3⟩
  have scl : ∀ {x' y' : V}, x = x' → y = y' → scal x' y' = true → P (.bl (if neg then !decide (x' = y') else decide (x' = y'))) → wpAny (model X.prog X.w) X.A (fn v u) (EP X pins σ Q) X.xe s := fun e1 e2 g1 g2 => by
    subst e1 e2
    exact h1 pins s σ H x y v u Q I rx ry ⟨g1, k _ _ F H (.refl fit) (.bl _) g2⟩
  cases dx with
  | int i => cases dy with
    | int j => exact scl sx.int sy.int rfl (by rw [show decide (V.int i = V.int j) = decide (i = j) from decide_eq_decide.mpr ⟨V.int.inj, congrArg _⟩]; exact h)
    | non => exact scl sx.int sy.non rfl h
    | _ => exact deep sx sy h
  | str i => cases dy with
    | str j => exact scl sx.str sy.str rfl (by rw [show decide (V.str i = V.str j) = decide (i = j) from decide_eq_decide.mpr ⟨V.str.inj, congrArg _⟩]; exact h)
    | _ => exact deep sx sy h
  | bl i => cases dy with
    | bl j => exact scl sx.bl sy.bl rfl (by rw [show decide (V.bl i = V.bl j) = decide (i = j) from decide_eq_decide.mpr ⟨V.bl.inj, congrArg _⟩]; exact h)
    | _ => exact deep sx sy h
  | non => cases dy with
    | int j => exact scl sx.non sy.int rfl h
    | non => exact scl sx.non sy.non rfl h
    | _ => exact deep sx sy h
  | _ => exact deep sx sy h
theorem oEq (hu : X.A.units + 64 < cLine) : OpR X (compareOp .Eq) (rD X.K fEq) := by
  intro pins s σ H x y v u Q I rx ry ⟨F, dx, dy, P, fit, sx, sy, h, k⟩
  refine oEq_aux hu false op_eq (op_eqD hu) pins s σ H x y v u Q I rx ry ⟨F, dx, dy, P, fit, sx, sy, ?_, k⟩
  cases dx with
  | int i => cases dy <;> exact h
  | str i => cases dy <;> exact h
  | bl i => cases dy <;> exact h
  | non => cases dy <;> exact h
  | _ => exact h
theorem oNe (hu : X.A.units + 64 < cLine) : OpR X (compareOp .NotEq) (rD X.K fNe) := oEq_aux hu true op_ne (op_neD hu)
theorem isN_V {K : PySem.W.Frag} {F : Fz} {H : Hp} {v : V} {d : D} (f : Fit F H) (s : See K F H v d) : decide (v = .non) = match d with
    | .non => true
    | _ => false := by
  rcases s with s | ⟨R, b, s, e⟩
  · cases s <;> rfl
  · cases b with
    | lst xs => cases e; obtain ⟨p, vs, rfl, _⟩ := s; rfl
    | dic xs => cases e; obtain ⟨p, vs, rfl, _⟩ := s; rfl
    | ins C xs => cases e; obtain ⟨p, vs, _, rfl, _⟩ := s; rfl
    | dil _ => cases e
theorem oIs : OpR X (compareOp .Is) (rD X.K fIs) := by
  intro pins s σ H x y v u Q I rx ry ⟨F, dx, dy, P, fit, sx, sy, h, k⟩
  cases dy with
  | non =>
    cases sy.non
    refine op_isN pins s σ H _ _ v u Q I rx ry ⟨rfl, ?_⟩
    rw [isN_V fit sx]
    cases dx <;> exact k _ _ F H (.refl fit) (.bl _) h
  | _ => cases dx <;> exact h.elim
theorem oIsNot : OpR X (compareOp .IsNot) (rD X.K fIsNot) := by
  intro pins s σ H x y v u Q I rx ry ⟨F, dx, dy, P, fit, sx, sy, h, k⟩
  cases dy with
  | non =>
    cases sy.non
    refine op_notN pins s σ H _ _ v u Q I rx ry ⟨rfl, ?_⟩
    rw [isN_V fit sx]
    cases dx <;> exact k _ _ F H (.refl fit) (.bl _) h
  | _ => cases dx <;> exact h.elim
theorem oIn_aux {fn : Value → Value → Sem Value} (neg : Bool) (h1 : OpR X fn fun x y H Q => ∃ i j, x = .str i ∧ y = .str j ∧ Q (.bl (if neg then !(!(Builtin.Str.occurrences j i 0 j.length 1).isEmpty) else !(Builtin.Str.occurrences j i 0 j.length 1).isEmpty)) H)
    (h2 : OpR X fn (rIn X.K neg)) (h3 : OpR X fn fun x y H Q => ∃ d ds, Dp X.K H x d ∧ Dp X.K H y (.list ds) ∧ SeqAt.shaped d = true ∧ SeqAt.shaped (.list ds) = true ∧ Q (.bl (if neg then !(ds.any fun z => PyData.eqv z d) else ds.any fun z => PyData.eqv z d)) H) :
    OpR X fn (rD X.K fun x y P => fIn x y fun d => match d with
      | .bl b => P (.bl (if neg then !b else b))
      | _ => False) := by
  intro pins s σ H x y v u Q I rx ry ⟨F, dx, dy, P, fit, sx, sy, h, k⟩
  have anyL : ∀ (x : D) (xs : List D), (xs.any fun z => PyData.eqv z.py x.py) = ((D.pyL xs).any fun z => PyData.eqv z x.py) := fun x xs => by
    induction xs with
    | nil => rfl
    | cons y ys ih => rw [D.pyL, List.any_cons, List.any_cons, ih]
  have lstc : ∀ {dx : D} {xs : List D}, See X.K F H x dx → See X.K F H y (.lst xs) → (flatD dx = true ∧ xs.all flatD = true ∧ P (.bl (if neg then !inD dx xs else inD dx xs))) ∨
      (SeqAt.shaped dx.py = true ∧ SeqAt.shaped (D.lst xs).py = true ∧ P (.bl (if neg then !(xs.any fun z => PyData.eqv z.py dx.py) else (xs.any fun z => PyData.eqv z.py dx.py)))) →
      wpAny (model X.prog X.w) X.A (fn v u) (EP X pins σ Q) X.xe s := fun {dx xs} s1 s2 hh => by
    rcases hh with ⟨g1, g2, g3⟩ | ⟨g1, g2, g3⟩
    · obtain ⟨p, vs, rfl, hp, dl⟩ := s2.lst fit
      obtain ⟨i1, i2⟩ := inD_V (s1.flat g1) g1 dl g2
      refine h2 pins s σ H _ _ v u Q I rx ry ⟨p, vs, rfl, .inl (SqL.of hp), (s1.flat g1).flat g1, i1, ?_⟩
      rw [i2]
      exact k _ _ F H (.refl fit) (.bl _) g3
    · rw [anyL] at g3
      exact h3 pins s σ H _ _ v u Q I rx ry ⟨_, _, s1.dp fit g1, s2.dp fit g2, g1, g2, k _ _ F H (.refl fit) (.bl _) g3⟩
  have tupc : ∀ {dx : D} {xs : List D}, See X.K F H x dx → See X.K F H y (.tup xs) → (flatD dx = true ∧ xs.all flatD = true ∧ P (.bl (if neg then !inD dx xs else inD dx xs))) →
      wpAny (model X.prog X.w) X.A (fn v u) (EP X pins σ Q) X.xe s := fun {dx xs} s1 s2 ⟨g1, g2, g3⟩ => by
    obtain ⟨p, vs, rfl, hp, dl⟩ := s2.tup fit
    obtain ⟨i1, i2⟩ := inD_V (s1.flat g1) g1 dl g2
    refine h2 pins s σ H _ _ v u Q I rx ry ⟨p, vs, rfl, .inr hp, (s1.flat g1).flat g1, i1, ?_⟩
    rw [i2]
    exact k _ _ F H (.refl fit) (.bl _) g3
  cases dy with
  | lst xs => cases dx <;> exact lstc sx sy h
  | tup xs => cases dx <;> exact tupc sx sy h
  | str j => cases dx with
    | str i => exact h1 pins s σ H _ _ v u Q I rx ry ⟨i, j, sx.str, sy.str, k _ _ F H (.refl fit) (.bl _) h⟩
    | _ => exact h.elim
  | _ => cases dx <;> exact h.elim
theorem oIn (hu : X.A.units + 65 < cLine) : OpR X (compareOp .In) (rD X.K fIn) := by
  intro pins s σ H x y v u Q I rx ry ⟨F, dx, dy, P, fit, sx, sy, h, k⟩
  refine oIn_aux false op_in_str op_in_seq (op_inD hu) pins s σ H x y v u Q I rx ry ⟨F, dx, dy, P, fit, sx, sy, ?_, k⟩
  cases dy with
  | lst xs => cases dx <;> exact h
  | tup xs => cases dx <;> exact h
  | str j => cases dx <;> exact h
  | _ => cases dx <;> exact h
theorem oNotIn (hu : X.A.units + 65 < cLine) : OpR X (compareOp .NotIn) (rD X.K fNotIn) := oIn_aux true op_notin_str op_notIn_seq (op_notInD hu)
end
end PD
set_option maxHeartbeats 1000000
namespace PD
open PySem L2 PySem.Spec PyProof.Rows
/-! ### statements -/
structure EndsD where
  nx : Rho → Prop
  rt : DV → Rho → Prop
  bk : Rho → Prop
  ct : Rho → Prop
  ex : XD
abbrev TSD := EndsD → Rho → Prop
structure EndsOk (K : PySem.W.Frag) (W : WX) (G : Gd) (F : Fz) (E : EndsD) (D : Ends) : Prop where
  nx : ∀ ρ' σ' F' H' R', Rp K G F' H' R' σ' ρ' → Fle F F' → E.nx ρ' → D.nx σ' H'
  rt : ∀ x ρ' v σ' F' H' R' T, Rp K G F' H' R' σ' ρ' → Fle F F' → Tmp G F' H' R' T → AtV K F' H' T x v → (∀ b, x ≠ .l b) → E.rt x ρ' → D.rt v H'
  bk : ∀ ρ' σ' F' H' R', Rp K G F' H' R' σ' ρ' → Fle F F' → E.bk ρ' → D.bk σ' H'
  ct : ∀ ρ' σ' F' H' R', Rp K G F' H' R' σ' ρ' → Fle F F' → E.ct ρ' → D.ct σ' H'
  ex : ∀ σ, PostX K W G F σ E.ex
theorem EndsOk.le {K : PySem.W.Frag} {W : WX} {G : Gd} {F F1 : Fz} {E : EndsD} {D : Ends} (o : EndsOk K W G F E D) (h : Fle F F1) : EndsOk K W G F1 E D :=
  ⟨fun ρ' σ' F' H' R' r l => o.nx ρ' σ' F' H' R' r (h.trans l), fun x ρ' v σ' F' H' R' T r l => o.rt x ρ' v σ' F' H' R' T r (h.trans l), fun ρ' σ' F' H' R' r l => o.bk ρ' σ' F' H' R' r (h.trans l),
   fun ρ' σ' F' H' R' r l => o.ct ρ' σ' F' H' R' r (h.trans l), fun σ => (o.ex σ).le h⟩
def LS (K : PySem.W.Frag) (W : WX) (t : TSD) : TS := fun D σ H => ∃ G F R ρ E, Rp K G F H R σ ρ ∧ t E ρ ∧ EndsOk K W G F E D
def DS (X : Cx) (st : Stmt) (t : TSD) : Prop := ∀ W, Takes X W → PassesOwn (model X.prog X.w) X.A X.env X.xe → PS X st (LS X.K W t)
def DSs (X : Cx) (st : List Stmt) (t : TSD) : Prop := ∀ W, Takes X W → PassesOwn (model X.prog X.w) X.A X.env X.xe → PSs X st (LS X.K W t)
def dNext : TSD := fun E ρ => E.nx ρ
def dSeq (t u : TSD) : TSD := fun E ρ => t { E with nx := u E } ρ
def dBreak : TSD := fun E ρ => E.bk ρ
def dCont : TSD := fun E ρ => E.ct ρ
def dExpr (t : TXD) : TSD := fun E ρ => t ρ (fun _ ρ' => E.nx ρ') E.ex
def dRet (t : TXD) : TSD := fun E ρ => t ρ E.rt E.ex
def dRetN : TSD := fun E ρ => E.rt (.v .non) ρ
def dAsg (i : Nat) (t : TXD) : TSD := fun E ρ => t ρ (fun x ρ' => E.nx (ρ'.set i (some x))) E.ex
def dIfS (c : TTD) (t u : TSD) : TSD := fun E ρ => c ρ (fun b ρ1 => if b = true then t E ρ1 else u E ρ1) E.ex
/-- name op= e -/
def dAug (i : Nat) (t : TOD) (f : D → D → (D → Prop) → Prop) : TSD := fun E ρ => t ρ (fun ob ρ1 => see2 ρ1 (.s i) ob fun x y => f x y fun d => E.nx (ρ1.set i (some (.v d)))) E.ex
section
variable {X : Cx} {st : Stmt} {rest : List Stmt} {t u : TSD} {e : Expr} {te : TXD} {pos : Pos}
theorem dss_nil : DSs X [] dNext := fun W tk po => pss_imp pss_nil fun D σ H ⟨G, F, R, ρ, E, r, q, o⟩ => o.nx ρ σ F H R r (.refl F) q
theorem dss_cons (h1 : DS X st t) (h2 : DSs X rest u) : DSs X (st :: rest) (dSeq t u) := fun W tk po => pss_imp (pss_cons (h1 W tk po) (h2 W tk po)) fun D σ H ⟨G, F, R, ρ, E, r, q, o⟩ =>
  ⟨G, F, R, ρ, _, r, q, ⟨fun ρ' σ' F' H' R' r' l q' => ⟨G, F', R', ρ', E, r', q', o.le l⟩, o.rt, o.bk, o.ct, o.ex⟩⟩
theorem dss_one (h1 : DS X st t) : DSs X [st] t := fun W tk po => pss_one (h1 W tk po)
theorem ds_pass : DS X (.Pass pos) dNext := fun W tk po => ps_imp ps_pass fun D σ H ⟨G, F, R, ρ, E, r, q, o⟩ => o.nx ρ σ F H R r (.refl F) q
theorem ds_break : DS X (.Break pos) dBreak := fun W tk po => ps_imp ps_break fun D σ H ⟨G, F, R, ρ, E, r, q, o⟩ => o.bk ρ σ F H R r (.refl F) q
theorem ds_continue : DS X (.Continue pos) dCont := fun W tk po => ps_imp ps_continue fun D σ H ⟨G, F, R, ρ, E, r, q, o⟩ => o.ct ρ σ F H R r (.refl F) q
theorem ds_expr (he : DX X e te) (hs : swapsWith e none pos.line X.env = pure false := by rfl) : DS X (.Expr e pos) (dExpr te) := fun W tk po => ps_imp (ps_expr (he W tk) hs) fun D σ H ⟨G, F, R, ρ, E, r, q, o⟩ =>
  ⟨G, F, R, ρ, _, E.ex, r, q, fun x ρ' v F' H' R' T r' l _ _ _ q' => o.nx ρ' σ F' H' R' r' l q', o.ex σ⟩
theorem ds_ret (he : DX X e te) : DS X (.Return (some e) pos) (dRet te) := fun W tk po => ps_imp (ps_ret (he W tk)) fun D σ H ⟨G, F, R, ρ, E, r, q, o⟩ =>
  ⟨G, F, R, ρ, _, E.ex, r, q, fun x ρ' v F' H' R' T r' l t a nl q' => o.rt x ρ' v σ F' H' R' T r' l t a nl q', o.ex σ⟩
theorem ds_retN : DS X (.Return none pos) dRetN := fun W tk po => ps_imp ps_retN fun D σ H ⟨G, F, R, ρ, E, r, q, o⟩ => o.rt (.v .non) ρ .non σ F H R NoR r (.refl F) .no .non (fun b z => nomatch z) q
theorem ds_asg {i : Nat} {x : Str} {pos' : Pos} (hN : X.N.Nodup) (hi : X.N[i]? = some x) (hx : Loc X.env.scope x) (he : DX X e te) (hs : swapsWith e (some (.Name x pos')) pos.line X.env = pure false := by rfl) (hf : X.fn x = true ∨ X.env.scope.names.lookup x = some .local := by first | exact .inl rfl | exact .inr rfl | assumption) :
    DS X (.Assign [.Name x pos'] e pos) (dAsg i te) := fun W tk po => ps_imp (ps_set hN hi hx (he W tk) hs hf) fun D σ H ⟨G, F, R, ρ, E, r, q, o⟩ =>
  ⟨G, F, R, ρ, _, E.ex, r, q, fun x ρ' v F' H' R' T r' l t a nl q' => o.nx _ _ F' H' _ (r'.set t a nl) l q', o.ex σ⟩
theorem ds_if {c : Expr} {a b : List Stmt} {tc : TTD} (hc : DT X c tc) (ha : DSs X a t) (hb : DSs X b u) : DS X (.If c a b pos) (dIfS tc t u) := fun W tk po => ps_imp (ps_if (hc W tk) (ha W tk po) (hb W tk po)) fun D σ H ⟨G, F, R, ρ, E, r, q, o⟩ =>
  ⟨G, F, R, ρ, _, E.ex, r, q, fun b ρ1 F1 H1 R1 r1 l1 q1 => by
    cases b with
    | true =>
      rw [if_pos rfl] at q1 ⊢
      exact ⟨G, F1, R1, ρ1, E, r1, q1, o.le l1⟩
    | false =>
      rw [if_neg Bool.false_ne_true] at q1 ⊢
      exact ⟨G, F1, R1, ρ1, E, r1, q1, o.le l1⟩, o.ex σ⟩
theorem ip_of {op : Operator} {f : D → D → (D → Prop) → Prop} (ho : OpR X (inplaceOp op) (rD X.K f)) : PIp X op (rD X.K f) := fun pins s σ H x y v u Q I rx ry h => ho pins s σ H x y v u Q I rx ry h
theorem ds_aug {i : Nat} {x : Str} {op : Operator} {to : TOD} {f : D → D → (D → Prop) → Prop} {pos' : Pos} (hN : X.N.Nodup) (hi : X.N[i]? = some x) (hx : Loc X.env.scope x) (he : DO X e to) (ho : OpR X (inplaceOp op) (rD X.K f)) (hf : X.fn x = true ∨ X.env.scope.names.lookup x = some .local := by first | exact .inl rfl | exact .inr rfl | assumption) :
    DS X (.AugAssign (.Name x pos') op e pos) (dSeq (fun E ρ => ρ.getD i none ≠ none ∧ E.nx ρ) (dAug i to f)) := fun W tk po => ps_imp (ps_aug hN hi hx (he W tk) (ip_of ho) hf) fun D σ H ⟨G, F, R, ρ, E, r, q, o⟩ => by
  obtain ⟨nn, q⟩ := q
  obtain ⟨x0, e0⟩ : ∃ x0, ρ.getD i none = some x0 := by
    cases z : ρ.getD i none with
    | none => exact absurd z nn
    | some y => exact ⟨y, rfl⟩
  obtain ⟨v0, h1, h2⟩ := r.at_ i x0 (getD_some e0)
  refine ⟨v0, h1, G, F, R, ρ, _, E.ex, r, q, fun ob ρ1 w F1 H1 R1 r1 l1 o1 q1 => ?_, o.ex σ⟩
  obtain ⟨dx, ex, q1⟩ := see1_of q1
  obtain ⟨dy, ey, q1⟩ := see1_of q1
  refine ⟨F1, dx, dy, _, r1.fit, r1.look (od := .s i) h1 ex, r1.look o1 ey, q1, fun z d F2 H2 g dz p => ?_⟩
  have r2 := (r1.grow g).set (i := i) (x := .v d) (v := z) (T := NoR) .no dz (fun b z => nomatch z)
  exact o.nx _ _ F2 H2 _ r2 (l1.trans g.le) p
theorem iAdd : OpR X (inplaceOp .Add) (rD X.K fun x y P => match x, y with
    | .int i, .int j => P (.int (i + j))
    | _, _ => False) := rI0_of (fun i j F => .int _) iop_add fun x y P h => by
  cases x with
  | int i => cases y with
    | int j => exact ⟨i, j, rfl, rfl, h⟩
    | _ => exact h.elim
  | _ => exact h.elim
end
/-! ### what a def promises, by data -/
abbrev SpD := List DV → (DV → List DV → Prop) → (Exn → List DV → Prop) → Prop
/-- the lent arguments as they are now -/
def finA : List DV → Rho → Option (List DV)
  | [], _ => some []
  | .l _ :: as, some (.l b) :: ρ => (finA as ρ).map (DV.l b :: ·)
  | .l _ :: _, _ => none
  | .v d :: as, _ :: ρ => (finA as ρ).map (DV.v d :: ·)
  | .v _ :: _, [] => none
  | .o _ :: _, _ => none
def fin (args : List DV) (ρ : Rho) (k : List DV → Prop) : Prop := match finA args ρ with
  | some as => k as
  | none => False
def liftSp (K : PySem.W.Frag) (sp : SpD) : Sp := fun vs H Q E => ∃ G F R args Qd Xd, Rp K G F H R (vs.map some) (args.map some) ∧ (∀ i v, vs[i]? = some v → G.L i = v) ∧ (∀ x ∈ args, ∀ b, x ≠ .o b) ∧ sp args Qd Xd ∧
  (∀ x args' v F' H' R' T, Rp K G F' H' R' (vs.map some) (args'.map some) → Fle F F' → Tmp G F' H' R' T → AtV K F' H' T x v → (∀ b, x ≠ .l b) → Qd x args' → Q v H') ∧
  (∀ e args' dx F' H' R' T, Rp K G F' H' R' (vs.map some) (args'.map some) → Fle F F' → Tmp G F' H' R' T → ExAt K F' H' T e dx → Xd e args' → E (.ref e.C) dx H')
/-- the def at f keeps the promise -/
structure FnD (P : Program) (w : World) (K : PySem.W.Frag) (mg : Str → Option Value) (base : Heap) (k : Nat) (f : Addr) (dvs : List V) (sp : SpD) : Prop where
  ex : ∃ fd ps ds, FnOk P w K mg base (L2.CX P w) k f fd ps (liftSp K sp) ∧ Binds K fd ps ds ∧ Vals dvs ds
theorem finA_get : ∀ {args : List DV} {ρ : Rho} {as : List DV}, finA args ρ = some as → as.length = args.length ∧ args.length ≤ ρ.length ∧ ∀ (i : Nat) (x : DV), as[i]? = some x → (∃ d : D, x = DV.v d ∧ args[i]? = some (DV.v d)) ∨ ∃ b b' : Box, x = DV.l b ∧ args[i]? = some (DV.l b') ∧ ρ[i]? = some (some (DV.l b))
  | [], _, _, h => by
    cases h
    exact ⟨rfl, Nat.zero_le _, fun i x e => by simp at e⟩
  | .l b' :: as, some (.l b) :: ρ, _, h => by
    have h' : (finA as ρ).map (DV.l b :: ·) = some _ := h
    obtain ⟨r, h1, h2⟩ := Option.map_eq_some_iff.mp h'
    subst h2
    obtain ⟨i1, i2, i3⟩ := finA_get h1
    refine ⟨by simp [i1], by simpa using i2, fun i x e => ?_⟩
    cases i with
    | zero => simp at e; subst e; exact .inr ⟨b, b', rfl, rfl, rfl⟩
    | succ i => simpa using i3 i x (by simpa using e)
  | .l _ :: _, [], _, h => by cases h
  | .l _ :: _, none :: _, _, h => by cases h
  | .l _ :: _, some (.v _) :: _, _, h => by cases h
  | .l _ :: _, some (.o _) :: _, _, h => by cases h
  | .v d :: as, _ :: ρ, _, h => by
    have h' : (finA as ρ).map (DV.v d :: ·) = some _ := h
    obtain ⟨r, h1, h2⟩ := Option.map_eq_some_iff.mp h'
    subst h2
    obtain ⟨i1, i2, i3⟩ := finA_get h1
    refine ⟨by simp [i1], by simpa using i2, fun i x e => ?_⟩
    cases i with
    | zero => simp at e; subst e; exact .inl ⟨d, rfl, rfl⟩
    | succ i => simpa using i3 i x (by simpa using e)
  | .v _ :: _, [], _, h => by cases h
  | .o _ :: _, _, _, h => by cases h
section
variable {K : PySem.W.Frag} {G : Gd} {F F' : Fz} {H H' : Hp} {R R' : Nat → Addr → Prop} {vs : List V} {args as : List DV}
/-- at a body's end -/
theorem Rp.fin {σ' : L2.St} {ρ' : Rho} (r0 : Rp K G F H R (vs.map some) (args.map some)) (hL : ∀ i v, vs[i]? = some v → G.L i = v) (r : Rp K G F' H' R' σ' ρ') (l : Fle F F') (h : finA args ρ' = some as) : Rp K G F' H' R' (vs.map some) (as.map some) := by
  obtain ⟨h1, h2, h3⟩ := finA_get h
  have hl : vs.length = args.length := by simpa using r0.len
  refine ⟨r.fit, r.out, by simp [h1, hl], fun i x e => ?_, r.reg, r.dis, fun i b e => ?_⟩
  · rw [List.getElem?_map] at e
    cases q : as[i]? with
    | none => rw [q] at e; cases e
    | some y =>
      rw [q] at e
      cases e
      rcases h3 i x q with ⟨d, rfl, ea⟩ | ⟨b, b', rfl, ea, er⟩
      · obtain ⟨v, g1, g2⟩ := r0.at_ i (.v d) (by rw [List.getElem?_map, ea]; rfl)
        exact ⟨v, g1, Den.le l g2⟩
      · obtain ⟨v, g1, g2⟩ := r.at_ i _ er
        have e2 := r.lnt i b er
        rw [g1] at e2
        cases e2
        obtain ⟨u, g3, _⟩ := r0.at_ i (.l b') (by rw [List.getElem?_map, ea]; rfl)
        have g3' := g3
        rw [List.getElem?_map] at g3
        cases z : vs[i]? with
        | none => rw [z] at g3; cases g3
        | some w =>
          rw [z] at g3
          cases g3
          rw [hL i _ z] at g2
          exact ⟨u, g3', g2⟩
  · rw [List.getElem?_map] at e
    cases q : as[i]? with
    | none => rw [q] at e; cases e
    | some y =>
      rw [q] at e
      cases e
      rcases h3 i _ q with ⟨d, z, _⟩ | ⟨b1, b', z, ea, er⟩
      · cases z
      · obtain ⟨u, g3, _⟩ := r0.at_ i (.l b') (by rw [List.getElem?_map, ea]; rfl)
        rw [List.getElem?_map] at g3 ⊢
        cases z2 : vs[i]? with
        | none => rw [z2] at g3; cases g3
        | some w =>
          rw [hL i _ z2]
          rfl
end
/-- the slots at a body's start -/
def startD (n : Nat) (args : List DV) : Rho := args.map some ++ List.replicate (n - args.length) none
def endsOf (args : List DV) (Qd : DV → List DV → Prop) (Xd : Exn → List DV → Prop) : EndsD where
  nx := fun ρ => fin args ρ (Qd (.v .non))
  rt := fun x ρ => fin args ρ (Qd x)
  bk := fun _ => False
  ct := fun _ => False
  ex := fun e ρ => fin args ρ (Xd e)
section
variable {P : Program} {w : World} {K : PySem.W.Frag} {mg : Str → Option Value} {base : Heap}
/-- a def's body, in every place where it may run -/
def BodyOk (P : Program) (w : World) (K : PySem.W.Frag) (mg : Str → Option Value) (base : Heap) (k : Nat) (N : List Str) (qual : Str) (scope : Scope) (f : Addr) (body : List Stmt) (t : TSD) : Prop :=
  ∀ (cdv : Value) (A : Around) (outer : List Env) (s : Shared) (H : Hp) (E : XK), Room k (A.deeper (envOfC qual scope s.heap.objs.size f cdv)) → DSs (cxOf (L2.CX P w) P w K mg base N qual scope f cdv A outer s H E) body t
theorem fnD_body {x qual : Str} {params : Arguments} {body : List Stmt} {scope : Scope} {dvs : List V} {kws : List (Str × V)} {f : Addr} {fd : FuncData} {N ps : List Str} {k : Nat} {sp : SpD} {t : TSD}
    (F : FunD K x qual params body scope dvs kws f fd) (S : FnScope N ps scope) (hb : BodyOk P w K mg base k N qual scope f body t)
    (hsp : ∀ args Qd Xd, sp args Qd Xd → args.length = ps.length ∧ t (endsOf args Qd Xd) (startD N.length args)) : FnOk P w K mg base (L2.CX P w) (k + 1) f fd ps (liftSp K sp) := by
  refine F.ok S (fun vs H Q E h => ?_) (fun cdv A outer s H vs Q E hr h => ?_)
  · obtain ⟨G, Fz, R, args, Qd, Xd, r, _, _, h, _, _⟩ := h
    have := r.len
    rw [List.length_map, List.length_map] at this
    rw [this]
    exact (hsp _ _ _ h).1
  · obtain ⟨G, Fz, R, args, Qd, Xd, r, hL, no, h, kQ, kX⟩ := h
    have hl : vs.length = args.length := by simpa using r.len
    refine ⟨_, hb cdv A outer s H E hr _ (takes_of rfl rfl rfl rfl) (passes_of rfl), G, Fz, R, _, _, ?_, (hsp _ _ _ h).2, ?_⟩
    · -- the slots
      have e1 : ∀ i (y : Option DV), (startD N.length args)[i]? = some y → y ≠ none → (args.map some)[i]? = some y := fun i y e ny => by
        unfold startD at e
        by_cases q : i < args.length
        · rw [List.getElem?_append_left (by simpa using q)] at e
          exact e
        · rw [List.getElem?_append_right (by simpa using q), List.getElem?_replicate] at e
          split at e
          · cases e; exact absurd rfl ny
          · cases e
      have e2 : ∀ i (y : V), (vs.map some)[i]? = some (some y) → (L2.start N vs)[i]? = some (some y) := fun i y e => by
        unfold L2.start
        have q := (List.getElem?_eq_some_iff.mp e).1
        rw [List.getElem?_append_left q]
        exact e
      refine ⟨r.fit, r.out, ?_, fun i y e => ?_, r.reg, r.dis, fun i b e => ?_⟩
      · unfold L2.start startD
        simp [hl]
      · obtain ⟨v, g1, g2⟩ := r.at_ i y (e1 i _ e (fun z => nomatch z))
        exact ⟨v, e2 i v g1, g2⟩
      · exact e2 i _ (r.lnt i b (e1 i _ e (fun z => nomatch z)))
    · refine ⟨fun ρ' σ' F' H' R' r' l q => ?_, fun x ρ' v σ' F' H' R' T r' l t a nl q => ?_, fun _ _ _ _ _ _ _ q => q.elim, fun _ _ _ _ _ _ _ q => q.elim, fun σ e ρ' dx F' H' R' T r' l t a q => ?_⟩
      · have q' : (match finA args ρ' with
          | some as => Qd (.v .non) as
          | none => False) := q
        cases z : finA args ρ' with
        | none => rw [z] at q'; exact q'.elim
        | some as =>
          rw [z] at q'
          exact kQ (.v .non) as .non F' H' R' NoR (Rp.fin r hL r' l z) l .no .non (fun b z => nomatch z) q'
      · have q' : (match finA args ρ' with
          | some as => Qd x as
          | none => False) := q
        cases z : finA args ρ' with
        | none => rw [z] at q'; exact q'.elim
        | some as =>
          rw [z] at q'
          exact kQ x as v F' H' R' T (Rp.fin r hL r' l z) l t a nl q'
      · have q' : (match finA args ρ' with
          | some as => Xd e as
          | none => False) := q
        cases z : finA args ρ' with
        | none => rw [z] at q'; exact q'.elim
        | some as =>
          rw [z] at q'
          exact kX e as dx F' H' R' T (Rp.fin r hL r' l z) l t a q'
end
end PD
set_option maxHeartbeats 1000000
namespace PD
open PySem L2 PySem.Spec PyProof.Rows
/-! ### calls -/
abbrev TVD := Rho → (List Opd → Rho → Prop) → XD → Prop
def LV (K : PySem.W.Frag) (W : WX) (t : TVD) : TA := fun σ H Q => ∃ G F R ρ Qd Xd, Rp K G F H R σ ρ ∧ t ρ Qd Xd ∧
  (∀ ods ρ' vs F' H' R', Rp K G F' H' R' σ ρ' → Fle F F' → Paired (OpAt K F' σ) ods vs → Qd ods ρ' → Q vs H') ∧ PostX K W G F σ Xd
def DVs (X : Cx) (es : List Expr) (t : TVD) : Prop := ∀ W, Takes X W → PA X es (LV X.K W t)
def vNil : TVD := fun ρ Q _ => Q [] ρ
def vCons (t : TOD) (u : TVD) : TVD := fun ρ Q X => t ρ (fun od ρ1 => u ρ1 (fun ods ρ2 => Q (od :: ods) ρ2) X) X
theorem dv_nil {X : Cx} : DVs X [] vNil := fun W tk => pa_imp pa_nil fun σ H Q ⟨G, F, R, ρ, Qd, Xd, r, q, n, x⟩ => n [] ρ [] F H R r (.refl F) .nil q
theorem dv_cons {X : Cx} {e : Expr} {es : List Expr} {t : TOD} {u : TVD} (ha : DO X e t) (hr : DVs X es u) (hs : starEach (e :: es) X.env = (false, eval e X.env) :: starEach es X.env := by rfl) : DVs X (e :: es) (vCons t u) := fun W tk =>
  pa_imp (pa_cons (ha W tk) (hr W tk) hs) fun σ H Q ⟨G, F, R, ρ, Qd, Xd, r, q, n, x⟩ => ⟨G, F, R, ρ, _, Xd, r, q, fun od ρ1 v F1 H1 R1 r1 l1 hd q1 =>
    ⟨G, F1, R1, ρ1, _, Xd, r1, q1, fun ods ρ2 vs F2 H2 R2 r2 l2 h2 q2 => n (od :: ods) ρ2 (v :: vs) F2 H2 R2 r2 (l1.trans l2) (.cons (hd.le l2) h2) q2, x.le l1⟩, x⟩
def argOf (ρ : Rho) : Opd → Option DV
  | .d d => some (.v d)
  | .s i => match ρ.getD i none with
    | some (.v d) => some (.v d)
    | some (.o b) => some (.l b)
    | some (.l b) => some (.l b)
    | none => none
def argsOf (ρ : Rho) : List Opd → Option (List DV)
  | [] => some []
  | od :: ods => match argOf ρ od with
    | some x => (argsOf ρ ods).map (x :: ·)
    | none => none
/-- is the slot's object lent by a call? -/
def isLent (ρ : Rho) (i : Nat) : Bool := match ρ.getD i none with
  | some (.o _) => true
  | some (.l _) => true
  | _ => false
def lentIx (ρ : Rho) : List Opd → List Nat
  | [] => []
  | .s i :: ods => match isLent ρ i with
    | true => i :: lentIx ρ ods
    | false => lentIx ρ ods
  | .d _ :: ods => lentIx ρ ods
/-- the slots behind a call -/
def backA : Rho → List Opd → List DV → Option Rho
  | ρ, [], [] => some ρ
  | ρ, .s i :: ods, a :: as => match ρ.getD i none with
    | some (.o _) => (match a with
      | .l b => backA (ρ.set i (some (.o b))) ods as
      | _ => none)
    | some (.l _) => (match a with
      | .l b => backA (ρ.set i (some (.l b))) ods as
      | _ => none)
    | _ => backA ρ ods as
  | ρ, .d _ :: ods, _ :: as => backA ρ ods as
  | _, _, _ => none
def behind (ρ : Rho) (ods : List Opd) (as : List DV) (k : Rho → Prop) : Prop := match backA ρ ods as with
  | some ρ' => k ρ'
  | none => False
def callD (ρ : Rho) (ods : List Opd) (sp : SpD) (Q : DV → Rho → Prop) (X : XD) : Prop := (lentIx ρ ods).Nodup ∧ match argsOf ρ ods with
  | some args => sp args (fun x as => behind ρ ods as (Q x)) (fun e as => behind ρ ods as (X e))
  | none => False
def LentAt (ρ : Rho) (ods : List Opd) (i j : Nat) : Prop := ods[j]? = some (.s i) ∧ isLent ρ i = true
theorem mem_lentIx {ρ : Rho} : ∀ {ods : List Opd} {i j : Nat}, LentAt ρ ods i j → i ∈ lentIx ρ ods
  | [], _, _, h => by have := h.1; simp at this
  | .s k :: ods, i, 0, h => by
    have e := h.1
    simp at e
    subst e
    unfold lentIx
    rw [h.2]
    exact List.mem_cons_self
  | .d _ :: ods, i, 0, h => by have := h.1; simp at this
  | .s k :: ods, i, j + 1, h => by
    have q := mem_lentIx (ods := ods) (i := i) (j := j) ⟨by simpa using h.1, h.2⟩
    unfold lentIx
    split
    · exact List.mem_cons_of_mem _ q
    · exact q
  | .d _ :: ods, i, j + 1, h => by
    have q := mem_lentIx (ods := ods) (i := i) (j := j) ⟨by simpa using h.1, h.2⟩
    unfold lentIx
    exact q
theorem lent_inj {ρ : Rho} : ∀ {ods : List Opd} {i j k : Nat}, (lentIx ρ ods).Nodup → LentAt ρ ods i j → LentAt ρ ods i k → j = k
  | [], _, _, _, _, h, _ => by have := h.1; simp at this
  | od :: ods, i, 0, 0, _, _, _ => rfl
  | od :: ods, i, 0, k + 1, n, h, h' => by
    have e := h.1
    simp at e
    subst e
    unfold lentIx at n
    rw [h.2] at n
    exact absurd (mem_lentIx (ods := ods) (i := i) (j := k) ⟨by simpa using h'.1, h'.2⟩) (List.nodup_cons.mp n).1
  | od :: ods, i, j + 1, 0, n, h, h' => by
    have e := h'.1
    simp at e
    subst e
    unfold lentIx at n
    rw [h'.2] at n
    exact absurd (mem_lentIx (ods := ods) (i := i) (j := j) ⟨by simpa using h.1, h.2⟩) (List.nodup_cons.mp n).1
  | od :: ods, i, j + 1, k + 1, n, h, h' => by
    have n' : (lentIx ρ ods).Nodup := by
      cases od with
      | d _ => unfold lentIx at n; exact n
      | s m =>
        unfold lentIx at n
        split at n
        · exact (List.nodup_cons.mp n).2
        · exact n
    rw [lent_inj n' (i := i) (j := j) (k := k) ⟨by simpa using h.1, h.2⟩ ⟨by simpa using h'.1, h'.2⟩]
theorem isLent_set {ρ : Rho} {i : Nat} {x : DV} (hx : isLent ρ i = true) (h : ∀ d, x ≠ .v d) (k : Nat) : isLent (ρ.set i (some x)) k = isLent ρ k := by
  unfold isLent at *
  by_cases q : k = i
  · subst q
    have hl : k < ρ.length := by
      by_cases hl : k < ρ.length
      · exact hl
      · rw [List.getD_eq_getElem?_getD, List.getElem?_eq_none (by omega)] at hx
        cases hx
    rw [List.getD_eq_getElem?_getD, List.getElem?_set_self hl]
    rw [hx]
    cases x with
    | v d => exact absurd rfl (h d)
    | o b => rfl
    | l b => rfl
  · rw [List.getD_eq_getElem?_getD, List.getElem?_set_ne (Ne.symm q), ← List.getD_eq_getElem?_getD]
theorem backA_get : ∀ {ods : List Opd} {as : List DV} {ρ ρ' : Rho}, backA ρ ods as = some ρ' → ρ'.length = ρ.length ∧ ∀ (i : Nat) (x : DV), ρ'[i]? = some (some x) →
    (∃ j b b', LentAt ρ ods i j ∧ as[j]? = some (DV.l b) ∧ ((ρ[i]? = some (some (DV.o b')) ∧ x = DV.o b) ∨ (ρ[i]? = some (some (DV.l b')) ∧ x = DV.l b))) ∨ ((¬ ∃ j, LentAt ρ ods i j) ∧ ρ[i]? = some (some x))
  | [], [], ρ, ρ', h => by
    cases h
    exact ⟨rfl, fun i x e => .inr ⟨fun ⟨j, z⟩ => by have := z.1; simp at this, e⟩⟩
  | .d d :: ods, a :: as, ρ, ρ', h => by
    obtain ⟨h1, h2⟩ := backA_get (ods := ods) (as := as) h
    refine ⟨h1, fun i x e => ?_⟩
    rcases h2 i x e with ⟨j, b, b', g1, g2, g3⟩ | ⟨g1, g2⟩
    · exact .inl ⟨j + 1, b, b', ⟨by simpa using g1.1, g1.2⟩, by simpa using g2, g3⟩
    · refine .inr ⟨fun ⟨j, z⟩ => ?_, g2⟩
      cases j with
      | zero => have := z.1; simp at this
      | succ j => exact g1 ⟨j, by simpa using z.1, z.2⟩
  | .s m :: ods, a :: as, ρ, ρ', h => by
    have key : ∀ (ρ2 : Rho) (y : DV) (b : Box), isLent ρ m = true → a = .l b → (∀ d, y ≠ .v d) → ρ2 = ρ.set m (some y) → backA ρ2 ods as = some ρ' →
        (∃ b', (ρ[m]? = some (some (DV.o b')) ∧ y = DV.o b) ∨ (ρ[m]? = some (some (DV.l b')) ∧ y = DV.l b)) →
        ρ'.length = ρ.length ∧ ∀ (i : Nat) (x : DV), ρ'[i]? = some (some x) →
        (∃ j b b', LentAt ρ (.s m :: ods) i j ∧ (a :: as)[j]? = some (DV.l b) ∧ ((ρ[i]? = some (some (DV.o b')) ∧ x = DV.o b) ∨ (ρ[i]? = some (some (DV.l b')) ∧ x = DV.l b))) ∨ ((¬ ∃ j, LentAt ρ (.s m :: ods) i j) ∧ ρ[i]? = some (some x)) := by
      intro ρ2 y b hm ha hy e2 hb hk
      subst e2
      obtain ⟨h1, h2⟩ := backA_get hb
      have il := isLent_set hm hy
      obtain ⟨b0, hk⟩ := hk
      have mlt : m < ρ.length := by
        rcases hk with ⟨z, _⟩ | ⟨z, _⟩ <;> exact (List.getElem?_eq_some_iff.mp z).1
      refine ⟨by rw [h1, List.length_set], fun i x e => ?_⟩
      rcases h2 i x e with ⟨j, b1, b', g1, g2, g3⟩ | ⟨g1, g2⟩
      · have la : LentAt ρ (.s m :: ods) i (j + 1) := ⟨by simpa using g1.1, by rw [← il i]; exact g1.2⟩
        by_cases q : i = m
        · subst q
          rw [List.getElem?_set_self mlt] at g3
          refine .inl ⟨j + 1, b1, b0, la, by simpa using g2, ?_⟩
          rcases hk with ⟨z1, z2⟩ | ⟨z1, z2⟩
          · subst z2
            rcases g3 with ⟨w1, w2⟩ | ⟨w1, w2⟩
            · exact .inl ⟨z1, w2⟩
            · cases w1
          · subst z2
            rcases g3 with ⟨w1, w2⟩ | ⟨w1, w2⟩
            · cases w1
            · exact .inr ⟨z1, w2⟩
        · rw [List.getElem?_set_ne (Ne.symm q)] at g3
          exact .inl ⟨j + 1, b1, b', la, by simpa using g2, g3⟩
      · by_cases q : i = m
        · subst q
          rw [List.getElem?_set_self mlt] at g2
          cases g2
          exact .inl ⟨0, b, b0, ⟨rfl, hm⟩, by rw [ha]; rfl, hk⟩
        · rw [List.getElem?_set_ne (Ne.symm q)] at g2
          refine .inr ⟨fun ⟨j, z⟩ => ?_, g2⟩
          cases j with
          | zero => have := z.1; simp at this; exact q this.symm
          | succ j => exact g1 ⟨j, by simpa using z.1, by rw [il i]; exact z.2⟩
    unfold backA at h
    cases e : ρ.getD m none with
    | none =>
      rw [e] at h
      have nl : isLent ρ m = false := by unfold isLent; rw [e]
      obtain ⟨h1, h2⟩ := backA_get (ods := ods) (as := as) h
      refine ⟨h1, fun i x ei => ?_⟩
      rcases h2 i x ei with ⟨j, b, b', g1, g2, g3⟩ | ⟨g1, g2⟩
      · exact .inl ⟨j + 1, b, b', ⟨by simpa using g1.1, g1.2⟩, by simpa using g2, g3⟩
      · refine .inr ⟨fun ⟨j, z⟩ => ?_, g2⟩
        cases j with
        | zero =>
          have z1 := z.1
          simp at z1
          subst z1
          rw [z.2] at nl
          cases nl
        | succ j => exact g1 ⟨j, by simpa using z.1, z.2⟩
    | some y =>
      rw [e] at h
      cases y with
      | v d =>
        have nl : isLent ρ m = false := by unfold isLent; rw [e]
        obtain ⟨h1, h2⟩ := backA_get (ods := ods) (as := as) h
        refine ⟨h1, fun i x ei => ?_⟩
        rcases h2 i x ei with ⟨j, b, b', g1, g2, g3⟩ | ⟨g1, g2⟩
        · exact .inl ⟨j + 1, b, b', ⟨by simpa using g1.1, g1.2⟩, by simpa using g2, g3⟩
        · refine .inr ⟨fun ⟨j, z⟩ => ?_, g2⟩
          cases j with
          | zero =>
            have z1 := z.1
            simp at z1
            subst z1
            rw [z.2] at nl
            cases nl
          | succ j => exact g1 ⟨j, by simpa using z.1, z.2⟩
      | o b' =>
        cases a with
        | l b => exact key _ (.o b) b (by unfold isLent; rw [e]) rfl (fun d z => nomatch z) rfl h ⟨b', .inl ⟨getD_some e, rfl⟩⟩
        | v _ => cases h
        | o _ => cases h
      | l b' =>
        cases a with
        | l b => exact key _ (.l b) b (by unfold isLent; rw [e]) rfl (fun d z => nomatch z) rfl h ⟨b', .inr ⟨getD_some e, rfl⟩⟩
        | v _ => cases h
        | o _ => cases h
  | [], _ :: _, _, _, h => by cases h
  | .d _ :: _, [], _, _, h => by cases h
  | .s _ :: _, [], _, _, h => by cases h
theorem argsOf_get {ρ : Rho} : ∀ {ods : List Opd} {args : List DV}, argsOf ρ ods = some args → args.length = ods.length ∧ ∀ (j : Nat) (x : DV), args[j]? = some x → ∃ od, ods[j]? = some od ∧ argOf ρ od = some x
  | [], _, h => by cases h; exact ⟨rfl, fun j x e => by simp at e⟩
  | od :: ods, _, h => by
    unfold argsOf at h
    cases q : argOf ρ od with
    | none => rw [q] at h; cases h
    | some y =>
      rw [q] at h
      obtain ⟨r, h1, h2⟩ := Option.map_eq_some_iff.mp h
      subst h2
      obtain ⟨i1, i2⟩ := argsOf_get h1
      refine ⟨by simp [i1], fun j x e => ?_⟩
      cases j with
      | zero => simp at e; subst e; exact ⟨od, rfl, q⟩
      | succ j => simpa using i2 j x (by simpa using e)
theorem argOf_notown {ρ : Rho} {od : Opd} {x : DV} (h : argOf ρ od = some x) (b : Box) : x ≠ .o b := by
  cases od with
  | d d => cases h; exact fun z => nomatch z
  | s i =>
    have h' : (match ρ.getD i none with
      | some (.v d) => some (DV.v d)
      | some (.o b) => some (.l b)
      | some (.l b) => some (.l b)
      | none => none) = some x := h
    cases q : ρ.getD i none with
    | none => rw [q] at h'; cases h'
    | some y => rw [q] at h'; cases y <;> (cases h'; exact fun z => nomatch z)
/-- THE CALL: from the caller's state to what the callee asks -/
theorem call_lift {K : PySem.W.Frag} {G : Gd} {F : Fz} {H : Hp} {R : Nat → Addr → Prop} {σ : L2.St} {ρ : Rho} {ods : List Opd} {vs : List V} {sp : SpD} {Qd : DV → Rho → Prop} {Xd : XD} {Q : VK} {E : XK}
    (r : Rp K G F H R σ ρ) (pv : Paired (OpAt K F σ) ods vs) (c : callD ρ ods sp Qd Xd)
    (n : ∀ x ρ' v F' H' R' T, Rp K G F' H' R' σ ρ' → Fle F F' → Tmp G F' H' R' T → AtV K F' H' T x v → (∀ b, x ≠ .l b) → Qd x ρ' → Q v H')
    (xx : ∀ e ρ' dx F' H' R' T, Rp K G F' H' R' σ ρ' → Fle F F' → Tmp G F' H' R' T → ExAt K F' H' T e dx → Xd e ρ' → E (.ref e.C) dx H') : liftSp K sp vs H Q E := by
  classical
  obtain ⟨nd, c⟩ := c
  cases ea : argsOf ρ ods with
  | none => rw [ea] at c; exact c.elim
  | some args =>
    rw [ea] at c
    have c : sp args (fun x as => behind ρ ods as (Qd x)) (fun e as => behind ρ ods as (Xd e)) := c
    obtain ⟨al, ag⟩ := argsOf_get ea
    have pl := pv.length
    -- the lent region
    have Lr : ∃ Lr : Addr → Prop, ∀ a, Lr a ↔ ∃ i j, LentAt ρ ods i j ∧ R i a := ⟨_, fun _ => Iff.rfl⟩
    obtain ⟨Lr, hLr⟩ := Lr
    have HoE : ∃ Ho : Hp, ∀ a, Ho a = if F a = none ∧ ¬ Lr a then H a else none := ⟨_, fun _ => rfl⟩
    obtain ⟨Ho, hHo⟩ := HoE
    have hoOut : ∀ a, F a = none → ¬ Lr a → Ho a = H a := fun a h1 h2 => by rw [hHo, if_pos ⟨h1, h2⟩]
    have hoLr : ∀ a, Lr a → Ho a = none := fun a h => by rw [hHo, if_neg fun z => z.2 h]
    have hoF : ∀ a, F a ≠ none → Ho a = none := fun a h => by rw [hHo, if_neg fun z => h z.1]
    have gout : ∀ a o, G.Ho a = some o → Ho a = some o := fun a o e => by
      obtain ⟨h1, h2⟩ := r.out a o e
      rw [hoOut a h2 fun z => ?_]
      · exact h1
      · obtain ⟨i, j, _, ra⟩ := (hLr a).mp z
        rw [(r.reg i a ra).2.1] at e
        cases e
    refine ⟨⟨Ho, fun j => vs.getD j .non⟩, F, fun j a => ∃ i, LentAt ρ ods i j ∧ R i a, args, _, _, ⟨r.fit, fun a o e => ?_, by simp [al, pl], fun j x e => ?_, fun j a ⟨i, la, ra⟩ => ?_, fun j k a ⟨i, la, ra⟩ ⟨i', la', ra'⟩ => ?_, fun j b e => ?_⟩,
      fun j v e => ?_, fun x hx b => ?_, c, fun x as v F' H' R' T r' l t av nl q => ?_, fun ex as dx F' H' R' T r' l t av q => ?_⟩
    · have e' : Ho a = some o := e
      rw [hHo] at e'
      split at e'
      · rename_i z; exact ⟨e', z.1⟩
      · cases e'
    · rw [List.getElem?_map] at e
      cases z : args[j]? with
      | none => rw [z] at e; cases e
      | some y =>
        rw [z] at e
        cases e
        obtain ⟨od, h1, h2⟩ := ag j x z
        obtain ⟨v, h3, h4⟩ := L2.paired_get pv h1
        refine ⟨v, by rw [List.getElem?_map, h3]; rfl, ?_⟩
        cases od with
        | d d => cases h2; exact h4
        | s i =>
          have h2' : (match ρ.getD i none with
            | some (.v d) => some (DV.v d)
            | some (.o b) => some (.l b)
            | some (.l b) => some (.l b)
            | none => none) = some x := h2
          have h4' : σ[i]? = some (some v) := h4
          cases w : ρ.getD i none with
          | none => rw [w] at h2'; cases h2'
          | some y =>
            rw [w] at h2'
            obtain ⟨u, g1, g2⟩ := r.at_ i y (getD_some w)
            rw [h4'] at g1
            cases g1
            cases y with
            | v d => cases h2'; exact g2
            | o b => cases h2'; exact BoxAt.keep (.refl F) (fun _ _ => rfl) (fun a ra => ⟨i, ⟨h1, by unfold isLent; rw [w]⟩, ra⟩) g2
            | l b => cases h2'; exact BoxAt.keep (.refl F) (fun _ _ => rfl) (fun a ra => ⟨i, ⟨h1, by unfold isLent; rw [w]⟩, ra⟩) g2
    · obtain ⟨h1, h2, h3⟩ := r.reg i a ra
      exact ⟨h1, hoLr a ((hLr a).mpr ⟨i, j, la, ra⟩), h3⟩
    · have e := r.dis i i' a ra ra'
      subst e
      exact lent_inj nd la la'
    · rw [List.getElem?_map] at e
      cases z : args[j]? with
      | none => rw [z] at e; cases e
      | some y =>
        have hj : j < vs.length := by have := (List.getElem?_eq_some_iff.mp z).1; omega
        show (vs.map some)[j]? = some (some (vs.getD j .non))
        rw [List.getElem?_map, List.getD_eq_getElem?_getD, List.getElem?_eq_getElem hj]
        rfl
    · show vs.getD j .non = v
      rw [List.getD_eq_getElem?_getD, e]
      rfl
    · obtain ⟨j, hj⟩ := List.getElem?_of_mem hx
      obtain ⟨od, _, h2⟩ := ag j x hj
      exact argOf_notown h2 b
    all_goals
      have q' : (match backA ρ ods as with
        | some ρ' => _
        | none => False) := q
      cases eb : backA ρ ods as with
      | none => rw [eb] at q'; exact q'.elim
      | some ρ' =>
        rw [eb] at q'
        obtain ⟨bl, bg⟩ := backA_get eb
        have keep : ∀ a, F a = none → ¬ Lr a → H a ≠ none → H' a = H a ∧ F' a = none := fun a h1 h2 h3 => by
          cases z : H a with
          | none => exact absurd z h3
          | some o => exact r'.out a o ((hoOut a h1 h2).trans z)
        have nlent : ∀ i a, R i a → (¬ ∃ j, LentAt ρ ods i j) → ¬ Lr a := fun i a ra hn z => by
          obtain ⟨i', j, la, ra'⟩ := (hLr a).mp z
          rw [r.dis i i' a ra ra'] at hn
          exact hn ⟨j, la⟩
        have hoG : ∀ a, Ho a = none → G.Ho a = none := fun a h => by
          cases z : G.Ho a with
          | none => rfl
          | some o => rw [gout a o z] at h; cases h
        have r2 : Rp K G F' H' (fun i a => (∃ j, LentAt ρ ods i j ∧ R' j a) ∨ ((¬ ∃ j, LentAt ρ ods i j) ∧ R i a)) σ ρ' := by
          refine ⟨r'.fit, fun a o e => ?_, by rw [bl]; exact r.len, fun i y e => ?_, fun i a ha => ?_, fun i k a ha hb => ?_, fun i b e => ?_⟩
          · exact r'.out a o (gout a o e)
          · rcases bg i y e with ⟨j, b, b', la, eas, hk⟩ | ⟨hn, e0⟩
            · obtain ⟨v, h3, h4⟩ := L2.paired_get pv la.1
              obtain ⟨u, g1, g2⟩ := r'.at_ j (.l b) (by rw [List.getElem?_map, eas]; rfl)
              rw [List.getElem?_map, h3] at g1
              cases g1
              have g3 : BoxAt K F' H' (fun a => (∃ j, LentAt ρ ods i j ∧ R' j a) ∨ ((¬ ∃ j, LentAt ρ ods i j) ∧ R i a)) b v := BoxAt.keep (.refl F') (fun _ _ => rfl) (fun a ra => .inl ⟨j, la, ra⟩) g2
              rcases hk with ⟨_, rfl⟩ | ⟨_, rfl⟩
              · exact ⟨v, h4, g3⟩
              · exact ⟨v, h4, g3⟩
            · obtain ⟨v, h1, h2⟩ := r.at_ i y e0
              refine ⟨v, h1, h2.keep l (fun a ra => ?_) fun a ra => .inr ⟨hn, ra⟩⟩
              obtain ⟨g1, g2, g3⟩ := r.reg i a ra
              exact (keep a g1 (nlent i a ra hn) g3).1
          · rcases ha with ⟨j, la, ra⟩ | ⟨hn, ra⟩
            · obtain ⟨g1, g2, g3⟩ := r'.reg j a ra
              exact ⟨g1, hoG a g2, g3⟩
            · obtain ⟨g1, g2, g3⟩ := r.reg i a ra
              obtain ⟨k1, k2⟩ := keep a g1 (nlent i a ra hn) g3
              exact ⟨k2, g2, by rw [k1]; exact g3⟩
          · have clash : ∀ {i' j' k'}, R' j' a → R i' a → (¬ ∃ j, LentAt ρ ods i' j) → k' = i' := fun {i' j' k'} h1 h2 h3 => by
              have g := (r'.reg j' a h1).2.1
              obtain ⟨g1, g2, g3⟩ := r.reg i' a h2
              have g' : Ho a = none := g
              rw [hoOut a g1 (nlent i' a h2 h3)] at g'
              exact absurd g' g3
            rcases ha with ⟨j, la, ra⟩ | ⟨hn, ra⟩
            · rcases hb with ⟨j', la', ra'⟩ | ⟨hn', ra'⟩
              · have e := r'.dis j j' a ra ra'
                subst e
                have e2 := la.1.symm.trans la'.1
                cases e2
                rfl
              · exact clash ra ra' hn'
            · rcases hb with ⟨j', la', ra'⟩ | ⟨hn', ra'⟩
              · exact (clash (k' := k) ra' ra hn).symm
              · exact r.dis i k a ra ra'
          · rcases bg i _ e with ⟨j, b1, b', la, eas, hk⟩ | ⟨hn, e0⟩
            · rcases hk with ⟨_, z⟩ | ⟨e1, z⟩
              · cases z
              · exact r.lnt i b' e1
            · exact r.lnt i b e0
        have t2 : Tmp G F' H' (fun i a => (∃ j, LentAt ρ ods i j ∧ R' j a) ∨ ((¬ ∃ j, LentAt ρ ods i j) ∧ R i a)) T := fun a ta => by
          obtain ⟨g1, g2, g3, g4⟩ := t a ta
          refine ⟨g1, hoG a g2, g3, fun i hi => ?_⟩
          rcases hi with ⟨j, la, ra⟩ | ⟨hn, ra⟩
          · exact g4 j ra
          · obtain ⟨k1, k2, k3⟩ := r.reg i a ra
            have g' : Ho a = none := g2
            rw [hoOut a k1 (nlent i a ra hn)] at g'
            exact k3 g'
        first
          | exact n x ρ' v F' H' _ T r2 l t2 av nl q'
          | exact xx ex ρ' dx F' H' _ T r2 l t2 av q'
end PD
set_option maxHeartbeats 1000000
namespace PD
open PySem L2 PySem.Spec PyProof.Rows
/-! ### calls whose exceptions are wished for at the caller's slots -/
section
variable {X : Cx} {CX : CXT} {k : Nat} {f C : Addr} {fd : FuncData} {ps : List Str} {sp : Sp} {dvs : List V} {ds : List Value} {E : L2.St → XK} {x m : Str} {p pos apos : Pos} {e o : Expr} {es : List Expr} {ta : TE} {t : TA}
theorem pe_call0SD (F : FnOk X.prog X.w X.K X.mg X.base CX k f fd ps sp) (hr : Room k X.A) (hg : Gl X x) (hm : X.mg x = some (.ref f)) (hk : PySem.W.keepIn X.K (.ref f) = true) (hb : Binds X.K fd ps ds) (hd : Vals dvs ds) (hx : ∀ σ, PassesAt CX X σ (E σ))
    (hdb : (x == ("__debug__" : Str)) = false := by decide) : PE X (.Call (.Name x p) [] [] pos) (tCallSD sp dvs E tNil) := by
  refine ⟨fun pins s σ H Q I h => ?_⟩
  refine wpAny_Call_Name_kw (ld_glob I hg hm ?_ hdb)
  exact PySem.W.callWith_K0 I.kIn hk (run_fnSD (us := []) F hr hb hd (hx σ) I .nil h)
def tMethS (C : Addr) (m : Str) (sp : Sp) (dvs : List V) (E : L2.St → XK) (ta : TE) (t : TA) : TE := fun σ H Q => ta σ H fun x H1 => ∃ a dx fs, x = .ref a ∧ H1 a = some (.ins C dx fs) ∧ fs.lookup m = none ∧
  t σ H1 fun vs H2 => sp (x :: (vs ++ dvs)) H2 Q (E σ)
theorem pe_methSD {pl : Sem Bool} (he : PE X o ta) (c : Cls X.K C) (hm : Meth X.K C m f) (F : FnOk X.prog X.w X.K X.mg X.base CX k f fd ps sp) (hr : Room k X.A) (hb : Binds X.K fd ps ds) (hd : Vals dvs ds) (hx : ∀ σ, PassesAt CX X σ (E σ)) (ha : PA X (e :: es) t)
    (hst : starEach (e :: es) X.env = (false, eval e X.env) :: starEach es X.env := by rfl) (hpl : (backTo pos (starEach es X.env)).any (·.1) = false := by rfl)
    (ht : eval (.Call (.Attribute o m apos) (e :: es) [] pos) X.env = (do
      let ov ← eval o X.env
      standAt apos.atName
      let (f, first) ← holding [ov] (getMethod ov m pl)
      callWith pos f first (backTo pos (starEach (e :: es) X.env)) (backToKw pos (keywordEach [] X.env))) := by rfl) :
    PE X (.Call (.Attribute o m apos) (e :: es) [] pos) (tMethS C m sp dvs E ta t) := by
  refine ⟨fun pins s σ H Q I h => ?_⟩
  refine PySem.W.methodCall_KW (pl := pl) (thn (he.run pins s σ H _ I h) fun u s1 ⟨x, H1, I1, rx, a, dx, fs, ex, ea, l, q⟩ => ?_) ht
  subst ex
  obtain rfl : u = Value.ref a := rx
  refine getmeth_ok I1 ea c hm l ?_
  refine PySem.W.callWith_K (first := [.ref a]) (h₀ := X.base) I.ok.mod.kin hm.kp (thn (ha.run pos pins s1 σ H1 _ I1 q) fun us s2 ⟨vs, H2, I2, r, q2⟩ => ⟨I2.kIn, ?_⟩) hst hpl
  exact run_fnSD (us := .ref a :: us) (vs := .ref a :: vs) F hr hb hd (hx σ) I2 (.cons rfl r) q2
theorem pe_meth0SD {pl : Sem Bool} (he : PE X o ta) (c : Cls X.K C) (hm : Meth X.K C m f) (F : FnOk X.prog X.w X.K X.mg X.base CX k f fd ps sp) (hr : Room k X.A) (hb : Binds X.K fd ps ds) (hd : Vals dvs ds) (hx : ∀ σ, PassesAt CX X σ (E σ))
    (ht : eval (.Call (.Attribute o m apos) [] [] pos) X.env = (do
      let ov ← eval o X.env
      standAt apos.atName
      let (f, first) ← holding [ov] (getMethod ov m pl)
      callWith pos f first (backTo pos (starEach [] X.env)) (backToKw pos (keywordEach [] X.env))) := by rfl) :
    PE X (.Call (.Attribute o m apos) [] [] pos) (tMethS C m sp dvs E ta tNil) := by
  refine ⟨fun pins s σ H Q I h => ?_⟩
  refine PySem.W.methodCall_KW (pl := pl) (thn (he.run pins s σ H _ I h) fun u s1 ⟨x, H1, I1, rx, a, dx, fs, ex, ea, l, q⟩ => ?_) ht
  subst ex
  obtain rfl : u = Value.ref a := rx
  refine getmeth_ok I1 ea c hm l ?_
  exact PySem.W.callWith_K0 (first := [.ref a]) I1.kIn hm.kp (run_fnSD (us := [.ref a]) (vs := [.ref a]) F hr hb hd (hx σ) I1 (.cons rfl .nil) q)
/-- an instance is made: what the exception of its __init__ leaves is wished for at the slots -/
def tMakeS (C : Addr) (sp : Sp) (dvs : List V) (E : L2.St → XK) (t : TA) : TE := fun σ H Q => t σ H fun vs H1 => ∀ x dx, H1 x = none → H1 dx = none → dx ≠ x →
  sp (.ref x :: (vs ++ dvs)) (upd (upd H1 dx (.own x)) x (.ins C dx [])) (fun v H2 => v = .non ∧ Q (.ref x) H2) (E σ)
theorem run_makeS {pins : List (Addr × Obj)} {σ : L2.St} {H : Hp} {s : Shared} {Q : VK} {us : List Value} {vs : List V} (M : Mk X.K C f) (F : FnOk X.prog X.w X.K X.mg X.base CX k f fd ps sp) (hr : Room (k + 1) X.A) (hb : Binds X.K fd ps ds) (hd : Vals dvs ds)
    (hx : PassesAt CX X σ (E σ)) (I : Inv X pins σ H s) (r : Vals vs us)
    (h : ∀ x dx, H x = none → H dx = none → dx ≠ x → sp (.ref x :: (vs ++ dvs)) (upd (upd H dx (.own x)) x (.ins C dx [])) (fun v H2 => v = .non ∧ Q (.ref x) H2) (E σ)) :
    wpAny (model X.prog X.w) X.A (call (.ref C) us) (EP X pins σ Q) X.xe s := by
  have hq := h (s.heap.objs.size + 1) s.heap.objs.size (I.hok.fresh (Nat.le_succ _)) (I.hok.fresh (Nat.le_refl _)) (Nat.ne_of_lt (Nat.lt_succ_self _))
  have I2 := Inv.made (C := C) I
  have r2 : Vals (V.ref (s.heap.objs.size + 1) :: (vs ++ dvs)) (Value.ref (s.heap.objs.size + 1) :: (us ++ ds)) := .cons rfl (r.append hd)
  have hl : (Value.ref (s.heap.objs.size + 1) :: us ++ ds).length = ps.length := by
    have e := r2.length
    rw [F.len _ _ _ _ hq] at e
    exact e.symm
  refine wpAny_call (make_map (f := f) I.kIn M.makes M.init (beq_iff_eq.mp M.fn) (codeAny_mono (F.run _ X.stack _ _ ⟨Value.ref (s.heap.objs.size + 1) :: us, []⟩ (Value.ref (s.heap.objs.size + 1) :: (us ++ ds)) _ _ (E σ) (hr.make C us [])
    (I2.env0.make C us []) (hb _ (Value.ref (s.heap.objs.size + 1) :: us) I2.kIn hl) r2 hq) fun r s' hq' => ?_))
  cases r with
  | error e => exact hx pins _ _ e s' I2 hq'
  | ok fl =>
    cases fl with
    | ret u =>
      obtain ⟨v, H', I3, rv, ev, q3⟩ := I2.after hq'
      subst ev
      exact ⟨rv, ⟨V.ref (s.heap.objs.size + 1), H', I3, rfl, q3⟩⟩
    | next => exact False.elim hq'
    | brk => exact False.elim hq'
    | cont => exact False.elim hq'
theorem pe_makeS (M : Mk X.K C f) (F : FnOk X.prog X.w X.K X.mg X.base CX k f fd ps sp) (hr : Room (k + 1) X.A) (hg : Gl X x) (hm : X.mg x = some (.ref C)) (hb : Binds X.K fd ps ds) (hd : Vals dvs ds) (hx : ∀ σ, PassesAt CX X σ (E σ))
    (ha : PA X (e :: es) t) (hdb : (x == ("__debug__" : Str)) = false := by decide) (he : starEach (e :: es) X.env = (false, eval e X.env) :: starEach es X.env := by rfl) (hpl : (backTo pos (starEach es X.env)).any (·.1) = false := by rfl) :
    PE X (.Call (.Name x p) (e :: es) [] pos) (tMakeS C sp dvs E t) := by
  refine ⟨fun pins s σ H Q I h => ?_⟩
  refine wpAny_Call_Name_kw (ld_glob I hg hm ?_ hdb)
  refine PySem.W.callWith_K (h₀ := X.base) I.ok.mod.kin M.kp (thn (ha.run pos pins s σ H _ I h) fun us s1 ⟨vs, H1, I1, r, q⟩ => ⟨I1.kIn, ?_⟩) he hpl
  exact run_makeS M F hr hb hd (hx σ) I1 r q
end
/-! ### by data -/
/-- the defaults, as operands -/
def dCall (sp : SpD) (dds : List D) (t : TVD) : TXD := fun ρ Q X => t ρ (fun ods ρ1 => callD ρ1 (ods ++ dds.map Opd.d) sp Q X) X
theorem paired_app {α β : Type} {P : α → β → Prop} : ∀ {l l' : List α} {m m' : List β}, Paired P l m → Paired P l' m' → Paired P (l ++ l') (m ++ m')
  | _, _, _, _, .nil, r => r
  | _, _, _, _, .cons p q, r => .cons p (paired_app q r)
theorem opds_of {K : PySem.W.Frag} {F : Fz} {σ : L2.St} : ∀ {vs : List V} {ds : List D}, DenL K F vs ds → Paired (OpAt K F σ) (ds.map Opd.d) vs
  | _, _, .nil => .nil
  | _, _, .cons q r => .cons q (opds_of r)
section
variable {X : Cx} {k : Nat} {f C : Addr} {sp : SpD} {dvs : List V} {dds : List D} {x m : Str} {p pos apos : Pos} {e o : Expr} {es : List Expr} {to : TOD} {t : TVD}
theorem lx_call {W : WX} {σ : L2.St} {H : Hp} {Q : VK} (hD : ∀ F, DenL X.K F dvs dds) (h : LX X.K W (dCall sp dds t) σ H Q) : tCallSD (liftSp X.K sp) dvs (WE W) (LV X.K W t) σ H Q := by
  obtain ⟨G, F, R, ρ, Qd, Xd, r, q, n, xx⟩ := h
  refine ⟨G, F, R, ρ, _, Xd, r, q, fun ods ρ1 vs F1 H1 R1 r1 l1 pv q1 => ?_, xx⟩
  exact call_lift r1 (paired_app pv (opds_of (hD F1))) q1 (fun x ρ' v F' H' R' T r' l => n x ρ' v F' H' R' T r' (l1.trans l)) fun e ρ' dx F' H' R' T r' l => xx e ρ' dx F' H' R' T r' (l1.trans l)
theorem dx_call (F : FnD X.prog X.w X.K X.mg X.base k f dvs sp) (hD : ∀ F, DenL X.K F dvs dds) (hr : Room k X.A) (hg : Gl X x) (hm : X.mg x = some (.ref f)) (hk : PySem.W.keepIn X.K (.ref f) = true) (ha : DVs X (e :: es) t)
    (hdb : (x == ("__debug__" : Str)) = false := by decide) (he : starEach (e :: es) X.env = (false, eval e X.env) :: starEach es X.env := by rfl) (hpl : (backTo pos (starEach es X.env)).any (·.1) = false := by rfl) :
    DX X (.Call (.Name x p) (e :: es) [] pos) (dCall sp dds t) := fun W tk => by
  obtain ⟨fd, ps, ds, F, hb, hd⟩ := F.ex
  exact pe_imp (pe_callSD (E := WE W) F hr hg hm hk hb hd (fun σ => passAt tk σ) (ha W tk) hdb he hpl) fun σ H Q h => lx_call hD h
theorem dx_call0 (F : FnD X.prog X.w X.K X.mg X.base k f dvs sp) (hD : ∀ F, DenL X.K F dvs dds) (hr : Room k X.A) (hg : Gl X x) (hm : X.mg x = some (.ref f)) (hk : PySem.W.keepIn X.K (.ref f) = true)
    (hdb : (x == ("__debug__" : Str)) = false := by decide) : DX X (.Call (.Name x p) [] [] pos) (dCall sp dds vNil) := fun W tk => by
  obtain ⟨fd, ps, ds, F, hb, hd⟩ := F.ex
  refine pe_imp (pe_call0SD (E := WE W) F hr hg hm hk hb hd (fun σ => passAt tk σ) hdb) fun σ H Q h => ?_
  obtain ⟨G, Fz, R, ρ, Qd, Xd, r, q, n, xx⟩ := h
  exact call_lift r (opds_of (hD Fz)) q n fun e ρ' dx F' H' R' T r' l => xx e ρ' dx F' H' R' T r' l
/-- o.m(..) of an instance of the class at C -/
def isIns (C : Addr) (m : Str) : D → Prop
  | .ins C' fs => C' = C ∧ fs.lookup m = none
  | _ => False
def dMeth (C : Addr) (m : Str) (sp : SpD) (dds : List D) (to : TOD) (t : TVD) : TXD := fun ρ Q X => to ρ (fun od ρ1 => see1 ρ1 od (isIns C m) ∧ t ρ1 (fun ods ρ2 => callD ρ2 (od :: (ods ++ dds.map Opd.d)) sp Q X) X) X
theorem lx_meth {W : WX} {σ : L2.St} {H : Hp} {Q : VK} (hD : ∀ F, DenL X.K F dvs dds) (h : LX X.K W (dMeth C m sp dds to t) σ H Q) : tMethS C m (liftSp X.K sp) dvs (WE W) (LO X.K W to) (LV X.K W t) σ H Q := by
  obtain ⟨G, F, R, ρ, Qd, Xd, r, q, n, xx⟩ := h
  refine ⟨G, F, R, ρ, _, Xd, r, q, fun od ρ1 v F1 H1 R1 r1 l1 o1 ⟨q0, q1⟩ => ?_, xx⟩
  obtain ⟨d, ed, hi⟩ := see1_of q0
  have s1 := r1.look o1 ed
  cases d with
  | ins C' fs =>
    obtain ⟨rfl, hn⟩ := hi
    obtain ⟨a, dx, vs, rfl, ha, df⟩ := s1.ins r1.fit
    refine ⟨a, dx, vs, rfl, ha, df.lookup_none hn, G, F1, R1, ρ1, _, Xd, r1, q1, fun ods ρ2 us F2 H2 R2 r2 l2 pv q2 => ?_, xx.le l1⟩
    exact call_lift r2 (.cons (o1.le l2) (paired_app pv (opds_of (hD F2)))) q2 (fun x ρ' v F' H' R' T r' l => n x ρ' v F' H' R' T r' ((l1.trans l2).trans l)) fun e ρ' dx F' H' R' T r' l => xx e ρ' dx F' H' R' T r' ((l1.trans l2).trans l)
  | _ => exact hi.elim
theorem dx_meth {pl : Sem Bool} (ho : DO X o to) (c : Cls X.K C) (hm : Meth X.K C m f) (F : FnD X.prog X.w X.K X.mg X.base k f dvs sp) (hD : ∀ F, DenL X.K F dvs dds) (hr : Room k X.A) (ha : DVs X (e :: es) t)
    (hst : starEach (e :: es) X.env = (false, eval e X.env) :: starEach es X.env := by rfl) (hpl : (backTo pos (starEach es X.env)).any (·.1) = false := by rfl)
    (ht : eval (.Call (.Attribute o m apos) (e :: es) [] pos) X.env = (do
      let ov ← eval o X.env
      standAt apos.atName
      let (f, first) ← holding [ov] (getMethod ov m pl)
      callWith pos f first (backTo pos (starEach (e :: es) X.env)) (backToKw pos (keywordEach [] X.env))) := by rfl) :
    DX X (.Call (.Attribute o m apos) (e :: es) [] pos) (dMeth C m sp dds to t) := fun W tk => by
  obtain ⟨fd, ps, ds, F, hb, hd⟩ := F.ex
  exact pe_imp (pe_methSD (E := WE W) (ho W tk) c hm F hr hb hd (fun σ => passAt tk σ) (ha W tk) hst hpl ht) fun σ H Q h => lx_meth hD h
theorem dx_meth0 {pl : Sem Bool} (ho : DO X o to) (c : Cls X.K C) (hm : Meth X.K C m f) (F : FnD X.prog X.w X.K X.mg X.base k f dvs sp) (hD : ∀ F, DenL X.K F dvs dds) (hr : Room k X.A)
    (ht : eval (.Call (.Attribute o m apos) [] [] pos) X.env = (do
      let ov ← eval o X.env
      standAt apos.atName
      let (f, first) ← holding [ov] (getMethod ov m pl)
      callWith pos f first (backTo pos (starEach [] X.env)) (backToKw pos (keywordEach [] X.env))) := by rfl) :
    DX X (.Call (.Attribute o m apos) [] [] pos) (dMeth C m sp dds to vNil) := fun W tk => by
  obtain ⟨fd, ps, ds, F, hb, hd⟩ := F.ex
  refine pe_imp (pe_meth0SD (E := WE W) (ho W tk) c hm F hr hb hd (fun σ => passAt tk σ) ht) fun σ H Q h => ?_
  obtain ⟨G, Fz, R, ρ, Qd, Xd, r, q, n, xx⟩ := h
  refine ⟨G, Fz, R, ρ, _, Xd, r, q, fun od ρ1 v F1 H1 R1 r1 l1 o1 ⟨q0, q1⟩ => ?_, xx⟩
  obtain ⟨d, ed, hi⟩ := see1_of q0
  have s1 := r1.look o1 ed
  cases d with
  | ins C' fs =>
    obtain ⟨rfl, hn⟩ := hi
    obtain ⟨a, dx, vs, rfl, ha, df⟩ := s1.ins r1.fit
    refine ⟨a, dx, vs, rfl, ha, df.lookup_none hn, ?_⟩
    exact call_lift r1 (.cons o1 (opds_of (hD F1))) q1 (fun x ρ' v F' H' R' T r' l => n x ρ' v F' H' R' T r' (l1.trans l)) fun e ρ' dx F' H' R' T r' l => xx e ρ' dx F' H' R' T r' (l1.trans l)
  | _ => exact hi.elim
/-! ### a new instance: it is lent to its __init__ in a slot behind the others -/
theorem Rp.push {K : PySem.W.Frag} {G : Gd} {F : Fz} {H : Hp} {R : Nat → Addr → Prop} {σ : L2.St} {ρ : Rho} {T : Addr → Prop} {y : DV} {v : V} (r : Rp K G F H R σ ρ) (t : Tmp G F H R T) (h : AtV K F H T y v) (hl : ∀ b, y ≠ .l b) :
    Rp K G F H (fun i a => if i = ρ.length then T a else R i a) (σ ++ [some v]) (ρ ++ [some y]) := by
  have el := r.len
  refine ⟨r.fit, r.out, by simp [el], fun i x e => ?_, fun i a e => ?_, fun i j a e1 e2 => ?_, fun i b e => ?_⟩
  · by_cases q : i < ρ.length
    · rw [List.getElem?_append_left q] at e
      obtain ⟨u, g1, g2⟩ := r.at_ i x e
      refine ⟨u, by rw [List.getElem?_append_left (by omega)]; exact g1, g2.keep (.refl F) (fun _ _ => rfl) fun a ra => ?_⟩
      show if i = ρ.length then T a else R i a
      rw [if_neg (by omega)]
      exact ra
    · rw [List.getElem?_append_right (by omega)] at e
      cases z : i - ρ.length with
      | zero =>
        rw [z] at e
        simp at e
        subst e
        refine ⟨v, by rw [List.getElem?_append_right (by omega), el, z]; rfl, h.keep (.refl F) (fun _ _ => rfl) fun a ra => ?_⟩
        show if i = ρ.length then T a else R i a
        rw [if_pos (by omega)]
        exact ra
      | succ n => rw [z] at e; simp at e
  · have e' : if i = ρ.length then T a else R i a := e
    by_cases q : i = ρ.length
    · rw [if_pos q] at e'
      obtain ⟨g1, g2, g3, _⟩ := t a e'
      exact ⟨g1, g2, g3⟩
    · rw [if_neg q] at e'
      exact r.reg i a e'
  · have e1' : if i = ρ.length then T a else R i a := e1
    have e2' : if j = ρ.length then T a else R j a := e2
    by_cases q : i = ρ.length
    · by_cases q2 : j = ρ.length
      · rw [q, q2]
      · rw [if_pos q] at e1'; rw [if_neg q2] at e2'; exact absurd e2' ((t a e1').2.2.2 j)
    · by_cases q2 : j = ρ.length
      · rw [if_neg q] at e1'; rw [if_pos q2] at e2'; exact absurd e1' ((t a e2').2.2.2 i)
      · rw [if_neg q] at e1'; rw [if_neg q2] at e2'; exact r.dis i j a e1' e2'
  · by_cases q : i < ρ.length
    · rw [List.getElem?_append_left q] at e
      rw [List.getElem?_append_left (by omega)]
      exact r.lnt i b e
    · rw [List.getElem?_append_right (by omega)] at e
      cases z : i - ρ.length with
      | zero => rw [z] at e; simp at e; exact absurd e (hl b)
      | succ n => rw [z] at e; simp at e
/-- the last slot is taken off -/
theorem Rp.pop {K : PySem.W.Frag} {G : Gd} {F : Fz} {H : Hp} {R : Nat → Addr → Prop} {σ : L2.St} {ρ : Rho} {o : Option V} {y : Option DV} (r : Rp K G F H R (σ ++ [o]) (ρ ++ [y])) :
    Rp K G F H (fun i a => i < ρ.length ∧ R i a) σ ρ ∧ Tmp G F H (fun i a => i < ρ.length ∧ R i a) (R ρ.length) ∧ ∀ x, y = some x → ∃ v, o = some v ∧ AtV K F H (R ρ.length) x v := by
  have el : σ.length = ρ.length := by have := r.len; simpa using this
  refine ⟨⟨r.fit, r.out, el, fun i x e => ?_, fun i a e => r.reg i a e.2, fun i j a e1 e2 => r.dis i j a e1.2 e2.2, fun i b e => ?_⟩, fun a ha => ?_, fun x e => ?_⟩
  · have hi := (List.getElem?_eq_some_iff.mp e).1
    obtain ⟨v, g1, g2⟩ := r.at_ i x (by rw [List.getElem?_append_left hi]; exact e)
    exact ⟨v, by rw [List.getElem?_append_left (by omega)] at g1; exact g1, g2.keep (.refl F) (fun _ _ => rfl) fun a ra => ⟨hi, ra⟩⟩
  · have hi := (List.getElem?_eq_some_iff.mp e).1
    have g := r.lnt i b (by rw [List.getElem?_append_left hi]; exact e)
    rw [List.getElem?_append_left (by omega)] at g
    exact g
  · obtain ⟨g1, g2, g3⟩ := r.reg _ a ha
    refine ⟨g1, g2, g3, fun i hi => ?_⟩
    have e := r.dis i _ a hi.2 ha
    have := hi.1
    omega
  · subst e
    obtain ⟨v, g1, g2⟩ := r.at_ ρ.length x (by rw [List.getElem?_append_right (Nat.le_refl _)]; simp)
    rw [List.getElem?_append_right (by omega), el] at g1
    simp at g1
    exact ⟨v, g1, g2⟩
/-- behind a call whose last slot was the new object's -/
def popQ (Q : DV → Rho → Prop) (x : DV) (ρ : Rho) : Prop := (x = .v .non) ∧ match ρ.getLast? with
  | some (some (.o b)) => Q (.o b) ρ.dropLast
  | _ => False
def slotsOk (n : Nat) : List Opd → Prop
  | [] => True
  | .s i :: ods => i < n ∧ slotsOk n ods
  | .d _ :: ods => slotsOk n ods
def dMake (C : Addr) (sp : SpD) (dds : List D) (t : TVD) : TXD := fun ρ Q X => t ρ (fun ods ρ1 => slotsOk ρ1.length ods ∧ callD (ρ1 ++ [some (.o (.ins C []))]) (.s ρ1.length :: (ods ++ dds.map Opd.d)) sp (popQ Q) (fun e ρ' => X e ρ'.dropLast)) X
theorem opAt_app {K : PySem.W.Frag} {F F' : Fz} {σ : L2.St} {o : Option V} (l : Fle F F') : ∀ {ods : List Opd} {vs : List V}, slotsOk σ.length ods → Paired (OpAt K F σ) ods vs → Paired (OpAt K F' (σ ++ [o])) ods vs
  | [], _, _, .nil => .nil
  | .s i :: _, _, h, .cons p q => .cons (by
      have h' : σ[i]? = _ := p
      show (σ ++ [o])[i]? = _
      rw [List.getElem?_append_left h.1]
      exact h') (opAt_app l h.2 q)
  | .d d :: _, _, h, .cons p q => .cons (Den.le l p) (opAt_app l h q)
theorem dropLast_get {α : Type} {l : List α} {y : α} (h : l.getLast? = some y) : l = l.dropLast ++ [y] := by
  obtain ⟨ys, e⟩ := List.getLast?_eq_some_iff.mp h
  rw [e]
  simp
theorem dx_make (M : Mk X.K C f) (F : FnD X.prog X.w X.K X.mg X.base k f dvs sp) (hD : ∀ F, DenL X.K F dvs dds) (hr : Room (k + 1) X.A) (hg : Gl X x) (hm : X.mg x = some (.ref C)) (ha : DVs X (e :: es) t)
    (hdb : (x == ("__debug__" : Str)) = false := by decide) (he : starEach (e :: es) X.env = (false, eval e X.env) :: starEach es X.env := by rfl) (hpl : (backTo pos (starEach es X.env)).any (·.1) = false := by rfl) :
    DX X (.Call (.Name x p) (e :: es) [] pos) (dMake C sp dds t) := fun W tk => by
  obtain ⟨fd, ps, ds, F, hb, hd⟩ := F.ex
  refine pe_imp (pe_makeS (E := WE W) M F hr hg hm hb hd (fun σ => passAt tk σ) (ha W tk) hdb he hpl) fun σ H Q h => ?_
  obtain ⟨G, Fz, R, ρ, Qd, Xd, r, q, n, xx⟩ := h
  refine ⟨G, Fz, R, ρ, _, Xd, r, q, fun ods ρ1 vs F1 H1 R1 r1 l1 pv ⟨sok, q1⟩ => fun x dx hx hdx ne => ?_, xx⟩
  -- the heap with the new instance
  have g1 : Grow F1 H1 F1 (upd H1 dx (.own x)) := .own r1.fit hdx
  have hx1 : upd H1 dx (.own x) x = none := by rw [upd_ne (Ne.symm ne)]; exact hx
  have r2 := r1.grow g1
  have g2 : Grow F1 (upd H1 dx (.own x)) F1 (upd (upd H1 dx (.own x)) x (.ins C dx [])) := .own r2.fit hx1
  have r3 := (r2.grow g2).push (y := .o (.ins C [])) (v := .ref x) (Tmp.new r2 hx1) ⟨x, dx, [], rfl, rfl, upd_same, .nil⟩ (fun b z => nomatch z)
  have el := r1.len
  have pv2 : Paired (OpAt X.K F1 (σ ++ [some (.ref x)])) (.s ρ1.length :: (ods ++ dds.map Opd.d)) (.ref x :: (vs ++ dvs)) := by
    refine .cons ?_ (paired_app (opAt_app (.refl F1) (by rw [el]; exact sok) pv) (opds_of (hD F1)))
    show (σ ++ [some (V.ref x)])[ρ1.length]? = some (some (.ref x))
    rw [List.getElem?_append_right (by omega), el]
    simp
  refine call_lift r3 pv2 q1 (fun y ρ' v F' H' R' T r' l t av nl qq => ?_) fun ex ρ' dx' F' H' R' T r' l t av qq => ?_
  · obtain ⟨rfl, qq⟩ := qq
    cases z : ρ'.getLast? with
    | none => rw [z] at qq; exact qq.elim
    | some w =>
      rw [z] at qq
      have er := dropLast_get z
      rw [er] at r'
      obtain ⟨p1, p2, p3⟩ := r'.pop
      cases w with
      | none => exact qq.elim
      | some w =>
        cases w with
        | o b =>
          obtain ⟨u, e1, e2⟩ := p3 _ rfl
          cases e1
          cases av
          exact ⟨rfl, n (.o b) ρ'.dropLast (.ref x) F' H' _ _ p1 (l1.trans l) p2 e2 (fun b z => nomatch z) qq⟩
        | v d => exact qq.elim
        | l b => exact qq.elim
  · have hne : ρ' ≠ [] := fun z => by
      have := r'.len
      rw [z] at this
      simp at this
    obtain ⟨w, z⟩ : ∃ w, ρ'.getLast? = some w := by
      cases z : ρ'.getLast? with
      | none => exact absurd (List.getLast?_eq_none_iff.mp z) hne
      | some w => exact ⟨w, rfl⟩
    have er := dropLast_get z
    rw [er] at r'
    obtain ⟨p1, p2, p3⟩ := r'.pop
    refine xx ex ρ'.dropLast dx' F' H' _ T p1 (l1.trans l) (fun a ta => ?_) av qq
    obtain ⟨t1, t2, t3, t4⟩ := t a ta
    exact ⟨t1, t2, t3, fun i hi => t4 i hi.2⟩
end
end PD
set_option maxHeartbeats 1000000
namespace PD
open PySem L2
/-! ### subscripts -/
/-- o[i] of anything that may be subscripted by an int -/
def fIx : D → D → (D → Prop) → Prop
  | .lst xs, .int i, P => (match atI xs i with
    | some d => P d
    | none => False)
  | .tup xs, .int i, P => (match atI xs i with
    | some d => P d
    | none => False)
  | .scr ns, .int i, P => (match atI ns i with
    | some n => P (.int n)
    | none => False)
  | .str z, .int i, P => z.length ≤ sizeLine ∧ (match atI z.cps.toList i with
    | some c => P (.str ⟨#[c]⟩)
    | none => False)
  | .stm, .int i, P => (i = 0 ∨ i = 1) ∧ ∀ a : Int, 0 ≤ a → P (.int a)
  | _, _, _ => False
theorem atI_den {K : PySem.W.Frag} {F : Fz} {vs : List V} {ds : List D} {i : Int} {d : D} (h : DenL K F vs ds) (e : atI ds i = some d) : ∃ v, atI vs i = some v ∧ Den K F v d := by
  unfold atI at e ⊢
  rw [h.length]
  cases q : ixN ds.length i with
  | none => rw [q] at e; cases e
  | some j =>
    rw [q] at e
    obtain ⟨v, e1, e2⟩ := h.get e
    exact ⟨v, e1, e2⟩
theorem atI_map {α β : Type} (f : α → β) (xs : List α) (i : Int) : atI (xs.map f) i = (atI xs i).map f := by
  unfold atI
  rw [List.length_map]
  cases ixN xs.length i with
  | none => rfl
  | some j => show (xs.map f)[j]? = _; rw [List.getElem?_map]; rfl
section
variable {X : Cx} {a b : Expr} {ta tb : TOD} {pos : Pos}
theorem xIx : IxR X (rD X.K fIx) := by
  intro value slice pins s σ H x y v u Q I rx ry ⟨F, dx, dy, P, fit, sx, sy, h, k⟩ hs
  cases dy with
  | int i =>
    cases sy.int
    cases dx with
    | lst xs =>
      obtain ⟨p, vs, rfl, hp, dl⟩ := sx.lst fit
      have h' : (match atI xs i with
        | some d => P d
        | none => False) := h
      cases q : atI xs i with
      | none => rw [q] at h'; exact h'.elim
      | some d =>
        rw [q] at h'
        obtain ⟨w, e1, e2⟩ := atI_den dl q
        exact ix_list value slice pins s σ H _ _ v u Q I rx ry ⟨p, vs, i, w, rfl, rfl, SqL.of hp, e1, k _ _ F H (.refl fit) e2 h'⟩ hs
    | tup xs =>
      obtain ⟨p, vs, rfl, hp, dl⟩ := sx.tup fit
      have h' : (match atI xs i with
        | some d => P d
        | none => False) := h
      cases q : atI xs i with
      | none => rw [q] at h'; exact h'.elim
      | some d =>
        rw [q] at h'
        obtain ⟨w, e1, e2⟩ := atI_den dl q
        exact ix_tup value slice pins s σ H _ _ v u Q I rx ry ⟨p, vs, i, w, rfl, rfl, hp, e1, k _ _ F H (.refl fit) e2 h'⟩ hs
    | scr ns =>
      obtain ⟨p, rfl, hp⟩ := sx.scr fit
      have h' : (match atI ns i with
        | some d => P (.int d)
        | none => False) := h
      cases q : atI ns i with
      | none => rw [q] at h'; exact h'.elim
      | some n =>
        rw [q] at h'
        exact ix_list value slice pins s σ H _ _ v u Q I rx ry ⟨p, _, i, .int n, rfl, rfl, hp, by rw [atI_map, q]; rfl, k _ _ F H (.refl fit) (.int n) h'⟩ hs
    | str z =>
      cases sx.str
      obtain ⟨hz, h⟩ := h
      have h' : (match atI z.cps.toList i with
        | some c => P (.str ⟨#[c]⟩)
        | none => False) := h
      cases q : atI z.cps.toList i with
      | none => rw [q] at h'; exact h'.elim
      | some c =>
        rw [q] at h'
        exact ix_str value slice pins s σ H _ _ v u Q I rx ry ⟨z, i, c, rfl, rfl, hz, q, k _ _ F H (.refl fit) (.str _) h'⟩ hs
    | stm =>
      obtain ⟨p, m, n, rfl, hF, h0, h1, hp⟩ := sx.stm fit
      obtain ⟨hi, h⟩ := h
      rcases hi with rfl | rfl
      · exact ix_list value slice pins s σ H _ _ v u Q I rx ry ⟨p, _, 0, .int m, rfl, rfl, SqL.of hp, rfl, k _ _ F H (.refl fit) (.int m) (h m h0)⟩ hs
      · exact ix_list value slice pins s σ H _ _ v u Q I rx ry ⟨p, _, 1, .int n, rfl, rfl, SqL.of hp, rfl, k _ _ F H (.refl fit) (.int n) (h n h1)⟩ hs
    | _ => exact h.elim
  | _ => cases dx <;> exact h.elim
theorem de_ix (ha : DO X a ta) (hb : DO X b tb) (hs : PlainIx b) : DE X (.Subscript a b pos) (dOp fIx ta tb) := fun W tk => pe_imp (pe_ix xIx (ha W tk) (hb W tk) hs) fun _ _ _ h => le_op h
/-! ### slices -/
abbrev TPD := Rho → (Option Int → Rho → Prop) → XD → Prop
def LP (K : PySem.W.Frag) (W : WX) (t : TPD) : TO := fun σ H Q => ∃ G F R ρ Qd Xd, Rp K G F H R σ ρ ∧ t ρ Qd Xd ∧
  (∀ o ρ' F' H' R', Rp K G F' H' R' σ ρ' → Fle F F' → Qd o ρ' → Q o H') ∧ PostX K W G F σ Xd
def DP (X : Cx) (e : Option Expr) (t : TPD) : Prop := ∀ W, Takes X W → PO X e (LP X.K W t)
def dNoP : TPD := fun ρ Q _ => Q none ρ
def dPart (t : TED) : TPD := fun ρ Q X => t ρ (fun d ρ' => match d with
  | .int i => Q (some i) ρ'
  | _ => False) X
theorem dp_none : DP X none dNoP := fun W tk => ⟨fun pins s σ H Q I ⟨G, F, R, ρ, Qd, Xd, r, q, n, x⟩ => po_none.run pins s σ H Q I (n none ρ F H R r (.refl F) q)⟩
theorem dp_some {e : Expr} {t : TED} (h : DE X e t) : DP X (some e) (dPart t) := fun W tk => ⟨fun pins s σ H Q I ⟨G, F, R, ρ, Qd, Xd, r, q, n, x⟩ => (po_some (h W tk)).run pins s σ H Q I
  ⟨G, F, R, ρ, _, Xd, r, q, fun d ρ' v F' H' R' r' l hd qd => by
    cases d with
    | int i => cases hd; exact ⟨i, rfl, n (some i) ρ' F' H' R' r' l qd⟩
    | _ => exact qd.elim, x⟩⟩
def cutD (xs : List D) (lo hi : Option Int) : List D := (xs.drop (HT.sIx xs.length 0 lo)).take (HT.sIx xs.length xs.length hi - HT.sIx xs.length 0 lo)
def fSl : D → Option Int → Option Int → (DV → Prop) → Prop
  | .lst xs, lo, hi, P => P (.o (.lst (cutD xs lo hi)))
  | .str z, lo, hi, P => z.length ≤ sizeLine ∧ P (.v (.str (cutS z lo hi)))
  | _, _, _, _ => False
def dSl (ta : TOD) (tl th : TPD) : TXD := fun ρ Q X => ta ρ (fun oa ρ1 => tl ρ1 (fun lo ρ2 => th ρ2 (fun hi ρ3 => see1 ρ3 oa fun x => fSl x lo hi fun y => Q y ρ3) X) X) X
theorem dx_slice {lo hi : Option Expr} {tl th : TPD} {p2 : Pos} (ha : DO X a ta) (hl : DP X lo tl) (hh : DP X hi th) : DX X (.Subscript a (.Slice lo hi none p2) pos) (dSl ta tl th) := fun W tk =>
  pe_imp (pe_slice (sl_list.or sl_str) (ha W tk) (hl W tk) (hh W tk)) fun σ H Q ⟨G, F, R, ρ, Qd, Xd, r, q, n, x⟩ =>
    ⟨G, F, R, ρ, _, Xd, r, q, fun oa ρ1 v F1 H1 R1 r1 l1 o1 q1 => ⟨G, F1, R1, ρ1, _, Xd, r1, q1, fun lo ρ2 F2 H2 R2 r2 l2 q2 => ⟨G, F2, R2, ρ2, _, Xd, r2, q2, fun hi ρ3 F3 H3 R3 r3 l3 q3 => by
      obtain ⟨d, ed, q3⟩ := see1_of q3
      have sx := r3.look (o1.le (l2.trans l3)) ed
      cases d with
      | lst xs =>
        obtain ⟨p, vs, rfl, hp, dl⟩ := sx.lst r3.fit
        refine .inl ⟨p, vs, rfl, SqL.of hp, fun z hz => ?_⟩
        refine n (.o (.lst (cutD xs lo hi))) ρ3 (.ref z) F3 _ R3 (fun a => a = z) (r3.grow (.own r3.fit hz)) ((l1.trans l2).trans l3) (.new r3 hz) ⟨z, _, rfl, rfl, upd_same, ?_⟩ (fun b z => nomatch z) q3
        unfold cutV cutD
        rw [← dl.length]
        exact (dl.drop _).take _
      | str z =>
        cases sx.str
        obtain ⟨h1, h2⟩ := q3
        exact .inr ⟨z, rfl, h1, n (.v (.str (cutS z lo hi))) ρ3 _ F3 H3 R3 NoR r3 ((l1.trans l2).trans l3) .no (.str _) (fun b z => nomatch z) h2⟩
      | _ => exact q3.elim, x.le (l1.trans l2)⟩, x.le l1⟩, x⟩
/-! ### calls of built-ins with one argument: one reading by data -/
def rC1 (K : PySem.W.Frag) (f : D → (DV → Prop) → Prop) : List V → Hp → VK → Prop := fun xs H Q => ∃ (x : V) (F : Fz) (dx : D) (P : DV → Prop), xs = [x] ∧ Fit F H ∧ See K F H x dx ∧ f dx P ∧
  ∀ z y F' H' T, Grow F H F' H' → (∀ a, T a → H a = none ∧ H' a ≠ none ∧ F' a = none) → AtV K F' H' T y z → (∀ b, y ≠ .l b) → P y → Q z H'
def dC1 (f : D → (DV → Prop) → Prop) (ta : TOD) : TXD := fun ρ Q X => ta ρ (fun oa ρ1 => see1 ρ1 oa fun x => f x fun y => Q y ρ1) X
theorem lx_c1 {K : PySem.W.Frag} {W : WX} {f : D → (DV → Prop) → Prop} {σ : L2.St} {H : Hp} {Q : VK} (h : LX K W (dC1 f ta) σ H Q) : tCB (rC1 K f) (tCons (LO K W ta) tNil) σ H Q := by
  obtain ⟨G, F, R, ρ, Qd, Xd, r, q, n, x⟩ := h
  refine ⟨G, F, R, ρ, _, Xd, r, q, fun oa ρ1 v F1 H1 R1 r1 l1 o1 q1 => ?_, x⟩
  obtain ⟨d, ed, q1⟩ := see1_of q1
  refine ⟨v, F1, d, _, rfl, r1.fit, r1.look o1 ed, q1, fun z y F2 H2 T g ht at_ nl p => ?_⟩
  refine n y ρ1 z F2 H2 R1 T (r1.grow g) (l1.trans g.le) (fun a ta => ?_) at_ nl p
  obtain ⟨h1, h2, h3⟩ := ht a ta
  obtain ⟨g1, g2, g3⟩ := r1.ho_free h1
  exact ⟨h3, g2, h2, g3⟩
theorem dx_c1 {f : D → (DV → Prop) → Prop} {x id : _} {p : Pos} (hc : CallR X (.builtin id) (rC1 X.K f)) (ha : DO X a ta) (hg : Gl X x) (hm : X.mg x = none) (hv : bootBuiltins x = some (.builtin id)) (hn : x ≠ "__name__" := by decide) (hdb : (x == ("__debug__" : Str)) = false := by decide)
    (hs : starEach [a] X.env = (false, eval a X.env) :: starEach [] X.env := by rfl) : DX X (.Call (.Name x p) [a] [] pos) (dC1 f ta) := fun W tk =>
  pe_imp (pe_callB hc hg hm hv (pa_cons (ha W tk) pa_nil hs) hn hdb hs) fun _ _ _ h => lx_c1 h
theorem dx_t1 {f : D → (DV → Prop) → Prop} {x T : _} {p : Pos} (hc : CallR X (.type T) (rC1 X.K f)) (ha : DO X a ta) (hg : Gl X x) (hm : X.mg x = none) (hv : bootBuiltins x = some (.type T)) (hn : x ≠ "__name__" := by decide) (hdb : (x == ("__debug__" : Str)) = false := by decide)
    (hs : starEach [a] X.env = (false, eval a X.env) :: starEach [] X.env := by rfl) : DX X (.Call (.Name x p) [a] [] pos) (dC1 f ta) := fun W tk =>
  pe_imp (pe_callTy hc hg hm hv (pa_cons (ha W tk) pa_nil hs) hn hdb hs) fun _ _ _ h => lx_c1 h
/-- a tree as the answer -/
theorem rC1.give {K : PySem.W.Frag} {F : Fz} {H : Hp} {P : DV → Prop} {Q : VK} (fit : Fit F H) (k : ∀ z y F' H' T, Grow F H F' H' → (∀ a, T a → H a = none ∧ H' a ≠ none ∧ F' a = none) → AtV K F' H' T y z → (∀ b, y ≠ .l b) → P y → Q z H') {v : V} {d : D} (h : Den K F v d) (p : P (.v d)) : Q v H :=
  k v (.v d) F H NoR (.refl fit) (fun _ z => z.elim) h (fun b z => nomatch z) p
/-- a new list as the answer -/
theorem rC1.newL {K : PySem.W.Frag} {F : Fz} {H : Hp} {P : DV → Prop} {Q : VK} (fit : Fit F H) (k : ∀ z y F' H' T, Grow F H F' H' → (∀ a, T a → H a = none ∧ H' a ≠ none ∧ F' a = none) → AtV K F' H' T y z → (∀ b, y ≠ .l b) → P y → Q z H') {vs : List V} {ds : List D} (h : DenL K F vs ds) (p : P (.o (.lst ds))) {q : Addr} (hq : H q = none) :
    Q (.ref q) (upd H q (.lst vs)) := k (.ref q) (.o (.lst ds)) F _ (fun a => a = q) (.own fit hq) (fun a e => by subst e; exact ⟨hq, by rw [upd_same]; exact fun z => (nomatch z), fit.free hq⟩) ⟨q, vs, rfl, rfl, upd_same, h⟩ (fun b z => nomatch z) p
def fLen : D → (DV → Prop) → Prop
  | .lst xs, P => P (.v (.int xs.length))
  | .tup xs, P => P (.v (.int xs.length))
  | .scr xs, P => P (.v (.int xs.length))
  | .str z, P => z.length ≤ sizeLine ∧ P (.v (.int z.length))
  | _, _ => False
theorem cLen : CallR X (.builtin "len") (rC1 X.K fLen) := by
  intro pins s σ H xs us Q I r ⟨x, F, dx, P, e, fit, sx, h, k⟩
  subst e
  cases dx with
  | lst ds =>
    obtain ⟨p, vs, rfl, hp, dl⟩ := sx.lst fit
    refine call_len pins s σ H _ us Q I r ⟨.ref p, _, rfl, .inl ⟨vs, SqL.of hp, rfl⟩, ?_⟩
    rw [dl.length]
    exact rC1.give fit k (.int _) h
  | tup ds =>
    obtain ⟨p, vs, rfl, hp, dl⟩ := sx.tup fit
    refine call_len pins s σ H _ us Q I r ⟨.ref p, _, rfl, .inr ⟨vs, hp, rfl⟩, ?_⟩
    rw [dl.length]
    exact rC1.give fit k (.int _) h
  | scr ds =>
    obtain ⟨p, rfl, hp⟩ := sx.scr fit
    refine call_len pins s σ H _ us Q I r ⟨.ref p, _, rfl, .inl ⟨_, hp, rfl⟩, ?_⟩
    rw [List.length_map]
    exact rC1.give fit k (.int _) h
  | str z =>
    cases sx.str
    exact call_len pins s σ H _ us Q I r ⟨.str z, _, rfl, ⟨h.1, rfl⟩, rC1.give fit k (.int _) h.2⟩
  | _ => exact h.elim
def fInt : D → (DV → Prop) → Prop
  | .int i, P => P (.v (.int i))
  | .bl b, P => P (.v (.int (if b then 1 else 0)))
  | _, _ => False
theorem cInt : CallR X (.type "int") (rC1 X.K fInt) := by
  intro pins s σ H xs us Q I r ⟨x, F, dx, P, e, fit, sx, h, k⟩
  subst e
  cases dx with
  | int i => cases sx.int; exact call_int1 pins s σ H _ us Q I r (.inl ⟨i, rfl, rC1.give fit k (.int _) h⟩)
  | bl b => cases sx.bl; exact call_int1 pins s σ H _ us Q I r (.inr ⟨b, rfl, rC1.give fit k (.int _) h⟩)
  | _ => exact h.elim
def fStrI : D → (DV → Prop) → Prop
  | .int i, P => i.natAbs.log2 < 1920 ∧ P (.v (.str (toString i)))
  | _, _ => False
theorem cStr : CallR X (.type "str") (rC1 X.K fStrI) := by
  intro pins s σ H xs us Q I r ⟨x, F, dx, P, e, fit, sx, h, k⟩
  subst e
  cases dx with
  | int i => cases sx.int; exact call_str_int pins s σ H _ us Q I r ⟨i, rfl, h.1, rC1.give fit k (.str _) h.2⟩
  | _ => exact h.elim
def fAbs : D → (DV → Prop) → Prop
  | .int i, P => P (.v (.int (if i < 0 then -i else i)))
  | _, _ => False
theorem cAbs : CallR X (.builtin "abs") (rC1 X.K fAbs) := by
  intro pins s σ H xs us Q I r ⟨x, F, dx, P, e, fit, sx, h, k⟩
  subst e
  cases dx with
  | int i => cases sx.int; exact call_abs pins s σ H _ us Q I r ⟨i, rfl, rC1.give fit k (.int _) h⟩
  | _ => exact h.elim
/-- list(x), tuple(x): a new one -/
def fList : D → (DV → Prop) → Prop
  | .lst xs, P => P (.o (.lst xs))
  | .tup xs, P => P (.o (.lst xs))
  | _, _ => False
theorem cList : CallR X (.type "list") (rC1 X.K fList) := by
  intro pins s σ H xs us Q I r ⟨x, F, dx, P, e, fit, sx, h, k⟩
  subst e
  cases dx with
  | lst ds =>
    obtain ⟨p, vs, rfl, hp, dl⟩ := sx.lst fit
    exact call_list_of pins s σ H _ us Q I r ⟨p, vs, rfl, .inl (SqL.of hp), fun q hq => rC1.newL fit k dl h hq⟩
  | tup ds =>
    obtain ⟨p, vs, rfl, hp, dl⟩ := sx.tup fit
    exact call_list_of pins s σ H _ us Q I r ⟨p, vs, rfl, .inr hp, fun q hq => rC1.newL fit k dl h hq⟩
  | _ => exact h.elim
def fTuple : D → (DV → Prop) → Prop
  | .lst xs, P => P (.v (.tup xs))
  | _, _ => False
theorem cTuple : CallR X (.type "tuple") (rC1 X.K fTuple) := by
  intro pins s σ H xs us Q I r ⟨x, F, dx, P, e, fit, sx, h, k⟩
  subst e
  cases dx with
  | lst ds =>
    obtain ⟨p, vs, rfl, hp, dl⟩ := sx.lst fit
    refine call_tuple_of pins s σ H _ us Q I r ⟨p, vs, rfl, .inl ⟨SqL.of hp, fun q hq => ?_⟩⟩
    obtain ⟨g, d⟩ := Den.newT fit hq dl
    exact k _ (.v (.tup ds)) _ _ NoR g (fun _ z => z.elim) d (fun b z => nomatch z) h
  | _ => exact h.elim
/-! ### two arguments -/
def rC2 (K : PySem.W.Frag) (f : D → D → (DV → Prop) → Prop) : List V → Hp → VK → Prop := fun xs H Q => ∃ (x y : V) (F : Fz) (dx dy : D) (P : DV → Prop), xs = [x, y] ∧ Fit F H ∧ See K F H x dx ∧ See K F H y dy ∧ f dx dy P ∧
  ∀ z y F' H' T, Grow F H F' H' → (∀ a, T a → H a = none ∧ H' a ≠ none ∧ F' a = none) → AtV K F' H' T y z → (∀ b, y ≠ .l b) → P y → Q z H'
def dC2 (f : D → D → (DV → Prop) → Prop) (ta tb : TOD) : TXD := fun ρ Q X => ta ρ (fun oa ρ1 => tb ρ1 (fun ob ρ2 => see2 ρ2 oa ob fun x y => f x y fun z => Q z ρ2) X) X
theorem lx_c2 {K : PySem.W.Frag} {W : WX} {f : D → D → (DV → Prop) → Prop} {σ : L2.St} {H : Hp} {Q : VK} (h : LX K W (dC2 f ta tb) σ H Q) : tCB (rC2 K f) (tCons (LO K W ta) (tCons (LO K W tb) tNil)) σ H Q := by
  obtain ⟨G, F, R, ρ, Qd, Xd, r, q, n, x⟩ := h
  refine ⟨G, F, R, ρ, _, Xd, r, q, fun oa ρ1 v F1 H1 R1 r1 l1 o1 q1 => ⟨G, F1, R1, ρ1, _, Xd, r1, q1, fun ob ρ2 w F2 H2 R2 r2 l2 o2 q2 => ?_, x.le l1⟩, x⟩
  obtain ⟨d, ed, q2⟩ := see1_of q2
  obtain ⟨d', ed', q2⟩ := see1_of q2
  refine ⟨v, w, F2, d, d', _, rfl, r2.fit, r2.look (o1.le l2) ed, r2.look o2 ed', q2, fun z y F3 H3 T g ht at_ nl p => ?_⟩
  refine n y ρ2 z F3 H3 R2 T (r2.grow g) ((l1.trans l2).trans g.le) (fun a ta => ?_) at_ nl p
  obtain ⟨h1, h2, h3⟩ := ht a ta
  obtain ⟨g1, g2, g3⟩ := r2.ho_free h1
  exact ⟨h3, g2, h2, g3⟩
theorem dx_c2 {f : D → D → (DV → Prop) → Prop} {x id : _} {p : Pos} (hc : CallR X (.builtin id) (rC2 X.K f)) (ha : DO X a ta) (hb : DO X b tb) (hg : Gl X x) (hm : X.mg x = none) (hv : bootBuiltins x = some (.builtin id)) (hn : x ≠ "__name__" := by decide) (hdb : (x == ("__debug__" : Str)) = false := by decide)
    (hs : starEach [a, b] X.env = (false, eval a X.env) :: starEach [b] X.env := by rfl) (hs2 : starEach [b] X.env = (false, eval b X.env) :: starEach [] X.env := by rfl) (hpl : (backTo pos (starEach [b] X.env)).any (·.1) = false := by rfl) : DX X (.Call (.Name x p) [a, b] [] pos) (dC2 f ta tb) := fun W tk =>
  pe_imp (pe_callB hc hg hm hv (pa_cons (ha W tk) (pa_cons (hb W tk) pa_nil hs2) hs) hn hdb hs hpl) fun _ _ _ h => lx_c2 h
def fMax2 : D → D → (DV → Prop) → Prop
  | .int i, .int j, P => P (.v (.int (if j > i then j else i)))
  | _, _, _ => False
def fMin2 : D → D → (DV → Prop) → Prop
  | .int i, .int j, P => P (.v (.int (if j < i then j else i)))
  | _, _, _ => False
theorem cMax2 (hc : X.calm = true) : CallR X (.builtin "max") (rC2 X.K fMax2) := by
  intro pins s σ H xs us Q I r ⟨x, y, F, dx, dy, P, e, fit, sx, sy, h, k⟩
  subst e
  cases dx with
  | int i => cases dy with
    | int j => cases sx.int; cases sy.int; exact call_max2 hc pins s σ H _ us Q I r ⟨i, j, rfl, rC1.give fit k (.int _) h⟩
    | _ => exact h.elim
  | _ => exact h.elim
theorem cMin2 (hc : X.calm = true) : CallR X (.builtin "min") (rC2 X.K fMin2) := by
  intro pins s σ H xs us Q I r ⟨x, y, F, dx, dy, P, e, fit, sx, sy, h, k⟩
  subst e
  cases dx with
  | int i => cases dy with
    | int j => cases sx.int; cases sy.int; exact call_min2 hc pins s σ H _ us Q I r ⟨i, j, rfl, rC1.give fit k (.int _) h⟩
    | _ => exact h.elim
  | _ => exact h.elim
/-! ### isinstance with a built-in class -/
def D.ty : D → Option String
  | .non => some "NoneType"
  | .bl _ => some "bool"
  | .int _ => some "int"
  | .str _ => some "str"
  | .tup _ => some "tuple"
  | .lst _ => some "list"
  | .dic _ => some "dict"
  | _ => none
def fIsi (c : String) (x : D) (P : D → Prop) : Prop := match x.ty with
  | some t => (match kitB t c with
    | some b => P (.bl b)
    | none => False)
  | none => False
def dIsi (c : String) (ta : TOD) : TED := fun ρ Q X => ta ρ (fun oa ρ1 => see1 ρ1 oa fun x => fIsi c x fun d => Q d ρ1) X
theorem see_ty {K : PySem.W.Frag} {F : Fz} {H : Hp} {v : V} {d : D} {t : String} (fit : Fit F H) (s : See K F H v d) (e : d.ty = some t) : TyX K H v (.type t) := by
  cases d with
  | non => cases e; cases s.non; exact .base .non
  | bl b => cases e; cases s.bl; exact .base (.bl b)
  | int i => cases e; cases s.int; exact .base (.int i)
  | str z => cases e; cases s.str; exact .base (.str z)
  | tup xs =>
    cases e
    rcases s with s | ⟨R, b, s, e⟩
    · cases s with
      | tup q r =>
        rcases q with q | ⟨o, its, n, hk, hc, _⟩
        · exact .base (.tup (fit.rd q))
        · exact .kTuple hk hc
    · cases b <;> cases e
  | lst xs => cases e; obtain ⟨p, vs, rfl, hp, _⟩ := s.lst fit; exact .base (.lst hp)
  | dic xs => cases e; obtain ⟨p, vs, rfl, hp, _⟩ := s.dic fit; exact .base (.dK hp)
  | _ => cases e
theorem de_isi {c : String} {cn x : Str} {p pc : Pos} (ha : DO X a ta) (hg : Gl X "isinstance") (hm : X.mg "isinstance" = none) (hv : bootBuiltins "isinstance" = some (.builtin "isinstance"))
    (gc : Gl X cn) (mc : X.mg cn = none) (vc : bootBuiltins cn = some (.type c)) (hcn : cn ≠ "__name__" := by decide) (hdb : (cn == ("__debug__" : Str)) = false := by decide)
    (hs : starEach [a, .Name cn pc] X.env = (false, eval a X.env) :: starEach [.Name cn pc] X.env := by rfl) (hs2 : starEach [.Name cn pc] X.env = (false, eval (.Name cn pc) X.env) :: starEach [] X.env := by rfl) (hpl : (backTo pos (starEach [.Name cn pc] X.env)).any (·.1) = false := by rfl) :
    DE X (.Call (.Name "isinstance" p) [a, .Name cn pc] [] pos) (dIsi c ta) := fun W tk =>
  pe_imp (pe_callB call_isi hg hm hv (pa_cons (ha W tk) (pa_cons (pe_bltn (v := .ty c) gc mc vc rfl hcn hdb) pa_nil hs2) hs) (by decide) (by decide) hs hpl) fun σ H Q ⟨G, F, R, ρ, Qd, Xd, r, q, n, x⟩ =>
    ⟨G, F, R, ρ, _, Xd, r, q, fun oa ρ1 v F1 H1 R1 r1 l1 o1 q1 => by
      obtain ⟨d, ed, q1⟩ := see1_of q1
      have q1' : (match d.ty with
        | some t => (match kitB t c with
          | some b => Qd (.bl b) ρ1
          | none => False)
        | none => False) := q1
      cases z : d.ty with
      | none => rw [z] at q1'; exact q1'.elim
      | some t =>
        rw [z] at q1'
        dsimp only at q1'
        cases z2 : kitB t c with
        | none => rw [z2] at q1'; exact q1'.elim
        | some b =>
          rw [z2] at q1'
          exact ⟨v, .ty c, .type t, .type c, b, rfl, .ty c, see_ty r1.fit (r1.look o1 ed) z, kit_ty z2, n (.bl b) ρ1 (.bl b) F1 H1 R1 r1 l1 (.bl b) q1'⟩, x⟩
end
end PD
set_option maxHeartbeats 1000000
namespace PD
open PySem L2 PySem.Spec PyProof.Rows
/-! ### fields -/
def fFld (C : Addr) (f : Str) : D → (D → Prop) → Prop
  | .ins C' fs, P => C' = C ∧ (match fs.lookup f with
    | some d => P d
    | none => False)
  | _, _ => False
def dFld (C : Addr) (f : Str) (to : TOD) : TED := fun ρ Q X => to ρ (fun oa ρ1 => see1 ρ1 oa fun x => fFld C f x fun d => Q d ρ1) X
section
variable {X : Cx} {o e value : Expr} {C : Addr} {f : Str} {to : TOD} {te : TED} {pos pos' apos cpos : Pos}
theorem de_fld (ho : DO X o to) (c : Cls X.K C) (na : NoAttr X.K C f) (hb : attributeBase o f X.env (eval o X.env) = eval o X.env := by rfl) : DE X (.Attribute o f pos) (dFld C f to) := fun W tk =>
  pe_imp (pe_fld (ho W tk) hb) fun σ H Q ⟨G, F, R, ρ, Qd, Xd, r, q, n, x⟩ => ⟨G, F, R, ρ, _, Xd, r, q, fun oa ρ1 v F1 H1 R1 r1 l1 o1 q1 => by
    obtain ⟨d, ed, q2⟩ := see1_of q1
    cases d with
    | ins C' fs =>
      obtain ⟨rfl, q2⟩ := q2
      obtain ⟨a, dx, vs, rfl, ha, df⟩ := (r1.look o1 ed).ins r1.fit
      cases z : fs.lookup f with
      | none => rw [z] at q2; exact q2.elim
      | some d =>
        rw [z] at q2
        obtain ⟨w, e1, e2⟩ := df.lookup z
        exact ⟨a, C', dx, vs, w, rfl, ha, c, na, e1, n d ρ1 w F1 H1 R1 r1 l1 e2 q2⟩
    | _ => exact q2.elim, x⟩
/-! ### an object of one's own is written -/
def reBox : DV → Box → DV
  | .l _, b => .l b
  | _, b => .o b
theorem Rp.write {K : PySem.W.Frag} {G : Gd} {F : Fz} {H : Hp} {R : Nat → Addr → Prop} {σ : L2.St} {ρ : Rho} (r : Rp K G F H R σ ρ) {i : Nat} {x : DV} {b b' : Box} {p : Addr} {u : HO} (e : ρ[i]? = some (some x)) (hx : x = .o b ∨ x = .l b) (hσ : σ[i]? = some (some (.ref p))) (rp : R i p)
    (nw : BoxAt K F (upd H p u) (R i) b' (.ref p)) : Rp K G F (upd H p u) R σ (ρ.set i (some (reBox x b'))) := by
  obtain ⟨g1, g2, g3⟩ := r.reg i p rp
  have hi := (List.getElem?_eq_some_iff.mp e).1
  refine ⟨fun a g ea => ?_, fun a o ea => ?_, by simpa using r.len, fun j y ej => ?_, fun j a ra => ?_, r.dis, fun j bb ej => ?_⟩
  · have ne : a ≠ p := fun z => by rw [z, g1] at ea; cases ea
    have q := r.fit a g ea
    cases g with
    | hard o => exact (upd_ne ne).trans q
    | strm =>
      obtain ⟨m, n, h1, h2, h3⟩ := q
      exact ⟨m, n, h1, h2, (upd_ne ne).trans h3⟩
  · obtain ⟨h1, h2⟩ := r.out a o ea
    exact ⟨(upd_ne (fun z => by rw [z, g2] at ea; cases ea)).trans h1, h2⟩
  · by_cases q : j = i
    · subst q
      rw [List.getElem?_set_self hi] at ej
      cases ej
      refine ⟨_, hσ, ?_⟩
      rcases hx with rfl | rfl
      · exact nw
      · exact nw
    · rw [List.getElem?_set_ne (Ne.symm q)] at ej
      obtain ⟨v, h1, h2⟩ := r.at_ j y ej
      exact ⟨v, h1, h2.keep (.refl F) (fun a ra => upd_ne fun z => by subst z; exact q (r.dis j i a ra rp)) fun _ ra => ra⟩
  · obtain ⟨h1, h2, h3⟩ := r.reg j a ra
    refine ⟨h1, h2, ?_⟩
    by_cases z : a = p
    · rw [z, upd_same]; exact fun w => (nomatch w)
    · rw [upd_ne z]; exact h3
  · by_cases q : j = i
    · subst q
      rw [List.getElem?_set_self hi] at ej
      rcases hx with rfl | rfl
      · cases ej
      · exact r.lnt j b e
    · rw [List.getElem?_set_ne (Ne.symm q)] at ej
      exact r.lnt j bb ej
/-- the slot's own list -/
def ownL (ρ : Rho) (i : Nat) (k : List D → (List D → Rho) → Prop) : Prop := match ρ.getD i none with
  | some (.o (.lst xs)) => k xs fun ys => ρ.set i (some (.o (.lst ys)))
  | some (.l (.lst xs)) => k xs fun ys => ρ.set i (some (.l (.lst ys)))
  | _ => False
theorem ownL_of {ρ : Rho} {i : Nat} {k : List D → (List D → Rho) → Prop} (h : ownL ρ i k) : ∃ x xs, ρ[i]? = some (some x) ∧ (x = .o (.lst xs) ∨ x = .l (.lst xs)) ∧ k xs fun ys => ρ.set i (some (reBox x (.lst ys))) := by
  unfold ownL at h
  cases e : ρ.getD i none with
  | none => rw [e] at h; exact h.elim
  | some y =>
    rw [e] at h
    cases y with
    | v d => exact h.elim
    | o b => cases b with
      | lst xs => exact ⟨_, xs, getD_some e, .inl rfl, h⟩
      | _ => exact h.elim
    | l b => cases b with
      | lst xs => exact ⟨_, xs, getD_some e, .inr rfl, h⟩
      | _ => exact h.elim
theorem Rp.ownL {K : PySem.W.Frag} {G : Gd} {F : Fz} {H : Hp} {R : Nat → Addr → Prop} {σ : L2.St} {ρ : Rho} (r : Rp K G F H R σ ρ) {i : Nat} {x : DV} {xs : List D} (e : ρ[i]? = some (some x)) (hx : x = .o (.lst xs) ∨ x = .l (.lst xs)) :
    ∃ p vs, σ[i]? = some (some (.ref p)) ∧ R i p ∧ H p = some (.lst vs) ∧ DenL K F vs xs := by
  obtain ⟨v, h1, h2⟩ := r.at_ i x e
  have h3 : BoxAt K F H (R i) (.lst xs) v := by rcases hx with rfl | rfl <;> exact h2
  obtain ⟨p, vs, rfl, rp, hp, dl⟩ := h3
  exact ⟨p, vs, h1, rp, hp, dl⟩
theorem Rp.setL {K : PySem.W.Frag} {G : Gd} {F : Fz} {H : Hp} {R : Nat → Addr → Prop} {σ : L2.St} {ρ : Rho} (r : Rp K G F H R σ ρ) {i : Nat} {x : DV} {xs ys : List D} {p : Addr} {us : List V} (e : ρ[i]? = some (some x)) (hx : x = .o (.lst xs) ∨ x = .l (.lst xs)) (hσ : σ[i]? = some (some (.ref p))) (rp : R i p)
    (dl : DenL K F us ys) : Rp K G F (upd H p (.lst us)) R σ (ρ.set i (some (reBox x (.lst ys)))) := r.write e hx hσ rp ⟨p, us, rfl, rp, upd_same, dl⟩
theorem ty_list {K : PySem.W.Frag} {H : Hp} {p : Addr} {vs : List V} (h : H p = some (.lst vs)) : tyV K "list" (.ref p) H := .inl ⟨rfl, vs, SqL.of h⟩
/-- xs.append(e), xs a slot -/
def dAppend (i : Nat) (te : TED) : TXD := fun ρ Q X => ownL ρ i (fun _ _ => True) ∧ te ρ (fun d ρ1 => ownL ρ1 i fun xs put => xs.length < sizeLine ∧ Q (.v .non) (put (xs ++ [d]))) X
theorem dx_append {i : Nat} (hv : PE X o (tVar i)) (he : DE X e te) (hbase : attributeBase o "append" X.env (eval o X.env) = eval o X.env := by rfl)
    (hfew : ((backTo cpos (starEach [e] X.env)).all (fun x => !x.1) && (backToKw cpos (keywordEach [] X.env)).all (fun x => x.1.isSome)
      && decide ([e].length + ([] : List Keyword).length + (if ([] : List Keyword).isEmpty then 0 else 1) < 30)) = true := by rfl)
    (hline : (apos.endLine == cpos.line) = true := by rfl) (hs : starEach [e] X.env = (false, eval e X.env) :: starEach [] X.env := by rfl) : DX X (.Call (.Attribute o "append" apos) [e] [] cpos) (dAppend i te) := fun W tk =>
  pe_imp (pe_bm PySem.F.plainAttrs_list PySem.F.slot_list_append PySem.F.type_list_append mt_append hv (pa_cons (he W tk) pa_nil hs) hbase hfew hline hs) fun σ H Q ⟨G, F, R, ρ, Qd, Xd, r, ⟨q0, q⟩, n, x⟩ => by
    obtain ⟨y, xs, e1, e2, _⟩ := ownL_of q0
    obtain ⟨p, vs, h1, h2, h3, h4⟩ := r.ownL e1 e2
    refine ⟨.ref p, h1, ty_list h3, G, F, R, ρ, _, Xd, r, q, fun d ρ1 v F1 H1 R1 r1 l1 hd q1 => ?_, x⟩
    obtain ⟨y1, xs1, e3, e4, hz, q1⟩ := ownL_of q1
    obtain ⟨p1, vs1, k1, k2, k3, k4⟩ := r1.ownL e3 e4
    rw [h1] at k1
    cases k1
    refine ⟨p, vs1, v, rfl, rfl, k3, by rw [k4.length]; exact hz, ?_⟩
    exact n (.v .non) _ .non F1 _ R1 NoR (r1.setL e3 e4 h1 k2 (k4.append (.cons hd .nil))) l1 .no .non (fun b z => nomatch z) q1
/-- xs.extend(ys): ys a list -/
def dExtend (i : Nat) (te : TED) : TXD := fun ρ Q X => ownL ρ i (fun _ _ => True) ∧ te ρ (fun d ρ1 => ownL ρ1 i fun xs put => match d with
  | .lst ys => xs.length + ys.length ≤ sizeLine ∧ Q (.v .non) (put (xs ++ ys))
  | _ => False) X
theorem dx_extend {i : Nat} (hv : PE X o (tVar i)) (he : DE X e te) (hbase : attributeBase o "extend" X.env (eval o X.env) = eval o X.env := by rfl)
    (hfew : ((backTo cpos (starEach [e] X.env)).all (fun x => !x.1) && (backToKw cpos (keywordEach [] X.env)).all (fun x => x.1.isSome)
      && decide ([e].length + ([] : List Keyword).length + (if ([] : List Keyword).isEmpty then 0 else 1) < 30)) = true := by rfl)
    (hline : (apos.endLine == cpos.line) = true := by rfl) (hs : starEach [e] X.env = (false, eval e X.env) :: starEach [] X.env := by rfl) : DX X (.Call (.Attribute o "extend" apos) [e] [] cpos) (dExtend i te) := fun W tk =>
  pe_imp (pe_bm PySem.F.plainAttrs_list PySem.F.slot_list_extend PySem.F.type_list_extend mt_extend hv (pa_cons (he W tk) pa_nil hs) hbase hfew hline hs) fun σ H Q ⟨G, F, R, ρ, Qd, Xd, r, ⟨q0, q⟩, n, x⟩ => by
    obtain ⟨y, xs, e1, e2, _⟩ := ownL_of q0
    obtain ⟨p, vs, h1, h2, h3, h4⟩ := r.ownL e1 e2
    refine ⟨.ref p, h1, ty_list h3, G, F, R, ρ, _, Xd, r, q, fun d ρ1 v F1 H1 R1 r1 l1 hd q1 => ?_, x⟩
    obtain ⟨y1, xs1, e3, e4, q1⟩ := ownL_of q1
    obtain ⟨p1, vs1, k1, k2, k3, k4⟩ := r1.ownL e3 e4
    rw [h1] at k1
    cases k1
    cases d with
    | lst ys =>
      obtain ⟨hz, q1⟩ := q1
      cases hd with
      | lst hh hl =>
        refine ⟨p, _, vs1, _, rfl, rfl, k3, r1.fit.rd hh, by rw [k4.length, hl.length]; exact hz, ?_⟩
        exact n (.v .non) _ .non F1 _ R1 NoR (r1.setL e3 e4 h1 k2 (k4.append hl)) l1 .no .non (fun b z => nomatch z) q1
    | _ => exact q1.elim
/-- xs.insert(i, e) -/
def dInsert (i : Nat) (ti te : TED) : TXD := fun ρ Q X => ownL ρ i (fun _ _ => True) ∧ ti ρ (fun di ρ1 => te ρ1 (fun d ρ2 => ownL ρ2 i fun xs put => match di with
  | .int k => xs.length < sizeLine ∧ 0 ≤ k ∧ k < 2 ^ 63 ∧ Q (.v .non) (put (xs.take k.toNat ++ [d] ++ xs.drop k.toNat))
  | _ => False) X) X
theorem dx_insert {i : Nat} {ei : Expr} {ti : TED} (hv : PE X o (tVar i)) (hi : DE X ei ti) (he : DE X e te) (hbase : attributeBase o "insert" X.env (eval o X.env) = eval o X.env := by rfl)
    (hfew : ((backTo cpos (starEach [ei, e] X.env)).all (fun x => !x.1) && (backToKw cpos (keywordEach [] X.env)).all (fun x => x.1.isSome)
      && decide ([ei, e].length + ([] : List Keyword).length + (if ([] : List Keyword).isEmpty then 0 else 1) < 30)) = true := by rfl)
    (hline : (apos.endLine == cpos.line) = true := by rfl) (hs : starEach [ei, e] X.env = (false, eval ei X.env) :: starEach [e] X.env := by rfl) (hs2 : starEach [e] X.env = (false, eval e X.env) :: starEach [] X.env := by rfl) (hpl : (backTo cpos (starEach [e] X.env)).any (·.1) = false := by rfl) :
    DX X (.Call (.Attribute o "insert" apos) [ei, e] [] cpos) (dInsert i ti te) := fun W tk =>
  pe_imp (pe_bm PySem.F.plainAttrs_list PySem.F.slot_list_insert PySem.F.type_list_insert mt_insert hv (pa_cons (hi W tk) (pa_cons (he W tk) pa_nil hs2) hs) hbase hfew hline hs hpl) fun σ H Q ⟨G, F, R, ρ, Qd, Xd, r, ⟨q0, q⟩, n, x⟩ => by
    obtain ⟨y, xs, e1, e2, _⟩ := ownL_of q0
    obtain ⟨p, vs, h1, h2, h3, h4⟩ := r.ownL e1 e2
    refine ⟨.ref p, h1, ty_list h3, G, F, R, ρ, _, Xd, r, q, fun di ρ1 vi F1 H1 R1 r1 l1 hdi q1 => ⟨G, F1, R1, ρ1, _, Xd, r1, q1, fun d ρ2 v F2 H2 R2 r2 l2 hd q2 => ?_, x.le l1⟩, x⟩
    obtain ⟨y1, xs1, e3, e4, q2⟩ := ownL_of q2
    obtain ⟨p1, vs1, k1, k2, k3, k4⟩ := r2.ownL e3 e4
    rw [h1] at k1
    cases k1
    cases di with
    | int k =>
      cases hdi
      obtain ⟨hz, hk0, hk1, q2⟩ := q2
      refine ⟨p, vs1, k, v, rfl, rfl, k3, by rw [k4.length]; exact hz, hk0, hk1, ?_⟩
      exact n (.v .non) _ .non F2 _ R2 NoR (r2.setL e3 e4 h1 k2 (((k4.take _).append (.cons hd .nil)).append (k4.drop _))) (l1.trans l2) .no .non (fun b z => nomatch z) q2
    | _ => exact q2.elim
/-! ### self.f = e -/
def dSetFld (C : Addr) (f : Str) (i : Nat) (te : TED) : TSD := fun E ρ => te ρ (fun d ρ1 => match ρ1.getD i none with
  | some (.l (.ins C' fs)) => C' = C ∧ fs.length < 1000 ∧ E.nx (ρ1.set i (some (.l (.ins C (putD f d fs)))))
  | some (.o (.ins C' fs)) => C' = C ∧ fs.length < 1000 ∧ E.nx (ρ1.set i (some (.o (.ins C (putD f d fs)))))
  | _ => False) E.ex
theorem DenF.put {K : PySem.W.Frag} {F : Fz} {f : Str} {v : V} {d : D} (h : Den K F v d) : ∀ {vs : List (Str × V)} {ds : List (Str × D)}, DenF K F vs ds → DenF K F (putF f v vs) (putD f d ds)
  | _, _, .nil => .cons h .nil
  | _, _, .cons (k := k) (vs := vs) (ds := ds) q r => by
    unfold putF putD
    split
    · exact .cons h r
    · exact .cons q (DenF.put h r)
theorem ds_fld {i : Nat} (ho : PE X o (tVar i)) (hv : DE X value te) (c : Cls X.K C) (na : NoAttr X.K C f) (hs : swapsWith value (some (.Attribute o f pos')) pos.line X.env = pure false := by rfl) : DS X (.Assign [.Attribute o f pos'] value pos) (dSetFld C f i te) := fun W tk po =>
  ps_imp (ps_fld ho (hv W tk) hs) fun D σ H ⟨G, F, R, ρ, E, r, q, ok⟩ => ⟨G, F, R, ρ, _, E.ex, r, q, fun d ρ1 v F1 H1 R1 r1 l1 hd q1 => by
    cases z : ρ1.getD i none with
    | none => rw [z] at q1; exact q1.elim
    | some y =>
      rw [z] at q1
      have ey := getD_some z
      obtain ⟨w, h1, h2⟩ := r1.at_ i y ey
      cases y with
      | v _ => exact q1.elim
      | o b => cases b with
        | ins C' fs =>
          obtain ⟨rfl, hl, q1⟩ := q1
          obtain ⟨p, dx, us, rfl, rp, hp, df⟩ := h2
          refine ⟨_, h1, p, C', dx, us, rfl, hp, c, na, by rw [df.length]; exact hl, ?_⟩
          exact ok.nx _ _ F1 _ R1 (r1.write ey (.inl rfl) h1 rp (b' := .ins C' (putD f d fs)) ⟨p, dx, _, rfl, rp, upd_same, df.put hd⟩) l1 q1
        | _ => exact q1.elim
      | l b => cases b with
        | ins C' fs =>
          obtain ⟨rfl, hl, q1⟩ := q1
          obtain ⟨p, dx, us, rfl, rp, hp, df⟩ := h2
          refine ⟨_, h1, p, C', dx, us, rfl, hp, c, na, by rw [df.length]; exact hl, ?_⟩
          exact ok.nx _ _ F1 _ R1 (r1.write ey (.inr rfl) h1 rp (b' := .ins C' (putD f d fs)) ⟨p, dx, _, rfl, rp, upd_same, df.put hd⟩) l1 q1
        | _ => exact q1.elim, ok.ex σ⟩
/-! ### xs[i] = e: a stream's cell, an item of one's own list -/
def setIx (ρ : Rho) (i : Nat) (k : Int) (d : D) (Q : Rho → Prop) : Prop := match ρ.getD i none with
  | some (.v .stm) => (k = 0 ∨ k = 1) ∧ (match d with
    | .int a => 0 ≤ a ∧ Q ρ
    | _ => False)
  | some (.o (.lst xs)) => (match ixN xs.length k with
    | some j => Q (ρ.set i (some (.o (.lst (xs.set j d)))))
    | none => False)
  | some (.l (.lst xs)) => (match ixN xs.length k with
    | some j => Q (ρ.set i (some (.l (.lst (xs.set j d)))))
    | none => False)
  | _ => False
def dSetIx (i : Nat) (ti : TED) (te : TED) : TSD := fun E ρ => te ρ (fun d ρ1 => ρ1.getD i none ≠ none ∧ ti ρ1 (fun di ρ2 => match di with
  | .int k => setIx ρ2 i k d E.nx
  | _ => False) E.ex) E.ex
theorem Rp.stm {K : PySem.W.Frag} {G : Gd} {F : Fz} {H : Hp} {R : Nat → Addr → Prop} {σ : L2.St} {ρ : Rho} (r : Rp K G F H R σ ρ) {p : Addr} {a b : Int} (h : F p = some .strm) (ha : 0 ≤ a) (hb : 0 ≤ b) : Rp K G F (upd H p (.lst [.int a, .int b])) R σ ρ := by
  have ho : G.Ho p = none := by
    cases q : G.Ho p with
    | none => rfl
    | some o => rw [(r.out p o q).2] at h; cases h
  have nr : ∀ i a, R i a → a ≠ p := fun i a ra z => by
    have := (r.reg i a ra).1
    rw [z, h] at this
    cases this
  refine ⟨fun c g ec => ?_, fun c o ec => ?_, r.len, fun j y ej => ?_, fun j c rc => ?_, r.dis, r.lnt⟩
  · by_cases z : c = p
    · subst z
      rw [h] at ec
      cases ec
      exact ⟨a, b, ha, hb, upd_same⟩
    · have q := r.fit c g ec
      cases g with
      | hard o => exact (upd_ne z).trans q
      | strm =>
        obtain ⟨m, n, h1, h2, h3⟩ := q
        exact ⟨m, n, h1, h2, (upd_ne z).trans h3⟩
  · obtain ⟨h1, h2⟩ := r.out c o ec
    exact ⟨(upd_ne (fun z => by rw [z, ho] at ec; cases ec)).trans h1, h2⟩
  · obtain ⟨v, h1, h2⟩ := r.at_ j y ej
    exact ⟨v, h1, h2.keep (.refl F) (fun c rc => upd_ne (nr j c rc)) fun _ rc => rc⟩
  · obtain ⟨h1, h2, h3⟩ := r.reg j c rc
    exact ⟨h1, h2, by rw [upd_ne (nr j c rc)]; exact h3⟩
theorem ds_setIx {i : Nat} {ei : Expr} {ti : TED} {tpos : Pos} (ho : PE X o (tVar i)) (hi : DE X ei ti) (hv : DE X value te)
    (ha : ∀ v, assign (.Subscript o ei tpos) X.env v = (do
      let ov ← holding [v] (eval o X.env)
      let iv ← holding [v, ov] (eval ei X.env)
      standAt tpos
      holding [v, ov, iv] (setItem ov iv v)
      release [v, ov, iv] []) := by intro _; rfl)
    (hs : swapsWithSole [.Subscript o ei tpos] value pos.line X.env = pure false := by rfl) (hw : swappedStores [.Subscript o ei tpos] value X.env = pure none := by rfl)
    (h1 : (assignEach [.Subscript o ei tpos] X.env).map (·.2) = [assign (.Subscript o ei tpos) X.env] := by rfl) : DS X (.Assign [.Subscript o ei tpos] value pos) (dSetIx i ti te) := fun W tk po =>
  ps_imp (ps_asg (hv W tk) (pg_sub ho (hi W tk) set_list ha) hs hw h1) fun D σ H ⟨G, F, R, ρ, E, r, q, ok⟩ => ⟨G, F, R, ρ, _, E.ex, r, q, fun d ρ1 v F1 H1 R1 r1 l1 hd ⟨q0, q1⟩ => by
    obtain ⟨y0, ey0⟩ : ∃ y, ρ1.getD i none = some y := by
      cases z : ρ1.getD i none with
      | none => exact absurd z q0
      | some y => exact ⟨y, rfl⟩
    obtain ⟨w0, hw0, _⟩ := r1.at_ i y0 (getD_some ey0)
    refine ⟨w0, hw0, G, F1, R1, ρ1, _, E.ex, r1, q1, fun di ρ2 vi F2 H2 R2 r2 l2 hdi q2 => ?_, (ok.ex σ).le l1⟩
    cases di with
    | int k =>
      cases hdi
      have q2' : setIx ρ2 i k d E.nx := q2
      unfold setIx at q2'
      cases z : ρ2.getD i none with
      | none => rw [z] at q2'; exact q2'.elim
      | some y =>
        rw [z] at q2'
        obtain ⟨w, g1, g2⟩ := r2.at_ i y (getD_some z)
        rw [hw0] at g1
        cases g1
        have dd := hd.le l2
        cases y with
        | v dy => cases dy with
          | stm =>
            obtain ⟨hk, q2'⟩ := q2'
            cases d with
            | int a =>
              obtain ⟨ha, q2'⟩ := q2'
              cases hd
              obtain ⟨p, m, n, rfl, hF, hm, hn, hp⟩ := See.stm r2.fit (.inl g2)
              rcases hk with rfl | rfl
              · exact ⟨p, _, 0, 0, rfl, rfl, hp, rfl, ok.nx _ _ F2 _ R2 (r2.stm hF ha hn) (l1.trans l2) q2'⟩
              · exact ⟨p, _, 1, 1, rfl, rfl, hp, rfl, ok.nx _ _ F2 _ R2 (r2.stm hF hm ha) (l1.trans l2) q2'⟩
            | _ => exact q2'.elim
          | _ => exact q2'.elim
        | o b => cases b with
          | lst xs =>
            dsimp only at q2'
            cases z2 : ixN xs.length k with
            | none => rw [z2] at q2'; exact q2'.elim
            | some j =>
              rw [z2] at q2'
              obtain ⟨p, vs, rfl, rp, hp, dl⟩ := g2
              exact ⟨p, vs, k, j, rfl, rfl, hp, by rw [dl.length]; exact z2, ok.nx _ _ F2 _ R2 (r2.setL (getD_some z) (.inl rfl) hw0 rp (dl.set dd j)) (l1.trans l2) q2'⟩
          | _ => exact q2'.elim
        | l b => cases b with
          | lst xs =>
            dsimp only at q2'
            cases z2 : ixN xs.length k with
            | none => rw [z2] at q2'; exact q2'.elim
            | some j =>
              rw [z2] at q2'
              obtain ⟨p, vs, rfl, rp, hp, dl⟩ := g2
              exact ⟨p, vs, k, j, rfl, rfl, hp, by rw [dl.length]; exact z2, ok.nx _ _ F2 _ R2 (r2.setL (getD_some z) (.inr rfl) hw0 rp (dl.set dd j)) (l1.trans l2) q2'⟩
          | _ => exact q2'.elim
    | _ => exact q2.elim, ok.ex σ⟩
end
end PD
set_option maxHeartbeats 1000000
namespace PD
open PySem L2 PySem.Spec PyProof.Rows
/-! ### targets -/
abbrev TGD := D → Rho → (Rho → Prop) → Prop
/-- other slots are as they were -/
def SlotEq (is : List Nat) (σ σ' : L2.St) : Prop := σ'.length = σ.length ∧ ∀ i, i ∉ is → σ'[i]? = σ[i]?
theorem SlotEq.refl {is : List Nat} {σ : L2.St} : SlotEq is σ σ := ⟨rfl, fun _ _ => rfl⟩
theorem SlotEq.app {is js : List Nat} {σ σ1 σ2 : L2.St} (h : SlotEq is σ σ1) (h' : SlotEq js σ1 σ2) : SlotEq (is ++ js) σ σ2 := ⟨h'.1.trans h.1, fun i n => by
  rw [List.mem_append] at n
  rw [h'.2 i (fun z => n (.inr z)), h.2 i (fun z => n (.inl z))]⟩
def LG (K : PySem.W.Frag) (is : List Nat) (g : TGD) : TG := fun v σ H Q => ∃ G F R ρ d Qd, Rp K G F H R σ ρ ∧ Den K F v d ∧ g d ρ Qd ∧ ∀ ρ' σ' F' H' R', Rp K G F' H' R' σ' ρ' → Fle F F' → SlotEq is σ σ' → Qd ρ' → Q σ' H'
def DG (X : Cx) (tg : Expr) (is : List Nat) (g : TGD) : Prop := PG X tg (LG X.K is g)
theorem pg_imp {X : Cx} {tg : Expr} {t t' : TG} (h : PG X tg t) (w : ∀ v σ H Q, t' v σ H Q → t v σ H Q) : PG X tg t' := ⟨fun pins s σ H v u Q I r q => h.run pins s σ H v u Q I r (w v σ H Q q)⟩
def gdName (i : Nat) : TGD := fun d ρ Q => Q (ρ.set i (some (.v d)))
abbrev TGsD := List D → Rho → (Rho → Prop) → Prop
def gdNil : TGsD := fun ds ρ Q => match ds with
  | [] => Q ρ
  | _ => False
def gdCons (g : TGD) (gs : TGsD) : TGsD := fun ds ρ Q => match ds with
  | d :: ds => g d ρ (fun ρ1 => gs ds ρ1 Q)
  | _ => False
def LGs (K : PySem.W.Frag) (is : List Nat) (g : TGsD) : TGs := fun vs σ H Q => ∃ G F R ρ ds Qd, Rp K G F H R σ ρ ∧ DenL K F vs ds ∧ g ds ρ Qd ∧ ∀ ρ' σ' F' H' R', Rp K G F' H' R' σ' ρ' → Fle F F' → SlotEq is σ σ' → Qd ρ' → Q σ' H'
def DGs (X : Cx) (ts : List Expr) (is : List Nat) (g : TGsD) : Prop := PGs X ts (LGs X.K is g)
def gdTup (n : Nat) (gs : TGsD) : TGD := fun d ρ Q => match d with
  | .tup ds => ds.length = n ∧ gs ds ρ Q
  | _ => False
section
variable {X : Cx} {tg : Expr} {pos : Pos}
theorem dg_name {i : Nat} {x : Str} (hN : X.N.Nodup) (hi : X.N[i]? = some x) (hx : Loc X.env.scope x) (hf : X.fn x = true ∨ X.env.scope.names.lookup x = some .local := by first | exact .inl rfl | exact .inr rfl | assumption) : DG X (.Name x pos) [i] (gdName i) :=
  pg_imp (pg_name hN hi hx hf) fun v σ H Q ⟨G, F, R, ρ, d, Qd, r, hd, q, k⟩ => k _ _ F H _ (r.set .no (x := .v d) hd (fun b z => nomatch z)) (.refl F) ⟨List.length_set, fun j n => by rw [List.getElem?_set_ne (fun z => n (by rw [z]; exact List.mem_singleton.mpr rfl))]⟩ q
theorem dgs_nil : DGs X [] [] gdNil := ⟨fun pins s σ H vs us Q I r ⟨G, F, R, ρ, ds, Qd, rp, hd, q, k⟩ => pgs_nil.run pins s σ H vs us Q I r (by
  cases hd with
  | nil => exact ⟨rfl, k ρ σ F H R rp (.refl F) .refl q⟩
  | cons _ _ => exact q.elim)⟩
theorem dgs_cons {e : Expr} {es : List Expr} {is js : List Nat} {g : TGD} {gs : TGsD} (h1 : DG X e is g) (h2 : DGs X es js gs) (hs : (assignEach (e :: es) X.env).map (·.2) = assign e X.env :: (assignEach es X.env).map (·.2) := by rfl) : DGs X (e :: es) (is ++ js) (gdCons g gs) :=
  ⟨fun pins s σ H vs us Q I r ⟨G, F, R, ρ, ds, Qd, rp, hd, q, k⟩ => (pgs_cons h1 h2 hs).run pins s σ H vs us Q I r (by
    cases hd with
    | nil => exact q.elim
    | cons d1 d2 => exact ⟨_, _, rfl, G, F, R, ρ, _, _, rp, d1, q, fun ρ1 σ1 F1 H1 R1 r1 l1 e1 q1 => ⟨G, F1, R1, ρ1, _, _, r1, d2.le l1, q1, fun ρ' σ' F' H' R' r' l' e' => k ρ' σ' F' H' R' r' (l1.trans l') (e1.app e')⟩⟩)⟩
theorem dg_tup {es : List Expr} {k : Nat} {is : List Nat} {gs : TGsD} {n : Nat} (hc : X.calm = true) (h : DGs X es is gs) (hn : (assignEach es X.env).length = n := by rfl) (hst : (assignEach es X.env).findIdx? (·.1) = none := by rfl) : DG X (.Tuple es k pos) is (gdTup n gs) :=
  pg_imp (pg_tup hc h hn hst) fun v σ H Q ⟨G, F, R, ρ, d, Qd, r, hd, q, kk⟩ => by
    cases hd with
    | tup t dl => exact ⟨_, _, rfl, t.sq r.fit, by rw [dl.length]; exact q.1, G, F, R, ρ, _, _, r, dl, q.2, kk⟩
    | _ => exact q.elim
/-- target = value, by trees -/
def dAsgG (t : TED) (g : TGD) : TSD := fun E ρ => t ρ (fun d ρ1 => g d ρ1 E.nx) E.ex
theorem ds_asgG {e : Expr} {t : TED} {is : List Nat} {g : TGD} (he : DE X e t) (hg : DG X tg is g) (hs : swapsWithSole [tg] e pos.line X.env = pure false := by rfl) (hw : swappedStores [tg] e X.env = pure none := by rfl)
    (h1 : (assignEach [tg] X.env).map (·.2) = [assign tg X.env] := by rfl) : DS X (.Assign [tg] e pos) (dAsgG t g) := fun W tk po =>
  ps_imp (ps_asg (he W tk) hg hs hw h1) fun D σ H ⟨G, F, R, ρ, E, r, q, ok⟩ => ⟨G, F, R, ρ, _, E.ex, r, q, fun d ρ1 v F1 H1 R1 r1 l1 hd q1 => ⟨G, F1, R1, ρ1, d, _, r1, hd, q1, fun ρ' σ' F' H' R' r' l' _ q' => ok.nx ρ' σ' F' H' R' r' (l1.trans l') q'⟩, ok.ex σ⟩
/-! ### what is walked -/
structure Goes (K : PySem.W.Frag) (G : Gd) (F0 : Fz) (J : It) (ds : List D) (chk : Rho → Prop) : Prop where
  go : ∀ i F H R σ ρ d, Rp K G F H R σ ρ → Fle F0 F → chk ρ → ds[i]? = some d → J.go i H ∧ ∀ x H', J.yld i H x H' → ∃ F', Grow F H F' H' ∧ Den K F' x d
  stop : ∀ F H R σ ρ, Rp K G F H R σ ρ → Fle F0 F → chk ρ → J.stop ds.length H
/-- the state's own context does not matter -/
def GoesA (K : PySem.W.Frag) (L : Nat → V) (F0 : Fz) (J : It) (ds : List D) (chk : Rho → Prop) : Prop := ∀ G : Gd, G.L = L → Goes K G F0 J ds chk
abbrev TID := Rho → (List D → (Rho → Prop) → Rho → Prop) → XD → Prop
def noChk : Rho → Prop := fun _ => True
def LI (K : PySem.W.Frag) (W : WX) (t : TID) : TI := fun σ H Rr => ∃ G F R ρ Qd Xd, Rp K G F H R σ ρ ∧ t ρ Qd Xd ∧
  (∀ ds chk ρ' J F' H' R', Rp K G F' H' R' σ ρ' → Fle F F' → GoesA K G.L F' J ds chk → Qd ds chk ρ' → Rr J H') ∧ PostX K W G F σ Xd
def DI (X : Cx) (tg iter : Expr) (t : TID) : Prop := ∀ W, Takes X W → PI X tg iter (LI X.K W t)
theorem pi_imp {X : Cx} {tg iter : Expr} {t t' : TI} (h : PI X tg iter t) (w : ∀ σ H R, t' σ H R → t σ H R) : PI X tg iter t' := ⟨fun pins s σ H R I q => h.run pins s σ H R I (w σ H R q)⟩
/-- a list, a tuple -/
def iLst (t : TED) : TID := fun ρ Q X => t ρ (fun d ρ' => match d with
  | .lst ds => Q ds noChk ρ'
  | _ => False) X
def iTupD (t : TED) : TID := fun ρ Q X => t ρ (fun d ρ' => match d with
  | .tup ds => Q ds noChk ρ'
  | _ => False) X
theorem goes_list {K : PySem.W.Frag} {L : Nat → V} {F0 : Fz} {a : Addr} {vs : List V} {ds : List D} (h : hp F0 a = some (.lst vs)) (dl : DenL K F0 vs ds) : GoesA K L F0 (Itl K a) ds noChk := fun G _ =>
  ⟨fun i F H R σ ρ d r l _ e => by
    have hl : SqL K H a vs := SqL.of (r.fit.rd (l.hp h))
    obtain ⟨v, e1, e2⟩ := (dl.le l).get e
    refine ⟨⟨vs, v, hl, e1⟩, fun x H' ⟨eh, ex⟩ => ?_⟩
    subst eh
    have := ex vs hl
    rw [e1] at this
    cases this
    exact ⟨F, .refl r.fit, e2⟩,
   fun F H R σ ρ r l _ => ⟨vs, SqL.of (r.fit.rd (l.hp h)), by rw [dl.length]; exact Nat.le_refl _⟩⟩
theorem di_list {l : Expr} {t : TED} (hl : DE X l t) : DI X tg l (iLst t) := fun W tk => pi_imp (pi_list (hl W tk)) fun σ H Rr ⟨G, F, R, ρ, Qd, Xd, r, q, n, x⟩ => ⟨G, F, R, ρ, _, Xd, r, q, fun d ρ1 v F1 H1 R1 r1 l1 hd q1 => by
  cases hd with
  | lst hh dl => exact ⟨_, rfl, ⟨_, SqL.of (r1.fit.rd hh)⟩, n _ _ ρ1 _ F1 H1 R1 r1 l1 (goes_list hh dl) q1⟩
  | _ => exact q1.elim, x⟩
theorem goes_tup {K : PySem.W.Frag} {L : Nat → V} {F0 : Fz} {a : Addr} {vs : List V} {ds : List D} (h : TAt K F0 a vs) (dl : DenL K F0 vs ds) : GoesA K L F0 (Itt K a) ds noChk := fun G _ =>
  ⟨fun i F H R σ ρ d r l _ e => by
    have hl : SqT K H a vs := (h.le l).sq r.fit
    obtain ⟨v, e1, e2⟩ := (dl.le l).get e
    refine ⟨⟨vs, v, hl, e1⟩, fun x H' ⟨eh, ex⟩ => ?_⟩
    subst eh
    have := ex vs hl
    rw [e1] at this
    cases this
    exact ⟨F, .refl r.fit, e2⟩,
   fun F H R σ ρ r l _ => ⟨vs, (h.le l).sq r.fit, by rw [dl.length]; exact Nat.le_refl _⟩⟩
theorem di_tup {l : Expr} {t : TED} (hl : DE X l t) : DI X tg l (iTupD t) := fun W tk => pi_imp (pi_tup (hl W tk)) fun σ H Rr ⟨G, F, R, ρ, Qd, Xd, r, q, n, x⟩ => ⟨G, F, R, ρ, _, Xd, r, q, fun d ρ1 v F1 H1 R1 r1 l1 hd q1 => by
  cases hd with
  | tup hh dl => exact ⟨_, rfl, ⟨_, hh.sq r1.fit⟩, n _ _ ρ1 _ F1 H1 R1 r1 l1 (goes_tup hh dl) q1⟩
  | _ => exact q1.elim, x⟩
/-- ranges -/
def rangeD (lo : Int) (n : Nat) : List D := (List.range n).map fun (i : Nat) => D.int (lo + (i : Int))
theorem goes_range {K : PySem.W.Frag} {L : Nat → V} {F0 : Fz} {lo : Int} {n : Nat} : GoesA K L F0 (Itr lo n) (rangeD lo n) noChk := fun G _ =>
  ⟨fun i F H R σ ρ d r l _ e => by
    unfold rangeD at e
    rw [List.getElem?_map] at e
    cases z : (List.range n)[i]? with
    | none => rw [z] at e; cases e
    | some j =>
      rw [z] at e
      cases e
      obtain ⟨hlt, hj⟩ := List.getElem?_eq_some_iff.mp z
      rw [List.getElem_range] at hj
      rw [List.length_range] at hlt
      subst hj
      exact ⟨hlt, fun x H' ⟨eh, ex⟩ => by subst eh ex; exact ⟨F, .refl r.fit, .int _⟩⟩,
   fun F H R σ ρ r l _ => by unfold rangeD; rw [List.length_map, List.length_range]; exact Nat.le_refl _⟩
def iRg1 (t : TED) : TID := fun ρ Q X => t ρ (fun d ρ' => match d with
  | .int j => (-(2 ^ 62) ≤ j ∧ j < 2 ^ 62) ∧ Q (rangeD 0 j.toNat) noChk ρ'
  | _ => False) X
theorem di_range1 {e : Expr} {t : TED} {p pos : Pos} (hg : Gl X "range") (hm : X.mg "range" = none) (he : DE X e t) (hs : starEach [e] X.env = [(false, eval e X.env)] := by rfl) : DI X tg (.Call (.Name "range" p) [e] [] pos) (iRg1 t) := fun W tk =>
  pi_imp (pi_range1 hg hm (pa_cons (he W tk) pa_nil hs) hs) fun σ H Rr ⟨G, F, R, ρ, Qd, Xd, r, q, n, x⟩ => ⟨G, F, R, ρ, _, Xd, r, q, fun d ρ1 v F1 H1 R1 r1 l1 hd q1 => by
    cases hd with
    | int j => exact ⟨j, rfl, q1.1.1, q1.1.2, n _ _ ρ1 _ F1 H1 R1 r1 l1 goes_range q1.2⟩
    | _ => exact q1.elim, x⟩
def iRg2 (t u : TED) : TID := fun ρ Q X => t ρ (fun d ρ1 => u ρ1 (fun d' ρ2 => match d, d' with
  | .int i, .int j => (-(2 ^ 62) ≤ i ∧ i < 2 ^ 62 ∧ -(2 ^ 62) ≤ j ∧ j < 2 ^ 62) ∧ Q (rangeD i (j - i).toNat) noChk ρ2
  | _, _ => False) X) X
theorem di_range2 {e e' : Expr} {t u : TED} {p pos : Pos} (hg : Gl X "range") (hm : X.mg "range" = none) (he : DE X e t) (he' : DE X e' u) (hs : starEach [e, e'] X.env = [(false, eval e X.env), (false, eval e' X.env)] := by rfl) (hs2 : starEach [e'] X.env = [(false, eval e' X.env)] := by rfl) :
    DI X tg (.Call (.Name "range" p) [e, e'] [] pos) (iRg2 t u) := fun W tk =>
  pi_imp (pi_range2 hg hm (pa_cons (he W tk) (pa_cons (he' W tk) pa_nil hs2) (by rw [hs, hs2])) hs hs2) fun σ H Rr ⟨G, F, R, ρ, Qd, Xd, r, q, n, x⟩ => ⟨G, F, R, ρ, _, Xd, r, q, fun d ρ1 v F1 H1 R1 r1 l1 hd q1 =>
    ⟨G, F1, R1, ρ1, _, Xd, r1, q1, fun d' ρ2 v' F2 H2 R2 r2 l2 hd' q2 => by
      cases hd with
      | int i => cases hd' with
        | int j => exact ⟨i, j, rfl, q2.1, n _ _ ρ2 _ F2 H2 R2 r2 (l1.trans l2) goes_range q2.2⟩
        | _ => exact q2.elim
      | _ => cases hd' <;> exact q2.elim, x.le l1⟩, x⟩
/-- enumerate(list) -/
def enumD (ds : List D) : List D := (ds.zipIdx).map fun p => D.tup [.int ((p.2 : Nat) : Int), p.1]
theorem goes_enum {K : PySem.W.Frag} {L : Nat → V} {F0 : Fz} {a : Addr} {vs : List V} {ds : List D} (h : hp F0 a = some (.lst vs)) (dl : DenL K F0 vs ds) : GoesA K L F0 (Ite K a) (enumD ds) noChk := fun G _ =>
  ⟨fun i F H R σ ρ d r l _ e => by
    have hl : SqL K H a vs := SqL.of (r.fit.rd (l.hp h))
    unfold enumD at e
    rw [List.getElem?_map, List.getElem?_zipIdx] at e
    cases z : ds[i]? with
    | none => rw [z] at e; cases e
    | some y =>
      rw [z] at e
      cases e
      obtain ⟨v, e1, e2⟩ := (dl.le l).get z
      refine ⟨⟨vs, v, hl, e1⟩, fun x H' ⟨T, w, ex, hT, eh, ew⟩ => ?_⟩
      subst ex eh
      have := ew vs hl
      rw [e1] at this
      cases this
      obtain ⟨g, d⟩ := Den.newT (ds := [.int ((i : Nat) : Int), y]) r.fit hT (.cons (.int _) (.cons e2 .nil))
      refine ⟨_, g, ?_⟩
      have e0 : 0 + i = i := Nat.zero_add i
      rw [e0]
      exact d,
   fun F H R σ ρ r l _ => ⟨vs, SqL.of (r.fit.rd (l.hp h)), by unfold enumD; rw [List.length_map, List.length_zipIdx, dl.length]; exact Nat.le_refl _⟩⟩
def iEnumD (t : TED) : TID := fun ρ Q X => t ρ (fun d ρ' => match d with
  | .lst ds => Q (enumD ds) noChk ρ'
  | _ => False) X
theorem di_enum {e : Expr} {t : TED} {p pos tpos : Pos} {elts : List Expr} {kk : Nat} (hg : Gl X "enumerate") (hm : X.mg "enumerate" = none) (he : DE X e t) (hs : starEach [e] X.env = [(false, eval e X.env)] := by rfl) : DI X (.Tuple elts kk tpos) (.Call (.Name "enumerate" p) [e] [] pos) (iEnumD t) := fun W tk =>
  pi_imp (pi_enum hg hm (pa_cons (he W tk) pa_nil hs) hs) fun σ H Rr ⟨G, F, R, ρ, Qd, Xd, r, q, n, x⟩ => ⟨G, F, R, ρ, _, Xd, r, q, fun d ρ1 v F1 H1 R1 r1 l1 hd q1 => by
    cases hd with
    | lst hh dl => exact ⟨_, _, rfl, SqL.of (r1.fit.rd hh), n _ _ ρ1 _ F1 H1 R1 r1 l1 (goes_enum hh dl) q1⟩
    | _ => exact q1.elim, x⟩
/-! ### for -/
def dForL (chk : Rho → Prop) (g : TGD) (body : TSD) : List D → TSD
  | [] => fun E ρ => chk ρ ∧ E.nx ρ
  | d :: ds => fun E ρ => chk ρ ∧ g d ρ fun ρ1 => body { E with nx := fun ρ2 => dForL chk g body ds E ρ2, ct := fun ρ2 => dForL chk g body ds E ρ2, bk := E.nx } ρ1
def dFor (t : TID) (g : TGD) (body : TSD) : TSD := fun E ρ => t ρ (fun ds chk ρ1 => dForL chk g body ds E ρ1) E.ex
theorem dForL_chk {chk : Rho → Prop} {g : TGD} {body : TSD} {ds : List D} {E : EndsD} {ρ : Rho} (h : dForL chk g body ds E ρ) : chk ρ := by
  cases ds with
  | nil => exact h.1
  | cons d ds => exact h.1
theorem ds_for {iter : Expr} {body : List Stmt} {t : TID} {is : List Nat} {g : TGD} {tb : TSD} (hc : X.calm = true) (hi : DI X tg iter t) (hg : DG X tg is g) (hb : DSs X body tb) (hs : ∀ x, foldedSetIterable iter X.env x = pure x := by intro _; rfl) :
    DS X (.For tg iter body [] pos) (dFor t g tb) := fun W tk po => ps_imp (ps_for po hc (hi W tk) hg (hb W tk po) hs) fun D σ H ⟨G, F, R, ρ, E, r, q, ok⟩ => ⟨G, F, R, ρ, _, E.ex, r, q, fun ds chk ρ1 J F1 H1 R1 r1 l1 ga q1 => by
  refine ⟨fun i m σ H => m = ds.length - i ∧ i ≤ ds.length ∧ ∃ F R ρ, Rp X.K G F H R σ ρ ∧ Fle F1 F ∧ dForL chk g tb (ds.drop i) E ρ, ⟨ds.length, by simp, Nat.zero_le _, F1, R1, ρ1, r1, .refl F1, q1⟩, ?_⟩
  rintro i m σ2 H2 ⟨rfl, hi, F2, R2, ρ2, r2, l2, q2⟩
  have ck := dForL_chk q2
  by_cases hlt : i < ds.length
  · have ed : ds[i]? = some ds[i] := List.getElem?_eq_getElem hlt
    obtain ⟨gg, gy⟩ := (ga G rfl).go i F2 H2 R2 σ2 ρ2 _ r2 l2 ck ed
    refine .inr ⟨gg, fun σ' H' => ∃ F R ρ, Rp X.K G F H' R σ' ρ ∧ Fle F1 F ∧ dForL chk g tb (ds.drop (i + 1)) E ρ, fun σ' H' ⟨F, R, ρ, z⟩ => ⟨_, by omega, rfl, hlt, F, R, ρ, z⟩, fun x H' y => ?_⟩
    obtain ⟨F3, g3, d3⟩ := gy x H' y
    rw [List.drop_eq_getElem_cons hlt] at q2
    refine ⟨G, F3, R2, ρ2, ds[i], _, r2.grow g3, d3, q2.2, fun ρ4 σ4 F4 H4 R4 r4 l4 _ q4 => ?_⟩
    have l14 : Fle F1 F4 := (l2.trans g3.le).trans l4
    refine ⟨G, F4, R4, ρ4, _, r4, q4, ⟨fun ρ5 σ5 F5 H5 R5 r5 l5 q5 => ⟨F5, R5, ρ5, r5, l14.trans l5, q5⟩, fun x ρ5 v σ5 F5 H5 R5 T r5 l5 t5 a5 nl q5 => ?_, fun ρ5 σ5 F5 H5 R5 r5 l5 q5 => ?_, fun ρ5 σ5 F5 H5 R5 r5 l5 q5 => ⟨F5, R5, ρ5, r5, l14.trans l5, q5⟩, fun σ => (ok.ex σ).le (l1.trans l14)⟩⟩
    · exact ok.rt x ρ5 v σ5 F5 H5 R5 T r5 ((l1.trans l14).trans l5) t5 a5 nl q5
    · exact ok.nx ρ5 σ5 F5 H5 R5 r5 ((l1.trans l14).trans l5) q5
  · have e : i = ds.length := by omega
    subst e
    rw [List.drop_length] at q2
    exact .inl ⟨(ga G rfl).stop F2 H2 R2 σ2 ρ2 r2 l2 ck, ok.nx ρ2 σ2 F2 H2 R2 r2 (l1.trans l2) q2.2⟩, ok.ex σ⟩
/-- a slot's list: the caller's must stay as it is while it is walked -/
def iSlot (i : Nat) : TID := fun ρ Q _ => match ρ.getD i none with
  | some (.v (.lst ds)) => Q ds noChk ρ
  | some (.o (.lst ds)) => Q ds noChk (ρ.set i (some (.v (.lst ds))))
  | some (.l (.lst ds)) => Q ds (fun ρ' => ρ'.getD i none = some (.l (.lst ds))) ρ
  | _ => False
theorem di_slot {l : Expr} {i : Nat} (h : PE X l (tVar i)) : DI X tg l (iSlot i) := fun W tk => pi_imp (pi_list h) fun σ H Rr ⟨G, F, R, ρ, Qd, Xd, r, q, n, x⟩ => by
  have q' : (match ρ.getD i none with
    | some (.v (.lst ds)) => Qd ds noChk ρ
    | some (.o (.lst ds)) => Qd ds noChk (ρ.set i (some (.v (.lst ds))))
    | some (.l (.lst ds)) => Qd ds (fun ρ' => ρ'.getD i none = some (.l (.lst ds))) ρ
    | _ => False) := q
  cases e : ρ.getD i none with
  | none => rw [e] at q'; exact q'.elim
  | some y =>
    rw [e] at q'
    cases y with
    | v d =>
      cases d with
      | lst ds =>
        obtain ⟨v, h1, h2⟩ := r.at_ i _ (getD_some e)
        cases h2 with
        | lst hh dl => exact ⟨_, h1, _, rfl, ⟨_, SqL.of (r.fit.rd hh)⟩, n _ _ ρ _ F H R r (.refl F) (goes_list hh dl) q'⟩
      | _ => exact q'.elim
    | o b =>
      cases b with
      | lst ds =>
        obtain ⟨F2, R2, v, h1, r2, l2, d2⟩ := r.give (getD_some e) (d := .lst ds) rfl
        cases d2 with
        | lst hh dl => exact ⟨_, h1, _, rfl, ⟨_, SqL.of (r2.fit.rd hh)⟩, n _ _ _ _ F2 H R2 r2 l2 (goes_list hh dl) q'⟩
      | _ => exact q'.elim
    | l b =>
      cases b with
      | lst ds =>
        obtain ⟨v, h1, h2⟩ := r.at_ i _ (getD_some e)
        have e1 := r.lnt i _ (getD_some e)
        rw [h1] at e1
        cases e1
        obtain ⟨p, vs, ev, rp, hp, dl⟩ := h2
        refine ⟨_, h1, p, ev, ⟨_, SqL.of hp⟩, n _ _ ρ _ F H R r (.refl F) (fun G' eL => ?_) q'⟩
        have key : ∀ {F1 H1 R1 σ1 ρ1}, Rp X.K G' F1 H1 R1 σ1 ρ1 → ρ1.getD i none = some (.l (.lst ds)) → ∃ us, H1 p = some (.lst us) ∧ DenL X.K F1 us ds := fun {F1 H1 R1 σ1 ρ1} r1 e1 => by
          obtain ⟨v1, g1, g2⟩ := r1.at_ i _ (getD_some e1)
          have e2 := r1.lnt i _ (getD_some e1)
          rw [g1] at e2
          have e3 : v1 = V.ref p := by
            rw [Option.some.inj (Option.some.inj e2), eL, ev]
          obtain ⟨p1, us, ev1, _, hp1, dl1⟩ := g2
          rw [e3] at ev1
          cases ev1
          exact ⟨us, hp1, dl1⟩
        refine ⟨fun k F1 H1 R1 σ1 ρ1 d r1 l1 ck ed => ?_, fun F1 H1 R1 σ1 ρ1 r1 l1 ck => ?_⟩
        · obtain ⟨us, h3, dl3⟩ := key r1 ck
          obtain ⟨v3, e3, d3⟩ := dl3.get ed
          refine ⟨⟨us, v3, SqL.of h3, e3⟩, fun x H' ⟨eh, ex⟩ => ?_⟩
          subst eh
          have := ex us (SqL.of h3)
          rw [e3] at this
          cases this
          exact ⟨F1, .refl r1.fit, d3⟩
        · obtain ⟨us, h3, dl3⟩ := key r1 ck
          exact ⟨us, SqL.of h3, by rw [dl3.length]; exact Nat.le_refl _⟩
      | _ => exact q'.elim
/-! ### comprehensions -/
def wipeD (ρ : Rho) : List Nat → Rho
  | [] => ρ
  | i :: vs => wipeD (ρ.set i none) vs
theorem Rp.wipe {K : PySem.W.Frag} {G : Gd} {F : Fz} {H : Hp} {R : Nat → Addr → Prop} {σ : L2.St} : ∀ {vs : List Nat} {ρ : Rho}, Rp K G F H R σ ρ → Rp K G F H R σ (wipeD ρ vs)
  | [], _, r => r
  | i :: vs, ρ, r => Rp.wipe (vs := vs) (ρ := ρ.set i none) (r.forget i)
theorem wipeD_get : ∀ {vs : List Nat} {ρ : Rho} {i : Nat} {x : DV}, (wipeD ρ vs)[i]? = some (some x) → ρ[i]? = some (some x) ∧ i ∉ vs
  | [], ρ, i, x, e => ⟨e, by simp⟩
  | j :: vs, ρ, i, x, e => by
    obtain ⟨h1, h2⟩ := wipeD_get (vs := vs) e
    by_cases q : i = j
    · subst q
      by_cases hlt : i < ρ.length
      · rw [List.getElem?_set_self hlt] at h1; cases h1
      · rw [List.getElem?_eq_none (by simpa using hlt)] at h1; cases h1
    · rw [List.getElem?_set_ne (Ne.symm q)] at h1
      exact ⟨h1, by simp [q, h2]⟩
theorem wipe_at {σ σ2 : L2.St} {vs : List Nat} (h : L2.wipe σ2 vs = L2.wipe σ vs) {i : Nat} (hi : i ∉ vs) : σ2[i]? = σ[i]? := by rw [← wipe_out hi, h, wipe_out hi]
theorem wipeD_len : ∀ {vs : List Nat} {ρ : Rho}, (wipeD ρ vs).length = ρ.length
  | [], ρ => rfl
  | j :: vs, ρ => by
    show (wipeD (ρ.set j none) vs).length = _
    rw [wipeD_len, List.length_set]
/-- the slots that a block does not own are as they were -/
theorem Rp.reslot {K : PySem.W.Frag} {G : Gd} {F : Fz} {H : Hp} {R : Nat → Addr → Prop} {σ σ2 : L2.St} {vs : List Nat} {ρ : Rho} (h : L2.wipe σ2 vs = L2.wipe σ vs) (r : Rp K G F H R σ2 ρ) : Rp K G F H R σ (wipeD ρ vs) := by
  have r' := r.wipe (vs := vs)
  have hl : σ2.length = σ.length := by rw [← wipe_length σ2 vs, h, wipe_length]
  refine ⟨r'.fit, r'.out, by rw [← hl]; exact r'.len, fun i x e => ?_, r'.reg, r'.dis, fun i b e => ?_⟩
  · obtain ⟨v, h1, h2⟩ := r'.at_ i x e
    exact ⟨v, by rw [← wipe_at h (wipeD_get e).2]; exact h1, h2⟩
  · rw [← wipe_at h (wipeD_get e).2]
    exact r'.lnt i b e
theorem wipe_in {σ : L2.St} : ∀ {vs : List Nat} {i : Nat}, i ∈ vs → (L2.wipe σ vs)[i]? = σ[i]?.map fun _ => none := by
  intro vs
  induction vs with
  | nil => intro i h; simp at h
  | cons j vs ih =>
    intro i h
    unfold L2.wipe
    by_cases q2 : i = j
    · subst q2
      by_cases hlt : i < σ.length
      · rw [List.getElem?_set_self (by rw [wipe_length]; exact hlt), List.getElem?_eq_getElem hlt]; rfl
      · rw [List.getElem?_eq_none (by rw [List.length_set, wipe_length]; omega), List.getElem?_eq_none (by omega)]; rfl
    · rw [List.getElem?_set_ne (Ne.symm q2)]
      exact ih (by simpa [q2] using h)
theorem wipe_of {σ σ' : L2.St} {vs : List Nat} (hl : σ'.length = σ.length) (h : ∀ i, i ∉ vs → σ'[i]? = σ[i]?) : L2.wipe σ' vs = L2.wipe σ vs := by
  apply List.ext_getElem?
  intro i
  by_cases q : i ∈ vs
  · rw [wipe_in q, wipe_in q]
    by_cases hlt : i < σ.length
    · rw [List.getElem?_eq_getElem hlt, List.getElem?_eq_getElem (by omega)]; rfl
    · rw [List.getElem?_eq_none (by omega), List.getElem?_eq_none (by omega)]
  · rw [wipe_out q, wipe_out q, h i q]
theorem wipe_wipe (σ : L2.St) (vs : List Nat) : L2.wipe (L2.wipe σ vs) vs = L2.wipe σ vs := wipe_of (wipe_length σ vs) fun i q => wipe_out q
theorem SlotEq.wipe {is vs : List Nat} {σ σ' : L2.St} (h : SlotEq is (L2.wipe σ vs) σ') (hs : ∀ i ∈ is, i ∈ vs) : L2.wipe σ' vs = L2.wipe σ vs := by
  rw [← wipe_wipe σ vs]
  exact wipe_of h.1 fun i q => h.2 i fun z => q (hs i z)
/-- an object on the way is put aside, and brought back changed -/
theorem Rp.hide {K : PySem.W.Frag} {G : Gd} {F : Fz} {H : Hp} {R : Nat → Addr → Prop} {σ : L2.St} {ρ : Rho} (r : Rp K G F H R σ ρ) {p : Addr} {o : HO} (hp : H p = some o) (hF : F p = none) (nr : ∀ i, ¬ R i p) : Rp K { G with Ho := upd G.Ho p o } F H R σ ρ := by
  refine ⟨r.fit, fun a u e => ?_, r.len, r.at_, fun i a ra => ?_, r.dis, r.lnt⟩
  · have e' : upd G.Ho p o a = some u := e
    by_cases z : a = p
    · subst z
      rw [upd_same] at e'
      cases e'
      exact ⟨hp, hF⟩
    · rw [upd_ne z] at e'
      exact r.out a u e'
  · obtain ⟨h1, h2, h3⟩ := r.reg i a ra
    refine ⟨h1, ?_, h3⟩
    show upd G.Ho p o a = none
    rw [upd_ne fun z => by subst z; exact nr i ra]
    exact h2
theorem Rp.show_ {K : PySem.W.Frag} {G : Gd} {F : Fz} {H : Hp} {R : Nat → Addr → Prop} {σ : L2.St} {ρ : Rho} {p : Addr} {o : HO} (r : Rp K { G with Ho := upd G.Ho p o } F H R σ ρ) (hg : G.Ho p = none) (u : HO) :
    H p = some o ∧ Rp K G F (upd H p u) R σ ρ ∧ Tmp G F (upd H p u) R fun a => a = p := by
  have hp := r.out p o (show upd G.Ho p o p = some o from upd_same)
  have nr : ∀ i a, R i a → a ≠ p := fun i a ra z => by
    have h2 := (r.reg i a ra).2.1
    have h2' : upd G.Ho p o a = none := h2
    rw [z, upd_same] at h2'
    cases h2'
  refine ⟨hp.1, ⟨fun a g ea => ?_, fun a w e => ?_, r.len, fun i x e => ?_, fun i a ra => ?_, r.dis, r.lnt⟩, fun a e => ?_⟩
  · have ne : a ≠ p := fun z => by rw [z, hp.2] at ea; cases ea
    have q := r.fit a g ea
    cases g with
    | hard o => exact (upd_ne ne).trans q
    | strm =>
      obtain ⟨m, n, h1, h2, h3⟩ := q
      exact ⟨m, n, h1, h2, (upd_ne ne).trans h3⟩
  · have ne : a ≠ p := fun z => by rw [z, hg] at e; cases e
    obtain ⟨h1, h2⟩ := r.out a w (show upd G.Ho p o a = some w by rw [upd_ne ne]; exact e)
    exact ⟨(upd_ne ne).trans h1, h2⟩
  · obtain ⟨v, h1, h2⟩ := r.at_ i x e
    exact ⟨v, h1, h2.keep (.refl F) (fun a ra => upd_ne (nr i a ra)) fun _ ra => ra⟩
  · obtain ⟨h1, h2, h3⟩ := r.reg i a ra
    refine ⟨h1, ?_, by rw [upd_ne (nr i a ra)]; exact h3⟩
    have h2' : upd G.Ho p o a = none := h2
    rw [upd_ne (nr i a ra)] at h2'
    exact h2'
  · subst e
    exact ⟨hp.2, hg, by rw [upd_same]; exact fun z => (nomatch z), fun i ra => nr i a ra rfl⟩
def noX : XD := fun _ _ => False
def dLcL (chk : Rho → Prop) (g : TGD) (tt : TTD) (te : TED) (vs : List Nat) : List D → List D → Rho → (List D → Rho → Prop) → Prop
  | [], acc, ρ, Q => chk ρ ∧ Q acc ρ
  | d :: ds, acc, ρ, Q => chk ρ ∧ g d (wipeD ρ vs) fun ρ1 => tt ρ1 (fun b ρ2 => if b = true then te ρ2 (fun y ρ3 => acc.length < sizeLine ∧ dLcL chk g tt te vs ds (acc ++ [y]) (wipeD ρ3 vs) Q) noX else dLcL chk g tt te vs ds acc (wipeD ρ2 vs) Q) noX
def dLc (t : TID) (g : TGD) (tt : TTD) (te : TED) (vs : List Nat) : TXD := fun ρ Q X => t ρ (fun ds chk ρ1 => dLcL chk g tt te vs ds [] ρ1 fun ys ρ2 => Q (.o (.lst ys)) ρ2) X
def dYes : TTD := fun ρ Q _ => Q true ρ
def DTs (X : Cx) (ifs : List Expr) (t : TTD) : Prop := ∀ W, Takes X W → PTs X ifs (LT X.K W t)
theorem dts_nil : DTs X [] dYes := fun W tk => ⟨fun pins s σ H Q I ⟨G, F, R, ρ, Qd, Xd, r, q, n, x⟩ => pts_nil.run pins s σ H Q I (n true ρ F H R r (.refl F) q)⟩
theorem dts_one {c : Expr} {t : TTD} (h : DT X c t) : DTs X [c] t := fun W tk => pts_one (h W tk)
theorem nox_post {K : PySem.W.Frag} {W : WX} {G : Gd} {F : Fz} {σ : L2.St} : PostX K W G F σ noX := fun _ _ _ _ _ _ _ _ _ _ _ q => q.elim
theorem dLcL_chk {chk : Rho → Prop} {g : TGD} {tt : TTD} {te : TED} {vs : List Nat} {ds acc : List D} {ρ : Rho} {Q : List D → Rho → Prop} (h : dLcL chk g tt te vs ds acc ρ Q) : chk ρ := by
  cases ds with
  | nil => exact h.1
  | cons d ds => exact h.1
theorem lc_turn {K : PySem.W.Frag} {G : Gd} {F1 F4 : Fz} {H4 : Hp} {R4 : Nat → Addr → Prop} {σ σ4 : L2.St} {ρ4 : Rho} {vs : List Nat} {Dl : Addr} {us us' : List V} (r4 : Rp K { G with Ho := upd G.Ho Dl (.lst us) } F4 H4 R4 σ4 ρ4) (hg : G.Ho Dl = none) (hw : L2.wipe σ4 vs = L2.wipe σ vs) :
    H4 Dl = some (.lst us) ∧ Rp K G F4 (upd H4 Dl (.lst us')) R4 σ (wipeD ρ4 vs) ∧ Tmp G F4 (upd H4 Dl (.lst us')) R4 fun a => a = Dl := by
  obtain ⟨h1, h2, h3⟩ := r4.show_ hg (.lst us')
  exact ⟨h1, h2.reslot hw, h3⟩
theorem upd_id {H : Hp} {p : Addr} {o : HO} (h : H p = some o) : upd H p o = H := by
  funext a
  by_cases q : a = p
  · subst q; rw [upd_same, h]
  · rw [upd_ne q]
/-- a comprehension's reading -/
theorem lx_lc {K : PySem.W.Frag} {W : WX} {t : TID} {is : List Nat} {g : TGD} {tt : TTD} {te : TED} {vs : List Nat} (hsub : ∀ i ∈ is, i ∈ vs) {σ : L2.St} {H : Hp} {Q : VK} (h : LX K W (dLc t g tt te vs) σ H Q) :
    tLc (LI K W t) (LG K is g) (LT K (fun _ _ _ _ => False) tt) (LE K (fun _ _ _ _ => False) te) vs σ H Q := by
  obtain ⟨G, F, R, ρ, Qd, Xd, r, q, n, x⟩ := h
  refine ⟨G, F, R, ρ, _, Xd, r, q, fun ds chk ρ1 J F1 H1 R1 r1 l1 ga q1 => fun Dl hD => ?_, x⟩
  obtain ⟨hF, hG, hR⟩ := r1.ho_free hD
  refine ⟨fun i m H => m = ds.length - i ∧ i ≤ ds.length ∧ ∃ F R ρ acc us, Rp K G F H R σ ρ ∧ Fle F1 F ∧ H Dl = some (.lst us) ∧ DenL K F us acc ∧ Tmp G F H R (fun a => a = Dl) ∧
      dLcL chk g tt te vs (ds.drop i) acc ρ fun ys ρ => Qd (.o (.lst ys)) ρ, ⟨ds.length, by simp, Nat.zero_le _, F1, R1, ρ1, [], [], ?_⟩, ?_⟩
  · exact ⟨r1.grow (.own (o := .lst []) r1.fit hD), .refl F1, upd_same, .nil, .new r1 hD, q1⟩
  · rintro i m H2 ⟨rfl, hi, F2, R2, ρ2, acc, us, r2, l2, h2, dl, t2, q2⟩
    have ck := dLcL_chk q2
    by_cases hlt : i < ds.length
    · have ed : ds[i]? = some ds[i] := List.getElem?_eq_getElem hlt
      obtain ⟨t21, t22, t23, t24⟩ := t2 Dl rfl
      have hid := r2.hide h2 t21 t24
      obtain ⟨gg, _⟩ := (ga G rfl).go i F2 H2 R2 σ ρ2 _ r2 l2 ck ed
      obtain ⟨_, gy1⟩ := (ga { G with Ho := upd G.Ho Dl (.lst us) } rfl).go i F2 H2 R2 σ ρ2 _ hid l2 ck ed
      refine .inr ⟨gg, fun H' => ∃ F R ρ acc us, Rp K G F H' R σ ρ ∧ Fle F1 F ∧ H' Dl = some (.lst us) ∧ DenL K F us acc ∧ Tmp G F H' R (fun a => a = Dl) ∧
        dLcL chk g tt te vs (ds.drop (i + 1)) acc ρ fun ys ρ => Qd (.o (.lst ys)) ρ, fun H' z => ⟨_, by omega, rfl, hlt, z⟩, fun x H' y => ?_⟩
      obtain ⟨F3, g3, d3⟩ := gy1 x H' y
      rw [List.drop_eq_getElem_cons hlt] at q2
      have rw0 : Rp K { G with Ho := upd G.Ho Dl (.lst us) } F3 H' R2 (L2.wipe σ vs) (wipeD ρ2 vs) := Rp.reslot (σ2 := σ) (wipe_wipe σ vs).symm (hid.grow g3)
      refine ⟨_, F3, R2, _, ds[i], _, rw0, d3, q2.2, fun ρ4 σ4 F4 H4 R4 r4 l4 e4 q4 => ⟨e4.wipe hsub, ?_⟩⟩
      have hw := e4.wipe hsub
      have l14 := (l2.trans g3.le).trans l4
      refine ⟨_, F4, R4, ρ4, _, noX, r4, q4, fun b ρ5 F5 H5 R5 r5 l5 q5 => ?_, nox_post⟩
      cases b with
      | false =>
        simp only [Bool.false_eq_true, if_false] at q5 ⊢
        obtain ⟨h5, r5', t5⟩ := lc_turn (F1 := F1) (us' := us) r5 t22 hw
        rw [upd_id h5] at r5' t5
        exact ⟨F5, R5, _, acc, us, r5', l14.trans l5, h5, dl.le ((g3.le.trans l4).trans l5), t5, q5⟩
      | true =>
        simp only [if_true] at q5 ⊢
        refine ⟨_, F5, R5, ρ5, _, noX, r5, q5, fun d ρ6 v F6 H6 R6 r6 l6 hd q6 => ?_, nox_post⟩
        obtain ⟨h6, r6', t6⟩ := lc_turn (F1 := F1) (us' := us ++ [v]) r6 t22 hw
        have dl6 := dl.le (((g3.le.trans l4).trans l5).trans l6)
        exact ⟨us, h6, by rw [dl6.length]; exact q6.1, F6, R6, _, _, _, r6', (l14.trans l5).trans l6, upd_same, dl6.append (.cons hd .nil), t6, q6.2⟩
    · have e : i = ds.length := by omega
      subst e
      rw [List.drop_length] at q2
      refine .inl ⟨(ga G rfl).stop F2 H2 R2 σ ρ2 r2 l2 ck, ?_⟩
      exact n (.o (.lst acc)) ρ2 (.ref Dl) F2 H2 R2 (fun a => a = Dl) r2 (l1.trans l2) t2 ⟨Dl, us, rfl, rfl, h2, dl⟩ (fun b z => nomatch z) q2.2
/-- what holds in the contexts of a block -/
abbrev InBlk (X : Cx) (scope : Scope) (P : Cx → Prop) : Prop := ∀ (s : Shared) (H : Hp) (C : Addr) (cl : List (Str × Addr)) (fp : List Addr), P (X.blk s H scope (compEnvC scope cl C X.env) fp)
theorem dx_lc {elt iter : Expr} {ifs : List Expr} {scope : Scope} {own : List (Str × Nat)} {t : TID} {is : List Nat} {g : TGD} {tt : TTD} {te : TED} (hc : X.calm = true) (hN : X.N.Nodup) (hi : DI X tg iter t) (ok : BlkOk X.N X.env.scope scope own) (hsub : ∀ i ∈ is, i ∈ own.map (·.2))
    (hg : InBlk X scope fun Y => DG Y tg is g) (ht : InBlk X scope fun Y => DTs Y ifs tt) (he : InBlk X scope fun Y => DE Y elt te) (hs : ∀ x, foldedSetIterable iter X.env x = pure x := by intro _; rfl) :
    DX X (.ListComp elt [⟨tg, iter, ifs, 0⟩] scope pos) (dLc t g tt te (own.map (·.2))) := fun W tk =>
  pe_imp (pe_lc (g := LG X.K is g) hc hN (hi W tk) ok hg (fun s H C cl fp => ht s H C cl fp _ takes0) (fun s H C cl fp => he s H C cl fp _ takes0) hs) fun σ H Q h => lx_lc hsub h
/-- name = [..] on one line -/
theorem ds_setLc {i : Nat} {y : Str} {py spos : Pos} {elt iter : Expr} {ifs : List Expr} {scope : Scope} {own : List (Str × Nat)} {t : TID} {is : List Nat} {g : TGD} {tt : TTD} {te : TED} (hc : X.calm = true) (hN : X.N.Nodup) (hy : X.N[i]? = some y) (hyl : X.env.scope.names.lookup y = some .local)
    (hsw : swapsWith (.ListComp elt [⟨tg, iter, ifs, 0⟩] scope pos) (some (.Name y py)) spos.line X.env = pure true)
    (hi : DI X tg iter t) (ok : BlkOk X.N X.env.scope scope own) (hsub : ∀ i ∈ is, i ∈ own.map (·.2))
    (hg : InBlk X scope fun Y => DG Y tg is g) (ht : InBlk X scope fun Y => DTs Y ifs tt) (he : InBlk X scope fun Y => DE Y elt te) (hs : ∀ x, foldedSetIterable iter X.env x = pure x := by intro _; rfl) :
    DS X (.Assign [.Name y py] (.ListComp elt [⟨tg, iter, ifs, 0⟩] scope pos) spos) (dAsg i (dLc t g tt te (own.map (·.2)))) := fun W tk po =>
  ps_imp (ps_setLc (g := LG X.K is g) hc hN hy hyl hsw (hi W tk) ok hg (fun s H C cl fp => ht s H C cl fp _ takes0) (fun s H C cl fp => he s H C cl fp _ takes0) hs) fun D σ H ⟨G, F, R, ρ, E, r, q, ok⟩ =>
    lx_lc hsub ⟨G, F, R, ρ, _, E.ex, r, q, fun x ρ1 v F1 H1 R1 T r1 l1 t1 a1 nl q1 => ok.nx _ _ F1 H1 _ (r1.set t1 a1 nl) l1 q1, ok.ex σ⟩
end
end PD
set_option maxHeartbeats 1000000
namespace PD
open PySem L2 PySem.Spec PyProof.Rows
/-! ### what an own class defines -/
def isInsC (C : Addr) : D → Prop
  | .ins C' _ => C' = C
  | _ => False
theorem isInsC_of {K : PySem.W.Frag} {F : Fz} {H : Hp} {v : V} {C : Addr} {d : D} (f : Fit F H) (s : See K F H v d) (h : isInsC C d) : ∃ a dx vs fs, d = .ins C fs ∧ v = .ref a ∧ H a = some (.ins C dx vs) ∧ DenF K F vs fs := by
  cases d with
  | ins C' fs =>
    have : C' = C := h
    subst this
    obtain ⟨a, dx, vs, e, ha, df⟩ := s.ins f
    exact ⟨a, dx, vs, fs, rfl, e, ha, df⟩
  | _ => exact h.elim
/-- the instance in the state -/
theorem inst_at {X : Cx} {pins : List (Addr × Obj)} {σ : L2.St} {H : Hp} {s : Shared} {a C dx : Addr} {vs : List (Str × V)} (I : Inv X pins σ H s) (ha : H a = some (.ins C dx vs)) :
    ∃ (ox : Obj) (od : Option Obj), PySem.W.InstAt s.heap a ox C od ∧ ox.data = .plain := by
  obtain ⟨mA, J, _⟩ := ins_get I.hok ha
  have e := J.obj
  obtain ⟨od, J', _⟩ := J.look
  exact ⟨_, _, J', rfl⟩
def noE : L2.St → XK := fun _ _ _ _ => False
theorem noE_pass {X : Cx} {σ : L2.St} : PassesAt (L2.CX X.prog X.w) X σ (noE σ) := fun pins H s e s' I c => by
  obtain ⟨_, _, _, _, _, _, _, _, _, _, _, _, h⟩ := c
  exact h.elim
section
variable {X : Cx} {k : Nat} {f C : Addr} {sp : SpD} {ta tb : TOD} {a b : Expr} {pos : Pos}
/-- both are instances of the class at C, the method's promise of the two -/
def rOwn2 (K : PySem.W.Frag) (C : Addr) (sp : Sp) : R2 := fun x y H Q => ∃ a dx fs b dy gs, x = .ref a ∧ y = .ref b ∧ H a = some (.ins C dx fs) ∧ H b = some (.ins C dy gs) ∧ sp [x, y] H Q (fun _ _ _ => False)
theorem back_of {X : Cx} {pins : List (Addr × Obj)} {σ : L2.St} {Q : VK} {A : Around} {E : Value → Shared → Prop} {s : Shared} {g : Addr} {us : List Value} (h : wpAny (model X.prog X.w) A (call (.ref g) us) (EP X pins σ Q) E s) :
    wpAny (model X.prog X.w) A (call (.ref g) us) (PySem.W.CmpBack (EP X pins σ Q)) E s := wpAny_mono h (fun v s' ⟨x, H', I', r, q⟩ => by
  cases x with
  | non => cases r; exact ⟨V.non, H', I', rfl, q⟩
  | bl _ => cases r; exact ⟨V.bl _, H', I', rfl, q⟩
  | ref _ => cases r; exact ⟨V.ref _, H', I', rfl, q⟩
  | ty _ => cases r; exact ⟨V.ty _, H', I', rfl, q⟩
  | int _ => obtain ⟨t, rfl⟩ := r; exact ⟨V.int _, H', I', ⟨t, rfl⟩, q⟩
  | str _ => obtain ⟨t, rfl⟩ := r; exact ⟨V.str _, H', I', ⟨t, rfl⟩, q⟩
  | byt _ => obtain ⟨t, rfl⟩ := r; exact ⟨V.byt _, H', I', ⟨t, rfl⟩, q⟩
  | flt _ => obtain ⟨t, rfl⟩ := r; exact ⟨V.flt _, H', I', ⟨t, rfl⟩, q⟩) fun _ _ z => z
theorem op_own {op : Operator} (F : FnD X.prog X.w X.K X.mg X.base k f [] sp) (hr : Room k X.A) (hc : PySem.W.selfFirst X.K C = true) (hs : PySem.W.findIn X.K (.ref C) (PySem.dunder op.info.2) = some (some (.ref f))) (hf : PySem.W.isFn X.K (.ref f) = true) :
    OpR X (binaryOp op) (rOwn2 X.K C (liftSp X.K sp)) := by
  obtain ⟨fd, ps, ds, F, hb, hd⟩ := F.ex
  intro pins s σ H x y v u Q I rx ry ⟨a, dx, fs, b, dy, gs, hx, hy, ha, hb', q⟩
  subst hx hy
  cases rx
  cases ry
  obtain ⟨ox, od, J, _⟩ := inst_at I ha
  obtain ⟨oy, oe, J', _⟩ := inst_at I hb'
  obtain ⟨m, hF⟩ := I.fr
  exact PySem.W.binop_K hF I.ok.mod.kin J J'.type hc hs hf (back_of (run_fnSD (us := [.ref a, .ref b]) (vs := [.ref a, .ref b]) (dvs := []) (E := noE) F hr hb hd noE_pass I (.cons rfl (.cons rfl .nil)) q))
theorem cmp_own {op : CmpOp} (F : FnD X.prog X.w X.K X.mg X.base k f [] sp) (hr : Room k X.A) (hs : PySem.W.findIn X.K (.ref C) (cmpInfo op).2.1 = some (some (.ref f))) (hf : PySem.W.isFn X.K (.ref f) = true) :
    OpR X (richCompare op) (rOwn2 X.K C (liftSp X.K sp)) := by
  obtain ⟨fd, ps, ds, F, hb, hd⟩ := F.ex
  intro pins s σ H x y v u Q I rx ry ⟨a, dx, fs, b, dy, gs, hx, hy, ha, hb', q⟩
  subst hx hy
  cases rx
  cases ry
  obtain ⟨ox, od, J, _⟩ := inst_at I ha
  obtain ⟨oy, oe, J', _⟩ := inst_at I hb'
  obtain ⟨m, hF⟩ := I.fr
  exact PySem.W.cmp_K (op := op) (tb := .ref C) hr.units0 hF I.ok.mod.kin J J'.type (by simp [PySem.W.notFirst]) hs hf (back_of (run_fnSD (us := [.ref a, .ref b]) (vs := [.ref a, .ref b]) (dvs := []) (E := noE) F hr hb hd noE_pass I (.cons rfl (.cons rfl .nil)) q))
/-- a op b, by trees -/
def dOwn2 (C : Addr) (sp : SpD) (ta tb : TOD) : TXD := fun ρ Q X => ta ρ (fun oa ρ1 => tb ρ1 (fun ob ρ2 => see1 ρ2 oa (isInsC C) ∧ see1 ρ2 ob (isInsC C) ∧ callD ρ2 [oa, ob] sp Q noX) X) X
theorem lx_own2 {W : WX} {σ : L2.St} {H : Hp} {Q : VK} (h : LX X.K W (dOwn2 C sp ta tb) σ H Q) : tOp (rOwn2 X.K C (liftSp X.K sp)) (LO X.K W ta) (LO X.K W tb) σ H Q := by
  obtain ⟨G, F, R, ρ, Qd, Xd, r, q, n, xx⟩ := h
  refine ⟨G, F, R, ρ, _, Xd, r, q, fun oa ρ1 v F1 H1 R1 r1 l1 o1 q1 => ⟨G, F1, R1, ρ1, _, Xd, r1, q1, fun ob ρ2 w F2 H2 R2 r2 l2 o2 ⟨i1, i2, q2⟩ => ?_, xx.le l1⟩, xx⟩
  obtain ⟨d1, e1, i1⟩ := see1_of i1
  obtain ⟨d2, e2, i2⟩ := see1_of i2
  have o1' := OpAt.le l2 o1
  obtain ⟨a, dx, vs, fs, _, ea, ha, _⟩ := isInsC_of r2.fit (r2.look o1' e1) i1
  obtain ⟨b, dy, us, gs, _, eb, hb, _⟩ := isInsC_of r2.fit (r2.look o2 e2) i2
  refine ⟨a, dx, vs, b, dy, us, ea, eb, ha, hb, ?_⟩
  exact call_lift r2 (.cons o1' (.cons o2 .nil)) q2 (fun x ρ' v F' H' R' T r' l => n x ρ' v F' H' R' T r' ((l1.trans l2).trans l)) (fun _ _ _ _ _ _ _ _ _ _ _ q => q.elim)
theorem dx_own {op : Operator} (F : FnD X.prog X.w X.K X.mg X.base k f [] sp) (hr : Room k X.A) (hc : PySem.W.selfFirst X.K C = true) (hs : PySem.W.findIn X.K (.ref C) (PySem.dunder op.info.2) = some (some (.ref f))) (hf : PySem.W.isFn X.K (.ref f) = true)
    (ha : DO X a ta) (hb : DO X b tb) : DX X (.BinOp a op b pos) (dOwn2 C sp ta tb) := fun W tk => pe_imp (pe_op (op_own F hr hc hs hf) (ha W tk) (hb W tk)) fun _ _ _ h => lx_own2 h
theorem cmpop_own {op : CmpOp} (F : FnD X.prog X.w X.K X.mg X.base k f [] sp) (hr : Room k X.A) (hs : PySem.W.findIn X.K (.ref C) (cmpInfo op).2.1 = some (some (.ref f))) (hf : PySem.W.isFn X.K (.ref f) = true)
    (hop : op = .Eq ∨ op = .LtE) : OpR X (compareOp op) (rOwn2 X.K C (liftSp X.K sp)) := by
  rcases hop with rfl | rfl
  · exact cmp_own F hr hs hf
  · exact cmp_own F hr hs hf
theorem dx_owncmp {op : CmpOp} (F : FnD X.prog X.w X.K X.mg X.base k f [] sp) (hr : Room k X.A) (hs : PySem.W.findIn X.K (.ref C) (cmpInfo op).2.1 = some (some (.ref f))) (hf : PySem.W.isFn X.K (.ref f) = true)
    (hop : op = .Eq ∨ op = .LtE) (ha : DO X a ta) (hb : DO X b tb) (hm : behindInMarks op b = false) : DX X (.Compare a [op] [b] pos) (dOwn2 C sp ta tb) := fun W tk => pe_imp (pe_cmpR (cmpop_own F hr hs hf hop) (ha W tk) (hb W tk) hm) fun _ _ _ h => lx_own2 h
/-- -a, ~a -/
def rOwn1 (K : PySem.W.Frag) (C : Addr) (sp : Sp) : V → Hp → VK → Prop := fun x H Q => ∃ a dx fs, x = .ref a ∧ H a = some (.ins C dx fs) ∧ sp [x] H Q (fun _ _ _ => False)
def dOwn1 (C : Addr) (sp : SpD) (ta : TOD) : TXD := fun ρ Q X => ta ρ (fun oa ρ1 => see1 ρ1 oa (isInsC C) ∧ callD ρ1 [oa] sp Q noX) X
theorem lx_own1 {W : WX} {σ : L2.St} {H : Hp} {Q : VK} (h : LX X.K W (dOwn1 C sp ta) σ H Q) : tUn (rOwn1 X.K C (liftSp X.K sp)) (LO X.K W ta) σ H Q := by
  obtain ⟨G, F, R, ρ, Qd, Xd, r, q, n, xx⟩ := h
  refine ⟨G, F, R, ρ, _, Xd, r, q, fun oa ρ1 v F1 H1 R1 r1 l1 o1 ⟨i1, q2⟩ => ?_, xx⟩
  obtain ⟨d1, e1, i1⟩ := see1_of i1
  obtain ⟨a, dx, vs, fs, _, ea, ha, _⟩ := isInsC_of r1.fit (r1.look o1 e1) i1
  refine ⟨a, dx, vs, ea, ha, ?_⟩
  exact call_lift r1 (.cons o1 .nil) q2 (fun x ρ' v F' H' R' T r' l => n x ρ' v F' H' R' T r' (l1.trans l)) (fun _ _ _ _ _ _ _ _ _ _ _ q => q.elim)
theorem un_neg1 (F : FnD X.prog X.w X.K X.mg X.base k f [] sp) (hr : Room k X.A) (hs : PySem.W.findIn X.K (.ref C) "__neg__" = some (some (.ref f))) (hf : PySem.W.isFn X.K (.ref f) = true) : UnR X (unaryOp .USub) (rOwn1 X.K C (liftSp X.K sp)) := by
  obtain ⟨fd, ps, ds, F, hb, hd⟩ := F.ex
  intro pins s σ H x v Q I rx ⟨a, dx, fs, hx, ha, q⟩
  subst hx
  cases rx
  obtain ⟨ox, od, J, _⟩ := inst_at I ha
  obtain ⟨m, hF⟩ := I.fr
  exact PySem.W.ksp_neg hF I.ok.mod.kin J hs hf (run_fnSD (us := [.ref a]) (vs := [.ref a]) (dvs := []) (E := noE) F hr hb hd noE_pass I (.cons rfl .nil) q)
theorem un_inv1 (F : FnD X.prog X.w X.K X.mg X.base k f [] sp) (hr : Room k X.A) (hs : PySem.W.findIn X.K (.ref C) "__invert__" = some (some (.ref f))) (hf : PySem.W.isFn X.K (.ref f) = true) : UnR X (unaryOp .Invert) (rOwn1 X.K C (liftSp X.K sp)) := by
  obtain ⟨fd, ps, ds, F, hb, hd⟩ := F.ex
  intro pins s σ H x v Q I rx ⟨a, dx, fs, hx, ha, q⟩
  subst hx
  cases rx
  obtain ⟨ox, od, J, _⟩ := inst_at I ha
  obtain ⟨m, hF⟩ := I.fr
  exact PySem.W.ksp_inv hF I.ok.mod.kin J hs hf (run_fnSD (us := [.ref a]) (vs := [.ref a]) (dvs := []) (E := noE) F hr hb hd noE_pass I (.cons rfl .nil) q)
theorem dx_neg1 (F : FnD X.prog X.w X.K X.mg X.base k f [] sp) (hr : Room k X.A) (hs : PySem.W.findIn X.K (.ref C) "__neg__" = some (some (.ref f))) (hf : PySem.W.isFn X.K (.ref f) = true) (ha : DO X a ta) :
    DX X (.UnaryOp .USub a pos) (dOwn1 C sp ta) := fun W tk => pe_imp (pe_un (un_neg1 F hr hs hf) (ha W tk)) fun _ _ _ h => lx_own1 h
theorem dx_inv1 (F : FnD X.prog X.w X.K X.mg X.base k f [] sp) (hr : Room k X.A) (hs : PySem.W.findIn X.K (.ref C) "__invert__" = some (some (.ref f))) (hf : PySem.W.isFn X.K (.ref f) = true) (ha : DO X a ta) :
    DX X (.UnaryOp .Invert a pos) (dOwn1 C sp ta) := fun W tk => pe_imp (pe_un (un_inv1 F hr hs hf) (ha W tk)) fun _ _ _ h => lx_own1 h
/-! x in o -/
def rIn2 (K : PySem.W.Frag) (C : Addr) (sp : Sp) (neg : Bool) : R2 := fun x y H Q => ∃ a dx fs, y = .ref a ∧ H a = some (.ins C dx fs) ∧ sp [y, x] H (fun v H' => ∃ c, v = .bl c ∧ Q (.bl (c ^^ neg)) H') (fun _ _ _ => False)
theorem contains_own {A : Around} {E : Value → Shared → Prop} {s : Shared} {pins : List (Addr × Obj)} {σ : L2.St} {H : Hp} {a dx : Addr} {fs : List (Str × V)} {u : Value} {Q : Bool → Shared → Prop} (I : Inv X pins σ H s) (ha : H a = some (.ins C dx fs)) (hs : PySem.W.findIn X.K (.ref C) "__contains__" = some (some (.ref f))) (hf : PySem.W.isFn X.K (.ref f) = true)
    (h : wpAny (model X.prog X.w) A (call (.ref f) [.ref a, u]) (fun v s' => ∃ c, v = .bool c ∧ Q c s') E s) : wpAny (model X.prog X.w) A (contains (.ref a) u) Q E s := by
  obtain ⟨ox, od, J, _⟩ := inst_at I ha
  have KI := I.kIn
  have special : wpAny (model X.prog X.w) A (call (.ref f) [.ref a, u]) (fun v s' => ∃ c, v = .bool c ∧ Q c s') E s := h
  unfold contains
  refine wpAny_holding ?_
  show wpAny _ A (specialOf (.ref a) "__contains__" >>= _) Q E s
  unfold specialOf
  refine wpAny_bind (wpAny_bind (J.type.here ((PySem.W.looks_findIn KI hs).here ?_)))
  rw [if_neg (show ¬ ((some (Value.ref f) == some Value.none) = true) from Bool.false_ne_true)]
  unfold callSpecialUnlessNone? specialOf
  refine wpAny_bind (wpAny_bind (wpAny_bind (J.type.here ((PySem.W.looks_findIn KI hs).here ?_))))
  refine wpAny_holding (wpAny_bind ((PySem.W.bind_fn KI (.ref a) (beq_iff_eq.mp hf)).here ?_))
  dsimp only
  rw [if_neg (show ¬ ((Value.ref f == Value.none) = true) from Bool.false_ne_true)]
  refine wpAny_bind (wpAny_mono special (fun v s' ⟨c, hv, q⟩ => ?_) fun _ _ z => z)
  subst hv
  refine wpAny_pure ?_
  exact wpAny_pure q
theorem op_in2 (F : FnD X.prog X.w X.K X.mg X.base k f [] sp) (hr : Room k X.A) (hs : PySem.W.findIn X.K (.ref C) "__contains__" = some (some (.ref f))) (hf : PySem.W.isFn X.K (.ref f) = true) : OpR X (compareOp .In) (rIn2 X.K C (liftSp X.K sp) false) := by
  obtain ⟨fd, ps, ds, F, hb, hd⟩ := F.ex
  intro pins s σ H x y v u Q I rx ry ⟨a, dx, fs, hy, ha, q⟩
  subst hy
  cases ry
  show wpAny _ X.A (contains (.ref a) v >>= fun b => pure (Value.bool b)) _ _ s
  refine wpAny_bind (contains_own I ha hs hf (wpAny_mono (run_fnSD (us := [.ref a, v]) (vs := [.ref a, x]) (dvs := []) (E := noE) F hr hb hd noE_pass I (.cons rfl (.cons rx .nil)) q) (fun w s' ⟨z, H', I', rz, c, ez, qz⟩ => ?_) fun _ _ z => z))
  subst ez
  cases rz
  refine ⟨c, rfl, wpAny_pure ⟨_, H', I', ?_, qz⟩⟩
  show Value.bool c = Value.bool (c ^^ false)
  rw [Bool.xor_false]
def dIn2 (C : Addr) (sp : SpD) (ta tb : TOD) : TED := fun ρ Q X => ta ρ (fun oa ρ1 => tb ρ1 (fun ob ρ2 => see1 ρ2 ob (isInsC C) ∧ callD ρ2 [ob, oa] sp (fun x ρ3 => match x with
  | .v (.bl c) => Q (.bl c) ρ3
  | _ => False) noX) X) X
theorem le_in2 {W : WX} {σ : L2.St} {H : Hp} {Q : VK} (h : LE X.K W (dIn2 C sp ta tb) σ H Q) : tOp (rIn2 X.K C (liftSp X.K sp) false) (LO X.K W ta) (LO X.K W tb) σ H Q := by
  obtain ⟨G, Fz, R, ρ, Qd, Xd, r, q, n, xx⟩ := h
  exact (
  ⟨G, Fz, R, ρ, _, Xd, r, q, fun oa ρ1 v F1 H1 R1 r1 l1 o1 q1 => ⟨G, F1, R1, ρ1, _, Xd, r1, q1, fun ob ρ2 w F2 H2 R2 r2 l2 o2 ⟨i2, q2⟩ => by
    obtain ⟨d2, e2, i2⟩ := see1_of i2
    obtain ⟨b, dy, us, gs, _, eb, hb, _⟩ := isInsC_of r2.fit (r2.look o2 e2) i2
    refine ⟨b, dy, us, eb, hb, ?_⟩
    refine call_lift r2 (.cons o2 (.cons (OpAt.le l2 o1) .nil)) q2 (fun x ρ' v F' H' R' T r' l t av nl q3 => ?_) (fun _ _ _ _ _ _ _ _ _ _ _ q => q.elim)
    cases x with
    | v d => cases d with
      | bl c =>
        cases av
        refine ⟨c, rfl, ?_⟩
        rw [Bool.xor_false]
        exact n _ ρ' _ F' H' R' r' ((l1.trans l2).trans l) (.bl c) q3
      | _ => exact q3.elim
    | o _ => exact q3.elim
    | l _ => exact q3.elim, xx.le l1⟩, xx⟩)
theorem de_in2 (F : FnD X.prog X.w X.K X.mg X.base k f [] sp) (hr : Room k X.A) (hs : PySem.W.findIn X.K (.ref C) "__contains__" = some (some (.ref f))) (hf : PySem.W.isFn X.K (.ref f) = true) (ha : DO X a ta) (hb : DO X b tb) (hm : behindInMarks .In b = false) :
    DE X (.Compare a [.In] [b] pos) (dIn2 C sp ta tb) := fun W tk => pe_imp (pe_cmpR (op_in2 F hr hs hf) (ha W tk) (hb W tk) hm) fun _ _ _ h => le_in2 h
theorem dt_in2 (F : FnD X.prog X.w X.K X.mg X.base k f [] sp) (hr : Room k X.A) (hs : PySem.W.findIn X.K (.ref C) "__contains__" = some (some (.ref f))) (hf : PySem.W.isFn X.K (.ref f) = true) (ha : DO X a ta) (hb : DO X b tb) (hm : behindInMarks .In b = false) :
    DT X (.Compare a [.In] [b] pos) (dTest (dIn2 C sp ta tb)) := fun W tk => pt_imp (pt_cmpR (op_in2 F hr hs hf) (ha W tk) (hb W tk) hm) fun _ _ _ h => le_in2 (lt_test h)
/-! ### an instance that is called -/
theorem callWith_instG {a : Addr} {M : Model} {A : Around} {E : Value → Shared → Prop} {s : Shared} {first : List Value} {Q : Value → Shared → Prop} {pos : Pos} {args : List (Bool × Sem Value)} {keywords : List (Option Str × Sem Value)} (hplain : (args.any (·.1) || keywords.any (·.1.isNone)) = false)
    (h : wpAny M A (evalArgs (.ref a) true args keywords) (fun ag s₁ => (∃ ox : Obj, s₁.heap.get? a = some ox ∧ ox.data = .plain) ∧ wpAny M A (call (.ref a) (first ++ ag.pos) ag.kw) Q E s₁) E s) : wpAny M A (callWith pos (.ref a) first args keywords) Q E s := by
  unfold callWith
  refine wpAny_bind (wpAny_holding (wpAny_mono h (fun ag s₁ h₁ => wpAny_bind (wpAny_standAt ?_)) fun _ _ y => y))
  obtain ⟨⟨ox, h1, hd⟩, h2⟩ := h₁
  have L : PySem.W.Looks M s₁.heap (keeperOf (.ref a)) .caller := by
    refine (PySem.W.Looks.ld (part := none) h1).andThen ?_
    simp only [hd]
    exact .now
  simp only [hplain]
  refine wpAny_bind (L.here ?_)
  have tail : ∀ {t : Sem Value}, wpAny M A t Q E s₁ → wpAny M A (t >>= fun r => holding [r] point >>= fun _ => pure r) Q E s₁ :=
    fun ht => wpAny_bind (wpAny_mono ht (fun r s₂ hr => wpAny_bind (wpAny_holding (wpAny_point (wpAny_pure hr)))) fun _ _ y => y)
  exact tail (wpAny_operateT h2)
theorem callWith_inst {a : Addr} {s : Shared} {M : Model} {A : Around} {E : Value → Shared → Prop} {first : List Value} {Q : Value → Shared → Prop} {env : Env} {pos : Pos} {e : Expr} {rest : List Expr}
    (h : wpAny M A (spliced (backTo pos (starEach (e :: rest) env))) (fun vs s₁ => (∃ ox : Obj, s₁.heap.get? a = some ox ∧ ox.data = .plain) ∧ wpAny M A (call (.ref a) (first ++ vs)) Q E s₁) E s)
    (he : starEach (e :: rest) env = (false, eval e env) :: starEach rest env := by rfl) (hplain : (backTo pos (starEach rest env)).any (·.1) = false := by rfl) :
    wpAny M A (callWith pos (.ref a) first (backTo pos (starEach (e :: rest) env)) []) Q E s := by
  rw [he] at h ⊢
  exact callWith_instG (by show ((false || (backTo pos (starEach rest env)).any (·.1)) || false) = false; rw [hplain]; rfl) (Calls.evalArgs_plain h)
/-- what of the class is asked -/
structure CallC (K : PySem.W.Frag) (C f : Addr) : Prop where
  at_ : PySem.W.findIn K (.ref C) "__call__" = some (some (.ref f))
  fn : PySem.W.isFn K (.ref f) = true
  is : PySem.W.fnIn K f = true
theorem run_inst {sp' : Sp} {fd : FuncData} {ps : List Str} {ds : List Value} {dvs : List V} {E : L2.St → XK} {pins : List (Addr × Obj)} {σ : L2.St} {H : Hp} {s : Shared} {a dx : Addr} {fs : List (Str × V)} {Q : VK} {us : List Value} {vs : List V} (T : CallC X.K C f)
    (F : FnOk X.prog X.w X.K X.mg X.base (L2.CX X.prog X.w) k f fd ps sp') (hr : Room k X.A) (hb : Binds X.K fd ps ds) (hd : Vals dvs ds) (hx : PassesAt (L2.CX X.prog X.w) X σ (E σ)) (I : Inv X pins σ H s) (ha : H a = some (.ins C dx fs)) (r : Vals vs us)
    (h : sp' (V.ref a :: (vs ++ dvs)) H Q (E σ)) : wpAny (model X.prog X.w) X.A (call (.ref a) us) (EP X pins σ Q) X.xe s := by
  obtain ⟨ox, od, J, hp⟩ := inst_at I ha
  have r2 : Vals (V.ref a :: (vs ++ dvs)) (Value.ref a :: (us ++ ds)) := .cons rfl (r.append hd)
  have hl : (Value.ref a :: (us ++ ds)).length = ps.length := by rw [← r2.length]; exact F.len _ _ _ _ h
  refine wpAny_call (PySem.W.kco_code I.kIn J hp T.at_ T.fn T.is (codeAny_mono (F.run X.A X.stack s H ⟨.ref a :: us, []⟩ (Value.ref a :: (us ++ ds)) _ Q (E σ) hr I.env0 (hb s (Value.ref a :: us) I.kIn hl) r2 h) fun r s' hq => ?_))
  cases r with
  | error e => exact hx pins H s e s' I hq
  | ok fl =>
    cases fl with
    | ret u => exact I.after hq
    | next => exact False.elim hq
    | brk => exact False.elim hq
    | cont => exact False.elim hq
/-- x(e, ..), x a local that holds an instance -/
def tCallI (i : Nat) (C : Addr) (sp : Sp) (dvs : List V) (E : L2.St → XK) (t : TA) : TE := fun σ H Q => ∃ a : Addr, σ[i]? = some (some (V.ref a)) ∧ t σ H fun vs H1 => (∃ dx fs, H1 a = some (.ins C dx fs)) ∧ sp (.ref a :: (vs ++ dvs)) H1 Q (E σ)
theorem pe_callI {i : Nat} {x : Str} {sp' : Sp} {fd : FuncData} {ps : List Str} {ds : List Value} {dvs : List V} {E : L2.St → XK} {e : Expr} {es : List Expr} {t : TA} {p : Pos} (T : CallC X.K C f) (F : FnOk X.prog X.w X.K X.mg X.base (L2.CX X.prog X.w) k f fd ps sp') (hr : Room k X.A)
    (hN : X.N[i]? = some x) (hv : Vis X.env.scope x) (hb : Binds X.K fd ps ds) (hd : Vals dvs ds) (hx : ∀ σ, PassesAt (L2.CX X.prog X.w) X σ (E σ)) (ha : PA X (e :: es) t)
    (hdb : (x == ("__debug__" : Str)) = false := by decide) (hcd : (x == ("__classdict__" : Str)) = false := by decide)
    (he : starEach (e :: es) X.env = (false, eval e X.env) :: starEach es X.env := by rfl) (hpl : (backTo pos (starEach es X.env)).any (·.1) = false := by rfl) : PE X (.Call (.Name x p) (e :: es) [] pos) (tCallI i C sp' dvs E t) := by
  refine ⟨fun pins s σ H Q I h => ?_⟩
  obtain ⟨a, hs, ht⟩ := h
  refine wpAny_Call_Name_kw (thn ((pe_var (pos := p) hN hv hdb hcd).run pins s σ H (fun v H1 => v = .ref a ∧ H1 = H) I ⟨.ref a, hs, rfl, rfl⟩) fun u s1 ⟨v, H1, I1, r1, q1⟩ => ?_)
  obtain ⟨rfl, rfl⟩ := q1
  cases r1
  refine callWith_inst (first := []) (thn (ha.run pos pins s1 σ _ _ I1 ht) fun us s2 ⟨vs, H2, I2, r, ⟨dx, fs, e2⟩, q⟩ => ⟨?_, ?_⟩) he hpl
  · obtain ⟨ox, od, J, hp⟩ := inst_at I2 e2
    exact ⟨ox, J.at_, hp⟩
  · exact run_inst T F hr hb hd (hx σ) I2 e2 r q
def dCallI (i : Nat) (C : Addr) (sp : SpD) (dds : List D) (t : TVD) : TXD := fun ρ Q X => see1 ρ (.s i) (isInsC C) ∧ t ρ (fun ods ρ1 => see1 ρ1 (.s i) (isInsC C) ∧ callD ρ1 (.s i :: (ods ++ dds.map Opd.d)) sp Q X) X
theorem dx_callI {i : Nat} {x : Str} {dvs : List V} {dds : List D} {e : Expr} {es : List Expr} {t : TVD} {p : Pos} (T : CallC X.K C f) (F : FnD X.prog X.w X.K X.mg X.base k f dvs sp) (hD : ∀ F, DenL X.K F dvs dds) (hr : Room k X.A)
    (hN : X.N[i]? = some x) (hv : Vis X.env.scope x) (ha : DVs X (e :: es) t) (hdb : (x == ("__debug__" : Str)) = false := by decide) (hcd : (x == ("__classdict__" : Str)) = false := by decide)
    (he : starEach (e :: es) X.env = (false, eval e X.env) :: starEach es X.env := by rfl) (hpl : (backTo pos (starEach es X.env)).any (·.1) = false := by rfl) : DX X (.Call (.Name x p) (e :: es) [] pos) (dCallI i C sp dds t) := fun W tk => by
  obtain ⟨fd, ps, ds, F, hb, hd⟩ := F.ex
  refine pe_imp (pe_callI (E := WE W) T F hr hN hv hb hd (fun σ => passAt tk σ) (ha W tk) hdb hcd he hpl) fun σ H Q ⟨G, Fz, R, ρ, Qd, Xd, r, ⟨i0, q⟩, n, xx⟩ => ?_
  obtain ⟨d0, e0, i0⟩ := see1_of i0
  have o0 : ∃ v, σ[i]? = some (some v) := by
    have e0' : (match ρ.getD i none with
      | some (.v d) => some d
      | some (.o b) => b.fz
      | some (.l b) => b.fz
      | none => none) = some d0 := e0
    cases z : ρ.getD i none with
    | none => rw [z] at e0'; cases e0'
    | some y =>
      obtain ⟨v, h1, _⟩ := r.at_ i y (getD_some z)
      exact ⟨v, h1⟩
  obtain ⟨v0, o0⟩ := o0
  obtain ⟨a, dx, vs, fs, _, ea, ha, _⟩ := isInsC_of r.fit (r.look (od := .s i) o0 e0) i0
  subst ea
  refine ⟨a, o0, G, Fz, R, ρ, _, Xd, r, q, fun ods ρ1 us F1 H1 R1 r1 l1 pv ⟨i1, q1⟩ => ⟨?_, ?_⟩, xx⟩
  · obtain ⟨d1, e1, i1⟩ := see1_of i1
    obtain ⟨a1, dx1, vs1, fs1, _, ea1, ha1, _⟩ := isInsC_of r1.fit (r1.look (od := .s i) o0 e1) i1
    cases ea1
    exact ⟨dx1, vs1, ha1⟩
  · exact call_lift (vs := V.ref a :: (us ++ dvs)) r1 (.cons (a := Opd.s i) o0 (paired_app pv (opds_of (hD F1)))) q1 (fun x ρ' v F' H' R' T r' l => n x ρ' v F' H' R' T r' (l1.trans l)) fun e ρ' dx F' H' R' T r' l => xx e ρ' dx F' H' R' T r' (l1.trans l)
/-- o.m(e, ..), the field m of o holds an instance -/
def tCallF (C : Addr) (m : Str) (Cf : Addr) (sp : Sp) (dvs : List V) (E : L2.St → XK) (ta : TE) (t : TA) : TE := fun σ H Q => ta σ H fun x H1 => ∃ a dx fs b, x = .ref a ∧ H1 a = some (.ins C dx fs) ∧ fs.lookup m = some (.ref b) ∧
  t σ H1 fun vs H2 => (∃ dx fs, H2 b = some (.ins Cf dx fs)) ∧ sp (.ref b :: (vs ++ dvs)) H2 Q (E σ)
theorem pe_callF {Co : Addr} {m : Str} {sp' : Sp} {fd : FuncData} {ps : List Str} {ds : List Value} {dvs : List V} {E : L2.St → XK} {o e : Expr} {es : List Expr} {ta : TE} {t : TA} {apos : Pos} {pl : Sem Bool} (T : CallC X.K C f) (F : FnOk X.prog X.w X.K X.mg X.base (L2.CX X.prog X.w) k f fd ps sp') (hr : Room k X.A)
    (he : PE X o ta) (c : Cls X.K Co) (hm : NoAttr X.K Co m) (hb : Binds X.K fd ps ds) (hd : Vals dvs ds) (hx : ∀ σ, PassesAt (L2.CX X.prog X.w) X σ (E σ)) (ha : PA X (e :: es) t)
    (hst : starEach (e :: es) X.env = (false, eval e X.env) :: starEach es X.env := by rfl) (hpl : (backTo pos (starEach es X.env)).any (·.1) = false := by rfl)
    (ht : eval (.Call (.Attribute o m apos) (e :: es) [] pos) X.env = (do
      let ov ← eval o X.env
      standAt apos.atName
      let (f, first) ← holding [ov] (getMethod ov m pl)
      callWith pos f first (backTo pos (starEach (e :: es) X.env)) (backToKw pos (keywordEach [] X.env))) := by rfl) :
    PE X (.Call (.Attribute o m apos) (e :: es) [] pos) (tCallF Co m C sp' dvs E ta t) := by
  refine ⟨fun pins s σ H Q I h => ?_⟩
  refine PySem.W.methodCall_KW (pl := pl) (thn (he.run pins s σ H _ I h) fun u s1 ⟨x, H1, I1, rx, a, dx, fs, b, ex, ea, l, q⟩ => ?_) ht
  subst ex
  obtain rfl : u = Value.ref a := rx
  obtain ⟨ox, od, J, _⟩ := inst_at I1 ea
  have pg := PySem.W.plainGet_of (c.get m)
  refine PySem.W.method_usual I1.kIn J pg.1 pg.2 hm rfl ?_
  refine getattr_ok I1 ea c hm l fun u' s2 I2 ru => ?_
  cases ru
  refine callWith_inst (thn (ha.run pos pins s2 σ _ _ I2 q) fun us s3 ⟨vs, H3, I3, r, ⟨dx3, fs3, e3⟩, q3⟩ => ⟨?_, ?_⟩) hst hpl
  · obtain ⟨ox, od, J, hp⟩ := inst_at I3 e3
    exact ⟨ox, J.at_, hp⟩
  · exact run_inst T F hr hb hd (hx σ) I3 e3 r q3
def dCallF (Co : Addr) (m : Str) (C : Addr) (sp : SpD) (dds : List D) (to : TOD) (t : TVD) : TXD := fun ρ Q X => to ρ (fun oa ρ1 => see1 ρ1 oa fun x => fFld Co m x fun d => isInsC C d ∧ t ρ1 (fun ods ρ2 => callD ρ2 (.d d :: (ods ++ dds.map Opd.d)) sp Q X) X) X
theorem dx_callF {Co : Addr} {m : Str} {dvs : List V} {dds : List D} {o e : Expr} {es : List Expr} {to : TOD} {t : TVD} {apos : Pos} {pl : Sem Bool} (T : CallC X.K C f) (F : FnD X.prog X.w X.K X.mg X.base k f dvs sp) (hD : ∀ F, DenL X.K F dvs dds) (hr : Room k X.A)
    (ho : DO X o to) (c : Cls X.K Co) (hm : NoAttr X.K Co m) (ha : DVs X (e :: es) t)
    (hst : starEach (e :: es) X.env = (false, eval e X.env) :: starEach es X.env := by rfl) (hpl : (backTo pos (starEach es X.env)).any (·.1) = false := by rfl)
    (ht : eval (.Call (.Attribute o m apos) (e :: es) [] pos) X.env = (do
      let ov ← eval o X.env
      standAt apos.atName
      let (f, first) ← holding [ov] (getMethod ov m pl)
      callWith pos f first (backTo pos (starEach (e :: es) X.env)) (backToKw pos (keywordEach [] X.env))) := by rfl) :
    DX X (.Call (.Attribute o m apos) (e :: es) [] pos) (dCallF Co m C sp dds to t) := fun W tk => by
  obtain ⟨fd, ps, ds, F, hb, hd⟩ := F.ex
  refine pe_imp (pe_callF (E := WE W) T F hr (ho W tk) c hm hb hd (fun σ => passAt tk σ) (ha W tk) hst hpl ht) fun σ H Q ⟨G, Fz, R, ρ, Qd, Xd, r, q, n, xx⟩ => ?_
  refine ⟨G, Fz, R, ρ, _, Xd, r, q, fun oa ρ1 v F1 H1 R1 r1 l1 o1 q1 => ?_, xx⟩
  obtain ⟨x, ex, q3⟩ := see1_of q1
  clear q1
  have s1 := r1.look o1 ex
  cases x with
  | ins C' fs =>
    obtain ⟨rfl, q4⟩ := q3
    obtain ⟨a, dx, vs, rfl, ha, df⟩ := s1.ins r1.fit
    cases el : fs.lookup m with
    | none => rw [el] at q4; exact q4.elim
    | some d =>
      rw [el] at q4
      obtain ⟨i1, q5⟩ := q4
      obtain ⟨w, ew, dw⟩ := df.lookup el
      obtain ⟨b, dxb, vsb, fsb, _, eb, hb2, _⟩ := isInsC_of r1.fit (.inl dw) i1
      subst eb
      refine ⟨a, dx, vs, b, rfl, ha, ew, G, F1, R1, ρ1, _, Xd, r1, q5, fun ods ρ2 us F2 H2 R2 r2 l2 pv q2 => ⟨?_, ?_⟩, xx.le l1⟩
      · obtain ⟨b2, dx2, vs2, fs2, _, eb2, hb3, _⟩ := isInsC_of r2.fit (.inl (dw.le l2)) i1
        cases eb2
        exact ⟨dx2, vs2, hb3⟩
      · exact call_lift (vs := V.ref b :: (us ++ dvs)) r2 (.cons (a := Opd.d d) (show OpAt X.K F2 σ (Opd.d d) (V.ref b) from dw.le l2) (paired_app pv (opds_of (hD F2)))) q2 (fun x ρ' v F' H' R' T r' l => n x ρ' v F' H' R' T r' ((l1.trans l2).trans l)) fun e ρ' dx F' H' R' T r' l => xx e ρ' dx F' H' R' T r' ((l1.trans l2).trans l)
  | _ => exact q3.elim
end
end PD
set_option maxHeartbeats 1000000
namespace PD
open PySem L2 PySem.Spec PyProof.Rows ItX
/-! ### for x in o, o's class has an __iter__ that gives a list's iterator -/
/-- a promise that knows how large the heap is at the call -/
structure FnS (P : Program) (w : World) (K : PySem.W.Frag) (mg : Str → Option Value) (base : Heap) (CX : CXT) (k : Nat) (f : Addr) (fd : FuncData) (ps : List Str) (sp : Nat → Sp) : Prop where
  len : ∀ n vs H Q E, sp n vs H Q E → vs.length = ps.length
  run : ∀ (A : Around) (outer : List Env) (s : Shared) (H : Hp) (args : Args) (us : List Value) (vs : List V) (Q : VK) (E : XK), Room k A → Env0 P w K mg base A outer s H → BindsTo s fd args (ps.zip us) → Vals vs us → sp s.heap.objs.size vs H Q E →
    codeAny (model P w) A (.call (.ref f) args) (CR CX outer P w H s Q E) s
theorem fns_of {CX : CXT} {P : Program} {w : World} {K : PySem.W.Frag} {mg : Str → Option Value} {base : Heap} {k : Nat} {f : Addr} {x qual : Str} {params : Arguments} {body : List Stmt} {scope : Scope} {dvs : List V} {kws : List (Str × V)} {fd : FuncData} {N ps : List Str} {sp : Nat → Sp}
    (F : FunD K x qual params body scope dvs kws f fd) (S : FnScope N ps scope) (len : ∀ n vs H Q E, sp n vs H Q E → vs.length = ps.length)
    (hbody : ∀ (cdv : Value) (A : Around) (outer : List Env) (s : Shared) (H : Hp) (vs : List V) (Q : VK) (E : XK), Room k (A.deeper (envOfC qual scope s.heap.objs.size f cdv)) → sp s.heap.objs.size vs H Q E →
      ∃ t, PSs (cxOf CX P w K mg base N qual scope f cdv A outer s H E) body t ∧ t { nx := fun _ H' => Q .non H', rt := Q } (start N vs) H) : FnS P w K mg base CX (k + 1) f fd ps sp := by
  obtain ⟨oc, od, dV, kV, doc, pm, an, cdv, ct, osl, rfl, lk, hcd, _, _⟩ := F.ex
  refine ⟨len, fun A outer s H args us vs Q E hr e0 hb r hsp => ?_⟩
  have hl := len _ _ _ _ _ hsp
  have KX : K.In s.heap := e0.mod.kin.keeps fun b o e => (e0.bs b o e).1
  have lim : s.heap.NoLimit := e0.mod.nolimit.keeps fun b o e => (e0.bs b o e).1
  have hkind : ∀ y ∈ ps.zip us, scope.names.lookup y.1 = some .local ∨ (scope.names.lookup y.1 = some .cell ∧ ((cellsFrom (s.heap.objs.size + 1) scope.names []).lookup y.1).isSome = true) := fun y hy => by
    rcases S.par y.1 (List.of_mem_zip (show (y.1, y.2) ∈ ps.zip us from hy)).1 with q | q
    · exact .inl q
    · exact .inr ⟨q, PySem.W.cellsFrom_some _ _ _ (.inl q)⟩
  refine codeAny_call_function hr.depth (KX _ _ lk) rfl S.co S.gen rfl (PySem.W.codeRec_of KX hcd) (hb _ _ _ _ ?_)
  refine wpAny_newFunctionEnv_cells S.kind hkind fun env he s1 x => ?_
  subst he
  refine ⟨lim.keeps x.toInCall.keep, codeAny_func ?_⟩
  obtain ⟨t, ht, hq⟩ := hbody cdv A outer s H vs Q E (hr.deeper _) hsp
  have I : Inv (cxOf CX P w K mg base N qual scope f cdv A outer s H E) [] (start N vs) H s1 := inv_start S hr.hd e0 hl r x
  refine wpAny_mono (ht.run [] s1 (start N vs) H _ I hq) (fun fl s' hs => ?_) fun e s' hs => hs
  have fin : ∀ {σ' : L2.St} {H' : Hp} {v : V} {u : Value}, Inv (cxOf CX P w K mg base N qual scope f cdv A outer s H E) [] σ' H' s' → RelV v u → Q v H' → CE outer P w H s Q u s' :=
    fun {σ' H' v u} J rv q => ⟨v, H', J.os, J.bare, J.base, J.hok, rv, q⟩
  cases fl with
  | ret u =>
    obtain ⟨v, σ', H', J, rv, q⟩ := hs
    exact fin J rv q
  | next =>
    obtain ⟨σ', H', J, q⟩ := hs
    exact fin (v := V.non) (u := Value.none) J rfl q
  | brk => exact hs.elim fun _ z => z.elim fun _ z => z.2.elim
  | cont => exact hs.elim fun _ z => z.elim fun _ z => z.2.elim
/-- __iter__'s promise: an iterator of the list in the field -/
def spIter (K : PySem.W.Frag) (C : Addr) (fld : Str) (n : Nat) : Sp := fun vs H Q _ => ∃ a dx fs l zs, vs = [.ref a] ∧ H a = some (.ins C dx fs) ∧ fs.lookup fld = some (.ref l) ∧ SqL K H l zs ∧ ∀ it, H it = none → n ≤ it → Q (.ref it) (upd H it (ItO l it 0))
/-- __iter__ as the text has it: return iter(self.fld) -/
structure IterF (P : Program) (w : World) (K : PySem.W.Frag) (mg : Str → Option Value) (base : Heap) (k : Nat) (C f : Addr) (fld : Str) : Prop where
  ex : ∃ fd ps, FnS P w K mg base (L2.CX P w) k f fd ps (spIter K C fld) ∧ Binds K fd ps []
  at_ : PySem.W.findIn K (.ref C) "__iter__" = some (some (.ref f))
  fn : PySem.W.isFn K (.ref f) = true
theorem fns_iter {P : Program} {w : World} {K : PySem.W.Frag} {mg : Str → Option Value} {base : Heap} {k : Nat} {f C : Addr} {x qual fld self : Str} {params : Arguments} {body : List Stmt} {scope : Scope} {fd : FuncData} {p1 p2 p3 p4 p5 : Pos}
    (F : FunD K x qual params body scope [] [] f fd) (S : FnScope [self] [self] scope) (eb : body = [.Return (some (.Call (.Name "iter" p1) [.Attribute (.Name self p2) fld p3] [] p4)) p5]) (c : Cls K C) (na : NoAttr K C fld) (hm : mg "iter" = none)
    (hg : scope.names.lookup ("iter" : Str) = some .globalImplicit) (hv : Vis scope self) (hd : (self == ("__debug__" : Str)) = false := by decide) (hcd : (self == ("__classdict__" : Str)) = false := by decide) : FnS P w K mg base (L2.CX P w) (k + 1) f fd [self] (spIter K C fld) := by
  subst eb
  refine fns_of F S (fun n vs H Q E h => ?_) fun cdv A outer s H vs Q E hr h => ⟨_, pss_one (ps_ret (pe_callB call_iterN ?_ hm rfl (pa_cons (pe_fld (pe_var (i := 0) rfl hv hd hcd) rfl) pa_nil))), ?_⟩
  · obtain ⟨a, dx, fs, l, zs, rfl, _⟩ := h
    rfl
  · exact hg
  · obtain ⟨a, dx, fs, l, zs, rfl, h1, h2, h3, h4⟩ := h
    exact ⟨.ref a, rfl, a, C, dx, fs, _, rfl, h1, c, na, h2, l, zs, rfl, h3, h4⟩
section
variable {X : Cx} {tg o : Expr} {C f : Addr} {fld : Str} {k : Nat}
def iOwn (K : PySem.W.Frag) (C : Addr) (fld : Str) (ta : TE) : TI := fun σ H R => ta σ H fun x H1 => ∃ a dx fs l zs, x = .ref a ∧ H1 a = some (.ins C dx fs) ∧ fs.lookup fld = some (.ref l) ∧ SqL K H1 l zs ∧ R (Itl K l) H1
theorem pi_own {ta : TE} (T : IterF X.prog X.w X.K X.mg X.base k C f fld) (hr : Room k X.A) (ho : PE X o ta) : PI X tg o (iOwn X.K C fld ta) := by
  obtain ⟨fd, ps, F, hb⟩ := T.ex
  refine ⟨fun pins s σ H R I h => ?_⟩
  refine thn (ho.run pins s σ H _ I h) fun v s1 ⟨x, H1, I1, r1, a, dx, fs, l, zs, e, ha, hl, hq, q⟩ => ?_
  subst e
  cases r1
  obtain ⟨ox, od, J, _⟩ := inst_at I1 ha
  obtain ⟨m, hF⟩ := I1.fr
  refine PySem.W.owit_iter hF I1.ok.mod.kin J T.at_ T.fn ?_
  have h1 : spIter X.K C fld s1.heap.objs.size [.ref a] H1 (fun v H' => ∃ it, v = .ref it ∧ H1 it = none ∧ s1.heap.objs.size ≤ it ∧ H' = upd H1 it (ItO l it 0)) (fun _ _ _ => False) := ⟨a, dx, fs, l, zs, rfl, ha, hl, hq, fun it h2 h3 => ⟨it, rfl, h2, h3, rfl⟩⟩
  have hlen := F.len _ _ _ _ _ h1
  refine wpAny_call (codeAny_mono (F.run X.A X.stack s1 H1 ⟨[.ref a], []⟩ [.ref a] [.ref a] _ _ hr I1.env0 (by
    have := hb s1 [.ref a] I1.kIn (by simpa using hlen)
    simpa using this) (.cons rfl .nil) h1) fun r s2 hq2 => ?_)
  cases r with
  | error e =>
    obtain ⟨_, _, _, _, _, _, _, _, _, _, _, _, z⟩ := hq2
    exact z.elim
  | ok fl =>
    cases fl with
    | next => exact False.elim hq2
    | brk => exact False.elim hq2
    | cont => exact False.elim hq2
    | ret u =>
      obtain ⟨v, H2, I2, rv, it, ev, hn, hs, eH⟩ := I1.after hq2
      subst ev eH
      cases rv
      have ei : (upd H1 it (ItO l it 0)) it = some (ItO l it 0) := upd_same
      have eo := itO_get I2 ei
      show PySem.W.OwitIt _ _ _ _ _ _
      unfold PySem.W.OwitIt
      have ty : s2.TypeIs (.ref it) "list_iterator" := ⟨_, eo, rfl⟩
      refine wpAny_specialOf ty slot_listiter_next.lookup ?_
      have I3 : Inv X pins σ H1 s2 := by
        have := inv_drop I2 (a := it) ei
        rwa [dropH_upd hn] at this
      refine ⟨it, [it], _, _, H1, rfl, I3, turn_list l it, ⟨_, eo, rfl, rfl⟩, fun b hb => ?_, q⟩
      have e : b = it := by simpa using hb
      subst e
      have := inv_fp I2 ei (Nat.le_trans I1.sz hs)
      rwa [dropH_upd hn] at this
end
end PD
set_option maxHeartbeats 1000000
namespace PD
open PySem L2 PySem.Spec PyProof.Rows
/-! ### what is never run -/
def dNever : TSD := fun _ _ => False
def eNever : TED := fun _ _ _ => False
def xNever : TXD := fun _ _ _ => False
theorem ds_never {X : Cx} {st : Stmt} : DS X st dNever := fun W tk po => ⟨fun pins s σ H D I ⟨_, _, _, _, _, _, q, _⟩ => q.elim⟩
theorem dss_never {X : Cx} {st : List Stmt} : DSs X st dNever := fun W tk po => ⟨fun pins s σ H D I ⟨_, _, _, _, _, _, q, _⟩ => q.elim⟩
theorem de_never {X : Cx} {e : Expr} : DE X e eNever := fun W tk => ⟨fun pins s σ H Q I ⟨_, _, _, _, _, _, _, q, _⟩ => q.elim⟩
theorem dx_never {X : Cx} {e : Expr} : DX X e xNever := fun W tk => ⟨fun pins s σ H Q I ⟨_, _, _, _, _, _, _, q, _⟩ => q.elim⟩
section
variable {X : Cx} {tg o e : Expr} {pos tpos p apos cpos pos' : Pos} {C f : Addr} {fld : Str} {k : Nat}
/-! ### enumerate of a slot's list -/
theorem lent_key {K : PySem.W.Frag} {G : Gd} {F : Fz} {H : Hp} {R : Nat → Addr → Prop} {σ : L2.St} {ρ : Rho} {i : Nat} {ds : List D} (r : Rp K G F H R σ ρ) (e : ρ.getD i none = some (.l (.lst ds))) :
    ∃ a vs, σ[i]? = some (some (.ref a)) ∧ H a = some (.lst vs) ∧ ∀ (G' : Gd) F1 H1 R1 σ1 ρ1, G'.L = G.L → Rp K G' F1 H1 R1 σ1 ρ1 → ρ1.getD i none = some (.l (.lst ds)) → ∃ us, H1 a = some (.lst us) ∧ DenL K F1 us ds := by
  obtain ⟨v, h1, h2⟩ := r.at_ i _ (getD_some e)
  have e1 := r.lnt i _ (getD_some e)
  rw [h1] at e1
  cases e1
  obtain ⟨a, vs, ev, rp, hp, dl⟩ := h2
  refine ⟨a, vs, by rw [h1, ev], hp, fun G' F1 H1 R1 σ1 ρ1 eL r1 e1 => ?_⟩
  obtain ⟨v1, g1, g2⟩ := r1.at_ i _ (getD_some e1)
  have e2 := r1.lnt i _ (getD_some e1)
  rw [g1] at e2
  have e3 : v1 = V.ref a := by rw [Option.some.inj (Option.some.inj e2), eL, ev]
  obtain ⟨p1, us, ev1, _, hp1, dl1⟩ := g2
  rw [e3] at ev1
  cases ev1
  exact ⟨us, hp1, dl1⟩
theorem goes_enumC {K : PySem.W.Frag} {G : Gd} {F0 : Fz} {a : Addr} {ds : List D} {chk : Rho → Prop} (h : ∀ F H R σ ρ, Rp K G F H R σ ρ → Fle F0 F → chk ρ → ∃ us, SqL K H a us ∧ DenL K F us ds) : Goes K G F0 (Ite K a) (enumD ds) chk :=
  ⟨fun i F H R σ ρ d r l ck e => by
    obtain ⟨vs, hl, dl⟩ := h F H R σ ρ r l ck
    unfold enumD at e
    rw [List.getElem?_map, List.getElem?_zipIdx] at e
    cases z : ds[i]? with
    | none => rw [z] at e; cases e
    | some y =>
      rw [z] at e
      cases e
      obtain ⟨v, e1, e2⟩ := dl.get z
      refine ⟨⟨vs, v, hl, e1⟩, fun x H' ⟨T, w, ex, hT, eh, ew⟩ => ?_⟩
      subst ex eh
      have := ew vs hl
      rw [e1] at this
      cases this
      obtain ⟨g, d⟩ := Den.newT (ds := [.int ((i : Nat) : Int), y]) r.fit hT (.cons (.int _) (.cons e2 .nil))
      refine ⟨_, g, ?_⟩
      have e0 : 0 + i = i := Nat.zero_add i
      rw [e0]
      exact d,
   fun F H R σ ρ r l ck => by
    obtain ⟨vs, hl, dl⟩ := h F H R σ ρ r l ck
    exact ⟨vs, hl, by unfold enumD; rw [List.length_map, List.length_zipIdx, dl.length]; exact Nat.le_refl _⟩⟩
def iEnumS (i : Nat) : TID := fun ρ Q _ => match ρ.getD i none with
  | some (.v (.lst ds)) => Q (enumD ds) noChk ρ
  | some (.o (.lst ds)) => Q (enumD ds) noChk (ρ.set i (some (.v (.lst ds))))
  | some (.l (.lst ds)) => Q (enumD ds) (fun ρ' => ρ'.getD i none = some (.l (.lst ds))) ρ
  | _ => False
theorem di_enumS {i : Nat} {elts : List Expr} {kk : Nat} (hg : Gl X "enumerate") (hm : X.mg "enumerate" = none) (he : PE X e (tVar i)) (hs : starEach [e] X.env = [(false, eval e X.env)] := by rfl) : DI X (.Tuple elts kk tpos) (.Call (.Name "enumerate" p) [e] [] pos) (iEnumS i) := fun W tk =>
  pi_imp (pi_enum hg hm (pa_cons he pa_nil hs) hs) fun σ H Rr ⟨G, F, R, ρ, Qd, Xd, r, q, n, x⟩ => by
    have q' : (match ρ.getD i none with
      | some (.v (.lst ds)) => Qd (enumD ds) noChk ρ
      | some (.o (.lst ds)) => Qd (enumD ds) noChk (ρ.set i (some (.v (.lst ds))))
      | some (.l (.lst ds)) => Qd (enumD ds) (fun ρ' => ρ'.getD i none = some (.l (.lst ds))) ρ
      | _ => False) := q
    cases ee : ρ.getD i none with
    | none => rw [ee] at q'; exact q'.elim
    | some y =>
      rw [ee] at q'
      cases y with
      | v d =>
        cases d with
        | lst ds =>
          obtain ⟨v, h1, h2⟩ := r.at_ i _ (getD_some ee)
          cases h2 with
          | lst hh dl => exact ⟨_, h1, _, _, rfl, SqL.of (r.fit.rd hh), n _ _ ρ _ F H R r (.refl F) (goes_enum hh dl) q'⟩
        | _ => exact q'.elim
      | o b =>
        cases b with
        | lst ds =>
          obtain ⟨F2, R2, v, h1, r2, l2, d2⟩ := r.give (getD_some ee) (d := .lst ds) rfl
          cases d2 with
          | lst hh dl => exact ⟨_, h1, _, _, rfl, SqL.of (r2.fit.rd hh), n _ _ _ _ F2 H R2 r2 l2 (goes_enum hh dl) q'⟩
        | _ => exact q'.elim
      | l b =>
        cases b with
        | lst ds =>
          obtain ⟨a, vs, h1, hp, key⟩ := lent_key r ee
          exact ⟨_, h1, a, vs, rfl, SqL.of hp, n _ _ ρ _ F H R r (.refl F) (fun G' eL => goes_enumC fun F1 H1 R1 σ1 ρ1 r1 _ ck => let ⟨us, z, dl⟩ := key G' F1 H1 R1 σ1 ρ1 eL r1 ck; ⟨us, SqL.of z, dl⟩) q'⟩
        | _ => exact q'.elim
/-! ### for x in o, o an own object -/
def iOwnD (C : Addr) (fld : Str) (to : TOD) : TID := fun ρ Q X => to ρ (fun oa ρ1 => see1 ρ1 oa fun x => fFld C fld x fun d => match d with
  | .lst ds => Q ds noChk ρ1
  | _ => False) X
theorem di_own {to : TOD} (T : IterF X.prog X.w X.K X.mg X.base k C f fld) (hr : Room k X.A) (ho : DO X o to) : DI X tg o (iOwnD C fld to) := fun W tk => pi_imp (pi_own T hr (ho W tk)) fun σ H Rr ⟨G, F, R, ρ, Qd, Xd, r, q, n, x⟩ => ⟨G, F, R, ρ, _, Xd, r, q, fun oa ρ1 v F1 H1 R1 r1 l1 o1 q1 => by
  obtain ⟨x, ex, q2⟩ := see1_of q1
  clear q1
  have s1 := r1.look o1 ex
  cases x with
  | ins C' fs =>
    obtain ⟨rfl, q4⟩ := q2
    obtain ⟨a, dx, vs, rfl, ha, df⟩ := s1.ins r1.fit
    cases el : fs.lookup fld with
    | none => rw [el] at q4; exact q4.elim
    | some d =>
      rw [el] at q4
      cases d with
      | lst ds =>
        obtain ⟨w, ew, dw⟩ := df.lookup el
        cases dw with
        | lst hh dl => exact ⟨a, dx, vs, _, _, rfl, ha, ew, SqL.of (r1.fit.rd hh), n _ _ ρ1 _ F1 H1 R1 r1 l1 (goes_list hh dl) q4⟩
      | _ => exact q4.elim
  | _ => exact q2.elim, x⟩
/-! ### what the text has written -/
theorem de_glo {x : Str} {a : Addr} (hg : Gl X x) (hm : X.mg x = some (.ref a)) (hd : (x == ("__debug__" : Str)) = false := by decide) : DE X (.Name x pos) (dC (.obj a)) := de_c (pe_glob hg hm (v := .ref a) rfl hd) fun F => .obj a
theorem de_gloI {x : Str} {i : Int} (hg : Gl X x) (hm : ∃ t, X.mg x = some (.int i t)) (hd : (x == ("__debug__" : Str)) = false := by decide) : DE X (.Name x pos) (dC (.int i)) :=
  let ⟨t, h⟩ := hm; de_c (pe_glob hg h (v := .int i) ⟨t, rfl⟩ hd) fun F => .int i
/-- a written dict of texts, indexed by a text that is there -/
structure TabW (K : PySem.W.Frag) (w : World) (a : Addr) (kvs : List (Str × V)) (dds : List (Str × D)) : Prop where
  at_ : ∀ z v, kvs.lookup z = some v → KDct K w a z v
  den : ∀ F, DenF K F kvs dds
def fTab (a : Addr) (dds : List (Str × D)) : D → D → (D → Prop) → Prop
  | .obj b, .str z, P => b = a ∧ (match dds.lookup z with
    | some d => P d
    | none => False)
  | _, _, _ => False
theorem ix_tab {a : Addr} {kvs : List (Str × V)} {dds : List (Str × D)} (T : TabW X.K X.w a kvs dds) : IxR X (rD X.K (fTab a dds)) := by
  intro value slice pins s σ H x y v u Q I rx ry ⟨F, dx, dy, P, fit, sx, sy, h, n⟩ hs
  cases dx with
  | obj b => cases dy with
    | str z =>
      cases sx.obj
      cases sy.str
      obtain ⟨rfl, h⟩ := h
      cases el : dds.lookup z with
      | none => rw [el] at h; exact h.elim
      | some d =>
        rw [el] at h
        obtain ⟨w, ew, dw⟩ := (T.den F).lookup el
        exact ix_kdict value slice pins s σ H _ _ _ _ Q I rx ry ⟨_, z, w, rfl, rfl, T.at_ z w ew, n w d F H (.refl fit) dw h⟩ hs
    | _ => exact h.elim
  | _ => exact h.elim
theorem de_tab {a b : Expr} {ta tb : TOD} {ad : Addr} {kvs : List (Str × V)} {dds : List (Str × D)} (T : TabW X.K X.w ad kvs dds) (ha : DO X a ta) (hb : DO X b tb) (hs : PlainIx b) : DE X (.Subscript a b pos) (dOp (fTab ad dds) ta tb) := fun W tk => pe_imp (pe_ix (ix_tab T) (ha W tk) (hb W tk) hs) fun _ _ _ h => le_op h
end
end PD
set_option maxHeartbeats 1000000
namespace PD
open PySem L2 PySem.Spec PyProof.Rows
/-! ### a list of two numbers is given away as a stream -/
def dStm (t : TXD) : TXD := fun ρ Q X => t ρ (fun x ρ' => match x with
  | .o (.lst [.int a, .int b]) => 0 ≤ a ∧ 0 ≤ b ∧ Q (.v .stm) ρ'
  | _ => False) X
theorem Fit.stm {F : Fz} {H : Hp} (f : Fit F H) {p : Addr} {a b : Int} (h : H p = some (.lst [.int a, .int b])) (ha : 0 ≤ a) (hb : 0 ≤ b) (n : F p = none) : Fit (updF F p .strm) H := fun c g e => by
  by_cases q : c = p
  · subst q
    rw [updF_same] at e
    cases e
    exact ⟨a, b, ha, hb, h⟩
  · rw [updF_ne q] at e
    exact f c g e
theorem Rp.toStm {K : PySem.W.Frag} {G : Gd} {F : Fz} {H : Hp} {R : Nat → Addr → Prop} {σ : L2.St} {ρ : Rho} (r : Rp K G F H R σ ρ) {p : Addr} {a b : Int} (h : H p = some (.lst [.int a, .int b])) (h0 : 0 ≤ a) (h1 : 0 ≤ b) (n : F p = none) (ho : G.Ho p = none) (nr : ∀ i, ¬ R i p) :
    Rp K G (updF F p .strm) H R σ ρ := by
  refine ⟨r.fit.stm h h0 h1 n, fun a u e => ?_, r.len, fun i x e => ?_, fun i a e => ?_, r.dis, r.lnt⟩
  · obtain ⟨h1, h2⟩ := r.out a u e
    exact ⟨h1, by rw [updF_ne (fun z => by rw [z, ho] at e; cases e)]; exact h2⟩
  · obtain ⟨v, h1, h2⟩ := r.at_ i x e
    exact ⟨v, h1, h2.keep (.upd n) (fun _ _ => rfl) fun _ ra => ra⟩
  · obtain ⟨h1, h2, h3⟩ := r.reg i a e
    exact ⟨by rw [updF_ne (fun z => by subst z; exact nr i e)]; exact h1, h2, h3⟩
section
variable {X : Cx} {e : Expr} {pos : Pos} {x : Str}
theorem dx_stm {t : TXD} (h : DX X e t) : DX X e (dStm t) := fun W tk => pe_imp (h W tk) fun σ H Q ⟨G, F, R, ρ, Qd, Xd, r, q, n, xx⟩ => ⟨G, F, R, ρ, _, Xd, r, q, fun y ρ1 v F1 H1 R1 T r1 l1 t1 a1 nl q1 => by
  split at q1
  · obtain ⟨h0, h1, q1⟩ := q1
    obtain ⟨p, vs, rfl, tp, hp, dl⟩ := a1
    cases dl with
    | cons d1 dl => cases dl with
      | cons d2 dl => cases dl with
        | nil =>
          cases d1
          cases d2
          obtain ⟨g1, g2, g3, g4⟩ := t1 p tp
          exact n (.v .stm) ρ1 _ (updF F1 p .strm) H1 R1 NoR (r1.toStm hp h0 h1 g1 g2 g4) (l1.trans (.upd g1)) .no (.stm updF_same) (fun b z => nomatch z) q1
  · exact q1.elim, xx⟩
/-! ### names -/
def visB (sc : Scope) (x : Str) : Bool := match sc.names.lookup x with
  | some .local => true
  | some .cell => true
  | some .free => true
  | _ => false
theorem vis_of {sc : Scope} (e : X.env.scope = sc) (h : visB sc x = true) : Vis X.env.scope x := by
  rw [e]
  unfold visB at h
  unfold Vis
  split at h
  · rename_i q; exact .inl q
  · rename_i q; exact .inr (.inl q)
  · rename_i q; exact .inr (.inr q)
  · cases h
theorem visc_of {sc : Scope} (h : visB sc x = true) : Vis sc x := by
  unfold visB at h
  unfold Vis
  split at h
  · rename_i q; exact .inl q
  · rename_i q; exact .inr (.inl q)
  · rename_i q; exact .inr (.inr q)
  · cases h
def locB (sc : Scope) (x : Str) : Bool := match sc.names.lookup x with
  | some .local => true
  | _ => false
theorem locB_of {sc : Scope} (h : locB sc x = true) : sc.names.lookup x = some .local := by
  unfold locB at h
  split at h
  · rename_i q; exact q
  · cases h
def stoB (sc : Scope) (x : Str) : Bool := match sc.names.lookup x with
  | some .local => true
  | some .cell => true
  | _ => false
theorem loc_of {sc : Scope} (e : X.env.scope = sc) (h : stoB sc x = true) : Loc X.env.scope x := by
  rw [e]
  unfold stoB at h
  unfold L2.Loc
  split at h
  · rename_i q; exact .inl q
  · rename_i q; exact .inr q
  · cases h
theorem sto_of {sc : Scope} (e : X.env.scope = sc) (ef : X.fn = fun x => sc.names.lookup x == some .cell) (h : stoB sc x = true) : X.fn x = true ∨ X.env.scope.names.lookup x = some .local := by
  rw [e, ef]
  unfold stoB at h
  split at h
  · rename_i q; exact .inr q
  · rename_i q; exact .inl (by show (sc.names.lookup x == some .cell) = true; rw [q]; rfl)
  · cases h
theorem fnb_of {scope : Scope} (ef : X.fn = fun x => scope.names.lookup x == some .cell) (h : (scope.names.lookup x == some .cell) = true) : X.fn x = true := by rw [ef]; exact h
theorem sw_cell {elt : Expr} {gs : List Comprehension} {scope : Scope} {py : Pos} {y : Str} {l : Nat} {sc : Scope} (e : X.env.scope = sc) (hk : sc.kind = .function) (hy : (sc.names.lookup y == some .cell) = true) : swapsWith (.ListComp elt gs scope pos) (some (.Name y py)) l X.env = pure false := by
  have ky : X.env.kindOf y = some .cell := by
    show X.env.scope.names.lookup y = _
    rw [e]
    exact beq_iff_eq.mp hy
  have hb : X.env.blockKind = .function := by unfold Env.blockKind; rw [e, hk]; rfl
  unfold swapsWith
  simp only [hb, ky]
  rfl
theorem lcl_of {sc : Scope} (e : X.env.scope = sc) (h : locB sc x = true) : X.env.scope.names.lookup x = some .local := by rw [e]; exact locB_of h
def gloB (sc : Scope) (x : Str) : Bool := match sc.names.lookup x with
  | some .globalImplicit => true
  | _ => false
theorem gl_of {sc : Scope} (e : X.env.scope = sc) (h : gloB sc x = true) : Gl X x := by
  show X.env.scope.names.lookup x = _
  rw [e]
  unfold gloB at h
  split at h
  · rename_i q; exact q
  · cases h
def plainB (x : Str) : Bool := !(x == ("__debug__" : Str)) && !(x == ("__classdict__" : Str))
theorem pv_of {i : Nat} {N : List Str} {sc : Scope} (eN : X.N = N) (e : X.env.scope = sc) (hi : N[i]? = some x) (h : (visB sc x && plainB x) = true) : PE X (.Name x pos) (tVar i) := by
  obtain ⟨h1, h2⟩ := Bool.and_eq_true_iff.mp h
  unfold plainB at h2
  obtain ⟨h3, h4⟩ := Bool.and_eq_true_iff.mp h2
  exact pe_var (by rw [eN]; exact hi) (vis_of e h1) (by simpa using h3) (by simpa using h4)
theorem hu64 {k : Nat} {A : Around} (r : Room k A) : A.units + 64 < cLine := by have := r.un; omega
theorem hu65 {k : Nat} {A : Around} (r : Room k A) : A.units + 65 < cLine := by have := r.un; omega
theorem hu1 {k : Nat} {A : Around} (r : Room k A) : A.units + 1 < cLine := by have := r.un; omega
end
/-! ### list(range(n)) -/
section
variable {X : Cx} {e : Expr} {p pos p2 pos2 : Pos}
end
/-- the statement at a place of the text; a method of a class -/
def nthS (l : List Stmt) (i : Nat) : Stmt := l.getD i (.Pass ⟨0, 0, 0, 0⟩)
def clsB (s : Stmt) : List Stmt := match s with
  | .ClassDef _ _ _ b _ _ _ _ _ _ _ => b
  | _ => []
end PD
set_option maxHeartbeats 1000000
namespace PD
open PySem L2 PySem.Spec PyProof.Rows
section
variable {X : Cx} {a e : Expr} {pos p p2 pos2 : Pos} {x : Str}
/-- a name as an argument: one's own object is given away, one's caller's is lent on -/
def dArg (i : Nat) : TOD := fun ρ Q _ => match ρ.getD i none with
  | some (.v d) => Q (.d d) ρ
  | some (.o b) => ∃ d, b.fz = some d ∧ Q (.d d) (ρ.set i (some (.v d)))
  | some (.l _) => Q (.s i) ρ
  | none => False
theorem do_arg {i : Nat} (h : PE X a (tVar i)) : DO X a (dArg i) := fun W tk => pe_imp h fun σ H Q ⟨G, F, R, ρ, Qd, Xd, r, q, n, x⟩ => by
  have q' : (match ρ.getD i none with
    | some (.v d) => Qd (.d d) ρ
    | some (.o b) => ∃ d, b.fz = some d ∧ Qd (.d d) (ρ.set i (some (.v d)))
    | some (.l _) => Qd (.s i) ρ
    | none => False) := q
  cases ee : ρ.getD i none with
  | none => rw [ee] at q'; exact q'.elim
  | some y =>
    rw [ee] at q'
    cases y with
    | v d =>
      obtain ⟨v, h1, h2⟩ := r.at_ i _ (getD_some ee)
      exact ⟨v, h1, n (.d d) ρ v F H R r (.refl F) h2 q'⟩
    | o b =>
      obtain ⟨d, hd, qd⟩ := q'
      obtain ⟨F2, R2, v, h1, r2, l2, d2⟩ := r.give (getD_some ee) hd
      exact ⟨v, h1, n (.d d) _ v F2 H R2 r2 l2 d2 qd⟩
    | l b =>
      obtain ⟨v, h1, h2⟩ := r.at_ i _ (getD_some ee)
      exact ⟨v, h1, n (.s i) ρ v F H R r (.refl F) h1 q'⟩
/-- o.f, a property -/
def dProp (C : Addr) (sp : SpD) (to : TOD) : TXD := fun ρ Q X => to ρ (fun oa ρ1 => see1 ρ1 oa (isInsC C) ∧ callD ρ1 [oa] sp Q noX) X
theorem dx_prop {k : Nat} {C pr g : Addr} {f : Str} {sp : SpD} {to : TOD} (c : Cls X.K C) (hp : PropOf X.K C f pr g) (F : FnD X.prog X.w X.K X.mg X.base k g [] sp) (hr : Room (k + 1) X.A) (ho : DO X e to) (hab : attributeBase e f X.env (eval e X.env) = eval e X.env := by rfl) :
    DX X (.Attribute e f pos) (dProp C sp to) := fun W tk => by
  obtain ⟨fd, ps, ds, F, hb, hd⟩ := F.ex
  refine pe_imp (pe_prop (E := fun _ _ _ => False) (ho W tk) c hp F hr hb hd (fun pins σ H s e s' I c => by obtain ⟨_, _, _, _, _, _, _, _, _, _, _, _, h⟩ := c; exact h.elim) hab) fun σ H Q ⟨G, Fz, R, ρ, Qd, Xd, r, q, n, xx⟩ => ?_
  refine ⟨G, Fz, R, ρ, _, Xd, r, q, fun oa ρ1 v F1 H1 R1 r1 l1 o1 ⟨i1, q2⟩ => ?_, xx⟩
  obtain ⟨d1, e1, i1⟩ := see1_of i1
  obtain ⟨a, dx, vs, fs, _, ea, ha, _⟩ := isInsC_of r1.fit (r1.look o1 e1) i1
  subst ea
  refine ⟨a, dx, vs, rfl, ha, ?_⟩
  have hdn : ([] : List V) = [] := rfl
  exact call_lift r1 (.cons o1 .nil) q2 (fun x ρ' v F' H' R' T r' l => n x ρ' v F' H' R' T r' (l1.trans l)) (fun _ _ _ _ _ _ _ _ _ _ _ q => q.elim)
/-- list(range(n)) -/
def dLRg (t : TED) : TXD := fun ρ Q X => t ρ (fun d ρ1 => match d with
  | .int n => RgOk 0 n ∧ Q (.o (.lst (rangeD 0 n.toNat))) ρ1
  | _ => False) X
theorem rgV_den {K : PySem.W.Frag} {F : Fz} {n : Int} : DenL K F (rgV 0 n) (rangeD 0 n.toNat) := by
  unfold rgV rangeD
  rw [Int.sub_zero]
  induction List.range n.toNat with
  | nil => exact .nil
  | cons i l ih => exact .cons (.int _) ih
theorem dx_listRg {t : TED} (hc : X.calm = true) (hg : Gl X "list") (hm : X.mg "list" = none) (hg2 : Gl X "range") (hm2 : X.mg "range" = none) (he : DE X e t) (na : starEach [.Call (.Name "range" p2) [e] [] pos2] X.env = (false, eval (.Call (.Name "range" p2) [e] [] pos2) X.env) :: starEach [] X.env := by rfl)
    (na2 : starEach [e] X.env = (false, eval e X.env) :: starEach [] X.env := by rfl) : DX X (.Call (.Name "list" p) [.Call (.Name "range" p2) [e] [] pos2] [] pos) (dLRg t) := fun W tk =>
  pe_imp (pe_listRg hc hg hm (prg_1 hg2 hm2 (he W tk) na2) na) fun σ H Q ⟨G, Fz, R, ρ, Qd, Xd, r, q, n, xx⟩ => ⟨G, Fz, R, ρ, _, Xd, r, q, fun d ρ1 v F1 H1 R1 r1 l1 hd q1 => by
    cases d with
    | int i =>
      cases hd
      refine ⟨i, rfl, q1.1, fun q hq => ?_⟩
      exact n (.o (.lst (rangeD 0 i.toNat))) ρ1 (.ref q) F1 _ R1 (fun a => a = q) (r1.grow (.own r1.fit hq)) l1 (.new r1 hq) ⟨q, _, rfl, rfl, upd_same, rgV_den⟩ (fun b z => nomatch z) q1.2
    | _ => exact q1.elim, xx⟩
end
end PD
set_option maxHeartbeats 1000000
namespace PD
open PySem L2 PySem.Spec PyProof.Rows
theorem tabW_of {K : PySem.W.Frag} {w : World} {a : Addr} {l : List (Str × He.Dv)} {dds : List (Str × D)} (h : ∃ es n, KDict K w a es n) (hv : He.valsB K a l = true) (hd : ∀ F, DenF K F (l.map fun q => (q.1, q.2.v K)) dds) : TabW K w a (l.map fun q => (q.1, q.2.v K)) dds := by
  obtain ⟨es, n, h⟩ := h
  refine ⟨fun z v e => ?_, hd⟩
  have hm : (z, v) ∈ l.map fun q => (q.1, q.2.v K) := PySem.mem_of_lookup e
  obtain ⟨p, hp, e2⟩ := List.mem_map.mp hm
  cases e2
  obtain ⟨u, hu, ru⟩ := He.valsB_ok hv hp
  exact ⟨es, n, u, h.at_, h.lit, hu, ru⟩
end PD
set_option maxHeartbeats 1000000
namespace PD
open PySem L2 PySem.Spec PyProof.Rows
/-! ### the law's end -/
theorem noneLeft {P : Program} {w : World} {K : PySem.W.Frag} {mg : Str → Option Value} {base : Heap} {k : Nat} {f : Addr} {fd : FuncData} {ps : List Str} {sp : Sp} (F : FnOk P w K mg base (L2.CX P w) k f fd ps sp) :
    FnOk P w K mg base CX0 k f fd ps (fun vs H Q _ => sp vs H Q fun _ _ _ => False) :=
  ⟨fun vs H Q E h => F.len _ _ _ _ h, fun A outer s H args us vs Q E hr he hb hv hs => codeAny_mono (F.run A outer s H args us vs Q _ hr he hb hv hs) fun r s' hq => by
    cases r with
    | error e =>
      obtain ⟨_, _, _, _, _, _, _, _, _, _, _, _, z⟩ := hq
      exact z.elim
    | ok fl =>
      cases fl with
      | ret u => exact hq
      | next => exact False.elim hq
      | brk => exact False.elim hq
      | cont => exact False.elim hq⟩
/-- the script alone is there -/
theorem start_law {K : PySem.W.Frag} {sp : SpD} {H : Hp} {a : Addr} {ns : List Int} (hS : SqL K H a (ns.map V.int)) (h : sp [.v (.scr ns)] (fun x _ => x = .v (.bl true)) fun _ _ => False) : liftSp K sp [.ref a] H (fun v _ => v = .bl true) fun _ _ _ => False := by
  have key : ∃ F : Fz, Fit F H ∧ ScAt K F a (ns.map V.int) := by
    have frz : ∀ o, H a = some o → (∃ o', o = .frz o' (.lst (ns.map V.int))) ∨ o = .lst (ns.map V.int) → ∃ F : Fz, Fit F H ∧ ScAt K F a (ns.map V.int) := fun o e ho => by
      refine ⟨updF (fun _ => none) a (.hard o), fun c g ec => ?_, ?_⟩
      · by_cases z : c = a
        · subst z
          rw [updF_same] at ec
          cases ec
          exact e
        · rw [updF_ne z] at ec; cases ec
      · have e2 : hp (updF (fun _ => none) a (.hard o)) a = some o := hp_of updF_same
        rcases ho with ⟨o', rfl⟩ | rfl
        · exact .inl ⟨o', e2⟩
        · exact .inr (.inl e2)
    rcases hS with (e | ⟨o, e⟩) | e
    · exact frz _ e (.inr rfl)
    · exact frz _ e (.inl ⟨o, rfl⟩)
    · exact ⟨fun _ => none, (fun c g ec => nomatch ec), .inr (.inr e)⟩
  obtain ⟨F, fit, sc⟩ := key
  refine ⟨⟨fun _ => none, fun i => .ref a⟩, F, fun _ _ => False, [.v (.scr ns)], _, _, ⟨fit, (fun b o e => nomatch e), rfl, fun i x e => ?_, fun i b e => e.elim, fun i j b e => e.elim, fun i b e => ?_⟩, fun i v e => ?_, fun x hx b e => ?_, h, fun x args' v F' H' R' T r l t av nl e => ?_, fun e args' dx F' H' R' T r l t av z => z.elim⟩
  · match i, e with
    | 0, e =>
      cases e
      exact ⟨.ref a, rfl, .scr sc⟩
    | i + 1, e => simp at e
  · match i, e with
    | 0, e => cases e
    | i + 1, e => simp at e
  · match i, e with
    | 0, e => cases e; rfl
    | i + 1, e => simp at e
  · subst e
    simp at hx
  · subst e
    cases av
    rfl
end PD
set_option maxHeartbeats 1000000
namespace PD
open PySem L2 PySem.Spec PyProof.Rows
/-! ### readings, step by step -/
/-- with what the slot holds -/
def slotK (i : Nat) (ρ : Rho) (k : Option DV → Prop) : Prop := k (ρ.getD i none)
@[simp ↓] theorem slotK_z {o : Option DV} {l : Rho} {k : Option DV → Prop} : slotK 0 (o :: l) k = k o := id rfl
@[simp ↓] theorem slotK_s {n : Nat} {o : Option DV} {l : Rho} {k : Option DV → Prop} : slotK (n + 1) (o :: l) k = slotK n l k := id rfl
/-- with the state behind a store -/
def setK (i : Nat) (x : Option DV) (ρ : Rho) (k : Rho → Prop) : Prop := k (ρ.set i x)
@[simp ↓] theorem setK_z {x o : Option DV} {l : Rho} {k : Rho → Prop} : setK 0 x (o :: l) k = k (x :: l) := id rfl
@[simp ↓] theorem setK_s {n : Nat} {x o : Option DV} {l : Rho} {k : Rho → Prop} : setK (n + 1) x (o :: l) k = setK n x l (fun l' => k (o :: l')) := id rfl
section
variable {ρ : Rho} {E : EndsD} {X : XD} {i j n : Nat} {d x y : D} {K : PySem.W.Frag} {sp : SpD} {C : Addr} {m : Str}
/-- the ends with another next -/
def toNx (E : EndsD) (n : Rho → Prop) : EndsD := { E with nx := n }
/-- the ends within a loop -/
def toLp (E : EndsD) (n : Rho → Prop) : EndsD := { E with nx := n, ct := n, bk := E.nx }
variable {nn mm : Rho → Prop} {xx : DV} {ee : Exn}
@[simp ↓] theorem s_toNx_nx : (toNx E nn).nx ρ = nn ρ := id rfl
@[simp ↓] theorem s_toNx_rt : (toNx E nn).rt xx ρ = E.rt xx ρ := id rfl
@[simp ↓] theorem s_toNx_bk : (toNx E nn).bk ρ = E.bk ρ := id rfl
@[simp ↓] theorem s_toNx_ct : (toNx E nn).ct ρ = E.ct ρ := id rfl
@[simp ↓] theorem s_toNx_ex : (toNx E nn).ex ee ρ = E.ex ee ρ := id rfl
@[simp ↓] theorem s_toLp_nx : (toLp E nn).nx ρ = nn ρ := id rfl
@[simp ↓] theorem s_toLp_rt : (toLp E nn).rt xx ρ = E.rt xx ρ := id rfl
@[simp ↓] theorem s_toLp_bk : (toLp E nn).bk ρ = E.nx ρ := id rfl
@[simp ↓] theorem s_toLp_ct : (toLp E nn).ct ρ = nn ρ := id rfl
@[simp ↓] theorem s_toLp_ex : (toLp E nn).ex ee ρ = E.ex ee ρ := id rfl
@[simp ↓ high] theorem s_dSeq_to {t u : TSD} : dSeq t u (toNx E nn) ρ = t (toNx E (u (toNx E nn))) ρ := id rfl
@[simp ↓] theorem s_dSeq {t u : TSD} : dSeq t u E ρ = t (toNx E (u E)) ρ := id rfl
@[simp ↓] theorem s_dNext : dNext E ρ = E.nx ρ := id rfl
@[simp ↓] theorem s_dNever : dNever E ρ = False := id rfl
@[simp ↓] theorem s_dBreak : dBreak E ρ = E.bk ρ := id rfl
@[simp ↓] theorem s_dCont : dCont E ρ = E.ct ρ := id rfl
@[simp ↓] theorem s_dExpr {t : TXD} : dExpr t E ρ = t ρ (fun _ ρ' => E.nx ρ') E.ex := id rfl
@[simp ↓] theorem s_dRet {t : TXD} : dRet t E ρ = t ρ E.rt E.ex := id rfl
@[simp ↓] theorem s_dRetN : dRetN E ρ = E.rt (.v .non) ρ := id rfl
@[simp ↓] theorem s_dAsg {t : TXD} : dAsg i t E ρ = t ρ (fun x ρ' => setK i (some x) ρ' E.nx) E.ex := id rfl
@[simp ↓] theorem s_dIfS {c : TTD} {t u : TSD} : dIfS c t u E ρ = c ρ (fun b ρ1 => if b = true then t E ρ1 else u E ρ1) E.ex := id rfl
@[simp ↓] theorem s_dAug {t : TOD} {f : D → D → (D → Prop) → Prop} : dAug i t f E ρ = t ρ (fun ob ρ1 => see2 ρ1 (.s i) ob fun x y => f x y fun d => setK i (some (.v d)) ρ1 E.nx) E.ex := id rfl
@[simp ↓] theorem s_dAsgG {t : TED} {g : TGD} : dAsgG t g E ρ = t ρ (fun d ρ1 => g d ρ1 E.nx) E.ex := id rfl
@[simp ↓] theorem s_dSetIx {ti te : TED} : dSetIx i ti te E ρ = te ρ (fun d ρ1 => ρ1.getD i none ≠ none ∧ ti ρ1 (fun di ρ2 => match di with
  | .int k => setIx ρ2 i k d E.nx
  | _ => False) E.ex) E.ex := id rfl
@[simp ↓] theorem s_dSetFld {f : Str} {te : TED} : dSetFld C f i te E ρ = te ρ (fun d ρ1 => slotK i ρ1 fun o => match o with
  | some (.l (.ins C' fs)) => C' = C ∧ fs.length < 1000 ∧ setK i (some (.l (.ins C (putD f d fs)))) ρ1 E.nx
  | some (.o (.ins C' fs)) => C' = C ∧ fs.length < 1000 ∧ setK i (some (.o (.ins C (putD f d fs)))) ρ1 E.nx
  | _ => False) E.ex := id rfl
variable {QE : D → Rho → Prop} {QX : DV → Rho → Prop} {QT : Bool → Rho → Prop} {QO : Opd → Rho → Prop} {QA : List D → Rho → Prop} {QV : List Opd → Rho → Prop} {QS : Rho → Prop}
@[simp ↓] theorem s_dC : dC d ρ QE X = QE d ρ := id rfl
@[simp ↓] theorem s_dOpd {t : TED} : dOpd t ρ QO X = t ρ (fun d ρ' => QO (.d d) ρ') X := id rfl
@[simp ↓] theorem s_dXof {t : TED} : dXof t ρ QX X = t ρ (fun d ρ' => QX (.v d) ρ') X := id rfl
@[simp ↓] theorem s_dFz {t : TXD} : dFz t ρ QE X = t ρ (fun x ρ' => match x with
  | .v d => QE d ρ'
  | .o b => ∃ d, b.fz = some d ∧ QE d ρ'
  | .l _ => False) X := id rfl
@[simp ↓] theorem s_dVar : dVar i ρ QE X = (slotK i ρ fun o => match o with
  | some (.v d) => QE d ρ
  | _ => False) := id rfl
@[simp ↓] theorem s_dSlotH : dSlotH i ρ QO X = (slotK i ρ fun o => match o with
    | some _ => QO (.s i) ρ
    | none => False) := id rfl
@[simp ↓] theorem s_dGive : dGive i ρ QE X = (slotK i ρ fun o => match o with
  | some (.v d) => QE d ρ
  | some (.o b) => ∃ d, b.fz = some d ∧ setK i (some (.v d)) ρ (QE d)
  | _ => False) := id rfl
@[simp ↓] theorem s_dMove : dMove i ρ QX X = (slotK i ρ fun o => match o with
  | some (.v d) => QX (.v d) ρ
  | some (.o b) => setK i none ρ (QX (.o b))
  | _ => False) := id rfl
@[simp ↓] theorem s_dArg : dArg i ρ QO X = (slotK i ρ fun o => match o with
  | some (.v d) => QO (.d d) ρ
  | some (.o b) => ∃ d, b.fz = some d ∧ setK i (some (.v d)) ρ (QO (.d d))
  | some (.l _) => QO (.s i) ρ
  | none => False) := id rfl
@[simp] theorem s_fz_lst {xs : List D} : Box.fz (.lst xs) = some (.lst xs) := id rfl
@[simp] theorem s_fz_dic {xs : List (Key × D)} : Box.fz (.dic xs) = some (.dic xs) := id rfl
@[simp] theorem s_fz_ins {xs : List (Str × D)} : Box.fz (.ins C xs) = some (.ins C xs) := id rfl
@[simp ↓] theorem s_see1d {k : D → Prop} : see1 ρ (.d x) k = k x := id rfl
@[simp ↓] theorem s_see1s {k : D → Prop} : see1 ρ (.s i) k = (slotK i ρ fun o => match o with
    | some (.v d) => k d
    | some (.o b) => (match b.fz with
      | some d => k d
      | none => False)
    | some (.l b) => (match b.fz with
      | some d => k d
      | none => False)
    | none => False) := by
  have e : ρ.look (.s i) = (match ρ.getD i none with
    | some (.v d) => some d
    | some (.o b) => b.fz
    | some (.l b) => b.fz
    | none => none) := id rfl
  unfold see1 slotK
  rw [e]
  cases ρ.getD i none with
  | none => rfl
  | some x => cases x <;> rfl
@[simp ↓] theorem s_see2 {a b : Opd} {k : D → D → Prop} : see2 ρ a b k = see1 ρ a fun x => see1 ρ b fun y => k x y := id rfl
@[simp ↓] theorem s_dOp {f : D → D → (D → Prop) → Prop} {ta tb : TOD} : dOp f ta tb ρ QE X = ta ρ (fun oa ρ1 => tb ρ1 (fun ob ρ2 => see2 ρ2 oa ob fun x y => f x y fun d => QE d ρ2) X) X := id rfl
@[simp ↓] theorem s_dUn {f : D → (D → Prop) → Prop} {ta : TOD} : dUn f ta ρ QE X = ta ρ (fun oa ρ1 => see1 ρ1 oa fun x => f x fun d => QE d ρ1) X := id rfl
@[simp ↓] theorem s_dTest {t : TED} : dTest t ρ QT X = t ρ (fun d ρ' => match d with
  | .bl b => QT b ρ'
  | _ => False) X := id rfl
@[simp ↓] theorem s_dTruth {t : TOD} : dTruth t ρ QT X = t ρ (fun oa ρ1 => see1 ρ1 oa fun x => truD x fun k => QT k ρ1) X := id rfl
@[simp ↓] theorem s_dAnd {t u : TTD} : dAnd t u ρ QT X = t ρ (fun c ρ1 => if c = true then u ρ1 QT X else QT false ρ1) X := id rfl
@[simp ↓] theorem s_dOr {t u : TTD} : dOr t u ρ QT X = t ρ (fun c ρ1 => if c = true then QT true ρ1 else u ρ1 QT X) X := id rfl
@[simp ↓] theorem s_dNot {t : TTD} : dNot t ρ QT X = t ρ (fun c ρ1 => QT (!c) ρ1) X := id rfl
@[simp ↓] theorem s_dAndV {t u : TED} : dAndV t u ρ QE X = t ρ (fun d ρ1 => match d with
  | .bl c => if c = true then u ρ1 QE X else QE (.bl false) ρ1
  | _ => False) X := id rfl
@[simp ↓] theorem s_dOrV {t u : TED} : dOrV t u ρ QE X = t ρ (fun d ρ1 => match d with
  | .bl c => if c = true then QE (.bl true) ρ1 else u ρ1 QE X
  | _ => False) X := id rfl
@[simp ↓] theorem s_dNotV {t : TED} : dNotV t ρ QE X = t ρ (fun d ρ1 => match d with
  | .bl c => QE (.bl (!c)) ρ1
  | _ => False) X := id rfl
@[simp ↓] theorem s_dIf {t : TTD} {a b : TED} : dIf t a b ρ QE X = t ρ (fun c ρ1 => if c = true then a ρ1 QE X else b ρ1 QE X) X := id rfl
@[simp ↓] theorem s_dIfX {t : TTD} {a b : TXD} : dIfX t a b ρ QX X = t ρ (fun c ρ1 => if c = true then a ρ1 QX X else b ρ1 QX X) X := id rfl
@[simp ↓] theorem s_dNil : dNil ρ QA X = QA [] ρ := id rfl
@[simp ↓] theorem s_dCons {t : TED} {u : TAD} : dCons t u ρ QA X = t ρ (fun d ρ1 => u ρ1 (fun ds ρ2 => QA (d :: ds) ρ2) X) X := id rfl
@[simp ↓] theorem s_dTup {t : TAD} : dTup t ρ QE X = t ρ (fun ds ρ1 => ds.length ≤ sizeLine ∧ QE (.tup ds) ρ1) X := id rfl
@[simp ↓] theorem s_dLst {t : TAD} : dLst t ρ QX X = t ρ (fun ds ρ1 => ds.length ≤ sizeLine ∧ QX (.o (.lst ds)) ρ1) X := id rfl
@[simp ↓] theorem s_dStm {t : TXD} : dStm t ρ QX X = t ρ (fun x ρ' => match x with
  | .o (.lst [.int a, .int b]) => 0 ≤ a ∧ 0 ≤ b ∧ QX (.v .stm) ρ'
  | _ => False) X := id rfl
@[simp ↓] theorem s_dC1 {f : D → (DV → Prop) → Prop} {ta : TOD} : dC1 f ta ρ QX X = ta ρ (fun oa ρ1 => see1 ρ1 oa fun x => f x fun y => QX y ρ1) X := id rfl
@[simp ↓] theorem s_dC2 {f : D → D → (DV → Prop) → Prop} {ta tb : TOD} : dC2 f ta tb ρ QX X = ta ρ (fun oa ρ1 => tb ρ1 (fun ob ρ2 => see2 ρ2 oa ob fun x y => f x y fun z => QX z ρ2) X) X := id rfl
@[simp ↓] theorem s_dIsi {c : String} {ta : TOD} : dIsi c ta ρ QE X = ta ρ (fun oa ρ1 => see1 ρ1 oa fun x => fIsi c x fun d => QE d ρ1) X := id rfl
@[simp ↓] theorem s_dFld {f : Str} {to : TOD} : dFld C f to ρ QE X = to ρ (fun oa ρ1 => see1 ρ1 oa fun x => fFld C f x fun d => QE d ρ1) X := id rfl
@[simp ↓] theorem s_vNil : vNil ρ QV X = QV [] ρ := id rfl
@[simp ↓] theorem s_vCons {t : TOD} {u : TVD} : vCons t u ρ QV X = t ρ (fun od ρ1 => u ρ1 (fun ods ρ2 => QV (od :: ods) ρ2) X) X := id rfl
@[simp ↓] theorem s_dCall {dds : List D} {t : TVD} : dCall sp dds t ρ QX X = t ρ (fun ods ρ1 => callD ρ1 (ods ++ dds.map Opd.d) sp QX X) X := id rfl
@[simp ↓] theorem s_dMeth {dds : List D} {to : TOD} {t : TVD} : dMeth C m sp dds to t ρ QX X = to ρ (fun od ρ1 => see1 ρ1 od (isIns C m) ∧ t ρ1 (fun ods ρ2 => callD ρ2 (od :: (ods ++ dds.map Opd.d)) sp QX X) X) X := id rfl
@[simp ↓] theorem s_dMake {dds : List D} {t : TVD} : dMake C sp dds t ρ QX X = t ρ (fun ods ρ1 => slotsOk ρ1.length ods ∧ callD (ρ1 ++ [some (.o (.ins C []))]) (.s ρ1.length :: (ods ++ dds.map Opd.d)) sp (popQ QX) (fun e ρ' => X e ρ'.dropLast)) X := id rfl
@[simp ↓] theorem s_dCallI {dds : List D} {t : TVD} : dCallI i C sp dds t ρ QX X = (see1 ρ (.s i) (isInsC C) ∧ t ρ (fun ods ρ1 => see1 ρ1 (.s i) (isInsC C) ∧ callD ρ1 (.s i :: (ods ++ dds.map Opd.d)) sp QX X) X) := id rfl
@[simp ↓] theorem s_dCallF {Co : Addr} {dds : List D} {to : TOD} {t : TVD} : dCallF Co m C sp dds to t ρ QX X = to ρ (fun oa ρ1 => see1 ρ1 oa fun x => fFld Co m x fun d => isInsC C d ∧ t ρ1 (fun ods ρ2 => callD ρ2 (.d d :: (ods ++ dds.map Opd.d)) sp QX X) X) X := id rfl
@[simp ↓] theorem s_dOwn2 {ta tb : TOD} : dOwn2 C sp ta tb ρ QX X = ta ρ (fun oa ρ1 => tb ρ1 (fun ob ρ2 => see1 ρ2 oa (isInsC C) ∧ see1 ρ2 ob (isInsC C) ∧ callD ρ2 [oa, ob] sp QX noX) X) X := id rfl
@[simp ↓] theorem s_dOwn1 {ta : TOD} : dOwn1 C sp ta ρ QX X = ta ρ (fun oa ρ1 => see1 ρ1 oa (isInsC C) ∧ callD ρ1 [oa] sp QX noX) X := id rfl
@[simp ↓] theorem s_dProp {ta : TOD} : dProp C sp ta ρ QX X = ta ρ (fun oa ρ1 => see1 ρ1 oa (isInsC C) ∧ callD ρ1 [oa] sp QX noX) X := id rfl
@[simp ↓] theorem s_dIn2 {ta tb : TOD} : dIn2 C sp ta tb ρ QE X = ta ρ (fun oa ρ1 => tb ρ1 (fun ob ρ2 => see1 ρ2 ob (isInsC C) ∧ callD ρ2 [ob, oa] sp (fun x ρ3 => match x with
  | .v (.bl c) => QE (.bl c) ρ3
  | _ => False) noX) X) X := id rfl
@[simp] theorem s_isInsC {fs : List (Str × D)} : isInsC C (.ins C fs) = True := by simp [isInsC]
@[simp] theorem s_isIns {fs : List (Str × D)} : isIns C m (.ins C fs) = (fs.lookup m = none) := by simp [isIns]
@[simp ↓] theorem s_dSl {ta : TOD} {tl th : TPD} : dSl ta tl th ρ QX X = ta ρ (fun oa ρ1 => tl ρ1 (fun lo ρ2 => th ρ2 (fun hi ρ3 => see1 ρ3 oa fun x => fSl x lo hi fun y => QX y ρ3) X) X) X := id rfl
variable {QP : Option Int → Rho → Prop}
@[simp ↓] theorem s_dNoP : dNoP ρ QP X = QP none ρ := id rfl
@[simp ↓] theorem s_dPart {t : TED} : dPart t ρ QP X = t ρ (fun d ρ' => match d with
  | .int i => QP (some i) ρ'
  | _ => False) X := id rfl
@[simp ↓] theorem s_gdName : gdName i d ρ QS = setK i (some (.v d)) ρ QS := id rfl
@[simp ↓] theorem s_gdTup {gs : TGsD} {ds : List D} : gdTup n gs (.tup ds) ρ QS = (ds.length = n ∧ gs ds ρ QS) := id rfl
@[simp ↓] theorem s_gdNil : gdNil [] ρ QS = QS ρ := id rfl
@[simp ↓] theorem s_gdCons {g : TGD} {gs : TGsD} {ds : List D} : gdCons g gs (d :: ds) ρ QS = g d ρ (fun ρ1 => gs ds ρ1 QS) := id rfl
@[simp ↓] theorem s_dAppend {te : TED} : dAppend i te ρ QX X = (ownL ρ i (fun _ _ => True) ∧ te ρ (fun d ρ1 => ownL ρ1 i fun xs put => xs.length < sizeLine ∧ QX (.v .non) (put (xs ++ [d]))) X) := id rfl
@[simp ↓] theorem s_dInsert {ti te : TED} : dInsert i ti te ρ QX X = (ownL ρ i (fun _ _ => True) ∧ ti ρ (fun di ρ1 => te ρ1 (fun d ρ2 => ownL ρ2 i fun xs put => match di with
  | .int k => xs.length < sizeLine ∧ 0 ≤ k ∧ k < 2 ^ 63 ∧ QX (.v .non) (put (xs.take k.toNat ++ [d] ++ xs.drop k.toNat))
  | _ => False) X) X) := id rfl
@[simp ↓] theorem s_ownL {k : List D → (List D → Rho) → Prop} : ownL ρ i k = (slotK i ρ fun o => match o with
  | some (.o (.lst xs)) => k xs fun ys => ρ.set i (some (.o (.lst ys)))
  | some (.l (.lst xs)) => k xs fun ys => ρ.set i (some (.l (.lst ys)))
  | _ => False) := id rfl
/-! operations -/
variable {P : D → Prop} {PV : DV → Prop} {a b : Int} {s t : Str} {u v : Bool}
@[simp ↓] theorem s_fAdd : fAdd (.int a) (.int b) P = P (.int (a + b)) := id rfl
@[simp ↓] theorem s_fAddL {xs ys : List D} : fAdd (.lst xs) (.lst ys) P = (xs.length + ys.length ≤ sizeLine ∧ P (.lst (xs ++ ys))) := id rfl
@[simp ↓] theorem s_fSub : fSub (.int a) (.int b) P = P (.int (a - b)) := id rfl
@[simp ↓] theorem s_fMul : fMul (.int a) (.int b) P = (CMul a b ∧ P (.int (a * b))) := id rfl
@[simp ↓] theorem s_fDiv : fDiv (.int a) (.int b) P = (CDivW a b ∧ P (.int (a / b))) := id rfl
@[simp ↓] theorem s_fMod : fMod (.int a) (.int b) P = (0 < b ∧ P (.int (a % b))) := id rfl
@[simp ↓] theorem s_fPow : fPow (.int a) (.int b) P = (CPow a b ∧ P (.int (a ^ b.toNat))) := id rfl
@[simp ↓] theorem s_fLt : fLt (.int a) (.int b) P = P (.bl (decide (a < b))) := id rfl
@[simp ↓] theorem s_fLe : fLe (.int a) (.int b) P = P (.bl (decide (a ≤ b))) := id rfl
@[simp ↓] theorem s_fGt : fGt (.int a) (.int b) P = P (.bl (decide (b < a))) := id rfl
@[simp ↓] theorem s_fGe : fGe (.int a) (.int b) P = P (.bl (decide (b ≤ a))) := id rfl
@[simp ↓] theorem s_fNeg : fNeg (.int a) P = P (.int (-a)) := id rfl
@[simp ↓] theorem s_fEqI : fEq (.int a) (.int b) P = P (.bl (decide (a = b))) := id rfl
@[simp ↓] theorem s_fEqS : fEq (.str s) (.str t) P = P (.bl (decide (s = t))) := id rfl
@[simp ↓] theorem s_fEqB : fEq (.bl u) (.bl v) P = P (.bl (decide (u = v))) := id rfl
@[simp ↓] theorem s_fEqNI : fEq .non (.int a) P = P (.bl false) := id rfl
@[simp ↓] theorem s_fEqIN : fEq (.int a) .non P = P (.bl false) := id rfl
@[simp ↓] theorem s_fEqNN : fEq .non .non P = P (.bl true) := id rfl
@[simp ↓] theorem s_fNe : fNe x y P = fEq x y fun d => match d with
  | .bl b => P (.bl (!b))
  | _ => False := id rfl
@[simp ↓] theorem s_fIsNN : fIs .non .non P = P (.bl true) := id rfl
@[simp ↓] theorem s_fIsI : fIs (.int a) .non P = P (.bl false) := id rfl
@[simp ↓] theorem s_fIsS : fIs (.str s) .non P = P (.bl false) := id rfl
@[simp ↓] theorem s_fIsB : fIs (.bl u) .non P = P (.bl false) := id rfl
@[simp ↓] theorem s_fIsT {xs : List D} : fIs (.tup xs) .non P = P (.bl false) := id rfl
@[simp ↓] theorem s_fIsL {xs : List D} : fIs (.lst xs) .non P = P (.bl false) := id rfl
@[simp ↓] theorem s_fIsO {fs : List (Str × D)} : fIs (.ins C fs) .non P = P (.bl false) := id rfl
@[simp ↓] theorem s_fIsNotNN : fIsNot .non .non P = P (.bl false) := id rfl
@[simp ↓] theorem s_fIsNotI : fIsNot (.int a) .non P = P (.bl true) := id rfl
@[simp ↓] theorem s_fIsNotS : fIsNot (.str s) .non P = P (.bl true) := id rfl
@[simp ↓] theorem s_fIsNotO {fs : List (Str × D)} : fIsNot (.ins C fs) .non P = P (.bl true) := id rfl
@[simp ↓] theorem s_fNotIn : fNotIn x y P = fIn x y fun d => match d with
  | .bl b => P (.bl (!b))
  | _ => False := id rfl
@[simp ↓] theorem s_fIxL {xs : List D} : fIx (.lst xs) (.int a) P = (match atI xs a with
    | some d => P d
    | none => False) := id rfl
@[simp ↓] theorem s_fIxT {xs : List D} : fIx (.tup xs) (.int a) P = (match atI xs a with
    | some d => P d
    | none => False) := id rfl
@[simp ↓] theorem s_fIxC {xs : List Int} : fIx (.scr xs) (.int a) P = (match atI xs a with
    | some n => P (.int n)
    | none => False) := id rfl
@[simp ↓] theorem s_fIxM : fIx .stm (.int a) P = ((a = 0 ∨ a = 1) ∧ ∀ n : Int, 0 ≤ n → P (.int n)) := id rfl
@[simp ↓] theorem s_fLenL {xs : List D} : fLen (.lst xs) PV = PV (.v (.int xs.length)) := id rfl
@[simp ↓] theorem s_fLenT {xs : List D} : fLen (.tup xs) PV = PV (.v (.int xs.length)) := id rfl
@[simp ↓] theorem s_fLenC {xs : List Int} : fLen (.scr xs) PV = PV (.v (.int xs.length)) := id rfl
@[simp ↓] theorem s_fIntI : fInt (.int a) PV = PV (.v (.int a)) := id rfl
@[simp ↓] theorem s_fIntB : fInt (.bl u) PV = PV (.v (.int (if u then 1 else 0))) := id rfl
@[simp ↓] theorem s_fListL {xs : List D} : fList (.lst xs) PV = PV (.o (.lst xs)) := id rfl
@[simp ↓] theorem s_fListT {xs : List D} : fList (.tup xs) PV = PV (.o (.lst xs)) := id rfl
@[simp ↓] theorem s_fTupleL {xs : List D} : fTuple (.lst xs) PV = PV (.v (.tup xs)) := id rfl
@[simp ↓] theorem s_fTab {k : Addr} {dds : List (Str × D)} : fTab k dds (.obj k) (.str s) P = (match dds.lookup s with
    | some d => P d
    | none => False) := propext ⟨fun h => h.2, fun h => ⟨rfl, h⟩⟩
@[simp ↓] theorem s_fFld {fs : List (Str × D)} : fFld C m (.ins C fs) P = (match fs.lookup m with
    | some d => P d
    | none => False) := propext ⟨fun h => h.2, fun h => ⟨rfl, h⟩⟩
@[simp ↓] theorem s_fIsi {c : String} : fIsi c x P = (match x.ty with
  | some t => (match kitB t c with
    | some b => P (.bl b)
    | none => False)
  | none => False) := id rfl
@[simp] theorem s_tyN : D.ty .non = some "NoneType" := id rfl
@[simp] theorem s_tyB : D.ty (.bl u) = some "bool" := id rfl
@[simp] theorem s_tyI : D.ty (.int a) = some "int" := id rfl
@[simp] theorem s_tyS : D.ty (.str s) = some "str" := id rfl
@[simp] theorem s_tyT {xs : List D} : D.ty (.tup xs) = some "tuple" := id rfl
@[simp] theorem s_tyL {xs : List D} : D.ty (.lst xs) = some "list" := id rfl
@[simp] theorem kit1 : kitB "int" "int" = some true := by decide +kernel
@[simp] theorem kit2 : kitB "int" "bool" = some false := by decide +kernel
@[simp] theorem kit3 : kitB "bool" "int" = some true := by decide +kernel
@[simp] theorem kit4 : kitB "bool" "bool" = some true := by decide +kernel
@[simp] theorem kit5 : kitB "NoneType" "int" = some false := by decide +kernel
@[simp] theorem kit6 : kitB "NoneType" "bool" = some false := by decide +kernel
@[simp] theorem kit7 : kitB "str" "int" = some false := by decide +kernel
@[simp] theorem kit8 : kitB "str" "bool" = some false := by decide +kernel
@[simp] theorem kit9 : kitB "tuple" "tuple" = some true := by decide +kernel
@[simp] theorem kit10 : kitB "list" "tuple" = some false := by decide +kernel
@[simp] theorem kit11 : kitB "tuple" "list" = some false := by decide +kernel
@[simp] theorem kit12 : kitB "list" "list" = some true := by decide +kernel
@[simp] theorem kit13 : kitB "NoneType" "tuple" = some false := by decide +kernel
@[simp] theorem kit14 : kitB "str" "tuple" = some false := by decide +kernel
@[simp] theorem kit15 : kitB "int" "tuple" = some false := by decide +kernel
@[simp] theorem kit16 : kitB "tuple" "int" = some false := by decide +kernel
@[simp] theorem kit17 : kitB "list" "int" = some false := by decide +kernel
@[simp] theorem kit18 : kitB "tuple" "bool" = some false := by decide +kernel
@[simp] theorem kit19 : kitB "list" "bool" = some false := by decide +kernel
@[simp] theorem kit20 : kitB "bool" "tuple" = some false := by decide +kernel
/-! ends -/
variable {x₀ : DV} {e₀ : Exn} {args : List DV} {Qd : DV → List DV → Prop} {Xd : Exn → List DV → Prop}
@[simp ↓] theorem s_eNx : (endsOf args Qd Xd).nx ρ = fin args ρ (Qd (.v .non)) := id rfl
@[simp ↓] theorem s_eRt : (endsOf args Qd Xd).rt x₀ ρ = fin args ρ (Qd x₀) := id rfl
@[simp ↓] theorem s_eEx : (endsOf args Qd Xd).ex e₀ ρ = fin args ρ (Xd e₀) := id rfl
/-! calls -/
/-! calls, args by args -/
def slotD (i : Nat) (ρ : Rho) : Option DV := ρ.getD i none
@[simp ↓] theorem slotD_z {o : Option DV} {l : Rho} : slotD 0 (o :: l) = o := id rfl
@[simp ↓] theorem slotD_s {n : Nat} {o : Option DV} {l : Rho} : slotD (n + 1) (o :: l) = slotD n l := id rfl
def lentO : Option DV → Bool
  | some (.o _) => true
  | some (.l _) => true
  | _ => false
@[simp ↓] theorem lentO_o {b : Box} : lentO (some (.o b)) = true := id rfl
@[simp ↓] theorem lentO_l {b : Box} : lentO (some (.l b)) = true := id rfl
@[simp ↓] theorem lentO_v {d : D} : lentO (some (.v d)) = false := id rfl
@[simp ↓] theorem lentO_n : lentO none = false := id rfl
@[simp ↓] theorem s_lentIx0 : lentIx ρ [] = [] := id rfl
@[simp ↓] theorem s_lentIxD {ods : List Opd} : lentIx ρ (.d x :: ods) = lentIx ρ ods := id rfl
@[simp ↓] theorem s_lentIxS {ods : List Opd} : lentIx ρ (.s i :: ods) = (match lentO (slotD i ρ) with
    | true => i :: lentIx ρ ods
    | false => lentIx ρ ods) := by
  unfold slotD lentO
  conv => lhs; unfold lentIx isLent
  all_goals rfl
def argsK (ρ : Rho) : List Opd → (List DV → Prop) → Prop
  | [], k => k []
  | .d x :: ods, k => argsK ρ ods fun as => k (.v x :: as)
  | .s i :: ods, k => slotK i ρ fun o => match o with
    | some (.v d) => argsK ρ ods fun as => k (.v d :: as)
    | some (.o b) => argsK ρ ods fun as => k (.l b :: as)
    | some (.l b) => argsK ρ ods fun as => k (.l b :: as)
    | none => False
theorem argsK_eq : ∀ {ods : List Opd} {k : List DV → Prop}, (match argsOf ρ ods with
    | some args => k args
    | none => False) = argsK ρ ods k
  | [], k => id rfl
  | .d x :: ods, k => by
    unfold argsK
    rw [← argsK_eq (ods := ods)]
    show (match (argsOf ρ ods).map (DV.v x :: ·) with
      | some args => k args
      | none => False) = _
    cases argsOf ρ ods <;> rfl
  | .s i :: ods, k => by
    unfold argsK slotK
    have e : argsOf ρ (.s i :: ods) = match (match ρ.getD i none with
      | some (.v d) => some (DV.v d)
      | some (.o b) => some (.l b)
      | some (.l b) => some (.l b)
      | none => none) with
      | some x => (argsOf ρ ods).map (x :: ·)
      | none => none := id rfl
    rw [e]
    cases ρ.getD i none with
    | none => rfl
    | some o => cases o <;> (dsimp only; rw [← argsK_eq (ods := ods)]; cases argsOf ρ ods <;> rfl)
@[simp ↓] theorem s_argsK0 {k : List DV → Prop} : argsK ρ [] k = k [] := id rfl
@[simp ↓] theorem s_argsKd {ods : List Opd} {k : List DV → Prop} : argsK ρ (.d x :: ods) k = argsK ρ ods fun as => k (.v x :: as) := id rfl
@[simp ↓] theorem s_argsKs {ods : List Opd} {k : List DV → Prop} : argsK ρ (.s i :: ods) k = slotK i ρ fun o => match o with
    | some (.v d) => argsK ρ ods fun as => k (.v d :: as)
    | some (.o b) => argsK ρ ods fun as => k (.l b :: as)
    | some (.l b) => argsK ρ ods fun as => k (.l b :: as)
    | none => False := id rfl
@[simp ↓] theorem s_callD {ods : List Opd} : callD ρ ods sp QX X = ((lentIx ρ ods).Nodup ∧ argsK ρ ods fun args => sp args (fun x as => behind ρ ods as (QX x)) (fun e as => behind ρ ods as (X e))) := by
  rw [← argsK_eq]
  rfl
@[simp ↓] theorem s_beh0 : behind ρ [] [] QS = QS ρ := id rfl
@[simp ↓] theorem s_behD {ods : List Opd} {z : DV} {as : List DV} : behind ρ (.d d :: ods) (z :: as) QS = behind ρ ods as QS := id rfl
@[simp ↓] theorem s_behS {ods : List Opd} {z : DV} {as : List DV} : behind ρ (.s i :: ods) (z :: as) QS = slotK i ρ fun o => match o with
    | some (.o _) => (match z with
      | .l b => setK i (some (.o b)) ρ fun ρ' => behind ρ' ods as QS
      | _ => False)
    | some (.l _) => (match z with
      | .l b => setK i (some (.l b)) ρ fun ρ' => behind ρ' ods as QS
      | _ => False)
    | _ => behind ρ ods as QS := by
  unfold slotK setK behind
  conv => lhs; unfold backA
  cases ρ.getD i none with
  | none => rfl
  | some o => cases o <;> (try rfl) <;> cases z <;> rfl
@[simp ↓] theorem argsK_an {l : List Opd} {k : List DV → Prop} : argsK ρ ([] ++ l) k = argsK ρ l k := id rfl
@[simp ↓] theorem argsK_ac {od : Opd} {ods l : List Opd} {k : List DV → Prop} : argsK ρ ((od :: ods) ++ l) k = argsK ρ (od :: (ods ++ l)) k := id rfl
@[simp ↓] theorem argsK_mn {k : List DV → Prop} : argsK ρ (List.map Opd.d []) k = argsK ρ [] k := id rfl
@[simp ↓] theorem argsK_mc {ds : List D} {k : List DV → Prop} : argsK ρ (List.map Opd.d (d :: ds)) k = argsK ρ (.d d :: List.map Opd.d ds) k := id rfl
@[simp ↓] theorem lentIx_an {l : List Opd}  : lentIx ρ ([] ++ l) = lentIx ρ l := id rfl
@[simp ↓] theorem lentIx_ac {od : Opd} {ods l : List Opd}  : lentIx ρ ((od :: ods) ++ l) = lentIx ρ (od :: (ods ++ l)) := id rfl
@[simp ↓] theorem lentIx_mn  : lentIx ρ (List.map Opd.d []) = lentIx ρ [] := id rfl
@[simp ↓] theorem lentIx_mc {ds : List D}  : lentIx ρ (List.map Opd.d (d :: ds)) = lentIx ρ (.d d :: List.map Opd.d ds) := id rfl
@[simp ↓] theorem behind_an {l : List Opd} {as : List DV}  : behind ρ ([] ++ l) as QS = behind ρ l as QS := id rfl
@[simp ↓] theorem behind_ac {od : Opd} {ods l : List Opd} {as : List DV}  : behind ρ ((od :: ods) ++ l) as QS = behind ρ (od :: (ods ++ l)) as QS := id rfl
@[simp ↓] theorem behind_mn {as : List DV}  : behind ρ (List.map Opd.d []) as QS = behind ρ [] as QS := id rfl
@[simp ↓] theorem behind_mc {ds : List D} {as : List DV}  : behind ρ (List.map Opd.d (d :: ds)) as QS = behind ρ (.d d :: List.map Opd.d ds) as QS := id rfl
def lastK : Rho → (Option DV → Rho → Prop) → Prop
  | [], _ => False
  | [x], k => k x []
  | x :: y :: l, k => lastK (y :: l) fun z l' => k z (x :: l')
@[simp ↓] theorem s_lastK1 {xo : Option DV} {k : Option DV → Rho → Prop} : lastK [xo] k = k xo [] := id rfl
@[simp ↓] theorem s_lastKc {xo yo : Option DV} {l : Rho} {k : Option DV → Rho → Prop} : lastK (xo :: yo :: l) k = lastK (yo :: l) fun z l' => k z (xo :: l') := id rfl
theorem lastK_eq : ∀ {l : Rho} {k : Option DV → Rho → Prop}, l ≠ [] → (match l.getLast? with
    | some x => k x l.dropLast
    | none => False) = lastK l k
  | [], _, h => absurd rfl h
  | [x], k, _ => id rfl
  | x :: y :: l, k, _ => by
    rw [s_lastKc, ← lastK_eq (by simp)]
    rw [List.getLast?_cons_cons, List.dropLast_cons_of_ne_nil (by simp)]
@[simp ↓] theorem s_popQ {z : DV} : popQ QX z ρ = (z = .v .non ∧ lastK ρ fun o ρ' => match o with
  | some (.o b) => QX (.o b) ρ'
  | _ => False) := by
  have e : popQ QX z ρ = (z = .v .non ∧ match ρ.getLast? with
    | some (some (.o b)) => QX (.o b) ρ.dropLast
    | _ => False) := id rfl
  rw [e]
  congr 1
  cases ρ with
  | nil => rfl
  | cons a l =>
    rw [← lastK_eq (by simp)]
    cases (a :: l).getLast? with
    | none => rfl
    | some o => cases o with
      | none => rfl
      | some x => cases x <;> rfl
@[simp] theorem s_slots0 : slotsOk n [] = True := id rfl
@[simp] theorem s_slotsS {ods : List Opd} : slotsOk n (.s i :: ods) = (i < n ∧ slotsOk n ods) := id rfl
@[simp] theorem s_slotsD {ods : List Opd} : slotsOk n (.d x :: ods) = slotsOk n ods := id rfl
@[simp ↓] theorem s_setIx {k : Int} : setIx ρ i k d QS = (slotK i ρ fun o => match o with
  | some (.v .stm) => (k = 0 ∨ k = 1) ∧ (match d with
    | .int a => 0 ≤ a ∧ QS ρ
    | _ => False)
  | some (.o (.lst xs)) => (match ixN xs.length k with
    | some j => QS (ρ.set i (some (.o (.lst (xs.set j d)))))
    | none => False)
  | some (.l (.lst xs)) => (match ixN xs.length k with
    | some j => QS (ρ.set i (some (.l (.lst (xs.set j d)))))
    | none => False)
  | _ => False) := id rfl
/-! loops -/
variable {QL : List D → (Rho → Prop) → Rho → Prop}
@[simp ↓] theorem s_dFor {t : TID} {g : TGD} {body : TSD} : dFor t g body E ρ = t ρ (fun ds chk ρ1 => dForL chk g body ds E ρ1) E.ex := id rfl
@[simp ↓] theorem s_dLc {t : TID} {g : TGD} {tt : TTD} {te : TED} {vs : List Nat} : dLc t g tt te vs ρ QX X = t ρ (fun ds chk ρ1 => dLcL chk g tt te vs ds [] ρ1 fun ys ρ2 => QX (.o (.lst ys)) ρ2) X := id rfl
@[simp ↓] theorem s_iLst {t : TED} : iLst t ρ QL X = t ρ (fun d ρ' => match d with
  | .lst ds => QL ds noChk ρ'
  | _ => False) X := id rfl
@[simp ↓] theorem s_iTupD {t : TED} : iTupD t ρ QL X = t ρ (fun d ρ' => match d with
  | .tup ds => QL ds noChk ρ'
  | _ => False) X := id rfl
@[simp ↓] theorem s_iSlot : iSlot i ρ QL X = (slotK i ρ fun o => match o with
  | some (.v (.lst ds)) => QL ds noChk ρ
  | some (.o (.lst ds)) => setK i (some (.v (.lst ds))) ρ (QL ds noChk)
  | some (.l (.lst ds)) => QL ds (fun ρ' => ρ'.getD i none = some (.l (.lst ds))) ρ
  | _ => False) := id rfl
@[simp ↓] theorem s_iEnumS : iEnumS i ρ QL X = (slotK i ρ fun o => match o with
  | some (.v (.lst ds)) => QL (enumD ds) noChk ρ
  | some (.o (.lst ds)) => setK i (some (.v (.lst ds))) ρ (QL (enumD ds) noChk)
  | some (.l (.lst ds)) => QL (enumD ds) (fun ρ' => ρ'.getD i none = some (.l (.lst ds))) ρ
  | _ => False) := id rfl
@[simp ↓] theorem s_iEnumD {t : TED} : iEnumD t ρ QL X = t ρ (fun d ρ' => match d with
  | .lst ds => QL (enumD ds) noChk ρ'
  | _ => False) X := id rfl
@[simp ↓] theorem s_iRg1 {t : TED} : iRg1 t ρ QL X = t ρ (fun d ρ' => match d with
  | .int j => (-(2 ^ 62) ≤ j ∧ j < 2 ^ 62) ∧ QL (rangeD 0 j.toNat) noChk ρ'
  | _ => False) X := id rfl
@[simp ↓] theorem s_iRg2 {t u : TED} : iRg2 t u ρ QL X = t ρ (fun d ρ1 => u ρ1 (fun d' ρ2 => match d, d' with
  | .int i, .int j => (-(2 ^ 62) ≤ i ∧ i < 2 ^ 62 ∧ -(2 ^ 62) ≤ j ∧ j < 2 ^ 62) ∧ QL (rangeD i (j - i).toNat) noChk ρ2
  | _, _ => False) X) X := id rfl
@[simp ↓] theorem s_iOwnD {f : Str} {to : TOD} : iOwnD C f to ρ QL X = to ρ (fun oa ρ1 => see1 ρ1 oa fun x => fFld C f x fun d => match d with
  | .lst ds => QL ds noChk ρ1
  | _ => False) X := id rfl
@[simp] theorem s_noChk : noChk ρ = True := id rfl
@[simp ↓] theorem s_dLRg {t : TED} : dLRg t ρ QX X = t ρ (fun d ρ1 => match d with
  | .int n => RgOk 0 n ∧ QX (.o (.lst (rangeD 0 n.toNat))) ρ1
  | _ => False) X := id rfl
@[simp ↓] theorem s_dYes : dYes ρ QT X = QT true ρ := id rfl
/-- a loop, by what holds of the items left and the state; what comes behind the turn is not looked at -/
theorem for_ind {chk : Rho → Prop} {g : TGD} {body : TSD} (I : List D → Rho → Prop)
    (hs : ∀ d ds ρ (R : Rho → Prop), I (d :: ds) ρ → (∀ ρ', I ds ρ' → R ρ') → chk ρ ∧ g d ρ fun ρ1 => body (toLp E R) ρ1)
    (hq : ∀ ρ, I [] ρ → chk ρ ∧ E.nx ρ) : ∀ (ds : List D) (ρ : Rho), I ds ρ → dForL chk g body ds E ρ
  | [], ρ, h => hq ρ h
  | d :: ds, ρ, h => hs d ds ρ _ h fun ρ' h' => for_ind I hs hq ds ρ' h'
/-- a comprehension likewise -/
theorem lc_ind {chk : Rho → Prop} {g : TGD} {tt : TTD} {te : TED} {vs : List Nat} {Q : List D → Rho → Prop} (I : List D → List D → Rho → Prop)
    (hs : ∀ d ds acc ρ (R : List D → Rho → Prop), I (d :: ds) acc ρ → (∀ acc' ρ', I ds acc' ρ' → R acc' ρ') → chk ρ ∧ g d (wipeD ρ vs) fun ρ1 => tt ρ1 (fun b ρ2 => if b = true then te ρ2 (fun y ρ3 => acc.length < sizeLine ∧ R (acc ++ [y]) (wipeD ρ3 vs)) noX else R acc (wipeD ρ2 vs)) noX)
    (hq : ∀ acc ρ, I [] acc ρ → chk ρ ∧ Q acc ρ) : ∀ (ds acc : List D) (ρ : Rho), I ds acc ρ → dLcL chk g tt te vs ds acc ρ Q
  | [], acc, ρ, h => hq acc ρ h
  | d :: ds, acc, ρ, h => hs d ds acc ρ _ h fun acc' ρ' h' => lc_ind I hs hq ds acc' ρ' h'
/-! what is computed -/
variable {bx by_ : Box} {as : List DV} {xo : Option DV} {ods : List Opd} {z : DV}
@[simp ↓] theorem s_fin0 {k : List DV → Prop} : fin [] ρ k = k [] := by unfold fin finA; rfl
@[simp ↓] theorem s_finl {k : List DV → Prop} : fin (.l bx :: as) (some (.l by_) :: ρ) k = fin as ρ fun as' => k (.l by_ :: as') := by
  unfold fin
  show (match (finA as ρ).map (DV.l by_ :: ·) with
    | some as => k as
    | none => False) = _
  cases finA as ρ <;> rfl
@[simp ↓] theorem s_finv {k : List DV → Prop} : fin (.v d :: as) (xo :: ρ) k = fin as ρ fun as' => k (.v d :: as') := by
  unfold fin
  show (match (finA as ρ).map (DV.v d :: ·) with
    | some as => k as
    | none => False) = _
  cases finA as ρ <;> rfl
@[simp] theorem s_CMul : CMul a b = ((-(2 ^ 64) < a ∧ a < 2 ^ 64) ∨ (-(2 ^ 64) < b ∧ b < 2 ^ 64)) := id rfl
@[simp] theorem s_CPow : CPow a b = (0 ≤ b ∧ b ≤ 1000000 ∧ a.natAbs < 2 ^ 64) := id rfl
@[simp] theorem s_startD {args : List DV} : startD n args = args.map some ++ List.replicate (n - args.length) none := id rfl
@[simp] theorem s_wipe0 : wipeD ρ [] = ρ := id rfl
@[simp] theorem s_wipe {vs : List Nat} : wipeD ρ (i :: vs) = wipeD (ρ.set i none) vs := id rfl
section
variable {α : Type} {x0 x1 x2 x3 : α} {l : List α}
theorem atI_n {l : List α} {k : Nat} (h : k < l.length) : atI l (k : Int) = some l[k] := by
  unfold atI ixN
  rw [if_pos (by omega), if_pos (by omega)]
  show l[(k : Int).toNat]? = _
  rw [Int.toNat_natCast]
  exact List.getElem?_eq_getElem h
@[simp] theorem atI0 : atI (x0 :: l) 0 = some x0 := atI_n (l := x0 :: l) (k := 0) (by simp)
@[simp] theorem atI1 : atI (x0 :: x1 :: l) 1 = some x1 := atI_n (l := x0 :: x1 :: l) (k := 1) (by simp)
@[simp] theorem atI2 : atI (x0 :: x1 :: x2 :: l) 2 = some x2 := atI_n (l := x0 :: x1 :: x2 :: l) (k := 2) (by simp)
@[simp] theorem atI3 : atI (x0 :: x1 :: x2 :: x3 :: l) 3 = some x3 := atI_n (l := x0 :: x1 :: x2 :: x3 :: l) (k := 3) (by simp)
theorem toNat_inj {c e : Char} (h : c.toNat = e.toNat) : c = e := Char.ext (UInt32.toNat_inj.mp h)
@[simp] theorem ofS_inj {s t : String} : (Str.ofString s = Str.ofString t) = (s = t) := propext ⟨fun h => by
  rw [Str.ofString_eq_toList, Str.ofString_eq_toList] at h
  injection h with h
  have h2 : s.toList.map Char.toNat = t.toList.map Char.toNat := by simpa using h
  have h3 : s.toList = t.toList := List.map_inj_right (fun a b e => toNat_inj e) |>.mp h2
  exact String.toList_inj.mp h3, fun h => by rw [h]⟩
theorem ofS_beq {s t : String} : (Str.ofString s == Str.ofString t) = decide (s = t) := by
  by_cases h : s = t
  · subst h
    simp
  · have h2 : ¬ Str.ofString s = Str.ofString t := by rw [ofS_inj]; exact h
    rw [decide_eq_false h]
    exact beq_eq_false_iff_ne.mpr h2
@[simp] theorem s_lookup {s t : String} {x : α} {l : List (Str × α)} : List.lookup (Str.ofString s) ((Str.ofString t, x) :: l) = if s = t then some x else List.lookup (Str.ofString s) l := by
  rw [List.lookup_cons, ofS_beq]
  by_cases h : s = t
  · rw [decide_eq_true h, if_pos h]
  · rw [decide_eq_false h, if_neg h]
end
end
end PD
namespace PD
open PySem L2 PySem.Spec PyProof.Rows
section
variable {ρ : Rho} {E : EndsD} {chk : Rho → Prop} {g : TGD} {body : TSD} {d : D} {ds : List D} {tt : TTD} {te : TED} {vs : List Nat} {acc : List D} {Q : List D → Rho → Prop}
@[simp ↓] theorem s_dForL0 : dForL chk g body [] E ρ = (chk ρ ∧ E.nx ρ) := id rfl
@[simp ↓] theorem s_dForLc : dForL chk g body (d :: ds) E ρ = (chk ρ ∧ g d ρ fun ρ1 => body (toLp E (dForL chk g body ds E)) ρ1) := id rfl
@[simp ↓] theorem s_dLcL0 : dLcL chk g tt te vs [] acc ρ Q = (chk ρ ∧ Q acc ρ) := id rfl
@[simp ↓] theorem s_dLcLc : dLcL chk g tt te vs (d :: ds) acc ρ Q = (chk ρ ∧ g d (wipeD ρ vs) fun ρ1 => tt ρ1 (fun b ρ2 => if b = true then te ρ2 (fun y ρ3 => acc.length < sizeLine ∧ dLcL chk g tt te vs ds (acc ++ [y]) (wipeD ρ3 vs) Q) noX else dLcL chk g tt te vs ds acc (wipeD ρ2 vs) Q) noX) := id rfl
end
/-- a comprehension whose turns all begin at one state, by what a turn makes -/
theorem lc_pure {α : Type} {chk : Rho → Prop} {g : TGD} {tt : TTD} {te : TED} {vs : List Nat} {Q : List D → Rho → Prop} (enc : α → D) (f : α → Option D) (ρ : Rho) (hc : chk ρ) :
    ∀ (l : List α) (acc : List D), acc.length + l.length ≤ sizeLine → (∀ a ∈ l, ∀ R : Option D → Rho → Prop, (g (enc a) (wipeD ρ vs) fun ρ1 => tt ρ1 (fun b ρ2 => if b = true then te ρ2 (fun y ρ3 => R (some y) (wipeD ρ3 vs)) noX else R none (wipeD ρ2 vs)) noX) = R (f a) ρ) →
    dLcL chk g tt te vs (l.map enc) acc ρ Q = Q (acc ++ l.filterMap f) ρ
  | [], acc, _, _ => by simp [hc]
  | a :: l, acc, hl, hs => by
    have e := hs a List.mem_cons_self fun o ρ' => match o with
      | some y => acc.length < sizeLine ∧ dLcL chk g tt te vs (l.map enc) (acc ++ [y]) ρ' Q
      | none => dLcL chk g tt te vs (l.map enc) acc ρ' Q
    rw [List.map_cons, s_dLcLc]
    simp only [List.length_cons] at hl
    have hlt : acc.length < sizeLine := by omega
    have ih := fun acc h => lc_pure (Q := Q) enc f ρ hc l acc h fun b hb => hs b (List.mem_cons_of_mem _ hb)
    refine (and_iff_right hc |> propext).trans (Eq.trans e ?_)
    rw [List.filterMap_cons]
    cases z : f a with
    | none =>
      dsimp only
      rw [ih acc (by omega)]
    | some y =>
      dsimp only
      rw [ih (acc ++ [y]) (by rw [List.length_append]; simp; omega), List.append_assoc]
      simp [hlt]
end PD
namespace PD
open PySem L2 PySem.Spec PyProof.Rows
section
variable {E : EndsD} {chk : Rho → Prop} {g : TGD} {body : TSD} {tt : TTD} {te : TED} {vs : List Nat} {Q : List D → Rho → Prop}
/-- a loop over a list, by what it comes to from each state -/
theorem for_eq {α σ : Type} (enc : α → D) (st : σ → Rho) (val : List α → σ → Prop) (h0 : ∀ s, (chk (st s) ∧ E.nx (st s) ↔ val [] s))
    (hs : ∀ a l s (R : Rho → Prop), (∀ s', R (st s') ↔ val l s') → ((chk (st s) ∧ g (enc a) (st s) fun ρ1 => body (toLp E R) ρ1) ↔ val (a :: l) s)) :
    ∀ (l : List α) (s : σ), dForL chk g body (l.map enc) E (st s) ↔ val l s
  | [], s => h0 s
  | a :: l, s => hs a l s _ fun s' => for_eq enc st val h0 hs l s'
/-- with an invariant -/
theorem for_eqI {α σ : Type} (enc : α → D) (st : σ → Rho) (I : List α → σ → Prop) (val : List α → σ → Prop) (h0 : ∀ s, I [] s → (chk (st s) ∧ E.nx (st s) ↔ val [] s))
    (hs : ∀ a l s (R : Rho → Prop), I (a :: l) s → (∀ s', I l s' → (R (st s') ↔ val l s')) → ((chk (st s) ∧ g (enc a) (st s) fun ρ1 => body (toLp E R) ρ1) ↔ val (a :: l) s)) :
    ∀ (l : List α) (s : σ), I l s → (dForL chk g body (l.map enc) E (st s) ↔ val l s)
  | [], s, h => h0 s h
  | a :: l, s, h => hs a l s _ h fun s' h' => for_eqI enc st I val h0 hs l s' h'
theorem lc_eq {α σ : Type} (enc : α → D) (st : σ → Rho) (val : List α → List D → σ → Prop) (h0 : ∀ acc s, (chk (st s) ∧ Q acc (st s) ↔ val [] acc s))
    (hs : ∀ a l acc s (R : List D → Rho → Prop), (∀ acc' s', R acc' (st s') ↔ val l acc' s') →
      ((chk (st s) ∧ g (enc a) (wipeD (st s) vs) fun ρ1 => tt ρ1 (fun b ρ2 => if b = true then te ρ2 (fun y ρ3 => acc.length < sizeLine ∧ R (acc ++ [y]) (wipeD ρ3 vs)) noX else R acc (wipeD ρ2 vs)) noX) ↔ val (a :: l) acc s)) :
    ∀ (l : List α) (acc : List D) (s : σ), dLcL chk g tt te vs (l.map enc) acc (st s) Q ↔ val l acc s
  | [], acc, s => h0 acc s
  | a :: l, acc, s => hs a l acc s (fun acc' ρ' => dLcL chk g tt te vs (l.map enc) acc' ρ' Q) fun acc' s' => lc_eq enc st val h0 hs l acc' s'
end
end PD
namespace PD
open PySem L2 PySem.Spec PyProof.Rows
/-- a comprehension that makes some list or other -/
theorem lc_any {β : Type} {chk : Rho → Prop} {g : TGD} {tt : TTD} {te : TED} {vs : List Nat} {Q : List D → Rho → Prop} (enc : β → D) (P : β → Prop) (ρ : Rho) (hc : chk ρ) :
    ∀ (l acc : List D), acc.length + l.length ≤ sizeLine →
    (∀ d ∈ l, ∀ (R : D → Rho → Prop) (S : Rho → Prop), (∀ b, P b → R (enc b) ρ) → g d (wipeD ρ vs) fun ρ1 => tt ρ1 (fun b ρ2 => if b = true then te ρ2 (fun y ρ3 => R y (wipeD ρ3 vs)) noX else S (wipeD ρ2 vs)) noX) →
    (∀ bs : List β, bs.length = l.length → (∀ b ∈ bs, P b) → Q (acc ++ bs.map enc) ρ) → dLcL chk g tt te vs l acc ρ Q
  | [], acc, _, _, hq => by
    have := hq [] rfl (by simp)
    simpa [hc] using this
  | d :: l, acc, hl, hs, hq => by
    rw [s_dLcLc]
    simp only [List.length_cons] at hl
    refine ⟨hc, hs d List.mem_cons_self (fun y ρ' => acc.length < sizeLine ∧ dLcL chk g tt te vs l (acc ++ [y]) ρ' Q) (fun ρ' => dLcL chk g tt te vs l acc ρ' Q) fun b hb => ⟨by omega, ?_⟩⟩
    refine lc_any enc P ρ hc l (acc ++ [enc b]) (by rw [List.length_append]; simp; omega) (fun d hd => hs d (List.mem_cons_of_mem _ hd)) fun bs hbs hP => ?_
    have := hq (b :: bs) (by simp [hbs]) (fun c hc => (List.mem_cons.mp hc).elim (fun h => h ▸ hb) (hP c))
    simpa using this
theorem rangeD_len {lo : Int} {n : Nat} : (rangeD lo n).length = n := by unfold rangeD; simp
end PD
set_option maxHeartbeats 1000000
namespace PD
open PySem L2 PySem.Spec PyProof.Rows
@[simp] theorem sizeLine_is : sizeLine = 16777216 := id rfl
/-! ### data that compare -/
theorem strOk_of (s : String) : PyData.strOk (Str.ofString s) = true := by
  rw [Str.ofString_eq_toList]
  unfold PyData.strOk
  rw [Array.all_eq_true]
  intro i hi
  have h2 : i < s.toList.length := by simpa using hi
  have hv : (s.toList[i]).toNat < 0x110000 := by
    have v := (s.toList[i]).valid
    rcases v with v | v
    · exact Nat.lt_trans v (by decide)
    · exact v.2
  simpa using hv
mutual
/-- data of this depth at most -/
def shD : Nat → D → Bool
  | _, .non => true
  | _, .bl _ => true
  | _, .int _ => true
  | _, .str s => PyData.strOk s
  | n + 1, .tup xs => shDs n xs
  | n + 1, .lst xs => shDs n xs
  | _, _ => false
def shDs : Nat → List D → Bool
  | _, [] => true
  | n, x :: xs => shD n x && shDs n xs
end
mutual
theorem shD_ok : ∀ {n : Nat} {d : D}, shD n d = true → d.py.canLay0 = true ∧ d.py.depth ≤ n
  | n, .non, _ => by refine ⟨?_, ?_⟩ <;> simp [D.py, PyData.canLay0, PyData.depth]
  | n, .bl _, _ => by refine ⟨?_, ?_⟩ <;> simp [D.py, PyData.canLay0, PyData.depth]
  | n, .int _, _ => by refine ⟨?_, ?_⟩ <;> simp [D.py, PyData.canLay0, PyData.depth]
  | n, .str s, h => by
    have h' : PyData.strOk s = true := by simpa [shD] using h
    refine ⟨?_, ?_⟩ <;> simp [D.py, PyData.canLay0, PyData.depth, h']
  | n + 1, .tup xs, h => by
    have h' : shDs n xs = true := by simpa [shD] using h
    obtain ⟨a, b⟩ := shDs_ok h'
    refine ⟨?_, ?_⟩
    · simpa [D.py, PyData.canLay0] using a
    · simpa [D.py, PyData.depth] using b
  | n + 1, .lst xs, h => by
    have h' : shDs n xs = true := by simpa [shD] using h
    obtain ⟨a, b⟩ := shDs_ok h'
    refine ⟨?_, ?_⟩
    · simpa [D.py, PyData.canLay0] using a
    · simpa [D.py, PyData.depth] using b
  | 0, .tup xs, h => by simp [shD] at h
  | 0, .lst xs, h => by simp [shD] at h
  | _, .dic _, h => by simp [shD] at h
  | _, .ins _ _, h => by simp [shD] at h
  | _, .obj _, h => by simp [shD] at h
  | _, .exn _ _ _ _, h => by simp [shD] at h
  | _, .stm, h => by simp [shD] at h
  | _, .scr _, h => by simp [shD] at h
  | _, .fn _, h => by simp [shD] at h
theorem shDs_ok : ∀ {n : Nat} {ds : List D}, shDs n ds = true → PyData.canLayAll0 (D.pyL ds) = true ∧ PyData.depthAll (D.pyL ds) ≤ n
  | n, [], _ => by refine ⟨?_, ?_⟩ <;> simp [D.pyL, PyData.canLayAll0, PyData.depthAll]
  | n, x :: xs, h => by
    have h' : shD n x = true ∧ shDs n xs = true := by simpa [shDs] using h
    obtain ⟨a, b⟩ := shD_ok h'.1
    obtain ⟨c, e⟩ := shDs_ok h'.2
    refine ⟨?_, ?_⟩
    · simp [D.pyL, PyData.canLayAll0, a, c]
    · simp [D.pyL, PyData.depthAll, Nat.max_le, b, e]
end
/-- a thing's depth as told is enough -/
theorem shaped_of {d : D} (h : shD 64 d = true) : SeqAt.shaped d.py = true := by
  obtain ⟨a, b⟩ := shD_ok h
  unfold SeqAt.shaped
  simp [a, b]
def eqvD (d e : D) : Bool := PyData.eqv d.py e.py
def eqvDs (a b : List D) : Bool := PyData.eqvAll (D.pyL a) (D.pyL b)
section
variable {x y : D} {xs ys : List D} {n : Nat} {i j : Int} {a b : Bool} {s t : Str} {P : D → Prop}
@[simp] theorem sh_n : shD n .non = true := by unfold shD; rfl
@[simp] theorem sh_b : shD n (.bl a) = true := by unfold shD; rfl
@[simp] theorem sh_i : shD n (.int i) = true := by unfold shD; rfl
@[simp] theorem sh_s {s : String} : shD n (.str (Str.ofString s)) = true := by unfold shD; exact strOk_of s
@[simp] theorem sh_t : shD (n + 1) (.tup xs) = shDs n xs := by conv => lhs; unfold shD
@[simp] theorem sh_l : shD (n + 1) (.lst xs) = shDs n xs := by conv => lhs; unfold shD
@[simp] theorem shs_n : shDs n [] = true := by unfold shDs; rfl
@[simp] theorem shs_c : shDs n (x :: xs) = (shD n x && shDs n xs) := by conv => lhs; unfold shDs
theorem shDs_all : shDs n xs = true ↔ ∀ x ∈ xs, shD n x = true := by
  induction xs with
  | nil => simp
  | cons x xs ih => simp [ih]
theorem shDs_map {α : Type} {enc : α → D} {l : List α} (h : ∀ a, shD n (enc a) = true) : shDs n (l.map enc) = true := by
  rw [shDs_all]
  intro x hx
  obtain ⟨a, _, rfl⟩ := List.mem_map.mp hx
  exact h a
@[simp] theorem shs_app : shDs n (xs ++ ys) = (shDs n xs && shDs n ys) := by
  induction xs with
  | nil => simp
  | cons x xs ih => simp [ih, Bool.and_assoc]
@[simp] theorem shs_ints {l : List Int} : shDs n (l.map D.int) = true := shDs_map fun _ => sh_i
@[simp] theorem ev_nn : eqvD .non .non = true := by simp [eqvD, D.py, PyData.eqv]
@[simp] theorem ev_bb : eqvD (.bl a) (.bl b) = decide (a = b) := by cases a <;> cases b <;> rfl
@[simp] theorem ev_ii : eqvD (.int i) (.int j) = decide (i = j) := by by_cases h : i = j <;> simp [eqvD, D.py, PyData.eqv, h]
@[simp] theorem ev_ib : eqvD (.int i) (.bl b) = decide (i = if b then 1 else 0) := by cases b <;> (by_cases h : i = 0 <;> by_cases h2 : i = 1 <;> simp_all [eqvD, D.py, PyData.eqv])
@[simp] theorem ev_bi : eqvD (.bl b) (.int i) = decide ((if b then 1 else 0) = i) := by cases b <;> (by_cases h : (0:Int) = i <;> by_cases h2 : (1:Int) = i <;> simp_all [eqvD, D.py, PyData.eqv])
@[simp] theorem ev_ss : eqvD (.str s) (.str t) = decide (s = t) := by by_cases h : s = t <;> simp [eqvD, D.py, PyData.eqv, h]
@[simp] theorem ev_tt : eqvD (.tup xs) (.tup ys) = eqvDs xs ys := by simp [eqvD, eqvDs, D.py, PyData.eqv]
@[simp] theorem ev_ll : eqvD (.lst xs) (.lst ys) = eqvDs xs ys := by simp [eqvD, eqvDs, D.py, PyData.eqv]
@[simp] theorem ev_ni : eqvD .non (.int i) = false := by simp [eqvD, D.py, PyData.eqv]
@[simp] theorem ev_in : eqvD (.int i) .non = false := by simp [eqvD, D.py, PyData.eqv]
@[simp] theorem ev_nb : eqvD .non (.bl a) = false := by simp [eqvD, D.py, PyData.eqv]
@[simp] theorem ev_bn : eqvD (.bl a) .non = false := by simp [eqvD, D.py, PyData.eqv]
@[simp] theorem ev_ns : eqvD .non (.str s) = false := by simp [eqvD, D.py, PyData.eqv]
@[simp] theorem ev_sn : eqvD (.str s) .non = false := by simp [eqvD, D.py, PyData.eqv]
@[simp] theorem ev_nt : eqvD .non (.tup xs) = false := by simp [eqvD, D.py, PyData.eqv]
@[simp] theorem ev_tn : eqvD (.tup xs) .non = false := by simp [eqvD, D.py, PyData.eqv]
@[simp] theorem ev_nl : eqvD .non (.lst xs) = false := by simp [eqvD, D.py, PyData.eqv]
@[simp] theorem ev_ln : eqvD (.lst xs) .non = false := by simp [eqvD, D.py, PyData.eqv]
@[simp] theorem ev_is : eqvD (.int i) (.str s) = false := by simp [eqvD, D.py, PyData.eqv]
@[simp] theorem ev_si : eqvD (.str s) (.int i) = false := by simp [eqvD, D.py, PyData.eqv]
@[simp] theorem ev_it : eqvD (.int i) (.tup xs) = false := by simp [eqvD, D.py, PyData.eqv]
@[simp] theorem ev_ti : eqvD (.tup xs) (.int i) = false := by simp [eqvD, D.py, PyData.eqv]
@[simp] theorem ev_il : eqvD (.int i) (.lst xs) = false := by simp [eqvD, D.py, PyData.eqv]
@[simp] theorem ev_li : eqvD (.lst xs) (.int i) = false := by simp [eqvD, D.py, PyData.eqv]
@[simp] theorem ev_bs : eqvD (.bl a) (.str s) = false := by simp [eqvD, D.py, PyData.eqv]
@[simp] theorem ev_sb : eqvD (.str s) (.bl a) = false := by simp [eqvD, D.py, PyData.eqv]
@[simp] theorem ev_bt : eqvD (.bl a) (.tup xs) = false := by simp [eqvD, D.py, PyData.eqv]
@[simp] theorem ev_tb : eqvD (.tup xs) (.bl a) = false := by simp [eqvD, D.py, PyData.eqv]
@[simp] theorem ev_bl : eqvD (.bl a) (.lst xs) = false := by simp [eqvD, D.py, PyData.eqv]
@[simp] theorem ev_lb : eqvD (.lst xs) (.bl a) = false := by simp [eqvD, D.py, PyData.eqv]
@[simp] theorem ev_st : eqvD (.str s) (.tup xs) = false := by simp [eqvD, D.py, PyData.eqv]
@[simp] theorem ev_ts : eqvD (.tup xs) (.str s) = false := by simp [eqvD, D.py, PyData.eqv]
@[simp] theorem ev_sl : eqvD (.str s) (.lst xs) = false := by simp [eqvD, D.py, PyData.eqv]
@[simp] theorem ev_ls : eqvD (.lst xs) (.str s) = false := by simp [eqvD, D.py, PyData.eqv]
@[simp] theorem ev_tl : eqvD (.tup ys) (.lst xs) = false := by simp [eqvD, D.py, PyData.eqv]
@[simp] theorem ev_lt : eqvD (.lst xs) (.tup ys) = false := by simp [eqvD, D.py, PyData.eqv]
@[simp] theorem evs_nn : eqvDs [] [] = true := by simp [eqvDs, D.pyL, PyData.eqvAll]
@[simp] theorem evs_cc : eqvDs (x :: xs) (y :: ys) = (eqvD x y && eqvDs xs ys) := by simp [eqvDs, eqvD, D.pyL, PyData.eqvAll]
@[simp] theorem evs_cn : eqvDs (x :: xs) [] = false := by simp [eqvDs, eqvD, D.pyL, PyData.eqvAll]
@[simp] theorem evs_nc : eqvDs [] (y :: ys) = false := by simp [eqvDs, eqvD, D.pyL, PyData.eqvAll]
theorem evs_map {α : Type} [DecidableEq α] {enc : α → D} (h : ∀ a b, eqvD (enc a) (enc b) = decide (a = b)) : ∀ {l m : List α}, eqvDs (l.map enc) (m.map enc) = decide (l = m)
  | [], [] => by simp
  | [], _ :: _ => by simp
  | _ :: _, [] => by simp
  | a :: l, b :: m => by simp [h, evs_map h (l := l) (m := m)]
@[simp] theorem evs_ints {l m : List Int} : eqvDs (l.map D.int) (m.map D.int) = decide (l = m) := evs_map fun _ _ => ev_ii
theorem eqv_sym : ∀ {x y : PyData}, PyData.eqv x y = PyData.eqv y x ∧ True := fun {x y} => ⟨by
  have key : ∀ x y : PyData, PyData.eqv x y = PyData.eqv y x := by
    intro x
    refine PyData.rec (motive_1 := fun x => ∀ y, PyData.eqv x y = PyData.eqv y x) (motive_2 := fun l => ∀ m, PyData.eqvAll l m = PyData.eqvAll m l) (motive_3 := fun _ => True) (motive_4 := fun _ => True) ?_ ?_ ?_ ?_ ?_ ?_ ?_ ?_ ?_ ?_ ?_ ?_ x
    · intro y; cases y <;> simp [PyData.eqv]
    · intro b y; cases y <;> simp [PyData.eqv, Bool.beq_comm] <;> (cases b <;> simp [BEq.comm])
    · intro b y; cases y <;> simp [PyData.eqv, BEq.comm]
    · intro b y; cases y <;> simp [PyData.eqv, BEq.comm]
    · intro l ih y; cases y <;> simp [PyData.eqv, ih]
    · intro l ih y; cases y <;> simp [PyData.eqv, ih]
    · intro l ih y; cases y <;> simp [PyData.eqv]
    · intro m; cases m <;> simp [PyData.eqvAll]
    · intro a l h1 h2 m; cases m <;> simp [PyData.eqvAll, h1, h2]
    · trivial
    · intros; trivial
    · intros; trivial
  exact key x y, trivial⟩
/-! readings of == and in -/
@[simp ↓] theorem s_fEqTT (h1 : shD 64 (.tup xs) = true) (h2 : shD 64 (.tup ys) = true) : fEq (.tup xs) (.tup ys) P = P (.bl (eqvDs xs ys)) := by
  rw [← ev_tt]
  exact propext ⟨fun h => h.2.2, fun h => ⟨shaped_of h1, shaped_of h2, h⟩⟩
@[simp ↓] theorem s_fEqLL (h1 : shD 64 (.lst xs) = true) (h2 : shD 64 (.lst ys) = true) : fEq (.lst xs) (.lst ys) P = P (.bl (eqvDs xs ys)) := by
  rw [← ev_ll]
  exact propext ⟨fun h => h.2.2, fun h => ⟨shaped_of h1, shaped_of h2, h⟩⟩
/-- by data alike -/
theorem fEq_of (h1 : shD 64 x = true) (h2 : shD 64 y = true) : fEq x y P = P (.bl (eqvD x y)) := by
  have gen : (SeqAt.shaped x.py = true ∧ SeqAt.shaped y.py = true ∧ P (.bl (PyData.eqv x.py y.py))) = P (.bl (eqvD x y)) := propext ⟨fun h => h.2.2, fun h => ⟨shaped_of h1, shaped_of h2, h⟩⟩
  cases x <;> cases y <;> first | exact gen | (simp [s_fEqI, s_fEqB, s_fEqS, s_fEqNI, s_fEqIN, s_fEqNN]; done) | (simp [shD] at h1; done) | (simp [shD] at h2; done)
@[simp] theorem fl_n : flatD .non = true := id rfl
@[simp] theorem fl_b : flatD (.bl a) = true := id rfl
@[simp] theorem fl_i : flatD (.int i) = true := id rfl
@[simp] theorem fl_s : flatD (.str s) = true := id rfl
@[simp] theorem fl_ints {l : List Int} : (l.map D.int).all flatD = true := by simp [List.all_map, Function.comp_def]
theorem eqD_eqv (h1 : flatD x = true) (h2 : flatD y = true) : eqD x y = eqvD x y := by
  cases x <;> cases y <;> first | (cases h1; done) | (cases h2; done) | (simp [eqD, eqvD, D.py, PyData.eqv]; done) | (simp [eqD]; done) | skip
  all_goals first | (rename_i a b; cases a <;> cases b <;> rfl) | (rename_i a b; by_cases h : a = b <;> simp [eqD, eqvD, D.py, PyData.eqv, h])
/-- some item is alike -/
def inE (x : D) (xs : List D) : Bool := xs.any fun z => eqvD z x
@[simp] theorem inE_n : inE x [] = false := id rfl
@[simp] theorem inE_c : inE x (y :: ys) = (eqvD y x || inE x ys) := id rfl
theorem inE_map {α : Type} [DecidableEq α] {enc : α → D} (h : ∀ a b, eqvD (enc a) (enc b) = decide (a = b)) {a : α} {l : List α} : inE (enc a) (l.map enc) = decide (a ∈ l) := by
  unfold inE
  induction l with
  | nil => simp
  | cons b l ih =>
    rw [List.map_cons, List.any_cons, ih, h]
    by_cases e : a = b
    · simp [e]
    · have e' : ¬ b = a := fun z => e z.symm
      simp [e, e']
@[simp] theorem inE_ints {l : List Int} : inE (.int i) (l.map D.int) = decide (i ∈ l) := inE_map fun _ _ => ev_ii
theorem inD_inE (h1 : flatD x = true) (h2 : xs.all flatD = true) : inD x xs = inE x xs := by
  unfold inD inE
  induction xs with
  | nil => rfl
  | cons y ys ih =>
    simp only [List.all_cons, Bool.and_eq_true] at h2
    rw [List.any_cons, List.any_cons, ih h2.2, eqD_eqv h2.1 h1]
@[simp ↓] theorem s_fInL (h1 : flatD x = true) (h2 : xs.all flatD = true) : fIn x (.lst xs) P = P (.bl (inE x xs)) := by
  have e : fIn x (.lst xs) P = ((flatD x = true ∧ xs.all flatD = true ∧ P (.bl (inD x xs))) ∨ (SeqAt.shaped x.py = true ∧ SeqAt.shaped (D.lst xs).py = true ∧ P (.bl (xs.any fun z => PyData.eqv z.py x.py)))) := by cases x <;> rfl
  rw [e, inD_inE h1 h2]
  exact propext ⟨fun h => h.elim (fun h => h.2.2) fun h => h.2.2, fun h => .inl ⟨h1, h2, h⟩⟩
theorem s_fInLs (h1 : shD 64 x = true) (h2 : shD 64 (.lst xs) = true) : fIn x (.lst xs) P = P (.bl (inE x xs)) := by
  have e : fIn x (.lst xs) P = ((flatD x = true ∧ xs.all flatD = true ∧ P (.bl (inD x xs))) ∨ (SeqAt.shaped x.py = true ∧ SeqAt.shaped (D.lst xs).py = true ∧ P (.bl (xs.any fun z => PyData.eqv z.py x.py)))) := by cases x <;> rfl
  rw [e]
  refine propext ⟨fun h => h.elim (fun h => ?_) fun h => h.2.2, fun h => .inr ⟨shaped_of h1, shaped_of h2, h⟩⟩
  rw [inD_inE h.1 h.2.1] at h
  exact h.2.2
@[simp ↓] theorem s_fInT (h1 : flatD x = true) (h2 : xs.all flatD = true) : fIn x (.tup xs) P = P (.bl (inE x xs)) := by
  have e : fIn x (.tup xs) P = (flatD x = true ∧ xs.all flatD = true ∧ P (.bl (inD x xs))) := by cases x <;> rfl
  rw [e, inD_inE h1 h2]
  exact propext ⟨fun h => h.2.2, fun h => ⟨h1, h2, h⟩⟩
end
theorem enumD_map {α : Type} {enc : α → D} {l : List α} : enumD (l.map enc) = l.zipIdx.map fun p => D.tup [.int ((p.2 : Nat) : Int), enc p.1] := by
  unfold enumD
  rw [List.zipIdx_map, List.map_map]
  rfl
theorem log2_lt {n : Nat} (h : n < 2 ^ 256) : n.log2 < 9000 := by
  by_cases h0 : n = 0
  · subst h0; decide
  · have := (Nat.log2_lt h0 (k := 256)).mpr h
    omega
@[simp] theorem s_CDivW {i j : Int} : CDivW i j = (0 < j ∧ j.natAbs.log2 < 9000) := id rfl
@[simp] theorem lt_log2 {n : Nat} (h : n < 2 ^ 256) : (n.log2 < 9000) = True := by simp [log2_lt h]
@[simp] theorem atI_nat {α : Type} {l : List α} {i : Nat} : atI l (i : Int) = l[i]? := by
  by_cases h : i < l.length
  · rw [atI_n h, List.getElem?_eq_getElem h]
  · unfold atI ixN
    rw [if_pos (by omega), if_neg (by omega), List.getElem?_eq_none (by omega)]
    rfl
@[simp] theorem rg_z {lo : Int} : rangeD lo 0 = [] := by simp [rangeD]
theorem rg_s {lo : Int} {n : Nat} : rangeD lo (n + 1) = .int lo :: rangeD (lo + 1) n := by
  unfold rangeD
  rw [List.range_succ_eq_map]
  simp [List.map_map, Function.comp_def]
  intro a _
  omega
end PD
set_option maxHeartbeats 2000000
namespace PD
open PySem PySem.Spec PyProof.Rows L2 He
/-! ### defs that stand behind a property, a classmethod -/
structure ReD where
  ad : PySem.W.Frag → Addr
  name : Str
  qual : Str
  params : Arguments
  body : List Stmt
  scope : Scope
  dfl : List Dv := []
def fnWA (K : PySem.W.Frag) (a : Addr) : FnW := match K.lookup a with
  | some ⟨_, _, .func fd, _⟩ => some (fd.name, fd.qualname, fd.params, fd.body, fd.scope, fd.globals, fd.closure, fd.builtins)
  | _ => none
def ReD.val (d : ReD) : FnW := some (d.name, d.qual, d.params, .stmts d.body, d.scope, mainGlobals, [], builtinsNs)
def ReD.dvs (K : PySem.W.Frag) (d : ReD) : List V := d.dfl.map (Dv.v K)
def ReD.ok (K : PySem.W.Frag) (d : ReD) : Bool := PySem.W.keepIn K (.ref (d.ad K)) && (match K.lookup (d.ad K) with
  | some ⟨_, _, .func fd, _⟩ => PySem.W.codeIn K fd.code d.qual && (dflB K fd.defaults (d.dvs K) && kwdB K fd.kwdefaults [])
  | _ => false)
theorem ReD.funD {K : PySem.W.Frag} {d : ReD} (e : fnWA K (d.ad K) = d.val) (c : d.ok K = true) : ∃ fd, FunD K d.name d.qual d.params d.body d.scope (d.dvs K) [] (d.ad K) fd := by
  obtain ⟨kp, c2⟩ := ba c
  unfold fnWA at e
  cases q : K.lookup (d.ad K) with
  | none =>
    rw [q] at c2
    cases c2
  | some o =>
    obtain ⟨oc, od, dt, osl⟩ := o
    rw [q] at c2 e
    cases dt with
    | func fd =>
      obtain ⟨n1, n2, n3, n4, n5, n6, n7, n8, n9, n10, n11, n12, n13, n14, n15⟩ := fd
      have e2 : (some (n1, n2, n3, n4, n5, n6, n7, n15) : FnW) = some (d.name, d.qual, d.params, .stmts d.body, d.scope, mainGlobals, [], builtinsNs) := e
      simp only [Option.some.injEq, Prod.mk.injEq] at e2
      obtain ⟨h1, h2, h3, h4, h5, h6, h7, h8⟩ := e2
      subst h1 h2 h3 h4 h5 h6 h7 h8
      have c3 : (PySem.W.codeIn K n13 d.qual && (dflB K n8 (d.dvs K) && kwdB K n9 [])) = true := c2
      obtain ⟨k1, k2⟩ := ba c3
      obtain ⟨k3, k4⟩ := ba k2
      exact ⟨_, ⟨oc, od, n8, n9, n10, n11, n12, n13, n14, osl, rfl, q, k1, dflB_ok k3, kwdB_ok k4⟩, kp⟩
    | _ => cases c2
/-! ### the Hook -/
structure SaysP (fa : List Fa) (fn : List DefD) (ts : List Tab) (ex : PySem.W.Frag → Bool) (rs : List ReD) (w : World) (h : Heap) (K : PySem.W.Frag) : Prop where
  x : SaysX fa fn ts [] ex w h K
  ok : ∀ r ∈ rs, r.ok K = true
  at_ : rs.map (fun r => fnWA K (r.ad K)) = rs.map ReD.val
abbrev AlP : Type := AlT × (Bool × (Bool × List FnW))
/-- what is looked at: what the globals lead to, the statics -/
def asP (g : Addr → Option Obj) (n : Nat) : List Addr := asD g n ++ [cStatics]
def frP (g : Addr → Option Obj) (n : Nat) : PySem.W.Frag := frT g (asP g n)
def obsP (n : Nat) (fa : List Fa) (fn : List DefD) (ts : List Tab) (ex : PySem.W.Frag → Bool) (rs : List ReD) (g : Addr → Option Obj) : AlP :=
  (obsT fa fn ts (frP g n), ex (frP g n), (rs.all fun r => r.ok (frP g n)), rs.map fun r => fnWA (frP g n) (r.ad (frP g n)))
def valP (fn : List DefD) (ts : List Tab) (rs : List ReD) (w : World) : AlP := (valT fn ts w, true, true, rs.map ReD.val)
def hookP (n : Nat) (fa : List Fa) (fn : List DefD) (ts : List Tab) (ex : PySem.W.Frag → Bool) (rs : List ReD) : PySem.W.Hook where
  α := AlP
  obs := fun s => obsP n fa fn ts ex rs s.heap.get?
  val := fun w => valP fn ts rs w
  says := fun w h => ∃ K : PySem.W.Frag, K.In h ∧ SaysP fa fn ts ex rs w h K
  of := fun _ _ e => ⟨_, frT_in, ⟨congrArg (fun z : AlP => z.1) e, congrArg (fun z : AlP => z.2.1) e, (fun p hp => by cases hp), (fun p hp => by cases hp), fun p hp => by cases hp⟩,
    fun r hr => List.all_eq_true.mp (show (rs.all fun r => r.ok _) = true from congrArg (fun z : AlP => z.2.2.1) e) r hr, congrArg (fun z : AlP => z.2.2.2) e⟩
  keeps := fun _ _ _ ⟨K, hK, c⟩ k => ⟨K, PySem.W.Frag.In.keeps hK k, ⟨⟨c.x.t, c.x.more, c.x.hd, c.x.out, fun p hp => k _ _ (c.x.empty p hp)⟩, c.ok, c.at_⟩⟩
theorem obsP_eq {n : Nat} {fa : List Fa} {fn : List DefD} {ts : List Tab} {ex : PySem.W.Frag → Bool} {rs : List ReD} {g : Addr → Option Obj} {s : Shared} (h : ∀ a, g a = s.heap.get? a) : obsP n fa fn ts ex rs g = (hookP n fa fn ts ex rs).obs s := by
  have e : g = s.heap.get? := funext h
  rw [e] <;> rfl
theorem SaysP.def_ {fa : List Fa} {fn : List DefD} {ts : List Tab} {ex : PySem.W.Frag → Bool} {rs : List ReD} {w : World} {h : Heap} {K : PySem.W.Frag} (c : SaysP fa fn ts ex rs w h K) (i : Nat) {d : ReD} (e : rs[i]? = some d := by rfl) :
    ∃ fd, FunD K d.name d.qual d.params d.body d.scope (d.dvs K) [] (d.ad K) fd := by
  have e1 : (rs.map (fun r => fnWA K (r.ad K)))[i]? = (rs.map ReD.val)[i]? := by rw [c.at_]
  rw [List.getElem?_map, List.getElem?_map, e] at e1
  exact ReD.funD (Option.some.inj e1) (c.ok d (List.mem_of_getElem? e))
/-! ### properties -/
/-- what stands behind the property f of C -/
def pg (K : PySem.W.Frag) (C : Addr) (f : Str) : Addr := match PySem.W.recIn K (ma K C f) "property" with
  | some (.ref g :: _) => g
  | _ => 0
def propB (K : PySem.W.Frag) (C : Addr) (f : Str) : Bool := eqO (PySem.W.findIn K (.ref C) f) (some (some (.ref (ma K C f)))) && (eqO (PySem.W.specialIn K (.ref (ma K C f)) "__get__") (some (some (.builtin "property.__get__"))) &&
  (decide (PySem.W.takesIn K (.ref (ma K C f)) = some true) && (match PySem.W.recIn K (ma K C f) "property" with
    | some (.ref _ :: _) => true
    | _ => false)))
theorem prop_ok {K : PySem.W.Frag} {C : Addr} {f : Str} (h : propB K C f = true) : PropOf K C f (ma K C f) (pg K C f) := by
  obtain ⟨h1, h⟩ := ba h
  obtain ⟨h2, h⟩ := ba h
  obtain ⟨h3, h4⟩ := ba h
  refine ⟨eqO_ok h1, eqO_ok h2, of_decide_eq_true h3, ?_⟩
  unfold pg
  cases q : PySem.W.recIn K (ma K C f) "property" with
  | none => rw [q] at h4; cases h4
  | some l =>
    rw [q] at h4
    cases l with
    | nil => cases h4
    | cons v r =>
      cases v with
      | ref g => exact ⟨r, rfl⟩
      | _ => cases h4
end PD
set_option maxHeartbeats 1000000
namespace PD
open PySem L2 PySem.Spec PyProof.Rows
/-! ### dicts -/
def keyD : D → Option Key
  | .int i => some (.inl i)
  | .str s => some (.inr s)
  | _ => none
theorem keyD_V {K : PySem.W.Frag} {F : Fz} {v : V} {d : D} {k : Key} (h : Den K F v d) (e : keyD d = some k) : v = kV k := by
  cases h <;> cases e <;> rfl
theorem seeKey {K : PySem.W.Frag} {F : Fz} {H : Hp} {v : V} {d : D} {k : Key} (s : See K F H v d) (e : keyD d = some k) : v = kV k := by
  rcases s with s | ⟨R, b, _, hb⟩
  · exact keyD_V s e
  · cases b <;> cases hb <;> cases e
def valD : List (Key × D) → Key → Option D
  | [], _ => none
  | (j, d) :: r, k => if j = k then some d else valD r k
def putDK : List (Key × D) → Key → D → List (Key × D)
  | [], k, x => [(k, x)]
  | (j, d) :: r, k, x => if j = k then (j, x) :: r else (j, d) :: putDK r k x
/-- no key stands twice -/
def Uniq {α : Type} (l : List (Key × α)) : Prop := (l.map (·.1)).Nodup
theorem valD_some {K : PySem.W.Frag} {F : Fz} {k : Key} {d : D} : ∀ {vs : List (Key × V)} {ds : List (Key × D)}, DenK K F vs ds → valD ds k = some d → ∃ v, valV vs k = some v ∧ Den K F v d
  | _, _, .nil, e => by cases e
  | _, _, .cons (k := j) (v := v) (vs := vs) q r, e => by
    unfold valD at e
    by_cases h : j = k
    · rw [if_pos h] at e
      cases e
      exact ⟨v, valV_pos (p := (j, v)) h, q⟩
    · rw [if_neg h] at e
      obtain ⟨u, e1, e2⟩ := valD_some r e
      exact ⟨u, by rw [valV_neg (p := (j, v)) h]; exact e1, e2⟩
theorem valD_none {K : PySem.W.Frag} {F : Fz} {k : Key} : ∀ {vs : List (Key × V)} {ds : List (Key × D)}, DenK K F vs ds → valD ds k = none → valV vs k = none
  | _, _, .nil, _ => rfl
  | _, _, .cons (k := j) (v := v) (vs := vs) q r, e => by
    unfold valD at e
    by_cases h : j = k
    · rw [if_pos h] at e; cases e
    · rw [if_neg h] at e
      rw [valV_neg (p := (j, v)) h]
      exact valD_none r e
theorem valD_isSome {K : PySem.W.Frag} {F : Fz} {k : Key} {vs : List (Key × V)} {ds : List (Key × D)} (h : DenK K F vs ds) : (valV vs k).isSome = (valD ds k).isSome := by
  cases e : valD ds k with
  | none => rw [valD_none h e]; rfl
  | some d => obtain ⟨v, e1, _⟩ := valD_some h e; rw [e1]; rfl
theorem DenK.length {K : PySem.W.Frag} {F : Fz} : ∀ {vs : List (Key × V)} {ds : List (Key × D)}, DenK K F vs ds → vs.length = ds.length
  | _, _, .nil => rfl
  | _, _, .cons _ r => by rw [List.length_cons, List.length_cons, DenK.length r]
theorem putK_cons_ne {p : Key × V} {r : List (Key × V)} {k : Key} {v : V} (h : ¬ p.1 = k) : putK (p :: r) k v = p :: putK r k v := by
  unfold putK
  rw [List.any_cons, decide_eq_false h, Bool.false_or]
  split
  · rw [List.map_cons, if_neg h]
  · rfl
theorem putK_id {r : List (Key × V)} {k : Key} {v : V} (h : ∀ p ∈ r, ¬ p.1 = k) : (r.map fun kv => if kv.1 = k then (kv.1, v) else kv) = r := by
  induction r with
  | nil => rfl
  | cons p r ih => rw [List.map_cons, if_neg (h p List.mem_cons_self), ih fun q hq => h q (List.mem_cons_of_mem _ hq)]
theorem DenK.keys {K : PySem.W.Frag} {F : Fz} : ∀ {vs : List (Key × V)} {ds : List (Key × D)}, DenK K F vs ds → vs.map (·.1) = ds.map (·.1)
  | _, _, .nil => rfl
  | _, _, .cons _ r => by rw [List.map_cons, List.map_cons, DenK.keys r]
theorem putDK_den {K : PySem.W.Frag} {F : Fz} {k : Key} {v : V} {d : D} (hd : Den K F v d) : ∀ {vs : List (Key × V)} {ds : List (Key × D)}, DenK K F vs ds → (vs.map (·.1)).Nodup → DenK K F (putK vs k v) (putDK ds k d)
  | _, _, .nil, _ => .cons hd .nil
  | _, _, .cons (k := j) (v := u) (vs := vs) (ds := ds) q r, nd => by
    rw [List.map_cons, List.nodup_cons] at nd
    unfold putDK
    by_cases h : j = k
    · rw [if_pos h]
      have e : putK ((j, u) :: vs) k v = (j, v) :: vs := by
        unfold putK
        rw [List.any_cons, decide_eq_true h, Bool.true_or, if_pos rfl, List.map_cons, if_pos h, putK_id]
        intro p hp z
        exact nd.1 (List.mem_map.mpr ⟨p, hp, z.trans h.symm⟩)
      rw [e]
      exact .cons hd r
    · rw [if_neg h, putK_cons_ne (p := (j, u)) h]
      exact .cons q (putDK_den hd r nd.2)
/-- {} -/
def dDNew : TXD := fun ρ Q _ => Q (.o (.dic [])) ρ
def dDNewL : TXD := fun ρ Q _ => Q (.o (.dil [])) ρ
section
variable {X : Cx} {a b c o : Expr} {pos apos cpos : Pos} {ta tb to : TOD} {tc te tk : TED}
theorem dx_dnew : DX X (.Dict [] [] pos) dDNew := fun W tk => pe_imp pe_dnewK fun σ H Q ⟨G, F, R, ρ, Qd, Xd, r, q, n, x⟩ p hp => by
  have g := Grow.own (o := .dK []) r.fit hp
  refine n (.o (.dic [])) ρ _ F _ R (fun a => a = p) (r.grow g) (.refl F) (Tmp.new r hp) ⟨p, [], rfl, rfl, upd_same, .nil⟩ (fun b z => nomatch z) q
theorem dx_dnewL : DX X (.Dict [] [] pos) dDNewL := fun W tk => pe_imp pe_dnewK fun σ H Q ⟨G, F, R, ρ, Qd, Xd, r, q, n, x⟩ p hp => by
  have g := Grow.own (o := .dK []) r.fit hp
  refine n (.o (.dil [])) ρ _ F _ R (fun a => a = p) (r.grow g) (.refl F) (Tmp.new r hp) ⟨p, [], rfl, rfl, upd_same, by simp, by simp, .nil⟩ (fun b z => nomatch z) q
/-- k in d, k not in d -/
def fDIn (neg : Bool) : D → D → (D → Prop) → Prop := fun x y P => match keyD x, y with
  | some k, .dic kvs => P (.bl ((valD kvs k).isSome ^^ neg))
  | _, _ => False
def dDIn (neg : Bool) (ta tb : TOD) : TED := dOp (fDIn neg) ta tb
theorem see_dic {K : PySem.W.Frag} {F : Fz} {H : Hp} {x y : V} {dx dy : D} {neg : Bool} {P : D → Prop} (f : Fit F H) (sx : See K F H x dx) (sy : See K F H y dy) (h : fDIn neg dx dy P) :
    ∃ k kvs ad vs, keyD dx = some k ∧ dy = .dic kvs ∧ x = kV k ∧ y = .ref ad ∧ H ad = some (.dK vs) ∧ DenK K F vs kvs ∧ P (.bl ((valD kvs k).isSome ^^ neg)) := by
  unfold fDIn at h
  cases e : keyD dx with
  | none => rw [e] at h; exact h.elim
  | some k =>
    rw [e] at h
    cases dy with
    | dic kvs =>
      obtain ⟨ad, vs, rfl, ha, dk⟩ := sy.dic f
      exact ⟨k, kvs, ad, vs, rfl, rfl, seeKey sx e, rfl, ha, dk, h⟩
    | _ => exact h.elim
theorem le_din {W : WX} {σ : L2.St} {H : Hp} {Q : VK} (h : LE X.K W (dDIn false ta tb) σ H Q) : tDIn (LO X.K W ta) (LO X.K W tb) σ H Q := by
  obtain ⟨G, F, R, ρ, Qd, Xd, r, q, n, x⟩ := h
  exact ⟨G, F, R, ρ, _, Xd, r, q, fun oa ρ1 v F1 H1 R1 r1 l1 o1 q1 => ⟨G, F1, R1, ρ1, _, Xd, r1, q1, fun ob ρ2 w F2 H2 R2 r2 l2 o2 q2 => by
    obtain ⟨d1, e1, q2⟩ := see1_of q2
    obtain ⟨d2, e2, q2⟩ := see1_of q2
    obtain ⟨k, kvs, ad, vs, ek, ed, ev, ew, h4, dk, q3⟩ := see_dic r2.fit (r2.look (o1.le l2) e1) (r2.look o2 e2) q2
    subst ev ew
    refine ⟨ad, _, rfl, DGet.k h4, ?_⟩
    rw [valD_isSome dk]
    exact n _ ρ2 _ F2 H2 R2 r2 (l1.trans l2) (.bl _) (by simpa using q3), x.le l1⟩, x⟩
theorem de_din (hu : X.A.units + 1 < cLine) (ha : DO X a ta) (hb : DO X b tb) (hm : behindInMarks .In b = false := by rfl) : DE X (.Compare a [.In] [b] pos) (dDIn false ta tb) := fun W tk => pe_imp (pe_cmp (pc_din hu (ha W tk) (hb W tk)) hm) fun _ _ _ h => le_din h
theorem dt_din (hu : X.A.units + 1 < cLine) (ha : DO X a ta) (hb : DO X b tb) (hm : behindInMarks .In b = false := by rfl) : DT X (.Compare a [.In] [b] pos) (dTest (dDIn false ta tb)) := fun W tk => pt_imp (pt_cmp (pc_din hu (ha W tk) (hb W tk)) hm) fun _ _ _ h => le_din (lt_test h)
theorem le_dnotin {W : WX} {σ : L2.St} {H : Hp} {Q : VK} (h : LE X.K W (dDIn true ta tb) σ H Q) : tDNotIn (LO X.K W ta) (LO X.K W tb) σ H Q := by
  obtain ⟨G, F, R, ρ, Qd, Xd, r, q, n, x⟩ := h
  exact ⟨G, F, R, ρ, _, Xd, r, q, fun oa ρ1 v F1 H1 R1 r1 l1 o1 q1 => ⟨G, F1, R1, ρ1, _, Xd, r1, q1, fun ob ρ2 w F2 H2 R2 r2 l2 o2 q2 => by
    obtain ⟨d1, e1, q2⟩ := see1_of q2
    obtain ⟨d2, e2, q2⟩ := see1_of q2
    obtain ⟨k, kvs, ad, vs, ek, ed, ev, ew, h4, dk, q3⟩ := see_dic r2.fit (r2.look (o1.le l2) e1) (r2.look o2 e2) q2
    subst ev ew
    refine ⟨ad, _, rfl, DGet.k h4, ?_⟩
    rw [valD_isSome dk]
    exact n _ ρ2 _ F2 H2 R2 r2 (l1.trans l2) (.bl _) (by simpa using q3), x.le l1⟩, x⟩
theorem de_dnotin (hu : X.A.units + 1 < cLine) (ha : DO X a ta) (hb : DO X b tb) (hm : behindInMarks .NotIn b = false := by rfl) : DE X (.Compare a [.NotIn] [b] pos) (dDIn true ta tb) := fun W tk => pe_imp (pe_cmp (pc_dnotin hu (ha W tk) (hb W tk)) hm) fun _ _ _ h => le_dnotin h
theorem dt_dnotin (hu : X.A.units + 1 < cLine) (ha : DO X a ta) (hb : DO X b tb) (hm : behindInMarks .NotIn b = false := by rfl) : DT X (.Compare a [.NotIn] [b] pos) (dTest (dDIn true ta tb)) := fun W tk => pt_imp (pt_cmp (pc_dnotin hu (ha W tk) (hb W tk)) hm) fun _ _ _ h => le_dnotin (lt_test h)
/-- d[k] -/
def fDGet : D → D → (D → Prop) → Prop := fun y x P => match keyD x, y with
  | some k, .dic kvs => (match valD kvs k with
    | some d => P d
    | none => False)
  | _, _ => False
def dDGet (ta tb : TOD) : TED := dOp fDGet ta tb
theorem de_dget (hu : X.A.units + 1 < cLine) (ha : DO X a ta) (hb : DO X b tb) (hs : NoSl b) : DE X (.Subscript a b pos) (dDGet ta tb) := fun W tk =>
  pe_imp (pe_dget hu (ha W tk) (hb W tk) hs) fun σ H Q ⟨G, F, R, ρ, Qd, Xd, r, q, n, x⟩ => ⟨G, F, R, ρ, _, Xd, r, q, fun oa ρ1 v F1 H1 R1 r1 l1 o1 q1 => ⟨G, F1, R1, ρ1, _, Xd, r1, q1, fun ob ρ2 w F2 H2 R2 r2 l2 o2 q2 => by
    obtain ⟨d1, e1, q2⟩ := see1_of q2
    obtain ⟨d2, e2, q2⟩ := see1_of q2
    unfold fDGet at q2
    cases e : keyD d2 with
    | none => rw [e] at q2; exact q2.elim
    | some k =>
      rw [e] at q2
      cases d1 with
      | dic kvs =>
        obtain ⟨ad, vs, rfl, h4, dk⟩ := (r2.look (o1.le l2) e1).dic r2.fit
        have ev := seeKey (r2.look o2 e2) e
        subst ev
        dsimp only at q2
        cases ew : valD kvs k with
        | none => rw [ew] at q2; exact q2.elim
        | some d =>
          rw [ew] at q2
          obtain ⟨u, eu, du⟩ := valD_some dk ew
          exact ⟨ad, u, rfl, by have := DGet.k (k := k) h4; rw [eu] at this; exact this, n d ρ2 u F2 H2 R2 r2 (l1.trans l2) du q2⟩
      | _ => exact q2.elim, x.le l1⟩, x⟩
/-- d.get(k, z) -/
def dDGet2 (ta tb : TOD) (tc : TED) : TED := fun ρ Q X => ta ρ (fun oa ρ1 => see1 ρ1 oa (fun y => match y with
  | .dic _ => True
  | _ => False) ∧ tb ρ1 (fun ob ρ2 => tc ρ2 (fun z ρ3 => see2 ρ3 oa ob fun y x => match keyD x, y with
  | some k, .dic kvs => Q ((valD kvs k).getD z) ρ3
  | _, _ => False) X) X) X
theorem OpAt.le' {K : PySem.W.Frag} {F F' : Fz} {σ : L2.St} {od : Opd} {v : V} (h : Fle F F') (o : OpAt K F σ od v) : OpAt K F' σ od v := OpAt.le h o
theorem de_dget2 (hu : X.A.units + 1 < cLine) (ha : DO X o ta) (hb : DO X a tb) (hc : DE X b tc) (m : M2 X o "get" apos a b cpos := by exact ⟨rfl, rfl, rfl, rfl⟩) : DE X (.Call (.Attribute o "get" apos) [a, b] [] cpos) (dDGet2 ta tb tc) := fun W tk =>
  pe_imp (pe_dget2 hu (ha W tk) (hb W tk) (hc W tk) m) fun σ H Q ⟨G, F, R, ρ, Qd, Xd, r, q, n, x⟩ => ⟨G, F, R, ρ, _, Xd, r, q, fun oa ρ1 v F1 H1 R1 r1 l1 o1 ⟨q0, q1⟩ => by
    obtain ⟨d0, e0, q0⟩ := see1_of q0
    cases d0 with
    | dic kvs0 =>
      obtain ⟨ad, vs, rfl, h4, dk⟩ := (r1.look o1 e0).dic r1.fit
      refine ⟨ad, rfl, .inl ⟨vs, .of h4⟩, G, F1, R1, ρ1, _, Xd, r1, q1, fun ob ρ2 w F2 H2 R2 r2 l2 o2 q2 => ⟨G, F2, R2, ρ2, _, Xd, r2, q2, fun z ρ3 u F3 H3 R3 r3 l3 dz q3 => ?_, x.le (l1.trans l2)⟩, x.le l1⟩
      obtain ⟨d1, e1, q3⟩ := see1_of q3
      obtain ⟨d2, e2, q3⟩ := see1_of q3
      cases e : keyD d2 with
      | none => rw [e] at q3; exact q3.elim
      | some k =>
        rw [e] at q3
        cases d1 with
        | dic kvs =>
          obtain ⟨ad', vs', ea, h5, dk'⟩ := (r3.look (o1.le (l2.trans l3)) e1).dic r3.fit
          cases ea
          have ev := seeKey (r3.look (o2.le l3) e2) e
          subst ev
          dsimp only at q3
          refine ⟨_, DGet.k h5, ?_⟩
          cases ew : valD kvs k with
          | none =>
            rw [ew] at q3
            rw [valD_none dk' ew]
            exact n z ρ3 u F3 H3 R3 r3 ((l1.trans l2).trans l3) dz q3
          | some d =>
            rw [ew] at q3
            obtain ⟨u', eu, du⟩ := valD_some dk' ew
            rw [eu]
            exact n d ρ3 u' F3 H3 R3 r3 ((l1.trans l2).trans l3) du q3
        | _ => exact q3.elim
    | _ => exact q0.elim, x⟩
/-- len(d) -/
def dDLen (ta : TOD) : TXD := fun ρ Q X => ta ρ (fun oa ρ1 => see1 ρ1 oa fun y => match y with
  | .dic kvs => Q (.v (.int kvs.length)) ρ1
  | _ => False) X
theorem dx_dlen {p : Pos} (hg : Gl X "len") (hm : X.mg "len" = none) (ha : DO X a ta) (hs : starEach [a] X.env = (false, eval a X.env) :: starEach [] X.env := by rfl) : DX X (.Call (.Name "len" p) [a] [] pos) (dDLen ta) := fun W tk =>
  pe_imp (pe_callB call_lenD hg hm PySem.boot_len (pa_cons (ha W tk) pa_nil hs) (he := hs)) fun σ H Q ⟨G, F, R, ρ, Qd, Xd, r, q, n, x⟩ => ⟨G, F, R, ρ, _, Xd, r, q, fun oa ρ1 v F1 H1 R1 r1 l1 o1 q1 => by
    obtain ⟨d, e, q1⟩ := see1_of q1
    cases d with
    | dic kvs =>
      obtain ⟨ad, vs, rfl, h4, dk⟩ := (r1.look o1 e).dic r1.fit
      exact ⟨ad, vs, rfl, h4, by rw [dk.length]; exact n (.v (.int kvs.length)) ρ1 _ F1 H1 R1 NoR r1 l1 .no (.int _) (fun b z => nomatch z) q1⟩
    | _ => exact q1.elim, x⟩
end
/-! ### an object of one's own is written, in part anew -/
theorem Rp.put {K : PySem.W.Frag} {G : Gd} {F : Fz} {H H' : Hp} {R : Nat → Addr → Prop} {σ : L2.St} {ρ : Rho} {i : Nat} {b b' : Box} {v : V} {T : Addr → Prop} (r : Rp K G F H R σ ρ) (e : ρ[i]? = some (some (.o b))) (hσ : σ[i]? = some (some v))
    (hT : ∀ a, T a → H' a ≠ none ∧ (R i a ∨ H a = none)) (hk : ∀ a o, ¬ R i a → H a = some o → H' a = some o) (nw : BoxAt K F H' T b' v) : Rp K G F H' (fun j a => if j = i then T a else R j a) σ (ρ.set i (some (.o b'))) := by
  have hi := (List.getElem?_eq_some_iff.mp e).1
  have nr : ∀ j a, j ≠ i → R j a → ¬ R i a := fun j a h ra z => h (r.dis j i a ra z)
  have keep : ∀ j a, j ≠ i → R j a → H' a = H a := fun j a h ra => by
    have n := (r.reg j a ra).2.2
    cases q : H a with
    | none => exact absurd q n
    | some o => exact hk a o (nr j a h ra) q
  have hF : ∀ a g, F a = some g → H' a = H a := fun a g ea => by
    obtain ⟨o, ho⟩ := r.fit.there ea
    rw [ho]
    exact hk a o (fun z => by rw [(r.reg i a z).1] at ea; cases ea) ho
  refine ⟨fun a g ea => ?_, fun a o ea => ?_, by simpa using r.len, fun j y ej => ?_, fun j a ra => ?_, fun j k a e1 e2 => ?_, fun j bb ej => ?_⟩
  · have q := r.fit a g ea
    cases g with
    | hard o => exact (hF a _ ea).trans q
    | strm =>
      obtain ⟨m, n, h1, h2, h3⟩ := q
      exact ⟨m, n, h1, h2, (hF a _ ea).trans h3⟩
  · obtain ⟨h1, h2⟩ := r.out a o ea
    exact ⟨hk a o (fun z => by rw [(r.reg i a z).2.1] at ea; cases ea) h1, h2⟩
  · by_cases q : j = i
    · subst q
      rw [List.getElem?_set_self hi] at ej
      cases ej
      refine ⟨v, hσ, ?_⟩
      exact BoxAt.keep (.refl F) (fun _ _ => rfl) (fun a ta => by show if j = j then T a else R j a; rw [if_pos rfl]; exact ta) nw
    · rw [List.getElem?_set_ne (Ne.symm q)] at ej
      obtain ⟨u, h1, h2⟩ := r.at_ j y ej
      refine ⟨u, h1, h2.keep (.refl F) (fun a ra => keep j a q ra) fun a ra => ?_⟩
      show if j = i then T a else R j a
      rw [if_neg q]
      exact ra
  · have ra' : if j = i then T a else R j a := ra
    by_cases q : j = i
    · rw [if_pos q] at ra'
      obtain ⟨h1, h2⟩ := hT a ra'
      rcases h2 with h2 | h2
      · obtain ⟨g1, g2, _⟩ := r.reg i a h2
        exact ⟨g1, g2, h1⟩
      · obtain ⟨g1, g2, _⟩ := r.ho_free h2
        exact ⟨g1, g2, h1⟩
    · rw [if_neg q] at ra'
      obtain ⟨g1, g2, g3⟩ := r.reg j a ra'
      exact ⟨g1, g2, by rw [keep j a q ra']; exact g3⟩
  · have e1' : if j = i then T a else R j a := e1
    have e2' : if k = i then T a else R k a := e2
    by_cases q : j = i
    · by_cases q2 : k = i
      · rw [q, q2]
      · rw [if_pos q] at e1'
        rw [if_neg q2] at e2'
        rcases (hT a e1').2 with z | z
        · exact absurd (r.dis i k a z e2') (Ne.symm q2)
        · exact absurd z (r.reg k a e2').2.2
    · rw [if_neg q] at e1'
      by_cases q2 : k = i
      · rw [if_pos q2] at e2'
        rcases (hT a e2').2 with z | z
        · exact absurd (r.dis j i a e1' z) q
        · exact absurd z (r.reg j a e1').2.2
      · rw [if_neg q2] at e2'
        exact r.dis j k a e1' e2'
  · by_cases q : j = i
    · subst q
      rw [List.getElem?_set_self hi] at ej
      cases ej
    · rw [List.getElem?_set_ne (Ne.symm q)] at ej
      exact r.lnt j bb ej
/-! ### d[k] = v -/
/-- the slot's own dict -/
def dDPut (i : Nat) (tk te : TED) : TSD := fun E ρ => te ρ (fun d ρ1 => ρ1.getD i none ≠ none ∧ tk ρ1 (fun dk ρ2 => match ρ2.getD i none with
  | some (.o (.dic kvs)) => (match keyD dk with
    | some k => Uniq kvs ∧ kvs.length < sizeLine ∧ E.nx (ρ2.set i (some (.o (.dic (putDK kvs k d)))))
    | none => False)
  | _ => False) E.ex) E.ex
section
variable {X : Cx} {o a b : Expr} {pos pos' apos cpos : Pos} {tk te : TED}
theorem ds_dput (hu : X.A.units + 1 < cLine) {i : Nat} (hv : PE X o (tVar i)) (hk : DE X a tk) (he : DE X b te) (hs : swapsWith b (some (.Subscript o a pos')) pos.line X.env = pure false := by rfl) : DS X (.Assign [.Subscript o a pos'] b pos) (dDPut i tk te) := fun W tw po =>
  ps_imp (ps_dput hu hv (hk W tw) (he W tw) hs) fun D σ H ⟨G, F, R, ρ, E, r, q, ok⟩ => ⟨G, F, R, ρ, _, E.ex, r, q, fun d ρ1 v F1 H1 R1 r1 l1 dd ⟨nn, q1⟩ => by
    obtain ⟨x0, e0⟩ : ∃ x0, ρ1.getD i none = some x0 := by
      cases z : ρ1.getD i none with
      | none => exact absurd z nn
      | some y => exact ⟨y, rfl⟩
    obtain ⟨w0, g1, _⟩ := r1.at_ i x0 (getD_some e0)
    refine ⟨w0, g1, G, F1, R1, ρ1, _, E.ex, r1, q1, fun dk ρ2 u F2 H2 R2 r2 l2 du q2 => ?_, (ok.ex σ).le l1⟩
    cases e : ρ2.getD i none with
    | none => rw [e] at q2; exact q2.elim
    | some y =>
      rw [e] at q2
      cases y with
      | v _ => exact q2.elim
      | l _ => exact q2.elim
      | o bx =>
        cases bx with
        | dic kvs =>
          cases ek : keyD dk with
          | none => rw [ek] at q2; exact q2.elim
          | some k =>
            rw [ek] at q2
            obtain ⟨hun, hl, q3⟩ := q2
            obtain ⟨w1, h1, h2⟩ := r2.at_ i _ (getD_some e)
            rw [g1] at h1
            cases h1
            obtain ⟨p, vs, rfl, rp, hp, dk2⟩ := h2
            have eu := keyD_V du ek
            subst eu
            refine ⟨p, upd H2 p (.dK (putK vs k v)), rfl, DPut.k hp (by rw [dk2.length]; exact hl), ?_⟩
            have nd : (vs.map (·.1)).Nodup := by rw [dk2.keys]; exact hun
            have r3 := r2.write (x := .o (.dic kvs)) (b := .dic kvs) (b' := .dic (putDK kvs k d)) (u := .dK (putK vs k v)) (getD_some e) (.inl rfl) g1 rp ⟨p, _, rfl, rp, upd_same, putDK_den (dd.le l2) dk2 nd⟩
            exact ok.nx _ _ _ _ _ r3 (l1.trans l2) q3
        | _ => exact q2.elim, ok.ex σ⟩
end
end PD
namespace PD
open PySem L2 PySem.Spec PyProof.Rows
/-! ### a call of a name that holds one of some defs -/
def tCallLS (i : Nat) (f : Addr) (sp : Sp) (dvs : List V) (E : L2.St → XK) (t : TA) : TE := fun σ H Q => σ[i]? = some (some (.ref f)) ∧ t σ H fun vs H1 => sp (vs ++ dvs) H1 Q (E σ)
section
variable {X : Cx} {CX : CXT} {k i : Nat} {f : Addr} {fd : FuncData} {ps : List Str} {sp : Sp} {dvs : List V} {ds : List Value} {E : L2.St → XK} {x : Str} {p pos : Pos} {e : Expr} {es : List Expr} {t : TA}
theorem pe_callLS (F : FnOk X.prog X.w X.K X.mg X.base CX k f fd ps sp) (hr : Room k X.A) (hN : X.N[i]? = some x) (hv : Vis X.env.scope x) (hk : PySem.W.keepIn X.K (.ref f) = true) (hb : Binds X.K fd ps ds) (hd : Vals dvs ds) (hx : ∀ σ, PassesAt CX X σ (E σ)) (ha : PA X (e :: es) t)
    (hdb : (x == ("__debug__" : Str)) = false := by decide) (hcd : (x == ("__classdict__" : Str)) = false := by decide)
    (he : starEach (e :: es) X.env = (false, eval e X.env) :: starEach es X.env := by rfl) (hpl : (backTo pos (starEach es X.env)).any (·.1) = false := by rfl) : PE X (.Call (.Name x p) (e :: es) [] pos) (tCallLS i f sp dvs E t) := by
  refine ⟨fun pins s σ H Q I h => ?_⟩
  obtain ⟨hs, ht⟩ := h
  refine wpAny_Call_Name_kw (thn ((pe_var (pos := p) hN hv hdb hcd).run pins s σ H (fun v H1 => v = .ref f ∧ H1 = H) I ⟨.ref f, hs, rfl, rfl⟩) fun u s1 ⟨v, H1, I1, r1, q1⟩ => ?_)
  obtain ⟨rfl, rfl⟩ := q1
  cases r1
  refine PySem.W.callWith_K (h₀ := X.base) I.ok.mod.kin hk (thn (ha.run pos pins s1 σ _ _ I1 ht) fun us s2 ⟨vs, H2, I2, r, q⟩ => ⟨I2.kIn, ?_⟩) he hpl
  exact run_fnSD F hr hb hd (hx σ) I2 r q
end
def dCallT (i : Nat) (tbl : List (Str × SpD)) (t : TVD) : TXD := fun ρ Q X => match ρ.getD i none with
  | some (.v (.fn nm)) => (match tbl.lookup nm with
    | some sp => t ρ (fun ods ρ1 => callD ρ1 ods sp Q X) X
    | none => False)
  | _ => False
theorem lookup_memS {α : Type} {x : Str} {a : α} : ∀ {l : List (Str × α)}, l.lookup x = some a → (x, a) ∈ l
  | [], h => by cases h
  | (y, b) :: r, h => by
    rw [List.lookup_cons] at h
    cases q : (x == y) with
    | true =>
      rw [q] at h
      cases h
      rw [eq_of_beq q]
      exact List.mem_cons_self
    | false =>
      rw [q] at h
      exact List.mem_cons_of_mem _ (lookup_memS h)
theorem dx_callT {X : Cx} {i : Nat} {x : Str} {tbl : List (Str × SpD)} {e : Expr} {es : List Expr} {t : TVD} {p pos : Pos}
    (A : ∀ q ∈ tbl, ∃ k, FnD X.prog X.w X.K X.mg X.base k (He.ga X.K q.1) [] q.2 ∧ Room k X.A ∧ PySem.W.keepIn X.K (.ref (He.ga X.K q.1)) = true)
    (hN : X.N[i]? = some x) (hv : Vis X.env.scope x) (ha : DVs X (e :: es) t) (hdb : (x == ("__debug__" : Str)) = false := by decide) (hcd : (x == ("__classdict__" : Str)) = false := by decide)
    (he : starEach (e :: es) X.env = (false, eval e X.env) :: starEach es X.env := by rfl) (hpl : (backTo pos (starEach es X.env)).any (·.1) = false := by rfl) : DX X (.Call (.Name x p) (e :: es) [] pos) (dCallT i tbl t) := fun W tk =>
  ⟨fun pins s σ H Q I ⟨G, Fz, R, ρ, Qd, Xd, r, q, n, xx⟩ => by
    unfold dCallT at q
    cases e0 : ρ.getD i none with
    | none => rw [e0] at q; exact q.elim
    | some y =>
      rw [e0] at q
      cases y with
      | v d =>
        cases d with
        | fn nm =>
          dsimp only at q
          cases el : tbl.lookup nm with
          | none => rw [el] at q; exact q.elim
          | some sp =>
            rw [el] at q
            obtain ⟨k, F, hr, hk⟩ := A (nm, sp) (lookup_memS el)
            obtain ⟨fd, ps, ds, F, hb, hd⟩ := F.ex
            obtain ⟨v, h1, h2⟩ := r.at_ i _ (getD_some e0)
            cases h2
            refine (pe_callLS (E := WE W) (i := i) F hr hN hv hk hb hd (fun σ => passAt tk σ) (ha W tk) hdb hcd he hpl).run pins s σ H Q I ⟨h1, G, Fz, R, ρ, _, Xd, r, q, fun ods ρ1 vs F1 H1 R1 r1 l1 pv q1 => ?_, xx⟩
            show liftSp X.K sp (vs ++ []) H1 Q (WE W σ)
            rw [List.append_nil]
            exact call_lift r1 pv q1 (fun x ρ' v F' H' R' T r' l => n x ρ' v F' H' R' T r' (l1.trans l)) fun e ρ' dx F' H' R' T r' l => xx e ρ' dx F' H' R' T r' (l1.trans l)
        | _ => exact q.elim
      | o _ => exact q.elim
      | l _ => exact q.elim⟩
/-! ### C.f, a constant of the class -/
def cvalB (K : PySem.W.Frag) (C : Addr) (f : Str) (vs : List Str) : Bool := PySem.W.readsIn K C (.type "type") && (He.eqO (PySem.W.specialIn K (.ref C) "__getattribute__") (some (some (.builtin "type.__getattribute__"))) &&
  (match PySem.W.findCls K (.ref C) (.type "type") f with
    | some (.val (.ref a)) => (match K.lookup a with
      | some ⟨.type c, _, .seq its _, _⟩ => decide (c = "tuple") && (decide (its.size ≤ sizeLine) && He.relAll (vs.map V.str) its.toList)
      | _ => false)
    | _ => false))
/-- the class's constant f is a tuple of these texts -/
structure CTup (K : PySem.W.Frag) (C : Addr) (f : Str) (vs : List Str) : Prop where
  rd : ClX.CRead K C (.type "type")
  at_ : ∃ a, PySem.W.findCls K (.ref C) (.type "type") f = some (.val (.ref a)) ∧ ∀ F, TAt K F a (vs.map V.str)
theorem cval_ok {K : PySem.W.Frag} {C : Addr} {f : Str} {vs : List Str} (h : cvalB K C f vs = true) : CTup K C f vs := by
  obtain ⟨h1, h⟩ := He.ba h
  obtain ⟨h2, h3⟩ := He.ba h
  refine ⟨⟨h1, He.eqO_ok h2⟩, ?_⟩
  cases q : PySem.W.findCls K (.ref C) (.type "type") f with
  | none => rw [q] at h3; cases h3
  | some r =>
    rw [q] at h3
    cases r with
    | val u =>
      cases u with
      | ref a =>
        refine ⟨a, rfl, fun F => .inr ?_⟩
        dsimp only at h3
        cases q2 : K.lookup a with
        | none => rw [q2] at h3; cases h3
        | some o =>
          obtain ⟨oc, od, dt, osl⟩ := o
          rw [q2] at h3
          cases oc with
          | type c =>
            cases dt with
            | seq its n =>
              obtain ⟨g1, g2⟩ := He.ba h3
              obtain ⟨g3, g4⟩ := He.ba g2
              exact ⟨_, its, n, rfl, congrArg Value.type (of_decide_eq_true g1), rfl, of_decide_eq_true g3, He.relAll_ok g4⟩
            | _ => cases h3
          | _ => cases dt <;> cases h3
      | _ => cases h3
    | _ => cases h3
theorem denStrs {K : PySem.W.Frag} {F : Fz} : ∀ {vs : List Str}, DenL K F (vs.map V.str) (vs.map D.str)
  | [] => .nil
  | _ :: _ => .cons (.str _) denStrs
theorem de_ctup {X : Cx} {C : Addr} {x f : Str} {vs : List Str} {p pos : Pos} (hg : Gl X x) (hm : X.mg x = some (.ref C)) (T : CTup X.K C f vs) (hdb : (x == ("__debug__" : Str)) = false := by decide)
    (hb : attributeBase (.Name x p) f X.env (eval (.Name x p) X.env) = eval (.Name x p) X.env := by rfl) : DE X (.Attribute (.Name x p) f pos) (dC (.tup (vs.map D.str))) := fun W tk =>
  pe_imp (ClX.pe_cval (pe_glob hg hm (v := .ref C) rfl hdb) hb) fun σ H Q ⟨G, F, R, ρ, Qd, Xd, r, q, n, x⟩ => by
    obtain ⟨a, e, t⟩ := T.at_
    exact ⟨C, _, V.ref a, Value.ref a, rfl, T.rd, ⟨e, rfl⟩, n _ ρ (.ref a) F H R r (.refl F) (.tup (t F) denStrs) q⟩
end PD
namespace PD
open PySem L2 PySem.Spec PyProof.Rows
/-! ### a dict of lists -/
def appK : List (Key × List D) → Key → D → List (Key × List D)
  | [], k, d => [(k, [d])]
  | (j, l) :: r, k, d => if j = k then (j, l ++ [d]) :: r else (j, l) :: appK r k d
def szK (kvs : List (Key × List D)) : Prop := kvs.length < sizeLine ∧ ∀ kv ∈ kvs, kv.2.length < sizeLine
abbrev DilAt (K : PySem.W.Frag) (F : Fz) (H : Hp) (qs : List (Key × Addr)) (kvs : List (Key × List D)) : Prop :=
  Paired (fun (q : Key × Addr) (kv : Key × List D) => q.1 = kv.1 ∧ ∃ vs, H q.2 = some (.lst vs) ∧ DenL K F vs kv.2) qs kvs
theorem dil_keep {K : PySem.W.Frag} {F F' : Fz} {H H' : Hp} (le : Fle F F') {qs : List (Key × Addr)} {kvs : List (Key × List D)} (h : ∀ q ∈ qs, H' q.2 = H q.2) (p : DilAt K F H qs kvs) : DilAt K F' H' qs kvs :=
  Paired.impM (fun q m kv z => ⟨z.1, let ⟨vs, e1, d⟩ := z.2; ⟨vs, (h q m).trans e1, d.le le⟩⟩) p
theorem dil_find {K : PySem.W.Frag} {F : Fz} {H : Hp} {k : Key} {d : D} {u : V} (du : Den K F u d) : ∀ {qs : List (Key × Addr)} {kvs : List (Key × List D)}, DilAt K F H qs kvs → (qs.map (·.2)).Nodup →
    (∃ a vs l, valV (qs.map fun q => (q.1, V.ref q.2)) k = some (.ref a) ∧ (k, a) ∈ qs ∧ H a = some (.lst vs) ∧ (∃ kv ∈ kvs, kv.2 = l) ∧ DenL K F vs l ∧
      ∀ H', H' a = some (.lst (vs ++ [u])) → (∀ b, b ≠ a → b ∈ qs.map (·.2) → H' b = H b) → DilAt K F H' qs (appK kvs k d)) ∨
    (valV (qs.map fun q => (q.1, V.ref q.2)) k = none ∧ ∀ H' n, H' n = some (.lst [u]) → (∀ b ∈ qs.map (·.2), H' b = H b) → DilAt K F H' (qs ++ [(k, n)]) (appK kvs k d))
  | _, _, .nil, _ => .inr ⟨rfl, fun H' n hn _ => .cons ⟨rfl, [u], hn, .cons du .nil⟩ .nil⟩
  | _, _, .cons (a := q) (b := kv) (l₁ := qs) (l₂ := kvs) h t, nd => by
    obtain ⟨j, b⟩ := q
    obtain ⟨j', l⟩ := kv
    obtain ⟨ej, vs, hv, dl⟩ := h
    dsimp only at ej hv dl
    subst ej
    rw [List.map_cons, List.nodup_cons] at nd
    by_cases e : j = k
    · subst e
      refine .inl ⟨b, vs, l, valV_pos (p := (j, V.ref b)) rfl, List.mem_cons_self, hv, ⟨(j, l), List.mem_cons_self, rfl⟩, dl, fun H' h1 h2 => ?_⟩
      unfold appK
      rw [if_pos rfl]
      refine .cons ⟨rfl, _, h1, dl.append (.cons du .nil)⟩ (dil_keep (.refl F) (fun q hq => h2 q.2 (fun z => nd.1 ?_) ?_) t)
      · rw [← z]; exact List.mem_map.mpr ⟨q, hq, rfl⟩
      · exact List.mem_map.mpr ⟨q, List.mem_cons_of_mem _ hq, rfl⟩
    · unfold appK
      rw [if_neg e]
      rcases dil_find (k := k) du t nd.2 with ⟨a, ws, l2, g1, g2, g3, ⟨kv, g4, g5⟩, g6, g7⟩ | ⟨g1, g2⟩
      · have hab : b ≠ a := fun z => nd.1 (by rw [z]; exact List.mem_map.mpr ⟨_, g2, rfl⟩)
        refine .inl ⟨a, ws, l2, (valV_neg (p := (j, V.ref b)) e).trans g1, List.mem_cons_of_mem _ g2, g3, ⟨kv, List.mem_cons_of_mem _ g4, g5⟩, g6, fun H' h1 h2 => ?_⟩
        exact .cons ⟨rfl, vs, (h2 b hab List.mem_cons_self).trans hv, dl⟩ (g7 H' h1 fun c hc hm => h2 c hc (List.mem_cons_of_mem _ hm))
      · refine .inr ⟨(valV_neg (p := (j, V.ref b)) e).trans g1, fun H' n hn h2 => ?_⟩
        exact .cons ⟨rfl, vs, (h2 b List.mem_cons_self).trans hv, dl⟩ (g2 H' n hn fun c hc => h2 c (List.mem_cons_of_mem _ hc))
/-- d.setdefault(k, []).append(x) -/
def dSetApp (i : Nat) (tk : TED) (j : Nat) : TXD := fun ρ Q X => (match ρ.getD i none with
  | some (.o (.dil _)) => True
  | _ => False) ∧ tk ρ (fun dk ρ1 => match keyD dk, ρ1.getD i none, ρ1.getD j none with
    | some k, some (.o (.dil kvs)), some (.v d) => i ≠ j ∧ szK kvs ∧ Q (.v .non) (ρ1.set i (some (.o (.dil (appK kvs k d)))))
    | _, _, _ => False) X
theorem dx_setApp {X : Cx} {o ek ex : Expr} {p2 ap1 apos cp1 cpos : Pos} {i j : Nat} {tk : TED} (hv : PE X o (tVar i)) (hk : DE X ek tk) (hx : PE X ex (tVar j)) (m : M2 X o "setdefault" ap1 ek (.List [] p2) cp1 := by exact ⟨rfl, rfl, rfl, rfl⟩)
    (hbase : attributeBase (.Call (.Attribute o "setdefault" ap1) [ek, .List [] p2] [] cp1) "append" X.env (eval (.Call (.Attribute o "setdefault" ap1) [ek, .List [] p2] [] cp1) X.env) = eval (.Call (.Attribute o "setdefault" ap1) [ek, .List [] p2] [] cp1) X.env := by rfl)
    (hfew : ((backTo cpos (starEach [ex] X.env)).all (fun x => !x.1) && (backToKw cpos (keywordEach [] X.env)).all (fun x => x.1.isSome)
      && decide ([ex].length + ([] : List Keyword).length + (if ([] : List Keyword).isEmpty then 0 else 1) < 30)) = true := by rfl)
    (hline : (apos.endLine == cpos.line) = true := by rfl) (hs : starEach [ex] X.env = (false, eval ex X.env) :: starEach [] X.env := by rfl) :
    DX X (.Call (.Attribute (.Call (.Attribute o "setdefault" ap1) [ek, .List [] p2] [] cp1) "append" apos) [ex] [] cpos) (dSetApp i tk j) := fun W tw =>
  pe_imp (pe_bm PySem.F.plainAttrs_list PySem.F.slot_list_append PySem.F.type_list_append mt_append (pe_dsetd hv (hk W tw) (pe_lst pa_nil) m) (pa_cons hx pa_nil hs) hbase hfew hline hs) fun σ H Q ⟨G, F, R, ρ, Qd, Xd, r, ⟨q0, q⟩, n, x⟩ => by
    cases e0 : ρ.getD i none with
    | none => rw [e0] at q0; exact q0.elim
    | some y0 =>
      rw [e0] at q0
      obtain ⟨kvs0, rfl⟩ : ∃ kvs, y0 = .o (.dil kvs) := by
        cases y0 with
        | o b => cases b with
          | dil kvs => exact ⟨kvs, rfl⟩
          | _ => exact q0.elim
        | _ => exact q0.elim
      obtain ⟨w0, h0, p, qs0, rfl, rp0, hp0, _⟩ := r.at_ i _ (getD_some e0)
      refine ⟨.ref p, h0, p, rfl, .inl ⟨_, .of hp0⟩, G, F, R, ρ, _, Xd, r, q, fun dk ρ1 v F1 H1 R1 r1 l1 ddk q1 => ?_, x⟩
      cases ek : keyD dk with
      | none => rw [ek] at q1; exact q1.elim
      | some k =>
        rw [ek] at q1
        have ev := keyD_V ddk ek
        subst ev
        cases e1 : ρ1.getD i none with
        | none => rw [e1] at q1; exact q1.elim
        | some y1 =>
          rw [e1] at q1
          cases e2 : ρ1.getD j none with
          | none =>
            rw [e2] at q1
            cases y1 with
            | o b => cases b <;> exact q1.elim
            | _ => exact q1.elim
          | some y2 =>
            rw [e2] at q1
            obtain ⟨kvs, d, rfl, rfl, nij, ⟨z1, z2⟩, q2⟩ : ∃ kvs d, y1 = .o (.dil kvs) ∧ y2 = .v d ∧ i ≠ j ∧ szK kvs ∧ Qd (.v .non) (ρ1.set i (some (.o (.dil (appK kvs k d))))) := by
              cases y1 with
              | o b =>
                cases b with
                | dil kvs => cases y2 with
                  | v d => exact ⟨kvs, d, rfl, rfl, q1⟩
                  | _ => exact q1.elim
                | _ => exact q1.elim
              | _ => exact q1.elim
            obtain ⟨w1, h1, p1, qs, rfl, rp, hp, nd, hq, pr⟩ := r1.at_ i _ (getD_some e1)
            rw [h0] at h1
            cases h1
            obtain ⟨u, hu, du⟩ := r1.at_ j _ (getD_some e2)
            have du : Den X.K F1 u d := du
            refine ⟨Nat.zero_le _, fun nw hnw => ?_⟩
            have hne : ∀ {a o}, H1 a = some o → a ≠ nw := fun {a o} ha => ne_of_none ha hnw
            have hl : qs.length = kvs.length := pr.length
            have hH3 : (upd H1 nw (.lst [])) p = some (.dK (qs.map fun q => (q.1, V.ref q.2))) := (upd_ne (hne hp)).trans hp
            refine ⟨_, k, hH3, rfl, by rw [List.length_map, hl]; exact z1, fun v hv' => ?_, fun hv' => ?_⟩
            · rcases dil_find du pr nd with ⟨a, vs, l, g1, g2, g3, ⟨kv, g4, g5⟩, g6, g7⟩ | ⟨g1, _⟩
              · rw [g1] at hv'
                cases hv'
                have ha3 : (upd H1 nw (.lst [])) a = some (.lst vs) := (upd_ne (hne g3)).trans g3
                refine ⟨ty_list ha3, u, hu, a, vs, u, rfl, rfl, ha3, by rw [g6.length, ← g5]; exact z2 kv g4, ?_⟩
                obtain ⟨ap, ra⟩ := hq _ g2
                refine n (.v .non) _ .non F1 _ _ NoR (r1.put (T := R1 i) (getD_some e1) h0 (fun b rb => ⟨?_, .inl rb⟩) (fun b o nb hb => ?_) ?_) l1 .no .non (fun b z => nomatch z) q2
                · obtain ⟨_, _, hb⟩ := r1.reg i b rb
                  by_cases e : b = a
                  · rw [e, upd_same]; exact fun z => nomatch z
                  · rw [upd_ne e]
                    by_cases e' : b = nw
                    · rw [e', upd_same]; exact fun z => nomatch z
                    · rw [upd_ne e']; exact hb
                · rw [upd_ne (fun z => nb (by rw [z]; exact ra)), upd_ne (hne hb)]; exact hb
                · refine ⟨p, qs, rfl, rp, ?_, nd, hq, g7 _ upd_same fun b hb hm => ?_⟩
                  · rw [upd_ne (fun z => ap z.symm)]; exact hH3
                  · obtain ⟨q, mq, eq⟩ := List.mem_map.mp hm
                    have := (r1.reg i _ (hq q mq).2).2.2
                    rw [eq] at this
                    rw [upd_ne hb, upd_ne (fun z => this (by rw [z]; exact hnw))]
              · rw [g1] at hv'; cases hv'
            · rcases dil_find du pr nd with ⟨a, vs, l, g1, _⟩ | ⟨g1, g2⟩
              · rw [g1] at hv'; cases hv'
              · rw [putK_new _ g1]
                have pnw : nw ≠ p := fun z => by rw [z, hp] at hnw; cases hnw
                have hn3 : (upd (upd H1 nw (.lst [])) p (.dK ((qs.map fun q => (q.1, V.ref q.2)) ++ [(k, .ref nw)]))) nw = some (.lst []) := (upd_ne pnw).trans upd_same
                refine ⟨ty_list hn3, u, hu, nw, [], u, rfl, rfl, hn3, by decide, ?_⟩
                have nqs : ∀ q ∈ qs, q.2 ≠ nw := fun q mq z => (r1.reg i _ (hq q mq).2).2.2 (by rw [z]; exact hnw)
                refine n (.v .non) _ .non F1 _ _ NoR (r1.put (T := fun b => R1 i b ∨ b = nw) (getD_some e1) h0 (fun b rb => ⟨?_, rb.imp id fun e => by rw [e]; exact hnw⟩) (fun b o nb hb => ?_) ?_) l1 .no .non (fun b z => nomatch z) q2
                · by_cases e : b = nw
                  · rw [e, upd_same]; exact fun z => nomatch z
                  · rw [upd_ne e]
                    by_cases e' : b = p
                    · rw [e', upd_same]; exact fun z => nomatch z
                    · rw [upd_ne e', upd_ne e]
                      rcases rb with rb | rb
                      · exact (r1.reg i b rb).2.2
                      · exact absurd rb e
                · rw [upd_ne (hne hb), upd_ne (fun z => nb (by rw [z]; exact rp)), upd_ne (hne hb)]; exact hb
                · refine ⟨p, qs ++ [(k, nw)], rfl, .inl rp, ?_, ?_, ?_, g2 _ _ upd_same fun b hm => ?_⟩
                  · rw [upd_ne (fun z => pnw z.symm), upd_same]
                    simp
                  · rw [List.map_append, List.nodup_append]
                    refine ⟨nd, by simp, fun a ha b hb e => ?_⟩
                    obtain ⟨q, mq, eq⟩ := List.mem_map.mp ha
                    have hb' : b = nw := by simpa using hb
                    exact nqs q mq (eq.trans (e.trans hb'))
                  · intro q mq
                    rcases List.mem_append.mp mq with mq | mq
                    · exact ⟨(hq q mq).1, .inl (hq q mq).2⟩
                    · have : q = (k, nw) := by simpa using mq
                      subst this
                      exact ⟨pnw, .inr rfl⟩
                  · obtain ⟨q, mq, eq⟩ := List.mem_map.mp hm
                    rw [upd_ne (fun z => nqs q mq (eq.trans z)), upd_ne (fun z => (hq q mq).1 (eq.trans z)), upd_ne (fun z => nqs q mq (eq.trans z))]
end PD
namespace PD
open PySem L2 PySem.Spec PyProof.Rows
/-! ### for x in d.values(), d a dict of lists of one's own -/
abbrev valsD (kvs : List (Key × List D)) : List D := kvs.map fun kv => D.lst kv.2
theorem Rp.frzDil {K : PySem.W.Frag} {G : Gd} {H : Hp} {σ : L2.St} {ρ : Rho} {R : Nat → Addr → Prop} : ∀ {qs : List (Key × Addr)} {kvs : List (Key × List D)} {F : Fz}, Rp K G F H R σ ρ → DilAt K F H qs kvs → (qs.map (·.2)).Nodup →
    (∀ q ∈ qs, F q.2 = none ∧ G.Ho q.2 = none ∧ ∀ i, ¬ R i q.2) →
    ∃ F', Rp K G F' H R σ ρ ∧ Fle F F' ∧ (∀ a, a ∉ qs.map (·.2) → F' a = F a) ∧ DenL K F' (qs.map fun q => V.ref q.2) (valsD kvs)
  | _, _, F, r, .nil, _, _ => ⟨F, r, .refl F, fun _ _ => rfl, .nil⟩
  | _, _, F, r, .cons (a := q) (b := kv) (l₁ := qs) (l₂ := kvs) h t, nd, hq => by
    obtain ⟨e, vs, hv, dl⟩ := h
    rw [List.map_cons, List.nodup_cons] at nd
    obtain ⟨f1, f2, f3⟩ := hq q List.mem_cons_self
    have r1 := r.frz hv f1 f2 f3
    have le : Fle F (updF F q.2 (.hard (.lst vs))) := .upd f1
    obtain ⟨F', r2, le2, out, dl2⟩ := Rp.frzDil (qs := qs) (kvs := kvs) r1 (dil_keep le (fun _ _ => rfl) t) nd.2 fun q' m => by
      obtain ⟨g1, g2, g3⟩ := hq q' (List.mem_cons_of_mem _ m)
      exact ⟨by rw [updF_ne (fun z => nd.1 (by rw [← z]; exact List.mem_map.mpr ⟨q', m, rfl⟩))]; exact g1, g2, g3⟩
    refine ⟨F', r2, le.trans le2, fun a na => ?_, .cons (.lst (le2.hp (hp_of updF_same)) (dl.le (le.trans le2))) dl2⟩
    rw [List.map_cons, List.mem_cons, not_or] at na
    rw [out a na.2, updF_ne na.1]
def dForV (i : Nat) (g : TGD) (body : TSD) : TSD := fun E ρ => match ρ.getD i none with
  | some (.o (.dil kvs)) => dForL noChk g body (valsD kvs) E (ρ.set i none)
  | _ => False
/-- the outside is less -/
theorem Rp.less {K : PySem.W.Frag} {G : Gd} {F : Fz} {H : Hp} {R : Nat → Addr → Prop} {σ : L2.St} {ρ : Rho} {Ho : Hp} (r : Rp K ⟨Ho, G.L⟩ F H R σ ρ) (h : ∀ a o, G.Ho a = some o → Ho a = some o) : Rp K G F H R σ ρ :=
  ⟨r.fit, fun a o e => r.out a o (h a o e), r.len, r.at_, (fun i a ra => by
    obtain ⟨h1, h2, h3⟩ := r.reg i a ra
    refine ⟨h1, ?_, h3⟩
    cases q : G.Ho a with
    | none => rfl
    | some o =>
      have h2' : Ho a = none := h2
      rw [h a o q] at h2'
      cases h2'), r.dis, r.lnt⟩
theorem ds_forV {X : Cx} {tg o : Expr} {apos cpos pos : Pos} {body : List Stmt} {i : Nat} {is : List Nat} {g : TGD} {tb : TSD} (hc : X.calm = true) (hv : PE X o (tVar i)) (hg : DG X tg is g) (hb : DSs X body tb)
    (hbase : attributeBase o "values" X.env (eval o X.env) = eval o X.env := by rfl) (hline : (apos.endLine == cpos.line) = true := by rfl) (hs : ∀ x, foldedSetIterable (.Call (.Attribute o "values" apos) [] [] cpos) X.env x = pure x := by intro _; rfl) :
    DS X (.For tg (.Call (.Attribute o "values" apos) [] [] cpos) body [] pos) (dForV i g tb) := fun W tk po => ps_imp (ps_lock (ps_for po hc (pi_values hv hbase hline) hg (hb W tk po) hs)) fun DD σ H ⟨G, F, R, ρ, E, r, q, ok⟩ => by
  unfold dForV at q
  cases e0 : ρ.getD i none with
  | none => rw [e0] at q; exact q.elim
  | some y =>
    rw [e0] at q
    obtain ⟨kvs, rfl⟩ : ∃ kvs, y = .o (.dil kvs) := by
      cases y with
      | o b => cases b with
        | dil kvs => exact ⟨kvs, rfl⟩
        | _ => exact q.elim
      | _ => exact q.elim
    dsimp only at q
    obtain ⟨v, h1, h2⟩ := r.at_ i _ (getD_some e0)
    obtain ⟨R1, r1, t1⟩ := r.release i
    obtain ⟨p, qs, rfl, rp, hp, nd, hq, pr⟩ := h2
    obtain ⟨F1, r2, l2, out1, dl⟩ := Rp.frzDil r1 pr nd fun q m => by
      obtain ⟨g1, g2, _, g4⟩ := t1 q.2 (hq q m).2
      exact ⟨g1, g2, g4⟩
    obtain ⟨p1, p2, p3, p4⟩ := t1 p rp
    have fp : F1 p = none := by
      rw [out1 p fun z => ?_]
      · exact p1
      · obtain ⟨q, m, e⟩ := List.mem_map.mp z
        exact (hq q m).1 e
    refine ⟨p, _, hp, trivial, fun od => ?_⟩
    -- the dict stands outside, locked
    have hoE : ∃ Ho : Hp, ∀ a, Ho a = if a = p then some (.frz od (.dK (qs.map fun q => (q.1, V.ref q.2)))) else G.Ho a := ⟨_, fun _ => rfl⟩
    obtain ⟨Ho, hHo⟩ := hoE
    have ho1 : Ho p = some (.frz od (.dK (qs.map fun q => (q.1, V.ref q.2)))) := by rw [hHo, if_pos rfl]
    have ho2 : ∀ a, a ≠ p → Ho a = G.Ho a := fun a h => by rw [hHo, if_neg h]
    have hoLe : ∀ a o, G.Ho a = some o → Ho a = some o := fun a o e => by rw [ho2 a (fun z => by rw [z, p2] at e; cases e)]; exact e
    -- from outside to inside
    have enter : Rp X.K ⟨Ho, G.L⟩ F1 (upd H p (.frz od (.dK (qs.map fun q => (q.1, V.ref q.2))))) R1 σ (ρ.set i none) := by
      have nF : ∀ a g, F1 a = some g → a ≠ p := fun a g e z => by rw [z, fp] at e; cases e
      refine ⟨fun a g e => ?_, fun a o e => ?_, r2.len, fun j x e => ?_, fun j a ra => ?_, r2.dis, r2.lnt⟩
      · have q := r2.fit a g e
        cases g with
        | hard o => exact (upd_ne (nF a _ e)).trans q
        | strm =>
          obtain ⟨m, n, g1, g2, g3⟩ := q
          exact ⟨m, n, g1, g2, (upd_ne (nF a _ e)).trans g3⟩
      · have e' : Ho a = some o := e
        by_cases z : a = p
        · subst z
          rw [ho1] at e'
          cases e'
          exact ⟨upd_same, fp⟩
        · rw [ho2 a z] at e'
          obtain ⟨g1, g2⟩ := r2.out a o e'
          exact ⟨(upd_ne z).trans g1, g2⟩
      · obtain ⟨u, g1, g2⟩ := r2.at_ j x e
        exact ⟨u, g1, g2.keep (.refl F1) (fun a ra => upd_ne fun z => p4 j (by rw [← z]; exact ra)) fun _ ra => ra⟩
      · obtain ⟨g1, g2, g3⟩ := r2.reg j a ra
        have ne : a ≠ p := fun z => p4 j (by rw [← z]; exact ra)
        exact ⟨g1, by show Ho a = none; rw [ho2 a ne]; exact g2, by rw [upd_ne ne]; exact g3⟩
    have leave : ∀ {F' H' R' σ' ρ'}, Rp X.K ⟨Ho, G.L⟩ F' H' R' σ' ρ' → H' p = some (.frz od (.dK (qs.map fun q => (q.1, V.ref q.2)))) ∧ Rp X.K G F' (upd H' p (.dK (qs.map fun q => (q.1, V.ref q.2)))) R' σ' ρ' := fun {F' H' R' σ' ρ'} r' => by
      obtain ⟨o1, o2⟩ := r'.out p _ ho1
      refine ⟨o1, ?_⟩
      have nF : ∀ a g, F' a = some g → a ≠ p := fun a g e z => by rw [z, o2] at e; cases e
      have nR : ∀ j a, R' j a → a ≠ p := fun j a ra z => by
        have := (r'.reg j a ra).2.1
        have h' : Ho a = none := this
        rw [z, ho1] at h'; cases h'
      refine ⟨fun a g e => ?_, fun a o e => ?_, r'.len, fun j x e => ?_, fun j a ra => ?_, r'.dis, r'.lnt⟩
      · have q := r'.fit a g e
        cases g with
        | hard o => exact (upd_ne (nF a _ e)).trans q
        | strm =>
          obtain ⟨m, n, g1, g2, g3⟩ := q
          exact ⟨m, n, g1, g2, (upd_ne (nF a _ e)).trans g3⟩
      · have ne : a ≠ p := fun z => by rw [z, p2] at e; cases e
        obtain ⟨g1, g2⟩ := r'.out a o (hoLe a o e)
        exact ⟨(upd_ne ne).trans g1, g2⟩
      · obtain ⟨u, g1, g2⟩ := r'.at_ j x e
        exact ⟨u, g1, g2.keep (.refl F') (fun a ra => upd_ne (nR j a ra)) fun _ ra => ra⟩
      · obtain ⟨g1, g2, g3⟩ := r'.reg j a ra
        have ne := nR j a ra
        have g2' : Ho a = none := g2
        exact ⟨g1, by rw [← ho2 a ne]; exact g2', by rw [upd_ne ne]; exact g3⟩
    have vset : σ[i]? = some (some (.ref p)) := h1
    refine ⟨.ref p, vset, p, od, _, rfl, upd_same, ?_⟩
    refine ⟨fun n m σ' H' => m = kvs.length - n ∧ n ≤ kvs.length ∧ ∃ F R ρ, Rp X.K ⟨Ho, G.L⟩ F H' R σ' ρ ∧ Fle F1 F ∧ dForL noChk g tb ((valsD kvs).drop n) E ρ, ⟨kvs.length, by simp, Nat.zero_le _, F1, R1, _, enter, .refl F1, q⟩, ?_⟩
    have hlen : qs.length = kvs.length := pr.length
    have hlenD : (valsD kvs).length = kvs.length := List.length_map ..
    have hlenQ : (qs.map fun q => (q.1, V.ref q.2)).length = kvs.length := by rw [List.length_map, hlen]
    rintro n m σ2 H2 ⟨rfl, hi, F2, R2, ρ2, r2', l2', q2⟩
    have hp2 := (leave r2').1
    by_cases hlt : n < kvs.length
    · have hltD : n < (valsD kvs).length := by rw [hlenD]; exact hlt
      refine .inr ⟨⟨hp2, by rw [hlenQ]; exact hlt⟩, fun σ' H' => ∃ F R ρ, Rp X.K ⟨Ho, G.L⟩ F H' R σ' ρ ∧ Fle F1 F ∧ dForL noChk g tb ((valsD kvs).drop (n + 1)) E ρ, fun σ' H' ⟨F, R, ρ, z⟩ => ⟨_, by omega, rfl, hlt, F, R, ρ, z⟩, fun x H' ⟨eh, k, ex⟩ => ?_⟩
      subst eh
      rw [List.drop_eq_getElem_cons hltD] at q2
      have dx : Den X.K F2 x (valsD kvs)[n] := by
        obtain ⟨w, e1, e2⟩ := (dl.le l2').get (List.getElem?_eq_getElem hltD)
        rw [List.getElem?_map] at e1 ex
        cases z : qs[n]? with
        | none => rw [z] at e1; cases e1
        | some qq =>
          rw [z] at e1 ex
          cases e1
          cases ex
          exact e2
      refine ⟨⟨Ho, G.L⟩, F2, R2, ρ2, _, _, r2', dx, q2.2, fun ρ4 σ4 F4 H4 R4 r4 l4 _ q4 => ?_⟩
      have l14 : Fle F1 F4 := l2'.trans l4
      refine ⟨⟨Ho, G.L⟩, F4, R4, ρ4, _, r4, q4, ⟨fun ρ5 σ5 F5 H5 R5 r5 l5 q5 => ⟨F5, R5, ρ5, r5, l14.trans l5, q5⟩, fun x ρ5 v σ5 F5 H5 R5 T r5 l5 t5 a5 nl q5 => ?_, fun ρ5 σ5 F5 H5 R5 r5 l5 q5 => ?_, fun ρ5 σ5 F5 H5 R5 r5 l5 q5 => ⟨F5, R5, ρ5, r5, l14.trans l5, q5⟩, fun σ' => ?_⟩⟩
      · obtain ⟨o1, r6⟩ := leave r5
        refine ⟨o1, ok.rt x ρ5 v σ5 F5 _ R5 T r6 ((l2.trans l14).trans l5) (fun a ta => ?_) (a5.keep (.refl F5) (fun a ta => ?_) fun _ ta => ta) nl q5⟩
        · obtain ⟨g1, g2, g3, g4⟩ := t5 a ta
          have ne : a ≠ p := fun z => by have g2' : Ho a = none := g2; rw [z, ho1] at g2'; cases g2'
          have g2' : Ho a = none := g2
          exact ⟨g1, by rw [← ho2 a ne]; exact g2', by rw [upd_ne ne]; exact g3, g4⟩
        · obtain ⟨g1, g2, g3, g4⟩ := t5 a ta
          exact upd_ne fun z => by have g2' : Ho a = none := g2; rw [z, ho1] at g2'; cases g2'
      · obtain ⟨o1, r6⟩ := leave r5
        exact ⟨o1, ok.nx ρ5 σ5 F5 _ R5 r6 ((l2.trans l14).trans l5) q5⟩
      · intro e ρ6 dx6 F6 H6 R6 T6 r6 l6 t6 x6 q6
        refine ok.ex σ' e ρ6 dx6 F6 H6 R6 T6 (r6.less hoLe) ((l2.trans l14).trans l6) (fun a ta => ?_) x6 q6
        obtain ⟨g1, g2, g3, g4⟩ := t6 a ta
        refine ⟨g1, ?_, g3, g4⟩
        cases z : G.Ho a with
        | none => rfl
        | some o =>
          have g2' : Ho a = none := g2
          rw [hoLe a o z] at g2'; cases g2'
    · refine .inl ⟨⟨hp2, by rw [hlenQ]; omega⟩, ?_⟩
      have ed : (valsD kvs).drop n = [] := List.drop_eq_nil_of_le (by rw [hlenD]; omega)
      rw [ed] at q2
      obtain ⟨o1, r6⟩ := leave r2'
      exact ⟨o1, ok.nx ρ2 σ2 F2 _ R2 r6 (l2.trans l2') q2.2⟩
end PD
namespace PD
open PySem L2 PySem.Spec PyProof.Rows
/-! ### a < b < c -/
def dChain (f f' : D → D → (D → Prop) → Prop) (ta tb tc : TOD) : TED := fun ρ Q X => ta ρ (fun oa ρ1 => tb ρ1 (fun ob ρ2 => see2 ρ2 oa ob fun x y => f x y fun d => match d with
  | .bl k => if k = true then tc ρ2 (fun oc ρ3 => see2 ρ3 ob oc fun y z => f' y z fun d => Q d ρ3) X else Q (.bl false) ρ2
  | _ => False) X) X
theorem le_chain {K : PySem.W.Frag} {W : WX} {f f' : D → D → (D → Prop) → Prop} {ta tb tc : TOD} {σ : L2.St} {H : Hp} {Q : VK} (h : LE K W (dChain f f' ta tb tc) σ H Q) : tChain (rD K f) (rD K f') (LO K W ta) (LO K W tb) (LO K W tc) σ H Q := by
  obtain ⟨G, F, R, ρ, Qd, Xd, r, q, n, x⟩ := h
  refine ⟨G, F, R, ρ, _, Xd, r, q, fun oa ρ1 v F1 H1 R1 r1 l1 o1 q1 => ⟨G, F1, R1, ρ1, _, Xd, r1, q1, fun ob ρ2 w F2 H2 R2 r2 l2 o2 q2 => ?_, x.le l1⟩, x⟩
  obtain ⟨dx, ex, q3⟩ := see1_of q2
  obtain ⟨dy, ey, q3⟩ := see1_of q3
  refine ⟨F2, dx, dy, _, r2.fit, r2.look (o1.le l2) ex, r2.look o2 ey, q3, fun z d F3 H3 g dz p => ?_⟩
  cases d with
  | bl k =>
    cases dz
    refine ⟨k, rfl, ?_⟩
    have r3 := r2.grow g
    cases k with
    | true =>
      have p' : tc ρ2 (fun oc ρ3 => see2 ρ3 ob oc fun y z => f' y z fun d => Qd d ρ3) Xd := by simpa using p
      rw [if_pos rfl]
      refine ⟨G, F3, R2, ρ2, _, Xd, r3, p', fun oc ρ3 u F4 H4 R4 r4 l4 o4 q4 => ?_, x.le ((l1.trans l2).trans g.le)⟩
      obtain ⟨ey2, h1, q5⟩ := see1_of q4
      obtain ⟨ez2, h2, q5⟩ := see1_of q5
      exact ⟨F4, ey2, ez2, _, r4.fit, r4.look (o2.le (g.le.trans l4)) h1, r4.look o4 h2, q5, fun z d F5 H5 g5 dz p => n d ρ3 z F5 H5 R4 (r4.grow g5) ((((l1.trans l2).trans g.le).trans l4).trans g5.le) dz p⟩
    | false =>
      rw [if_neg Bool.false_ne_true]
      exact n (.bl false) ρ2 _ F3 H3 R2 r3 ((l1.trans l2).trans g.le) (.bl false) (by simpa using p)
  | _ => exact p.elim
theorem de_chain {X : Cx} {a b c : Expr} {pos : Pos} {op op' : CmpOp} {f f' : D → D → (D → Prop) → Prop} {ta tb tc : TOD} (ho : OpR X (compareOp op) (rD X.K f)) (ho' : OpR X (compareOp op') (rD X.K f')) (ha : DO X a ta) (hb : DO X b tb) (hc : DO X c tc)
    (hm : lastMarks [op, op'] [b, c] = false := by with_unfolding_all rfl) : DE X (.Compare a [op, op'] [b, c] pos) (dChain f f' ta tb tc) := fun W tk => pe_imp (pe_chain ho ho' (ha W tk) (hb W tk) (hc W tk) hm) fun _ _ _ h => le_chain h
end PD
namespace PD
open PySem L2 PySem.Spec PyProof.Rows
abbrev AllT (X : Cx) (tbl : List (Str × SpD)) : Prop := ∀ q ∈ tbl, ∃ k, FnD X.prog X.w X.K X.mg X.base k (He.ga X.K q.1) [] q.2 ∧ Room k X.A ∧ PySem.W.keepIn X.K (.ref (He.ga X.K q.1)) = true
theorem allT_nil {X : Cx} : AllT X [] := fun _ h => by cases h
theorem allT_cons {X : Cx} {k : Nat} {x : Str} {sp : SpD} {tbl : List (Str × SpD)} (F : FnD X.prog X.w X.K X.mg X.base k (He.ga X.K x) [] sp) (hr : Room k X.A) (hk : PySem.W.keepIn X.K (.ref (He.ga X.K x)) = true) (h : AllT X tbl) : AllT X ((x, sp) :: tbl) := fun q hq => by
  rcases List.mem_cons.mp hq with e | e
  · subst e
    exact ⟨k, F, hr, hk⟩
  · exact h q e
end PD
set_option maxHeartbeats 1000000
namespace PD
open PySem L2 PySem.Spec PyProof.Rows
section
variable {ρ : Rho} {E : EndsD} {X : XD} {i j n : Nat} {d x y : D} {K : PySem.W.Frag} {sp : SpD} {C : Addr} {m : Str} {kvs : List (Key × D)} {k : Key} {P : D → Prop}
variable {QE : D → Rho → Prop} {QX : DV → Rho → Prop} {QT : Bool → Rho → Prop} {QO : Opd → Rho → Prop} {QA : List D → Rho → Prop} {QV : List Opd → Rho → Prop} {QS : Rho → Prop}
@[simp] theorem keyD_i {a : Int} : keyD (.int a) = some (.inl a) := id rfl
@[simp] theorem keyD_s {s : Str} : keyD (.str s) = some (.inr s) := id rfl
@[simp ↓] theorem s_dDNew : dDNew ρ QX X = QX (.o (.dic [])) ρ := id rfl
@[simp ↓] theorem s_dDNewL : dDNewL ρ QX X = QX (.o (.dil [])) ρ := id rfl
@[simp ↓] theorem s_dDIn {neg : Bool} {ta tb : TOD} : dDIn neg ta tb ρ QE X = dOp (fDIn neg) ta tb ρ QE X := id rfl
@[simp ↓] theorem s_fDInI {neg : Bool} {a : Int} : fDIn neg (.int a) (.dic kvs) P = P (.bl ((valD kvs (.inl a)).isSome ^^ neg)) := id rfl
@[simp ↓] theorem s_fDInS {neg : Bool} {a : Str} : fDIn neg (.str a) (.dic kvs) P = P (.bl ((valD kvs (.inr a)).isSome ^^ neg)) := id rfl
@[simp ↓] theorem s_dDGet {ta tb : TOD} : dDGet ta tb ρ QE X = dOp fDGet ta tb ρ QE X := id rfl
@[simp ↓] theorem s_fDGetI {a : Int} : fDGet (.dic kvs) (.int a) P = (match valD kvs (.inl a) with
    | some d => P d
    | none => False) := id rfl
@[simp ↓] theorem s_dDGet2 {ta tb : TOD} {tc : TED} : dDGet2 ta tb tc ρ QE X = ta ρ (fun oa ρ1 => see1 ρ1 oa (fun y => match y with
  | .dic _ => True
  | _ => False) ∧ tb ρ1 (fun ob ρ2 => tc ρ2 (fun z ρ3 => see1 ρ3 oa fun y => see1 ρ3 ob fun x => match keyD x, y with
  | some k, .dic kvs => QE ((valD kvs k).getD z) ρ3
  | _, _ => False) X) X) X := id rfl
@[simp ↓] theorem s_dDLen {ta : TOD} : dDLen ta ρ QX X = ta ρ (fun oa ρ1 => see1 ρ1 oa fun y => match y with
  | .dic kvs => QX (.v (.int kvs.length)) ρ1
  | _ => False) X := id rfl
@[simp ↓] theorem s_dDPut {tk te : TED} : dDPut i tk te E ρ = te ρ (fun d ρ1 => slotD i ρ1 ≠ none ∧ tk ρ1 (fun dk ρ2 => slotK i ρ2 fun o => match o with
  | some (.o (.dic kvs)) => (match keyD dk with
    | some k => Uniq kvs ∧ kvs.length < sizeLine ∧ setK i (some (.o (.dic (putDK kvs k d)))) ρ2 E.nx
    | none => False)
  | _ => False) E.ex) E.ex := id rfl
@[simp ↓] theorem s_dSetApp {tk : TED} : dSetApp i tk j ρ QX X = ((match slotD i ρ with
  | some (.o (.dil _)) => True
  | _ => False) ∧ tk ρ (fun dk ρ1 => slotK i ρ1 fun oi => slotK j ρ1 fun oj => match keyD dk, oi, oj with
    | some k, some (.o (.dil kvs)), some (.v d) => i ≠ j ∧ szK kvs ∧ setK i (some (.o (.dil (appK kvs k d)))) ρ1 (QX (.v .non))
    | _, _, _ => False) X) := id rfl
@[simp ↓] theorem s_dForV {g : TGD} {body : TSD} : dForV i g body E ρ = slotK i ρ fun o => match o with
  | some (.o (.dil kvs)) => setK i none ρ (dForL noChk g body (valsD kvs) E)
  | _ => False := by
  unfold dForV slotK setK
  rfl
@[simp ↓] theorem s_dCallT {tbl : List (Str × SpD)} {t : TVD} : dCallT i tbl t ρ QX X = slotK i ρ fun o => match o with
  | some (.v (.fn nm)) => (match tbl.lookup nm with
    | some sp => t ρ (fun ods ρ1 => callD ρ1 ods sp QX X) X
    | none => False)
  | _ => False := id rfl
@[simp ↓] theorem s_dChain {f f' : D → D → (D → Prop) → Prop} {ta tb tc : TOD} : dChain f f' ta tb tc ρ QE X = ta ρ (fun oa ρ1 => tb ρ1 (fun ob ρ2 => see1 ρ2 oa fun x => see1 ρ2 ob fun y => f x y fun d => match d with
  | .bl k => if k = true then tc ρ2 (fun oc ρ3 => see1 ρ3 ob fun y => see1 ρ3 oc fun z => f' y z fun d => QE d ρ3) X else QE (.bl false) ρ2
  | _ => False) X) X := id rfl
end
end PD
namespace PD
open PySem L2 PySem.Spec PyProof.Rows
/-- what its own names held before does not matter to a comprehension that has a turn -/
theorem lc_wipe {chk : Rho → Prop} {g : TGD} {tt : TTD} {te : TED} {vs : List Nat} {Q : List D → Rho → Prop} {ds acc : List D} {ρ0 : Rho} (ρ : Rho) (hn : ds ≠ []) (hc0 : chk ρ0) (hc : chk ρ) (h : wipeD ρ0 vs = wipeD ρ vs) :
    dLcL chk g tt te vs ds acc ρ0 Q = dLcL chk g tt te vs ds acc ρ Q := by
  cases ds with
  | nil => exact absurd rfl hn
  | cons d ds => rw [s_dLcLc, s_dLcLc, h]; simp [hc0, hc]
/-- the last thing that a loop's name held -/
def lastS {α : Type} (enc : α → D) : List α → Option DV → Option DV
  | [], x => x
  | a :: l, _ => lastS enc l (some (.v (enc a)))
@[simp] theorem lastS_n {α : Type} {enc : α → D} {x : Option DV} : lastS enc [] x = x := id rfl
@[simp] theorem lastS_c {α : Type} {enc : α → D} {x : Option DV} {a : α} {l : List α} : lastS enc (a :: l) x = lastS enc l (some (.v (enc a))) := id rfl
/-- a whole number that counts -/
abbrev natD (n : Nat) : D := .int (n : Int)
theorem rangeD_nat {n : Nat} : rangeD 0 n = (List.range n).map natD := by
  unfold rangeD
  simp
end PD
namespace PD
open PySem L2 PySem.Spec PyProof.Rows
section
variable {xs : List D} {lo hi : Option Int} {PV : DV → Prop} {z : Str}
@[simp ↓] theorem s_fSlL : fSl (.lst xs) lo hi PV = PV (.o (.lst (cutD xs lo hi))) := id rfl
theorem sIx_n {n d : Nat} : HT.sIx n d none = d := id rfl
theorem sIx_k {n d k : Nat} : HT.sIx n d (some (k : Int)) = min k n := HT.sIx_nat n d k
@[simp] theorem cut_from {α : Type} {enc : α → D} {l : List α} {k : Nat} : cutD (l.map enc) (some (k : Int)) none = (l.drop k).map enc := by
  unfold cutD
  rw [sIx_k, sIx_n, List.length_map, ← List.map_drop, ← List.map_take]
  by_cases h : k ≤ l.length
  · rw [Nat.min_eq_left h, List.take_of_length_le (by simp)]
  · rw [Nat.min_eq_right (by omega), List.drop_of_length_le (Nat.le_refl _), List.drop_of_length_le (by omega)]; simp
@[simp] theorem cut_to {α : Type} {enc : α → D} {l : List α} {k : Nat} : cutD (l.map enc) none (some (k : Int)) = (l.take k).map enc := by
  unfold cutD
  rw [sIx_k, sIx_n, List.length_map, List.drop_zero, Nat.sub_zero, ← List.map_take]
  by_cases h : k ≤ l.length
  · rw [Nat.min_eq_left h]
  · rw [Nat.min_eq_right (by omega), List.take_of_length_le (Nat.le_refl _), List.take_of_length_le (by omega)]
theorem cut_1 {α : Type} {enc : α → D} {l : List α} : cutD (l.map enc) (some 1) none = (l.drop 1).map enc := cut_from (k := 1)
theorem cut_t1 {α : Type} {enc : α → D} {l : List α} : cutD (l.map enc) none (some 1) = (l.take 1).map enc := cut_to (k := 1)
theorem cut_last {α : Type} {enc : α → D} {l : List α} : cutD (l.map enc) (some (-1)) none = (l.drop (l.length - 1)).map enc := by
  have e : HT.sIx l.length 0 (some (-1)) = l.length - 1 := by
    unfold HT.sIx
    dsimp only
    rw [if_pos (by decide)]
    omega
  unfold cutD
  rw [List.length_map, e, sIx_n, ← List.map_drop, ← List.map_take, List.take_of_length_le (by simp)]
@[simp] theorem evs_mn {α : Type} {enc : α → D} {l : List α} : eqvDs (l.map enc) [] = l.isEmpty := by cases l <;> simp
theorem ev_nat (a b : Nat) : eqvD (natD a) (natD b) = decide (a = b) := by
  rw [ev_ii]
  by_cases h : a = b
  · rw [decide_eq_true h, decide_eq_true (by omega)]
  · rw [decide_eq_false h, decide_eq_false (by omega)]
@[simp] theorem evs_nats {l m : List Nat} : eqvDs (l.map natD) (m.map natD) = decide (l = m) := evs_map ev_nat
@[simp] theorem shs_nats {n : Nat} {l : List Nat} : shDs n (l.map natD) = true := shDs_map fun _ => sh_i
@[simp] theorem fl_nats {l : List Nat} : (l.map natD).all flatD = true := by simp [List.all_map, Function.comp_def]
@[simp] theorem inE_nats {l : List Nat} {n : Nat} : inE (.int n) (l.map natD) = decide (n ∈ l) := inE_map (enc := natD) ev_nat
end
end PD
namespace PD
open PySem L2 PySem.Spec PyProof.Rows
@[simp ↓] theorem s_dExtend {ρ : Rho} {i : Nat} {te : TED} {QX : DV → Rho → Prop} {X : XD} : dExtend i te ρ QX X = (ownL ρ i (fun _ _ => True) ∧ te ρ (fun d ρ1 => ownL ρ1 i fun xs put => match d with
  | .lst ys => xs.length + ys.length ≤ sizeLine ∧ QX (.v .non) (put (xs ++ ys))
  | _ => False) X) := id rfl
theorem filterMap_map' {α β γ : Type} (f : α → Option β) (g : β → γ) : ∀ l : List α, l.filterMap (fun a => (f a).map g) = (l.filterMap f).map g
  | [] => rfl
  | a :: l => by
    rw [List.filterMap_cons, List.filterMap_cons, filterMap_map' f g l]
    cases f a <;> rfl
end PD
namespace PD
open PySem L2 PySem.Spec PyProof.Rows
section
variable {xs : List D} {k : Bool → Prop} {a : Int} {b : Bool} {kvs : List (Key × D)}
@[simp ↓] theorem truL : truD (.lst xs) k = k (!xs.isEmpty) := id rfl
@[simp ↓] theorem truT : truD (.tup xs) k = k (!xs.isEmpty) := id rfl
@[simp ↓] theorem truI : truD (.int a) k = k (!decide (a = 0)) := id rfl
@[simp ↓] theorem truB : truD (.bl b) k = k b := id rfl
@[simp ↓] theorem truN : truD .non k = k false := id rfl
end
end PD
namespace PD
open PySem L2 PySem.Spec PyProof.Rows
/-! ### dicts by counted keys -/
def encF (b : Nat → D) (S : List Nat) : List (Key × D) := S.map fun (p : Nat) => ((Sum.inl (p : Int) : Key), b p)
def addS (S : List Nat) (p : Nat) : List Nat := if p ∈ S then S else S ++ [p]
theorem encF_len {b : Nat → D} {S : List Nat} : (encF b S).length = S.length := by unfold encF; simp
theorem inl_eq {i j : Int} : ((Sum.inl i : Key) = Sum.inl j) = (i = j) := by simp
theorem encF_val {b : Nat → D} {p : Nat} : ∀ {S : List Nat}, valD (encF b S) (.inl (p : Int)) = if p ∈ S then some (b p) else none
  | [] => by simp [encF, valD]
  | q :: S => by
    have ih := encF_val (b := b) (p := p) (S := S)
    unfold encF at ih ⊢
    rw [List.map_cons]
    unfold valD
    by_cases h : q = p
    · subst h; simp
    · rw [if_neg (by rw [inl_eq]; omega), ih]
      have h2 : ¬ p = q := fun z => h z.symm
      simp [h2]
theorem encF_put {b : Nat → D} {p : Nat} : ∀ {S : List Nat}, putDK (encF b S) (.inl (p : Int)) (b p) = encF b (addS S p)
  | [] => by simp [encF, putDK, addS]
  | q :: S => by
    have ih := encF_put (b := b) (p := p) (S := S)
    unfold encF at ih ⊢
    rw [List.map_cons]
    unfold putDK
    by_cases h : q = p
    · subst h; simp [addS]
    · rw [if_neg (by rw [inl_eq]; omega), ih]
      have h2 : ¬ p = q := fun z => h z.symm
      unfold addS
      by_cases h3 : p ∈ S <;> simp [h2, h3]
theorem encF_uniq {b : Nat → D} {S : List Nat} (h : S.Nodup) : Uniq (encF b S) := by
  unfold Uniq encF
  rw [List.map_map]
  unfold List.Nodup at h ⊢
  rw [List.pairwise_map]
  exact h.imp fun {a b} ne z => ne (by
    have z' : (Sum.inl (a : Int) : Key) = Sum.inl (b : Int) := z
    rw [inl_eq] at z'
    omega)
theorem addS_nodup {S : List Nat} {p : Nat} (h : S.Nodup) : (addS S p).Nodup := by
  unfold addS
  split
  · exact h
  · rename_i hp
    rw [List.nodup_append]
    exact ⟨h, by simp, fun a ha b hb e => hp (by
      have : b = p := by simpa using hb
      rw [← this, ← e]; exact ha)⟩
theorem mem_addS {S : List Nat} {p q : Nat} : q ∈ addS S p ↔ q ∈ S ∨ q = p := by
  unfold addS
  split
  · rename_i h
    exact ⟨.inl, fun z => z.elim id fun e => by rw [e]; exact h⟩
  · simp
/-! ### dicts of counted lists -/
def encG (gl : List (Int × List Nat)) : List (Key × List D) := gl.map fun (kg : Int × List Nat) => ((Sum.inl kg.1 : Key), kg.2.map natD)
def appG : List (Int × List Nat) → Int → Nat → List (Int × List Nat)
  | [], k, p => [(k, [p])]
  | (j, l) :: r, k, p => if j = k then (j, l ++ [p]) :: r else (j, l) :: appG r k p
theorem encG_len {gl : List (Int × List Nat)} : (encG gl).length = gl.length := by unfold encG; simp
theorem encG_app {k : Int} {p : Nat} : ∀ {gl : List (Int × List Nat)}, appK (encG gl) (.inl k) (natD p) = encG (appG gl k p)
  | [] => by simp [encG, appK, appG]
  | (j, l) :: r => by
    have ih := encG_app (k := k) (p := p) (gl := r)
    unfold encG at ih ⊢
    rw [List.map_cons]
    unfold appK appG
    by_cases h : j = k
    · subst h; simp
    · rw [if_neg (by rw [inl_eq]; exact h), if_neg h, ih]
      simp
theorem encG_vals {gl : List (Int × List Nat)} : valsD (encG gl) = gl.map fun kg => D.lst (kg.2.map natD) := by
  unfold valsD encG
  rw [List.map_map]
  rfl
/-- at most this many lists, of at most this many items each -/
def Small (n : Nat) (gl : List (Int × List Nat)) : Prop := gl.length ≤ n ∧ ∀ kg ∈ gl, kg.2.length ≤ n
theorem Small.app {n : Nat} {gl : List (Int × List Nat)} {k : Int} {p : Nat} (h : Small n gl) : Small (n + 1) (appG gl k p) := by
  obtain ⟨h1, h2⟩ := h
  have key : ∀ gl : List (Int × List Nat), (∀ kg ∈ gl, kg.2.length ≤ n) → (appG gl k p).length ≤ gl.length + 1 ∧ ∀ kg ∈ appG gl k p, kg.2.length ≤ n + 1 := by
    intro gl
    induction gl with
    | nil => intro _; simp [appG]
    | cons a r ih =>
      obtain ⟨j, l⟩ := a
      intro hh
      have hr := ih fun kg hkg => hh kg (List.mem_cons_of_mem _ hkg)
      have hl := hh (j, l) List.mem_cons_self
      dsimp only at hl
      unfold appG
      split
      · refine ⟨by simp, fun kg hkg => ?_⟩
        rcases List.mem_cons.mp hkg with e | e
        · subst e; simp; exact hl
        · have := hh kg (List.mem_cons_of_mem _ e); omega
      · refine ⟨by simp; omega, fun kg hkg => ?_⟩
        rcases List.mem_cons.mp hkg with e | e
        · subst e; dsimp only; omega
        · exact hr.2 kg e
  have := key gl h2
  exact ⟨by omega, this.2⟩
theorem Small.sz {n : Nat} {gl : List (Int × List Nat)} (h : Small n gl) (hn : n < 16777216) : szK (encG gl) := by
  refine ⟨by rw [encG_len, sizeLine_is]; have := h.1; omega, fun kv hkv => ?_⟩
  unfold encG at hkv
  obtain ⟨kg, hkg, rfl⟩ := List.mem_map.mp hkv
  have := h.2 kg hkg
  rw [sizeLine_is]
  simp
  omega
end PD
namespace PD
open PySem L2 PySem.Spec PyProof.Rows
section
variable {X : Cx} {p p2 pos pos2 : Pos} {e e' : Expr}
/-- list(range(m, n)) -/
def dLRg2 (t u : TED) : TXD := fun ρ Q X => t ρ (fun d ρ1 => u ρ1 (fun d' ρ2 => match d, d' with
  | .int m, .int n => RgOk m n ∧ Q (.o (.lst (rangeD m (n - m).toNat))) ρ2
  | _, _ => False) X) X
theorem rgV_den2 {K : PySem.W.Frag} {F : Fz} {m n : Int} : DenL K F (rgV m n) (rangeD m (n - m).toNat) := by
  unfold rgV rangeD
  induction List.range (n - m).toNat with
  | nil => exact .nil
  | cons i l ih => exact .cons (.int _) ih
theorem dx_listRg2 {t u : TED} (hc : X.calm = true) (hg : Gl X "list") (hm : X.mg "list" = none) (hg2 : Gl X "range") (hm2 : X.mg "range" = none) (he : DE X e t) (he' : DE X e' u) (na : starEach [.Call (.Name "range" p2) [e, e'] [] pos2] X.env = (false, eval (.Call (.Name "range" p2) [e, e'] [] pos2) X.env) :: starEach [] X.env := by rfl)
    (na2 : starEach [e, e'] X.env = (false, eval e X.env) :: starEach [e'] X.env := by rfl) (nb2 : starEach [e'] X.env = (false, eval e' X.env) :: starEach [] X.env := by rfl) (hp : ((backTo pos2 (starEach [e'] X.env)).any fun x => x.1) = false := by rfl) :
    DX X (.Call (.Name "list" p) [.Call (.Name "range" p2) [e, e'] [] pos2] [] pos) (dLRg2 t u) := fun W tk =>
  pe_imp (pe_listRg hc hg hm (prg_2 hg2 hm2 (he W tk) (he' W tk) na2 nb2 hp) na) fun σ H Q ⟨G, Fz, R, ρ, Qd, Xd, r, q, n, xx⟩ => ⟨G, Fz, R, ρ, _, Xd, r, q, fun d ρ1 v F1 H1 R1 r1 l1 hd q1 =>
    ⟨G, F1, R1, ρ1, _, Xd, r1, q1, fun d' ρ2 v' F2 H2 R2 r2 l2 hd' q2 => by
      cases hd with
      | int i => cases hd' with
        | int j =>
          refine ⟨i, j, rfl, rfl, q2.1, fun q hq => ?_⟩
          exact n (.o (.lst (rangeD i (j - i).toNat))) ρ2 (.ref q) F2 _ R2 (fun a => a = q) (r2.grow (.own r2.fit hq)) (l1.trans l2) (.new r2 hq) ⟨q, _, rfl, rfl, upd_same, rgV_den2⟩ (fun b z => nomatch z) q2.2
        | _ => exact q2.elim
      | _ => cases hd' <;> exact q2.elim, xx.le l1⟩, xx⟩
@[simp ↓] theorem s_dLRg2 {t u : TED} {ρ : Rho} {QX : DV → Rho → Prop} {XX : XD} : dLRg2 t u ρ QX XX = t ρ (fun d ρ1 => u ρ1 (fun d' ρ2 => match d, d' with
  | .int m, .int n => RgOk m n ∧ QX (.o (.lst (rangeD m (n - m).toNat))) ρ2
  | _, _ => False) XX) XX := id rfl
def fIAdd : D → D → (D → Prop) → Prop := fun x y P => match x, y with
  | .int i, .int j => P (.int (i + j))
  | _, _ => False
theorem iAddN : OpR X (inplaceOp .Add) (rD X.K fIAdd) := iAdd
@[simp ↓] theorem s_fIAdd {i j : Int} {P : D → Prop} : fIAdd (.int i) (.int j) P = P (.int (i + j)) := id rfl
end
end PD
set_option maxHeartbeats 1000000
namespace PD
open PySem L2 PySem.Spec PyProof.Rows
/-! ### an own object is lent while an expression or a statement runs -/
def gLend (G : Gd) (i : Nat) (v : V) : Gd := ⟨G.Ho, fun j => if j = i then v else G.L j⟩
theorem set_getSome {α : Type} {l : List α} {i : Nat} {x : α} (h : l[i]? = some x) : l.set i x = l := by
  obtain ⟨hl, he⟩ := List.getElem?_eq_some_iff.mp h
  rw [← he]
  exact List.set_getElem_self hl
theorem Rp.lend {K : PySem.W.Frag} {G : Gd} {F : Fz} {H : Hp} {R : Nat → Addr → Prop} {σ : L2.St} {ρ : Rho} {i : Nat} {b : Box} (r : Rp K G F H R σ ρ) (e : ρ[i]? = some (some (.o b))) :
    ∃ v, Rp K (gLend G i v) F H R σ (ρ.set i (some (.l b))) := by
  obtain ⟨v, h1, h2⟩ := r.at_ i _ e
  have hi : i < ρ.length := (List.getElem?_eq_some_iff.mp e).1
  refine ⟨v, r.fit, r.out, by simpa using r.len, fun j x ej => ?_, r.reg, r.dis, fun j b' ej => ?_⟩
  · by_cases q : j = i
    · subst q
      rw [List.getElem?_set_self hi] at ej
      cases ej
      exact ⟨v, h1, h2⟩
    · rw [List.getElem?_set_ne (Ne.symm q)] at ej
      exact r.at_ j x ej
  · by_cases q : j = i
    · subst q
      rw [h1]
      show some (some v) = some (some (if j = j then v else G.L j))
      rw [if_pos rfl]
    · rw [List.getElem?_set_ne (Ne.symm q)] at ej
      rw [r.lnt j b' ej]
      show some (some (G.L j)) = some (some (if j = i then v else G.L j))
      rw [if_neg q]
theorem Rp.unlend {K : PySem.W.Frag} {G : Gd} {F : Fz} {H : Hp} {R : Nat → Addr → Prop} {σ : L2.St} {ρ : Rho} {i : Nat} {b : Box} {v : V} (r : Rp K (gLend G i v) F H R σ ρ) (e : ρ[i]? = some (some (.l b))) :
    Rp K G F H R σ (ρ.set i (some (.o b))) := by
  obtain ⟨v, h1, h2⟩ := r.at_ i _ e
  have hi : i < ρ.length := (List.getElem?_eq_some_iff.mp e).1
  refine ⟨r.fit, r.out, by simpa using r.len, fun j x ej => ?_, r.reg, r.dis, fun j b' ej => ?_⟩
  · by_cases q : j = i
    · subst q
      rw [List.getElem?_set_self hi] at ej
      cases ej
      exact ⟨v, h1, h2⟩
    · rw [List.getElem?_set_ne (Ne.symm q)] at ej
      exact r.at_ j x ej
  · by_cases q : j = i
    · subst q
      rw [List.getElem?_set_self hi] at ej
      cases ej
    · rw [List.getElem?_set_ne (Ne.symm q)] at ej
      have := r.lnt j b' ej
      rw [this]
      show some (some (if j = i then _ else G.L j)) = _
      rw [if_neg q]
/-- the lent object comes back -/
def backK (i : Nat) (ρ : Rho) (k : Rho → Prop) : Prop := match ρ.getD i none with
  | some (.l b) => k (ρ.set i (some (.o b)))
  | _ => False
theorem backK_of {i : Nat} {ρ : Rho} {k : Rho → Prop} (h : backK i ρ k) : ∃ b, ρ[i]? = some (some (.l b)) ∧ k (ρ.set i (some (.o b))) := by
  unfold backK at h
  cases e : ρ.getD i none with
  | none => rw [e] at h; exact h.elim
  | some y =>
    rw [e] at h
    cases y with
    | l b => exact ⟨b, getD_some e, h⟩
    | v d => exact h.elim
    | o b => exact h.elim
def dLendX (i : Nat) (t : TXD) : TXD := fun ρ Q X => match ρ.getD i none with
  | some (.o b) => t (ρ.set i (some (.l b))) (fun x ρ' => backK i ρ' (Q x)) (fun e ρ' => backK i ρ' (X e))
  | _ => t ρ Q X
theorem dx_lend {X : Cx} {e : Expr} {t : TXD} (i : Nat) (h : DX X e t) : DX X e (dLendX i t) := fun W tk => pe_imp (h W tk) fun σ H Q ⟨G, F, R, ρ, Qd, Xd, r, q, n, x⟩ => by
  have q' : (match ρ.getD i none with
    | some (.o b) => t (ρ.set i (some (.l b))) (fun x ρ' => backK i ρ' (Qd x)) (fun e ρ' => backK i ρ' (Xd e))
    | _ => t ρ Qd Xd) := q
  cases e : ρ.getD i none with
  | none => rw [e] at q'; exact ⟨G, F, R, ρ, Qd, Xd, r, q', n, x⟩
  | some y =>
    rw [e] at q'
    cases y with
    | v d => exact ⟨G, F, R, ρ, Qd, Xd, r, q', n, x⟩
    | l b => exact ⟨G, F, R, ρ, Qd, Xd, r, q', n, x⟩
    | o b =>
      obtain ⟨v, r1⟩ := r.lend (getD_some e)
      refine ⟨_, F, R, _, _, _, r1, q', fun y ρ' u F' H' R' T r' l tm at_ nl qd => ?_, fun ee ρ' dx F' H' R' T r' l tm ex xd => ?_⟩
      · obtain ⟨b', e', k⟩ := backK_of qd
        exact n y _ u F' H' R' T (r'.unlend e') l tm at_ nl k
      · obtain ⟨b', e', k⟩ := backK_of xd
        exact x ee _ dx F' H' R' T (r'.unlend e') l tm ex k
def backE (i : Nat) (E : EndsD) : EndsD := ⟨fun ρ => backK i ρ E.nx, fun x ρ => backK i ρ (E.rt x), fun ρ => backK i ρ E.bk, fun ρ => backK i ρ E.ct, fun e ρ => backK i ρ (E.ex e)⟩
def dLendS (i : Nat) (t : TSD) : TSD := fun E ρ => match ρ.getD i none with
  | some (.o b) => t (backE i E) (ρ.set i (some (.l b)))
  | _ => t E ρ
theorem ds_lend {X : Cx} {st : Stmt} {t : TSD} (i : Nat) (h : DS X st t) : DS X st (dLendS i t) := fun W tk po => ps_imp (h W tk po) fun D σ H ⟨G, F, R, ρ, E, r, q, o⟩ => by
  have q' : (match ρ.getD i none with
    | some (.o b) => t (backE i E) (ρ.set i (some (.l b)))
    | _ => t E ρ) := q
  cases e : ρ.getD i none with
  | none => rw [e] at q'; exact ⟨G, F, R, ρ, E, r, q', o⟩
  | some y =>
    rw [e] at q'
    cases y with
    | v d => exact ⟨G, F, R, ρ, E, r, q', o⟩
    | l b => exact ⟨G, F, R, ρ, E, r, q', o⟩
    | o b =>
      obtain ⟨v, r1⟩ := r.lend (getD_some e)
      refine ⟨_, F, R, _, _, r1, q', ⟨fun ρ' σ' F' H' R' r' l k => ?_, fun x ρ' v σ' F' H' R' T r' l tm at_ nl k => ?_, fun ρ' σ' F' H' R' r' l k => ?_, fun ρ' σ' F' H' R' r' l k => ?_, fun σ' ee ρ' dx F' H' R' T r' l tm ex k => ?_⟩⟩
      · obtain ⟨b', e', k⟩ := backK_of k
        exact o.nx _ σ' F' H' R' (r'.unlend e') l k
      · obtain ⟨b', e', k⟩ := backK_of k
        exact o.rt x _ v σ' F' H' R' T (r'.unlend e') l tm at_ nl k
      · obtain ⟨b', e', k⟩ := backK_of k
        exact o.bk _ σ' F' H' R' (r'.unlend e') l k
      · obtain ⟨b', e', k⟩ := backK_of k
        exact o.ct _ σ' F' H' R' (r'.unlend e') l k
      · obtain ⟨b', e', k⟩ := backK_of k
        exact o.ex σ' ee _ dx F' H' R' T (r'.unlend e') l tm ex k
section
variable {ρ : Rho} {E : EndsD} {X : XD} {i : Nat} {QX : DV → Rho → Prop}
@[simp ↓] theorem s_backK {k : Rho → Prop} : backK i ρ k = (slotK i ρ fun o => match o with
  | some (.l b) => setK i (some (.o b)) ρ k
  | _ => False) := id rfl
@[simp ↓] theorem s_dLendX {t : TXD} : dLendX i t ρ QX X = (slotK i ρ fun o => match o with
  | some (.o b) => setK i (some (.l b)) ρ fun ρ1 => t ρ1 (fun x ρ' => backK i ρ' (QX x)) (fun e ρ' => backK i ρ' (X e))
  | _ => t ρ QX X) := id rfl
@[simp ↓] theorem s_dLendS {t : TSD} : dLendS i t E ρ = (slotK i ρ fun o => match o with
  | some (.o b) => setK i (some (.l b)) ρ fun ρ1 => t (backE i E) ρ1
  | _ => t E ρ) := id rfl
variable {x : DV} {ee : Exn}
@[simp ↓] theorem s_backE_nx : (backE i E).nx ρ = backK i ρ E.nx := id rfl
@[simp ↓] theorem s_backE_rt : (backE i E).rt x ρ = backK i ρ (E.rt x) := id rfl
@[simp ↓] theorem s_backE_bk : (backE i E).bk ρ = backK i ρ E.bk := id rfl
@[simp ↓] theorem s_backE_ct : (backE i E).ct ρ = backK i ρ E.ct := id rfl
@[simp ↓] theorem s_backE_ex : (backE i E).ex ee ρ = backK i ρ (E.ex ee) := id rfl
end
end PD
namespace PD
open PySem L2 PySem.Spec PyProof.Rows
/-! ### built-in methods that change nothing, with one argument -/
def tyD (T : String) : D → Prop
  | .lst _ => T = "list"
  | .str _ => T = "str"
  | _ => False
theorem see_tyV {K : PySem.W.Frag} {F : Fz} {H : Hp} {v : V} {d : D} {T : String} (fit : Fit F H) (s : See K F H v d) (h : tyD T d) : tyV K T v H := by
  cases d with
  | lst ds =>
    obtain ⟨a, vs, rfl, h1, _⟩ := s.lst fit
    exact .inl ⟨h, vs, SqL.of h1⟩
  | str z =>
    have e := s.str
    subst e
    exact h
  | _ => exact h.elim
def rM1 (K : PySem.W.Frag) (f : D → D → (DV → Prop) → Prop) : V → List V → Hp → VK → Prop := fun x xs H Q => ∃ (y : V) (F : Fz) (dx dy : D) (P : DV → Prop), xs = [y] ∧ Fit F H ∧ See K F H x dx ∧ See K F H y dy ∧ f dx dy P ∧
  ∀ z w F' H' T, Grow F H F' H' → (∀ a, T a → H a = none ∧ H' a ≠ none ∧ F' a = none) → AtV K F' H' T w z → (∀ b, w ≠ .l b) → P w → Q z H'
def dM1 (T : String) (f : D → D → (DV → Prop) → Prop) (ta tb : TOD) : TXD := fun ρ Q X => ta ρ (fun oa ρ1 => see1 ρ1 oa (tyD T) ∧ tb ρ1 (fun ob ρ2 => see2 ρ2 oa ob fun x y => f x y fun z => Q z ρ2) X) X
theorem lx_m1 {K : PySem.W.Frag} {W : WX} {T : String} {f : D → D → (DV → Prop) → Prop} {ta tb : TOD} {σ : L2.St} {H : Hp} {Q : VK} (h : LX K W (dM1 T f ta tb) σ H Q) : tBM K T (rM1 K f) (LO K W ta) (tCons (LO K W tb) tNil) σ H Q := by
  obtain ⟨G, F, R, ρ, Qd, Xd, r, q, n, x⟩ := h
  refine ⟨G, F, R, ρ, _, Xd, r, q, fun oa ρ1 v F1 H1 R1 r1 l1 o1 ⟨q0, q1⟩ => ?_, x⟩
  obtain ⟨d0, e0, q0⟩ := see1_of q0
  refine ⟨see_tyV r1.fit (r1.look o1 e0) q0, G, F1, R1, ρ1, _, Xd, r1, q1, fun ob ρ2 w F2 H2 R2 r2 l2 o2 q2 => ?_, x.le l1⟩
  obtain ⟨d, ed, q2⟩ := see1_of q2
  obtain ⟨d', ed', q2⟩ := see1_of q2
  refine ⟨w, F2, d, d', _, rfl, r2.fit, r2.look (o1.le l2) ed, r2.look o2 ed', q2, fun z y F3 H3 T g ht at_ nl p => ?_⟩
  refine n y ρ2 z F3 H3 R2 T (r2.grow g) ((l1.trans l2).trans g.le) (fun a ta => ?_) at_ nl p
  obtain ⟨h1, h2, h3⟩ := ht a ta
  obtain ⟨g1, g2, g3⟩ := r2.ho_free h1
  exact ⟨h3, g2, h2, g3⟩
section
variable {X : Cx} {o e : Expr} {to te : TOD} {name : Str} {apos cpos : Pos} {T id : String} {f : D → D → (DV → Prop) → Prop}
theorem dx_m1 (pa : PlainAttrs T) (slot : Slot T name id) (hty : typeOf (.builtin id) = pure (.type "method_descriptor")) (hm : MtR X id (rM1 X.K f)) (ho : DO X o to) (he : DO X e te)
    (hbase : attributeBase o name X.env (eval o X.env) = eval o X.env := by rfl)
    (hfew : ((backTo cpos (starEach [e] X.env)).all (fun x => !x.1) && (backToKw cpos (keywordEach [] X.env)).all (fun x => x.1.isSome)
      && decide ([e].length + ([] : List Keyword).length + (if ([] : List Keyword).isEmpty then 0 else 1) < 30)) = true := by rfl)
    (hline : (apos.endLine == cpos.line) = true := by rfl) (hs : starEach [e] X.env = (false, eval e X.env) :: starEach [] X.env := by rfl) :
    DX X (.Call (.Attribute o name apos) [e] [] cpos) (dM1 T f to te) := fun W tk =>
  pe_imp (pe_bm pa slot hty hm (ho W tk) (pa_cons (he W tk) pa_nil hs) hbase hfew hline hs) fun σ H Q h => lx_m1 h
/-- xs.index(y) -/
def fIndex : D → D → (DV → Prop) → Prop
  | .lst xs, y, P => SeqAt.shaped (D.lst xs).py = true ∧ SeqAt.shaped y.py = true ∧ (match xs.findIdx? fun z => eqvD z y with
    | some j => P (.v (.int (j : Nat)))
    | none => False)
  | _, _, _ => False
theorem pyL_get {xs : List D} {j : Nat} : (D.pyL xs)[j]? = xs[j]?.map D.py := by
  induction xs generalizing j with
  | nil => simp [D.pyL]
  | cons x xs ih =>
    rw [D.pyL]
    cases j with
    | zero => simp
    | succ j => simpa using ih
theorem mIndex (hu : X.A.units + 65 < cLine) : MtR X "list.index" (rM1 X.K fIndex) := by
  intro pins s σ H x xs v us Q I rx rxs ⟨y, F, dx, dy, P, ex, fit, sx, sy, q, k⟩
  subst ex
  cases dx with
  | lst ds =>
    obtain ⟨q1, q2, q3⟩ := q
    have h1 := sx.dp fit q1
    have h2 := sy.dp fit q2
    obtain ⟨a, vs, rfl, _, _⟩ := sx.lst fit
    cases e : ds.findIdx? fun z => eqvD z dy with
    | none => rw [e] at q3; exact q3.elim
    | some j =>
      rw [e] at q3
      obtain ⟨hj, hp, hno⟩ := List.findIdx?_eq_some_iff_getElem.mp e
      refine mt_indexD hu pins s σ H _ _ v us Q I rx rxs ⟨a, y, dy.py, D.pyL ds, j, ds[j].py, rfl, rfl, h1, h2, q1, q2, ?_, hp, fun m z' hm hz => ?_, k _ (.v (.int (j : Nat))) F H NoR (.refl fit) (fun _ z => z.elim) (.int _) (fun b z => nomatch z) q3⟩
      · rw [pyL_get, List.getElem?_eq_getElem hj]; rfl
      · rw [pyL_get, List.getElem?_eq_getElem (by omega)] at hz
        cases hz
        have := hno m hm
        simpa [eqvD] using this
  | _ => exact q.elim
/-! ### sorted of ints -/
def intsD : List D → Option (List Int)
  | [] => some []
  | .int i :: l => (intsD l).map (i :: ·)
  | _ :: _ => none
theorem intsD_eq : ∀ {l : List D} {ns : List Int}, intsD l = some ns → l = ns.map .int
  | [], ns, h => by cases h; rfl
  | .int i :: l, ns, h => by
    rw [intsD] at h
    cases e : intsD l with
    | none => rw [e] at h; cases h
    | some ms =>
      rw [e] at h
      cases h
      rw [intsD_eq e]
      rfl
  | .non :: _, _, h | .bl _ :: _, _, h | .str _ :: _, _, h | .tup _ :: _, _, h | .lst _ :: _, _, h | .dic _ :: _, _, h | .ins _ _ :: _, _, h | .obj _ :: _, _, h | .exn _ _ _ _ :: _, _, h | .stm :: _, _, h | .scr _ :: _, _, h | .fn _ :: _, _, h => by cases h
@[simp] theorem intsD_map {ns : List Int} : intsD (ns.map .int) = some ns := by
  induction ns with
  | nil => rfl
  | cons n ns ih => simp [intsD, ih]
def sortI (ns : List Int) : List Int := ns.mergeSort fun a b => decide (a ≤ b)
theorem sortI_perm (ns : List Int) : (sortI ns).Perm ns := List.mergeSort_perm ..
theorem sortI_le (ns : List Int) : (sortI ns).Pairwise (· ≤ ·) := by
  have := List.pairwise_mergeSort (le := fun a b : Int => decide (a ≤ b)) (fun a b c h1 h2 => by simp at h1 h2 ⊢; omega) (fun a b => by simp; omega) ns
  simpa [sortI] using this
theorem perm_le_eq : ∀ {l m : List Int}, l.Perm m → l.Pairwise (· ≤ ·) → m.Pairwise (· ≤ ·) → l = m
  | [], m, p, _, _ => by simpa using p
  | a :: l, [], p, _, _ => by simp at p
  | a :: l, b :: m, p, h1, h2 => by
    have h1' := List.pairwise_cons.mp h1
    have h2' := List.pairwise_cons.mp h2
    have e : a = b := by
      have ha : a ∈ b :: m := p.mem_iff.mp List.mem_cons_self
      have hb : b ∈ a :: l := p.mem_iff.mpr List.mem_cons_self
      rcases List.mem_cons.mp ha with z | z
      · exact z
      · rcases List.mem_cons.mp hb with y | y
        · exact y.symm
        · have := h1'.1 b y
          have := h2'.1 a z
          omega
    subst e
    rw [perm_le_eq (List.Perm.cons_inv p) h1'.2 h2'.2]
theorem denInts {K : PySem.W.Frag} {F : Fz} : ∀ {vs : List V} {ns : List Int}, DenL K F vs (ns.map .int) → vs = ns.map V.int
  | _, [], .nil => rfl
  | _, n :: ns, .cons h t => by
    cases h
    rw [denInts t]
    rfl
theorem intsDen {K : PySem.W.Frag} {F : Fz} : ∀ {ns : List Int}, DenL K F (ns.map V.int) (ns.map .int)
  | [] => .nil
  | _ :: _ => .cons (.int _) intsDen
def fSorted : D → (DV → Prop) → Prop
  | .lst ds, P => (match intsD ds with
    | some ns => P (.o (.lst ((sortI ns).map .int)))
    | none => False)
  | _, _ => False
theorem cSorted : CallR X (.builtin "sorted") (rC1 X.K fSorted) := by
  intro pins s σ H xs us Q I rxs ⟨x, F, dx, P, ex, fit, sx, q, k⟩
  subst ex
  cases dx with
  | lst ds =>
    have q' : (match intsD ds with
    | some ns => P (.o (.lst ((sortI ns).map .int)))
    | none => False) := q
    cases e : intsD ds with
    | none => rw [e] at q'; exact q'.elim
    | some ns =>
      rw [e] at q'
      have ed := intsD_eq e
      subst ed
      obtain ⟨a, vs, rfl, h1, dl⟩ := sx.lst fit
      have ev := denInts dl
      subst ev
      refine cr_sortedI pins s σ H _ us Q I rxs ⟨a, ns, rfl, SqL.of h1, fun ns' p hp hle hn => ?_⟩
      have es : ns' = sortI ns := perm_le_eq (hp.trans (sortI_perm ns).symm) hle (sortI_le ns)
      subst es
      exact rC1.newL fit k intsDen q' hn
  | _ => exact q.elim
end
end PD
namespace PD
open PySem L2 PySem.Spec PyProof.Rows
/-! ### a name that is never changed in place: what it holds is given away at once -/
def frzK (i : Nat) (ρ : Rho) (k : Rho → Prop) : Prop := match ρ.getD i none with
  | some (.v _) => k ρ
  | some (.o b) => ∃ d, b.fz = some d ∧ k (ρ.set i (some (.v d)))
  | _ => False
def dFrzS (i : Nat) (t : TSD) : TSD := fun E ρ => t { E with nx := fun ρ' => frzK i ρ' E.nx } ρ
theorem ds_frz {X : Cx} {st : Stmt} {t : TSD} (i : Nat) (h : DS X st t) : DS X st (dFrzS i t) := fun W tk po => ps_imp (h W tk po) fun D σ H ⟨G, F, R, ρ, E, r, q, o⟩ =>
  ⟨G, F, R, ρ, _, r, q, ⟨fun ρ' σ' F' H' R' r' l k => by
    have k' : (match ρ'.getD i none with
      | some (.v _) => E.nx ρ'
      | some (.o b) => ∃ d, b.fz = some d ∧ E.nx (ρ'.set i (some (.v d)))
      | _ => False) := k
    cases e : ρ'.getD i none with
    | none => rw [e] at k'; exact k'.elim
    | some y =>
      rw [e] at k'
      cases y with
      | v d => exact o.nx ρ' σ' F' H' R' r' l k'
      | o b =>
        obtain ⟨d, hd, k'⟩ := k'
        obtain ⟨F2, R2, v, _, r2, l2, _⟩ := r'.give (getD_some e) hd
        exact o.nx _ σ' F2 H' R2 r2 (l.trans l2) k'
      | l b => exact k'.elim, o.rt, o.bk, o.ct, o.ex⟩⟩
section
variable {ρ : Rho} {E : EndsD} {X : XD} {i : Nat}
@[simp ↓] theorem s_frzK {k : Rho → Prop} : frzK i ρ k = (slotK i ρ fun o => match o with
  | some (.v _) => k ρ
  | some (.o b) => ∃ d, b.fz = some d ∧ setK i (some (.v d)) ρ k
  | _ => False) := id rfl
@[simp ↓] theorem s_dFrzS {t : TSD} : dFrzS i t E ρ = t (toNx E fun ρ' => frzK i ρ' E.nx) ρ := id rfl
end
/-! ### loops by what their turns may change -/
def putAll : List (Nat × Option DV) → Rho → Rho
  | [], ρ => ρ
  | (i, x) :: l, ρ => putAll l (ρ.set i x)
@[simp] theorem putAll_n {ρ : Rho} : putAll [] ρ = ρ := id rfl
@[simp] theorem putAll_c {ρ : Rho} {i : Nat} {x : Option DV} {l : List (Nat × Option DV)} : putAll ((i, x) :: l) ρ = putAll l (ρ.set i x) := id rfl
/-- a loop: ρ the state ahead of it, u what the turns change in it -/
theorem for_any {α σ : Type} {chk : Rho → Prop} {g : TGD} {body : TSD} {E : EndsD} {ρ : Rho} (enc : α → D) (u : σ → List (Nat × Option DV)) (I : List α → σ → Prop) (l : List α) (s : σ) (e : ρ = putAll (u s) ρ) (h : I l s)
    (h0 : ∀ s, I [] s → chk (putAll (u s) ρ) ∧ E.nx (putAll (u s) ρ))
    (hs : ∀ a l s (R : Rho → Prop), I (a :: l) s → (∀ s', I l s' → R (putAll (u s') ρ)) → (chk (putAll (u s) ρ) ∧ g (enc a) (putAll (u s) ρ) fun ρ1 => body (toLp E R) ρ1)) :
    dForL chk g body (l.map enc) E ρ := by
  have key : ∀ (l : List α) (s : σ), I l s → dForL chk g body (l.map enc) E (putAll (u s) ρ) := by
    intro l
    induction l with
    | nil => exact fun s h => h0 s h
    | cons a l ih => exact fun s h => hs a l s _ h fun s' h' => ih s' h'
  rw [e]
  exact key l s h
/-- the same, told by an equation -/
theorem for_is {α σ : Type} {chk : Rho → Prop} {g : TGD} {body : TSD} {E : EndsD} {ρ : Rho} (enc : α → D) (u : σ → List (Nat × Option DV)) (I : List α → σ → Prop) (val : List α → σ → Prop) (l : List α) (s : σ) (e : ρ = putAll (u s) ρ) (h : I l s)
    (h0 : ∀ s, I [] s → (chk (putAll (u s) ρ) ∧ E.nx (putAll (u s) ρ) ↔ val [] s))
    (hs : ∀ a l s (R : Rho → Prop), I (a :: l) s → (∀ s', I l s' → (R (putAll (u s') ρ) ↔ val l s')) → ((chk (putAll (u s) ρ) ∧ g (enc a) (putAll (u s) ρ) fun ρ1 => body (toLp E R) ρ1) ↔ val (a :: l) s)) :
    dForL chk g body (l.map enc) E ρ ↔ val l s := by
  have key : ∀ (l : List α) (s : σ), I l s → (dForL chk g body (l.map enc) E (putAll (u s) ρ) ↔ val l s) := by
    intro l
    induction l with
    | nil => exact fun s h => h0 s h
    | cons a l ih => exact fun s h => hs a l s _ h fun s' h' => ih s' h'
  rw [e]
  exact key l s h
end PD
set_option maxHeartbeats 1000000
namespace PD
open PySem L2 PySem.Spec PyProof.Rows
/-- (a dummy: what depends on Q and X is not walked by simp) -/
structure W2 (Q : DV → List DV → Prop) (X : Exn → List DV → Prop) : Type where mk ::
/-! a state told by its changes is walked change by change -/
def putK (l : List (Nat × Option DV)) (ρ : Rho) (k : Rho → Prop) : Prop := k (putAll l ρ)
section
variable {ρ : Rho} {i j : Nat} {x y : Option DV} {l : List (Nat × Option DV)}
@[simp ↓] theorem s_setK_put {k : Rho → Prop} : setK i x (putAll l ρ) k = putK l ρ fun ρ' => setK i x ρ' k := id rfl
@[simp ↓] theorem s_slotK_put {k : Option DV → Prop} : slotK i (putAll l ρ) k = putK l ρ fun ρ' => slotK i ρ' k := id rfl
@[simp ↓] theorem s_putK_c {k : Rho → Prop} : putK ((j, y) :: l) ρ k = setK j y ρ fun ρ' => putK l ρ' k := id rfl
@[simp ↓] theorem s_putK_n {k : Rho → Prop} : putK [] ρ k = k ρ := id rfl
end
section
variable {ρ : Rho} {X : XD} {QX : DV → Rho → Prop} {x y : D} {xs ys : List D} {PV : DV → Prop}
@[simp] theorem tyD_l {T : String} : tyD T (.lst xs) = (T = "list") := id rfl
@[simp] theorem tyD_s {T : String} {s : Str} : tyD T (.str s) = (T = "str") := id rfl
@[simp ↓] theorem s_dM1 {T : String} {f : D → D → (DV → Prop) → Prop} {ta tb : TOD} : dM1 T f ta tb ρ QX X = ta ρ (fun oa ρ1 => see1 ρ1 oa (tyD T) ∧ tb ρ1 (fun ob ρ2 => see2 ρ2 oa ob fun x y => f x y fun z => QX z ρ2) X) X := id rfl
theorem s_fIndex (h1 : shD 64 (.lst xs) = true) (h2 : shD 64 y = true) : fIndex (.lst xs) y PV = (match xs.findIdx? fun z => eqvD z y with
    | some j => PV (.v (.int (j : Nat)))
    | none => False) := by
  have e : fIndex (.lst xs) y PV = (SeqAt.shaped (D.lst xs).py = true ∧ SeqAt.shaped y.py = true ∧ (match xs.findIdx? fun z => eqvD z y with
    | some j => PV (.v (.int (j : Nat)))
    | none => False)) := by cases y <;> rfl
  rw [e]
  exact propext ⟨fun h => h.2.2, fun h => ⟨shaped_of h1, shaped_of h2, h⟩⟩
theorem findIdx_map {α : Type} [DecidableEq α] {enc : α → D} (h : ∀ a b, eqvD (enc a) (enc b) = decide (a = b)) {a : α} {l : List α} : ((l.map enc).findIdx? fun z => eqvD z (enc a)) = l.findIdx? fun z => decide (z = a) := by
  induction l with
  | nil => rfl
  | cons b l ih => rw [List.map_cons, List.findIdx?_cons, List.findIdx?_cons, ih, h]
/-- the first place of an item -/
theorem s_fIndexN {a : Nat} {l : List Nat} (hm : a ∈ l) : fIndex (.lst (l.map natD)) (natD a) PV = PV (.v (natD (l.idxOf a))) := by
  rw [s_fIndex (by simp) (by simp), findIdx_map ev_nat]
  have e : (l.findIdx? fun z => decide (z = a)) = some (l.idxOf a) := by
    induction l with
    | nil => cases hm
    | cons b l ih =>
      rw [List.findIdx?_cons, List.idxOf_cons]
      by_cases h : b = a
      · simp [h]
      · have : a ∈ l := (List.mem_cons.mp hm).resolve_left fun z => h z.symm
        have hb : (b == a) = false := by simpa using h
        simp [h, hb, ih this]
  rw [e]
@[simp ↓] theorem s_fSorted {ns : List Int} : fSorted (.lst (ns.map .int)) PV = PV (.o (.lst ((sortI ns).map .int))) := by
  have e : fSorted (.lst (ns.map .int)) PV = (match intsD (ns.map .int) with
    | some ns => PV (.o (.lst ((sortI ns).map .int)))
    | none => False) := id rfl
  rw [e, intsD_map]
end
end PD
set_option maxHeartbeats 1000000
namespace PD
open PySem PySem.W PySem.Calls PyProof.Rows Builtin
def isNN : Option (Option Value) → Bool
  | some none => true
  | _ => false
theorem isNN_of {o : Option (Option Value)} (h : isNN o = true) : o = some none := by
  cases o with
  | none => cases h
  | some x => cases x with
    | none => rfl
    | some y => cases h
/-- a class whose only ancestor is object and that has neither of these names -/
def noNameB (K : Frag) (C : Addr) (nm : Str) : Bool := isNN (findIn K (.ref C) nm) && isNN (findIn K (.type "object") nm)
def plainClsB (K : Frag) (C : Addr) : Bool := (clsIn K C).any fun cd => cd.mro == [.ref C, .type "object"]
def noSlotB (K : Frag) (C : Addr) (nm : String) : Bool := plainClsB K C && noNameB K C (PySem.dunder nm) && noNameB K C (dunderR nm)
def noInB (K : Frag) (C : Addr) (nm : String) : Bool := plainClsB K C && noNameB K C (dunderI nm)
section
variable {M : Model} {K : Frag} {C : Addr} {h : Heap} {nm : String}
theorem plainCls_of (e : plainClsB K C = true) : ∃ cd, clsIn K C = some cd ∧ cd.mro = [.ref C, .type "object"] := by
  unfold plainClsB at e
  cases q : clsIn K C with
  | none => rw [q] at e; cases e
  | some cd => rw [q] at e; exact ⟨cd, rfl, beq_iff_eq.mp e⟩
theorem noName_of {n : Str} (e : noNameB K C n = true) : findIn K (.ref C) n = some none ∧ findIn K (.type "object") n = some none := by
  obtain ⟨a, b⟩ := Bool.and_eq_true_iff.mp e
  exact ⟨isNN_of a, isNN_of b⟩
theorem looks_noslot (X : K.In h) (e : noSlotB K C nm = true) : Looks M h (fillsNumberSlot (.ref C) nm) false := by
  obtain ⟨e1, e2⟩ := Bool.and_eq_true_iff.mp e
  obtain ⟨e0, e1⟩ := Bool.and_eq_true_iff.mp e1
  obtain ⟨cd, hc, hm⟩ := plainCls_of e0
  obtain ⟨a1, a2⟩ := noName_of e1
  obtain ⟨b1, b2⟩ := noName_of e2
  intro A Q E s k q
  have Lm : Looks M h (mroOf (.ref C)) cd.mro := (looks_clsIn X hc).andThen (f := fun cd => pure cd.mro) .now
  have Lm' := Lm.keeps k
  obtain ⟨hh, g, d, tt, os⟩ := s
  have X' : K.In hh := X.keeps k
  have L1 : Looks M hh (typeLookup (.ref C) (PySem.dunder nm)) none := looks_findIn X' a1
  have L2 : Looks M hh (typeLookup (.type "object") (PySem.dunder nm)) none := looks_findIn X' a2
  have L3 : Looks M hh (typeLookup (.ref C) (dunderR nm)) none := looks_findIn X' b1
  have L4 : Looks M hh (typeLookup (.type "object") (dunderR nm)) none := looks_findIn X' b2
  unfold fillsNumberSlot
  refine wpAny_bind (Lm'.at ?_)
  rw [hm, List.anyM_cons]
  refine wpAny_bind ?_
  repeat lk
  exact q
theorem looks_noin {add : Bool} (X : K.In h) (e : noInB K C nm = true) : Looks M h (fillsInplaceSlot (.ref C) nm add) false := by
  obtain ⟨e0, e1⟩ := Bool.and_eq_true_iff.mp e
  obtain ⟨cd, hc, hm⟩ := plainCls_of e0
  obtain ⟨a1, a2⟩ := noName_of e1
  intro A Q E s k q
  have Lm : Looks M h (mroOf (.ref C)) cd.mro := (looks_clsIn X hc).andThen (f := fun cd => pure cd.mro) .now
  have Lm' := Lm.keeps k
  obtain ⟨hh, g, d, tt, os⟩ := s
  have X' : K.In hh := X.keeps k
  have L1 : Looks M hh (typeLookup (.ref C) (dunderI nm)) none := looks_findIn X' a1
  have L2 : Looks M hh (typeLookup (.type "object") (dunderI nm)) none := looks_findIn X' a2
  unfold fillsInplaceSlot
  refine wpAny_bind (Lm'.at ?_)
  rw [hm, List.anyM_cons]
  refine wpAny_bind ?_
  repeat lk
  exact q
end
section
variable {prog : Program} {w : World} {A : Around} {E : Value → Shared → Prop} {s : Shared} {K : Frag} {x C C' L f : Addr} {h₀ : Heap} {m : Str → Option Value} {ox : Obj} {od : Option Obj} {nm : String} {b : Value}
theorem bin1_same {Q : Value → Shared → Prop} (F : Fr h₀ L s.heap m) (X₀ : K.In h₀) (I : InstAt s.heap x ox C od) (hb : Looks (model prog w) s.heap (typeOf b) (.ref C)) (hc : selfFirst K C = true)
    (hs : findIn K (.ref C) (PySem.dunder nm) = some (some (.ref f))) (hf : isFn K (.ref f) = true)
    (h : wpAny (model prog w) A (call (.ref f) [.ref x, b]) (PySem.W.CmpBack Q) E s) : wpAny (model prog w) A (binaryOp1 nm (.ref x) b) (fun r s' => ∃ v, r = some v ∧ Q v s') E s := by
  have X := X₀.keeps F.keep
  obtain ⟨cd, rest, hcd, hm⟩ := ksp_first hc
  have one := ksp_try X I hs hf h
  unfold binaryOp1
  refine wpAny_bind (I.type.here (wpAny_bind (hb.here (wpAny_bind ((fills_K X hcd hm hs).here ?_)))))
  simp only [beq_self_eq_true, if_true]
  refine wpAny_bind (wpAny_pure ?_)
  simp only [Bool.and_false, Bool.false_eq_true, if_false, Bool.false_and]
  refine wpAny_bind (wpAny_pure ?_)
  simp only [Bool.false_eq_true, if_false]
  refine wpAny_bind (m := tryMethod (.ref x) _ b) (wpAny_mono one (fun r s' hr' => ?_) fun _ _ e => e)
  obtain ⟨v, rfl, hq⟩ := hr'
  exact wpAny_pure ⟨v, rfl, hq⟩
theorem bin1_other {Q : Value → Shared → Prop} (F : Fr h₀ L s.heap m) (X₀ : K.In h₀) (I : InstAt s.heap x ox C od) (hb : Looks (model prog w) s.heap (typeOf b) (.ref C')) (hc : selfFirst K C = true) (hn : noSlotB K C' nm = true) (hne : C ≠ C')
    (hs : findIn K (.ref C) (PySem.dunder nm) = some (some (.ref f))) (hf : isFn K (.ref f) = true)
    (h : wpAny (model prog w) A (call (.ref f) [.ref x, b]) (PySem.W.CmpBack Q) E s) : wpAny (model prog w) A (binaryOp1 nm (.ref x) b) (fun r s' => ∃ v, r = some v ∧ Q v s') E s := by
  have X := X₀.keeps F.keep
  obtain ⟨cd, rest, hcd, hm⟩ := ksp_first hc
  have one := ksp_try X I hs hf h
  have e : (Value.ref C == Value.ref C') = false := Bool.eq_false_iff.mpr fun q => by cases beq_iff_eq.mp q; exact hne rfl
  unfold binaryOp1
  refine wpAny_bind (I.type.here (wpAny_bind (hb.here (wpAny_bind ((fills_K X hcd hm hs).here ?_)))))
  simp only [e, Bool.false_eq_true, if_false]
  refine wpAny_bind ((looks_noslot X hn).here ?_)
  simp only [Bool.and_false, Bool.false_eq_true, if_false, Bool.false_and]
  refine wpAny_bind (wpAny_pure ?_)
  simp only [Bool.false_eq_true, if_false]
  refine wpAny_bind (m := tryMethod (.ref x) _ b) (wpAny_mono one (fun r s' hr' => ?_) fun _ _ e => e)
  obtain ⟨v, rfl, hq⟩ := hr'
  exact wpAny_pure ⟨v, rfl, hq⟩
theorem binop_of {op : Operator} {Q : Value → Shared → Prop} (h : wpAny (model prog w) A (binaryOp1 op.info.2 (.ref x) b) (fun r s' => ∃ v, r = some v ∧ Q v s') E s) : wpAny (model prog w) A (binaryOp op (.ref x) b) Q E s := by
  unfold binaryOp
  refine wpAny_holding (wpAny_bind (wpAny_mono h (fun r s' hr' => ?_) fun _ _ e => e))
  obtain ⟨v, rfl, hq⟩ := hr'
  exact wpAny_pure hq
theorem inplace_of {op : Operator} {Q : Value → Shared → Prop} (F : Fr h₀ L s.heap m) (X₀ : K.In h₀) (I : InstAt s.heap x ox C od) (hn : noInB K C op.info.2 = true) (h : wpAny (model prog w) A (binaryOp1 op.info.2 (.ref x) b) (fun r s' => ∃ v, r = some v ∧ Q v s') E s) : wpAny (model prog w) A (inplaceOp op (.ref x) b) Q E s := by
  have X := X₀.keeps F.keep
  unfold inplaceOp
  refine wpAny_holding (wpAny_bind (I.type.here (wpAny_bind ((looks_noin X hn).here ?_))))
  simp only [Bool.false_eq_true, if_false]
  refine wpAny_bind (wpAny_mono h (fun r s' hr' => ?_) fun _ _ e => e)
  obtain ⟨v, rfl, hq⟩ := hr'
  exact wpAny_pure hq
end
end PD
namespace PD
open PySem L2
section
variable {X : Cx} {k : Nat} {f C C' : Addr} {sp : SpD} {ta tb : TOD} {a b : Expr} {pos : Pos}
/-- an instance of C and one of C', the method's promise of the two -/
def rOwnR (K : PySem.W.Frag) (C C' : Addr) (sp : Sp) : R2 := fun x y H Q => ∃ a dx fs b dy gs, x = .ref a ∧ y = .ref b ∧ H a = some (.ins C dx fs) ∧ H b = some (.ins C' dy gs) ∧ sp [x, y] H Q (fun _ _ _ => False)
theorem bin1_own {nm : String} (F : FnD X.prog X.w X.K X.mg X.base k f [] sp) (hr : Room k X.A) (hc : PySem.W.selfFirst X.K C = true) (hn : C = C' ∨ (C ≠ C' ∧ noSlotB X.K C' nm = true)) (hs : PySem.W.findIn X.K (.ref C) (PySem.dunder nm) = some (some (.ref f))) (hf : PySem.W.isFn X.K (.ref f) = true)
    {pins : List (Addr × Obj)} {σ : L2.St} {H : Hp} {s : Shared} {x y : V} {v u : Value} {Q : VK} (I : Inv X pins σ H s) (rx : RelV x v) (ry : RelV y u) (h : rOwnR X.K C C' (liftSp X.K sp) x y H Q) :
    wpAny (model X.prog X.w) X.A (binaryOp1 nm v u) (fun r s' => ∃ v, r = some v ∧ EP X pins σ Q v s') X.xe s := by
  obtain ⟨fd, ps, ds, F, hb, hd⟩ := F.ex
  obtain ⟨a, dx, fs, b, dy, gs, hx, hy, ha, hb', q⟩ := h
  subst hx hy
  cases rx
  cases ry
  obtain ⟨ox, od, J, _⟩ := inst_at I ha
  obtain ⟨oy, oe, J', _⟩ := inst_at I hb'
  obtain ⟨m, hF⟩ := I.fr
  have h0 := back_of (run_fnSD (us := [.ref a, .ref b]) (vs := [.ref a, .ref b]) (dvs := []) (E := noE) F hr hb hd noE_pass I (.cons rfl (.cons rfl .nil)) q)
  rcases hn with rfl | ⟨hne, hn⟩
  · exact bin1_same hF I.ok.mod.kin J J'.type hc hs hf h0
  · exact bin1_other hF I.ok.mod.kin J J'.type hc hn hne hs hf h0
theorem op_ownR {op : Operator} (F : FnD X.prog X.w X.K X.mg X.base k f [] sp) (hr : Room k X.A) (hc : PySem.W.selfFirst X.K C = true) (hn : C = C' ∨ (C ≠ C' ∧ noSlotB X.K C' op.info.2 = true)) (hs : PySem.W.findIn X.K (.ref C) (PySem.dunder op.info.2) = some (some (.ref f))) (hf : PySem.W.isFn X.K (.ref f) = true) :
    OpR X (binaryOp op) (rOwnR X.K C C' (liftSp X.K sp)) := fun pins s σ H x y v u Q I rx ry h => by
  have h' := h
  obtain ⟨a, dx, fs, b, dy, gs, hx, hy, ha, hb', q⟩ := h'
  subst hx hy
  cases rx
  cases ry
  exact binop_of (bin1_own (x := .ref a) (y := .ref b) F hr hc hn hs hf I rfl rfl h)
theorem ip_ownR {op : Operator} (F : FnD X.prog X.w X.K X.mg X.base k f [] sp) (hr : Room k X.A) (hc : PySem.W.selfFirst X.K C = true) (hi : noInB X.K C op.info.2 = true) (hn : C = C' ∨ (C ≠ C' ∧ noSlotB X.K C' op.info.2 = true)) (hs : PySem.W.findIn X.K (.ref C) (PySem.dunder op.info.2) = some (some (.ref f))) (hf : PySem.W.isFn X.K (.ref f) = true) :
    OpR X (inplaceOp op) (rOwnR X.K C C' (liftSp X.K sp)) := fun pins s σ H x y v u Q I rx ry h => by
  have h' := h
  obtain ⟨a, dx, fs, b, dy, gs, hx, hy, ha, hb', q⟩ := h'
  subst hx hy
  cases rx
  cases ry
  obtain ⟨ox, od, J, _⟩ := inst_at I ha
  obtain ⟨m, hF⟩ := I.fr
  exact inplace_of hF I.ok.mod.kin J hi (bin1_own (x := .ref a) (y := .ref b) F hr hc hn hs hf I rfl rfl h)
/-- a op b, by trees -/
def dOwnR (C C' : Addr) (sp : SpD) (ta tb : TOD) : TXD := fun ρ Q X => ta ρ (fun oa ρ1 => tb ρ1 (fun ob ρ2 => see1 ρ2 oa (isInsC C) ∧ see1 ρ2 ob (isInsC C') ∧ callD ρ2 [oa, ob] sp Q noX) X) X
theorem lx_ownR {W : WX} {σ : L2.St} {H : Hp} {Q : VK} (h : LX X.K W (dOwnR C C' sp ta tb) σ H Q) : tOp (rOwnR X.K C C' (liftSp X.K sp)) (LO X.K W ta) (LO X.K W tb) σ H Q := by
  obtain ⟨G, F, R, ρ, Qd, Xd, r, q, n, xx⟩ := h
  refine ⟨G, F, R, ρ, _, Xd, r, q, fun oa ρ1 v F1 H1 R1 r1 l1 o1 q1 => ⟨G, F1, R1, ρ1, _, Xd, r1, q1, fun ob ρ2 w F2 H2 R2 r2 l2 o2 ⟨i1, i2, q2⟩ => ?_, xx.le l1⟩, xx⟩
  obtain ⟨d1, e1, i1⟩ := see1_of i1
  obtain ⟨d2, e2, i2⟩ := see1_of i2
  have o1' := OpAt.le l2 o1
  obtain ⟨a, dx, vs, fs, _, ea, ha, _⟩ := isInsC_of r2.fit (r2.look o1' e1) i1
  obtain ⟨b, dy, us, gs, _, eb, hb, _⟩ := isInsC_of r2.fit (r2.look o2 e2) i2
  refine ⟨a, dx, vs, b, dy, us, ea, eb, ha, hb, ?_⟩
  exact call_lift r2 (.cons o1' (.cons o2 .nil)) q2 (fun x ρ' v F' H' R' T r' l => n x ρ' v F' H' R' T r' ((l1.trans l2).trans l)) (fun _ _ _ _ _ _ _ _ _ _ _ q => q.elim)
def rightB (K : PySem.W.Frag) (C C' : Addr) (nm : String) : Bool := decide (C ≠ C') && noSlotB K C' nm
theorem right_of {K : PySem.W.Frag} {nm : String} (h : rightB K C C' nm = true) : C = C' ∨ (C ≠ C' ∧ noSlotB K C' nm = true) := by
  obtain ⟨a, b⟩ := Bool.and_eq_true_iff.mp h
  exact .inr ⟨of_decide_eq_true a, b⟩
theorem dx_ownR {op : Operator} (F : FnD X.prog X.w X.K X.mg X.base k f [] sp) (hr : Room k X.A) (hc : PySem.W.selfFirst X.K C = true) (hn : C = C' ∨ (C ≠ C' ∧ noSlotB X.K C' op.info.2 = true)) (hs : PySem.W.findIn X.K (.ref C) (PySem.dunder op.info.2) = some (some (.ref f))) (hf : PySem.W.isFn X.K (.ref f) = true)
    (ha : DO X a ta) (hb : DO X b tb) : DX X (.BinOp a op b pos) (dOwnR C C' sp ta tb) := fun W tk => pe_imp (pe_op (op_ownR F hr hc hn hs hf) (ha W tk) (hb W tk)) fun _ _ _ h => lx_ownR h
/-- x op= e, by the class's own operator -/
def dAugR (i : Nat) (C C' : Addr) (sp : SpD) (t : TOD) : TSD := fun E ρ => ρ.getD i none ≠ none ∧ t ρ (fun ob ρ1 => see1 ρ1 (.s i) (isInsC C) ∧ see1 ρ1 ob (isInsC C') ∧ callD ρ1 [.s i, ob] sp (fun x ρ2 => E.nx (ρ2.set i (some x))) noX) E.ex
theorem ds_augR {i : Nat} {x : Str} {op : Operator} {to : TOD} {e : Expr} {pos' : Pos} (F : FnD X.prog X.w X.K X.mg X.base k f [] sp) (hr : Room k X.A) (hc : PySem.W.selfFirst X.K C = true) (hni : noInB X.K C op.info.2 = true) (hn : C = C' ∨ (C ≠ C' ∧ noSlotB X.K C' op.info.2 = true)) (hs : PySem.W.findIn X.K (.ref C) (PySem.dunder op.info.2) = some (some (.ref f))) (hf : PySem.W.isFn X.K (.ref f) = true)
    (hN : X.N.Nodup) (hi : X.N[i]? = some x) (hx : Loc X.env.scope x) (he : DO X e to) (hf' : X.fn x = true ∨ X.env.scope.names.lookup x = some .local := by first | exact .inl rfl | exact .inr rfl | assumption) :
    DS X (.AugAssign (.Name x pos') op e pos) (dAugR i C C' sp to) := fun W tk po => ps_imp (ps_aug hN hi hx (he W tk) (fun pins s σ H x y v u Q I rx ry h => ip_ownR F hr hc hni hn hs hf pins s σ H x y v u Q I rx ry h) hf') fun D σ H ⟨G, Fz, R, ρ, E, r, ⟨nn, q⟩, o⟩ => by
  obtain ⟨x0, e0⟩ : ∃ x0, ρ.getD i none = some x0 := by
    cases z : ρ.getD i none with
    | none => exact absurd z nn
    | some y => exact ⟨y, rfl⟩
  obtain ⟨v0, h1, h2⟩ := r.at_ i x0 (getD_some e0)
  refine ⟨v0, h1, G, Fz, R, ρ, _, E.ex, r, q, fun ob ρ1 w F1 H1 R1 r1 l1 o1 ⟨i1, i2, q1⟩ => ?_, o.ex σ⟩
  obtain ⟨d1, e1, i1⟩ := see1_of i1
  obtain ⟨d2, e2, i2⟩ := see1_of i2
  have oi : OpAt X.K F1 σ (.s i) v0 := h1
  obtain ⟨a, dx, vs, fs, _, ea, ha, _⟩ := isInsC_of r1.fit (r1.look oi e1) i1
  obtain ⟨b, dy, us, gs, _, eb, hb, _⟩ := isInsC_of r1.fit (r1.look o1 e2) i2
  refine ⟨a, dx, vs, b, dy, us, ea, eb, ha, hb, ?_⟩
  exact call_lift r1 (.cons oi (.cons o1 .nil)) q1 (fun x ρ' v F' H' R' T r' l t at_ nl qd => o.nx _ _ F' H' _ (r'.set t at_ nl) (l1.trans l) qd) (fun _ _ _ _ _ _ _ _ _ _ _ q => q.elim)
end
section
variable {ρ : Rho} {E : EndsD} {X : XD} {i : Nat} {C C' : Addr} {sp : SpD} {QX : DV → Rho → Prop}
@[simp ↓] theorem s_dOwnR {ta tb : TOD} : dOwnR C C' sp ta tb ρ QX X = ta ρ (fun oa ρ1 => tb ρ1 (fun ob ρ2 => see1 ρ2 oa (isInsC C) ∧ see1 ρ2 ob (isInsC C') ∧ callD ρ2 [oa, ob] sp QX noX) X) X := id rfl
@[simp ↓] theorem s_dAugR {t : TOD} : dAugR i C C' sp t E ρ = (slotK i ρ fun o => match o with
    | some _ => t ρ (fun ob ρ1 => see1 ρ1 (.s i) (isInsC C) ∧ see1 ρ1 ob (isInsC C') ∧ callD ρ1 [.s i, ob] sp (fun x ρ2 => setK i (some x) ρ2 E.nx) noX) E.ex
    | none => False) := by
  have e : dAugR i C C' sp t E ρ = (ρ.getD i none ≠ none ∧ t ρ (fun ob ρ1 => see1 ρ1 (.s i) (isInsC C) ∧ see1 ρ1 ob (isInsC C') ∧ callD ρ1 [.s i, ob] sp (fun x ρ2 => E.nx (ρ2.set i (some x))) noX) E.ex) := id rfl
  rw [e]
  unfold slotK setK
  cases ρ.getD i none with
  | none => simp
  | some y => simp
end
end PD
set_option maxHeartbeats 1000000
namespace PD
open PySem L2 PySem.Spec PyProof.Rows
/-- d.get(k), k may be None (no key is None) -/
def tDGet1N (td ty : TE) : TE := fun σ H Q => td σ H fun x H1 => ∃ a, x = .ref a ∧ IsD H1 a ∧ ty σ H1 fun y H2 => (∃ o, DGet H2 a y o ∧ Q (o.getD .non) H2) ∨ (∃ kvs, y = .non ∧ Rd H2 a (.dK kvs) ∧ Q .non H2)
section
variable {X : Cx} {pins : List (Addr × Obj)} {σ : L2.St} {H : Hp} {s : Shared} {a : Addr} {kvs : List (Key × V)} {A : Around} {E : Value → Shared → Prop}
theorem d_getNone {Q : Value → Shared → Prop} (I : Inv X pins σ H s) (e : Rd H a (.dK kvs)) (h : ∀ s', Inv X pins σ H s' → Q .none s') : wpAny (model X.prog X.w) A (call (.builtin "dict.get") [.ref a, .none]) Q E s := by
  obtain ⟨_, hd, vs, _, dd⟩ := dk_rd I.hok e
  obtain ⟨f, hm, hf⟩ := none_map dd
  refine call_meetsIn PySem.F.slot_dict_get dd.typeIs PySem.F.entry_dict_get (PySem.F.args_dict_get_2 _ _) (meets_dict_get (noneKind X.prog X.w) a (key := .none) (k := none) rfl hd) ⟨_, hm, ?_⟩
  rw [hf]
  exact h _ (I.tok _)
end
section
variable {X : Cx} {o e : Expr} {apos cpos : Pos} {td ty : TE}
theorem pe_dget1N (hu : X.A.units + 1 < cLine) (ho : PE X o td) (he : PE X e ty) (m : M1 X o "get" apos e cpos) : PE X (.Call (.Attribute o "get" apos) [e] [] cpos) (tDGet1N td ty) := by
  refine ⟨fun pins s σ H Q I h => ?_⟩
  refine wpAny_Call_method m.base m.few m.line PySem.F.plainAttrs_dict PySem.F.slot_dict_get PySem.F.type_dict_get (thn (ho.run pins s σ H _ I h) fun u s1 ⟨x, H1, I1, rx, a, ex, d, q1⟩ => ?_)
  subst ex
  obtain rfl : u = Value.ref a := rx
  obtain ⟨t1, t2, _⟩ := isD_at I1 d
  refine ⟨t1, t2, ?_⟩
  rw [m.trees]
  refine Calls.callWith_builtin rfl (Calls.evalArgs_plain (Calls.spliced_cons (thn (he.run pins s1 σ H1 _ I1 q1) fun iv s2 ⟨y, H2, I2, ry, q2⟩ => Calls.spliced_nil ?_)))
  rcases q2 with ⟨ov, g, q2⟩ | ⟨kvs, ey, g, q2⟩
  · exact d_get1 hu I2 g ry fun w' s3 I3 rw' => ⟨_, H2, I3, rw', q2⟩
  · subst ey
    obtain rfl : iv = Value.none := ry
    exact d_getNone I2 g fun s3 I3 => ⟨.non, H2, I3, rfl, q2⟩
end
section
variable {X : Cx} {o a : Expr} {apos cpos : Pos} {ta tb : TOD}
def getNK (kvs : List (Key × D)) (x : D) (P : D → Prop) : Prop := match x with
  | .non => P .non
  | .int i => P ((valD kvs (.inl i)).getD .non)
  | .str s => P ((valD kvs (.inr s)).getD .non)
  | _ => False
def dDGet1 (ta tb : TOD) : TED := fun ρ Q X => ta ρ (fun oa ρ1 => see1 ρ1 oa (fun y => match y with
  | .dic _ => True
  | _ => False) ∧ tb ρ1 (fun ob ρ2 => see1 ρ2 oa fun y => see1 ρ2 ob fun x => match y with
  | .dic kvs => getNK kvs x fun d => Q d ρ2
  | _ => False) X) X
theorem de_dget1 (hu : X.A.units + 1 < cLine) (ha : DO X o ta) (hb : DO X a tb) (m : M1 X o "get" apos a cpos := by exact ⟨rfl, rfl, rfl, rfl⟩) : DE X (.Call (.Attribute o "get" apos) [a] [] cpos) (dDGet1 ta tb) := fun W tk =>
  pe_imp (pe_dget1N hu (ha W tk) (hb W tk) m) fun σ H Q ⟨G, F, R, ρ, Qd, Xd, r, q, n, x⟩ => ⟨G, F, R, ρ, _, Xd, r, q, fun oa ρ1 v F1 H1 R1 r1 l1 o1 ⟨q0, q1⟩ => by
    obtain ⟨d0, e0, q0⟩ := see1_of q0
    cases d0 with
    | dic kvs0 =>
      obtain ⟨ad, vs, rfl, h4, dk⟩ := (r1.look o1 e0).dic r1.fit
      refine ⟨ad, rfl, .inl ⟨vs, .of h4⟩, G, F1, R1, ρ1, _, Xd, r1, q1, fun ob ρ2 w F2 H2 R2 r2 l2 o2 q2 => ?_, x.le l1⟩
      obtain ⟨d1, e1, q2⟩ := see1_of q2
      obtain ⟨d2, e2, q2⟩ := see1_of q2
      cases d1 with
      | dic kvs =>
        obtain ⟨ad', vs', ea, h5, dk'⟩ := (r2.look (o1.le l2) e1).dic r2.fit
        cases ea
        have keyed : ∀ k, keyD d2 = some k → Qd ((valD kvs k).getD .non) ρ2 → (∃ o, DGet H2 ad w o ∧ Q (o.getD .non) H2) := fun k e q3 => by
          have ev := seeKey (r2.look o2 e2) e
          subst ev
          refine ⟨_, DGet.k h5, ?_⟩
          cases ew : valD kvs k with
          | none =>
            rw [ew] at q3
            rw [valD_none dk' ew]
            exact n .non ρ2 .non F2 H2 R2 r2 (l1.trans l2) .non q3
          | some d =>
            rw [ew] at q3
            obtain ⟨u', eu, du⟩ := valD_some dk' ew
            rw [eu]
            exact n d ρ2 u' F2 H2 R2 r2 (l1.trans l2) du q3
        cases d2 with
        | non =>
          have ew := (r2.look o2 e2).non
          subst ew
          exact .inr ⟨vs', rfl, .of h5, n .non ρ2 .non F2 H2 R2 r2 (l1.trans l2) .non q2⟩
        | int i => exact .inl (keyed (.inl i) rfl q2)
        | str z => exact .inl (keyed (.inr z) rfl q2)
        | _ => exact q2.elim
      | _ => exact q2.elim
    | _ => exact q0.elim, x⟩
end
section
variable {ρ : Rho} {X : XD} {QE : D → Rho → Prop} {P : D → Prop} {kvs : List (Key × D)}
@[simp ↓] theorem s_dDGet1 {ta tb : TOD} : dDGet1 ta tb ρ QE X = ta ρ (fun oa ρ1 => see1 ρ1 oa (fun y => match y with
  | .dic _ => True
  | _ => False) ∧ tb ρ1 (fun ob ρ2 => see1 ρ2 oa fun y => see1 ρ2 ob fun x => match y with
  | .dic kvs => getNK kvs x fun d => QE d ρ2
  | _ => False) X) X := id rfl
@[simp ↓] theorem s_getNKn : getNK kvs .non P = P .non := id rfl
@[simp ↓] theorem s_getNKi {i : Int} : getNK kvs (.int i) P = P ((valD kvs (.inl i)).getD .non) := id rfl
end
end PD
set_option maxHeartbeats 1000000
namespace PD
open PySem L2 PySem.Spec PyProof.Rows
/-! ### calls with keywords -/
/-- where a parameter's value comes from: the positional values, the defaults, the keywords -/
inductive Sel where
  | p (i : Nat) | d (i : Nat) | k (i : Nat)
def pickS {α : Type} (us ds ks : List α) : List Sel → List α
  | [] => []
  | .p i :: l => (match us[i]? with
    | some x => x :: pickS us ds ks l
    | none => pickS us ds ks l)
  | .d i :: l => (match ds[i]? with
    | some x => x :: pickS us ds ks l
    | none => pickS us ds ks l)
  | .k i :: l => (match ks[i]? with
    | some x => x :: pickS us ds ks l
    | none => pickS us ds ks l)
theorem paired_get {α β : Type} {P : α → β → Prop} : ∀ {l : List α} {m : List β} {i : Nat}, Paired P l m → (l[i]? = none ∧ m[i]? = none) ∨ ∃ a b, l[i]? = some a ∧ m[i]? = some b ∧ P a b
  | _, _, _, .nil => .inl ⟨by simp, by simp⟩
  | _, _, 0, .cons h _ => .inr ⟨_, _, rfl, rfl, h⟩
  | _, _, i + 1, .cons _ t => by simpa using paired_get (i := i) t
theorem paired_pick {α β : Type} {P : α → β → Prop} {us ds ks : List α} {us' ds' ks' : List β} (h1 : Paired P us us') (h2 : Paired P ds ds') (h3 : Paired P ks ks') : ∀ sel, Paired P (pickS us ds ks sel) (pickS us' ds' ks' sel)
  | [] => .nil
  | .p i :: l => by
    unfold pickS
    rcases paired_get (i := i) h1 with ⟨e1, e2⟩ | ⟨a, b, e1, e2, h⟩
    · rw [e1, e2]; exact paired_pick h1 h2 h3 l
    · rw [e1, e2]; exact .cons h (paired_pick h1 h2 h3 l)
  | .d i :: l => by
    unfold pickS
    rcases paired_get (i := i) h2 with ⟨e1, e2⟩ | ⟨a, b, e1, e2, h⟩
    · rw [e1, e2]; exact paired_pick h1 h2 h3 l
    · rw [e1, e2]; exact .cons h (paired_pick h1 h2 h3 l)
  | .k i :: l => by
    unfold pickS
    rcases paired_get (i := i) h3 with ⟨e1, e2⟩ | ⟨a, b, e1, e2, h⟩
    · rw [e1, e2]; exact paired_pick h1 h2 h3 l
    · rw [e1, e2]; exact .cons h (paired_pick h1 h2 h3 l)
structure FnK (P : Program) (w : World) (K : PySem.W.Frag) (mg : Str → Option Value) (base : Heap) (k : Nat) (f : Addr) (n : Nat) (ks : List Str) (sel : List Sel) (dvs : List V) (sp : SpD) : Prop where
  ex : ∃ (fd : FuncData) (ps : List Str) (g : List Value → List Value → List Value), FnOk P w K mg base (L2.CX P w) k f fd ps (liftSp K sp) ∧ KBn K fd ps n ks g fun vs zs => pickS vs dvs zs sel
/-- keyword-only defaults, no others: all keywords are written -/
theorem kbindsO {K : PySem.W.Frag} {x qual : Str} {params : Arguments} {body : List Stmt} {scope : Scope} {kws : List (Str × V)} {f : Addr} {fd : FuncData} {ps : List Str} (F : FunD K x qual params body scope [] kws f fd) (n : Nat) (ks : List Str) (sel : List Sel) (hk : kws ≠ [])
    (h : ∀ (D : Addr) (doc pm : Value) (an : Option Addr) (cdv ct : Value) (us ws : List Value), us.length = n → ws.length = ks.length →
      bindArgs (PySem.W.fnOf x qual params body scope .none (.ref D) doc pm an cdv ct) ⟨us, ks.zip ws⟩ = pure (ps.zip (pickS us [] ws sel))) : KBn K fd ps n ks (fun us ws => pickS us [] ws sel) (fun vs zs => pickS vs [] zs sel) := by
  obtain ⟨oc, od, dV, kV, doc, pm, an, cdv, ct, osl, rfl, lk, hcd, hD, hK⟩ := F.ex
  rcases hD with ⟨_, rfl⟩ | ⟨e, _⟩
  · rcases hK with e | ⟨D, rfl, hq⟩
    · exact absurd e hk
    · refine ⟨fun s us ws X l1 l2 => ?_, fun r1 r2 => paired_pick r1 .nil r2 sel⟩
      exact .of_eq (h D doc pm an cdv ct us ws l1 l2)
  · exact absurd rfl e
/-- a list of keywords, by operands -/
def DVK (X : Cx) (kws : List Keyword) (t : TVD) : Prop := ∀ W, Takes X W → PK X kws (LV X.K W t)
theorem pk_imp {X : Cx} {kws : List Keyword} {t t' : TA} (h : PK X kws t) (w : ∀ σ H Q, t' σ H Q → t σ H Q) : PK X kws t' := ⟨fun p pins s σ H Q I q => h.run p pins s σ H Q I (w σ H Q q)⟩
theorem dvk_nil {X : Cx} : DVK X [] vNil := fun W tk => pk_imp pk_nil fun σ H Q ⟨G, F, R, ρ, Qd, Xd, r, q, n, x⟩ => n [] ρ [] F H R r (.refl F) .nil q
theorem dvk_cons {X : Cx} {e : Expr} {nm : Option Str} {kpos : Pos} {kws : List Keyword} {t : TOD} {u : TVD} (ha : DO X e t) (hr : DVK X kws u) : DVK X (⟨nm, e, kpos⟩ :: kws) (vCons t u) := fun W tk =>
  pk_imp (pk_cons (ha W tk) (hr W tk)) fun σ H Q ⟨G, F, R, ρ, Qd, Xd, r, q, n, x⟩ => ⟨G, F, R, ρ, _, Xd, r, q, fun od ρ1 v F1 H1 R1 r1 l1 hd q1 =>
    ⟨G, F1, R1, ρ1, _, Xd, r1, q1, fun ods ρ2 vs F2 H2 R2 r2 l2 h2 q2 => n (od :: ods) ρ2 (v :: vs) F2 H2 R2 r2 (l1.trans l2) (.cons (hd.le l2) h2) q2, x.le l1⟩, x⟩
theorem paired_le {K : PySem.W.Frag} {F F' : Fz} {σ : L2.St} (l : Fle F F') {ods : List Opd} {vs : List V} (h : Paired (OpAt K F σ) ods vs) : Paired (OpAt K F' σ) ods vs := PD.Paired.imp (fun _ _ z => OpAt.le l z) h
theorem paired_len {α β : Type} {P : α → β → Prop} : ∀ {l : List α} {m : List β}, Paired P l m → l.length = m.length
  | _, _, .nil => rfl
  | _, _, .cons _ t => by rw [List.length_cons, List.length_cons, paired_len t]
def tCallKE (n m : Nat) (sp : Sp) (gV : List V → List V → List V) (E : L2.St → XK) (t tk : TA) : TE := fun σ H Q => t σ H fun vs H1 => tk σ H1 fun zs H2 => vs.length = n ∧ zs.length = m ∧ sp (gV vs zs) H2 Q (E σ)
def tMakeKE (C : Addr) (n m : Nat) (sp : Sp) (gV : List V → List V → List V) (E : L2.St → XK) (t tk : TA) : TE := fun σ H Q => t σ H fun vs H1 => tk σ H1 fun zs H2 => vs.length = n ∧ zs.length = m ∧
  ∀ x dx, H2 x = none → H2 dx = none → dx ≠ x → sp (gV (.ref x :: vs) zs) (upd (upd H2 dx (.own x)) x (.ins C dx [])) (fun v H3 => v = .non ∧ Q (.ref x) H3) (E σ)
section
variable {X : Cx} {CX : CXT} {k n : Nat} {f C : Addr} {fd : FuncData} {ps ks : List Str} {sp' : Sp} {E : L2.St → XK} {x : Str} {p pos : Pos} {e : Expr} {es : List Expr} {kws : List Keyword} {t tk : TA} {g : List Value → List Value → List Value} {gV : List V → List V → List V}
theorem pe_callKE (F : FnOk X.prog X.w X.K X.mg X.base CX k f fd ps sp') (hr : Room k X.A) (hg : Gl X x) (hm : X.mg x = some (.ref f)) (hk : PySem.W.keepIn X.K (.ref f) = true) (hb : KBn X.K fd ps n ks g gV) (hx : ∀ σ, PassesAt CX X σ (E σ))
    (ha : PA X (e :: es) t) (hkw : PK X kws tk) (hall : (backToKw pos (keywordEach kws X.env)).all (·.1.isSome) = true := by rfl) (hks : (backToKw pos (keywordEach kws X.env)).filterMap (·.1) = ks := by rfl)
    (hdb : (x == ("__debug__" : Str)) = false := by decide) (he : starEach (e :: es) X.env = (false, eval e X.env) :: starEach es X.env := by rfl)
    (hpl : ((backTo pos (starEach (e :: es) X.env)).any (·.1) || (backToKw pos (keywordEach kws X.env)).any (·.1.isNone)) = false := by rfl) :
    PE X (.Call (.Name x p) (e :: es) kws pos) (tCallKE n ks.length sp' gV E t tk) := by
  refine ⟨fun pins s σ H Q I h => ?_⟩
  refine wpAny_Call_Name_kw (ld_glob I hg hm ?_ hdb)
  refine PySem.W.callWith_KW (h₀ := X.base) I.ok.mod.kin hk hall (thn (ha.run pos pins s σ H _ I h) fun us s1 ⟨vs, H1, I1, r, q⟩ => ?_) hpl he
  refine thn (hkw.run pos pins s1 σ H1 _ I1 q) fun ws s2 ⟨zs, H2, I2, rz, l1, l2, q2⟩ => ⟨I2.kIn, ?_⟩
  rw [hks]
  have r2 := hb.rel r rz
  refine wpAny_call (codeAny_mono (F.run X.A X.stack s2 H2 ⟨us, ks.zip ws⟩ (g us ws) (gV vs zs) Q (E σ) hr I2.env0 (hb.to s2 us ws I2.kIn (r.length.symm.trans l1) (rz.length.symm.trans l2)) r2 q2) fun r s' hq => ?_)
  cases r with
  | error e => exact hx σ pins H2 s2 e s' I2 hq
  | ok fl =>
    cases fl with
    | ret u => exact I2.after hq
    | next => exact False.elim hq
    | brk => exact False.elim hq
    | cont => exact False.elim hq
theorem pe_makeKE (M : Mk X.K C f) (F : FnOk X.prog X.w X.K X.mg X.base CX k f fd ps sp') (hr : Room (k + 1) X.A) (hg : Gl X x) (hm : X.mg x = some (.ref C)) (hb : KBn X.K fd ps (n + 1) ks g gV) (hx : ∀ σ, PassesAt CX X σ (E σ))
    (ha : PA X (e :: es) t) (hkw : PK X kws tk) (hall : (backToKw pos (keywordEach kws X.env)).all (·.1.isSome) = true := by rfl) (hks : (backToKw pos (keywordEach kws X.env)).filterMap (·.1) = ks := by rfl)
    (hdb : (x == ("__debug__" : Str)) = false := by decide) (he : starEach (e :: es) X.env = (false, eval e X.env) :: starEach es X.env := by rfl)
    (hpl : ((backTo pos (starEach (e :: es) X.env)).any (·.1) || (backToKw pos (keywordEach kws X.env)).any (·.1.isNone)) = false := by rfl) :
    PE X (.Call (.Name x p) (e :: es) kws pos) (tMakeKE C n ks.length sp' gV E t tk) := by
  refine ⟨fun pins s σ H Q I h => ?_⟩
  refine wpAny_Call_Name_kw (ld_glob I hg hm ?_ hdb)
  refine PySem.W.callWith_KW (h₀ := X.base) I.ok.mod.kin M.kp hall (thn (ha.run pos pins s σ H _ I h) fun us s1 ⟨vs, H1, I1, r, q⟩ => ?_) hpl he
  refine thn (hkw.run pos pins s1 σ H1 _ I1 q) fun ws s ⟨zs, H, I, rz, l1, l2, h⟩ => ⟨I.kIn, ?_⟩
  rw [hks]
  have hq := h (s.heap.objs.size + 1) s.heap.objs.size (I.hok.fresh (Nat.le_succ _)) (I.hok.fresh (Nat.le_refl _)) (Nat.ne_of_lt (Nat.lt_succ_self _))
  have I2 := Inv.made (C := C) I
  have r1 : Vals (V.ref (s.heap.objs.size + 1) :: vs) (Value.ref (s.heap.objs.size + 1) :: us) := .cons rfl r
  have r2 := hb.rel r1 rz
  have e1 : (Value.ref (s.heap.objs.size + 1) :: us).length = n + 1 := r1.length.symm.trans (congrArg Nat.succ l1)
  have e2 : ws.length = ks.length := rz.length.symm.trans l2
  refine wpAny_call (make_map (f := f) I.kIn M.makes M.init (beq_iff_eq.mp M.fn) (codeAny_mono (F.run _ X.stack _ _ ⟨Value.ref (s.heap.objs.size + 1) :: us, ks.zip ws⟩ (g (Value.ref (s.heap.objs.size + 1) :: us) ws) _ _ (E σ) (hr.make C us (ks.zip ws))
    (I2.env0.make C us (ks.zip ws)) (hb.to _ (Value.ref (s.heap.objs.size + 1) :: us) ws I2.kIn e1 e2) r2 hq) fun r s' hq' => ?_))
  cases r with
  | error e => exact hx σ pins _ _ e s' I2 hq'
  | ok fl =>
    cases fl with
    | ret u =>
      obtain ⟨v, H', I3, rv, ev, q3⟩ := I2.after hq'
      subst ev
      exact ⟨rv, ⟨V.ref (s.heap.objs.size + 1), H', I3, rfl, q3⟩⟩
    | next => exact False.elim hq'
    | brk => exact False.elim hq'
    | cont => exact False.elim hq'
end
def dCallK (sp : SpD) (n m : Nat) (sel : List Sel) (dds : List D) (t tk : TVD) : TXD := fun ρ Q X => t ρ (fun ods ρ1 => tk ρ1 (fun kds ρ2 => ods.length = n ∧ kds.length = m ∧ callD ρ2 (pickS ods (dds.map Opd.d) kds sel) sp Q X) X) X
def dMakeK (C : Addr) (sp : SpD) (n m : Nat) (sel : List Sel) (dds : List D) (t tk : TVD) : TXD := fun ρ Q X => t ρ (fun ods ρ1 => tk ρ1 (fun kds ρ2 => ods.length = n ∧ kds.length = m ∧ slotsOk ρ2.length ods ∧ slotsOk ρ2.length kds ∧
  callD (ρ2 ++ [some (.o (.ins C []))]) (pickS (.s ρ2.length :: ods) (dds.map Opd.d) kds sel) sp (popQ Q) (fun e ρ' => X e ρ'.dropLast)) X) X
section
variable {X : Cx} {k n : Nat} {f C : Addr} {ks : List Str} {sel : List Sel} {dvs : List V} {dds : List D} {sp : SpD} {x : Str} {p pos : Pos} {e : Expr} {es : List Expr} {kws : List Keyword} {t tk : TVD}
theorem dx_callK (F : FnK X.prog X.w X.K X.mg X.base k f n ks sel dvs sp) (hD : ∀ F, DenL X.K F dvs dds) (hr : Room k X.A) (hg : Gl X x) (hm : X.mg x = some (.ref f)) (hk : PySem.W.keepIn X.K (.ref f) = true) (ha : DVs X (e :: es) t) (hkw : DVK X kws tk)
    (hall : (backToKw pos (keywordEach kws X.env)).all (·.1.isSome) = true := by rfl) (hks : (backToKw pos (keywordEach kws X.env)).filterMap (·.1) = ks := by rfl)
    (hdb : (x == ("__debug__" : Str)) = false := by decide) (he : starEach (e :: es) X.env = (false, eval e X.env) :: starEach es X.env := by rfl)
    (hpl : ((backTo pos (starEach (e :: es) X.env)).any (·.1) || (backToKw pos (keywordEach kws X.env)).any (·.1.isNone)) = false := by rfl) :
    DX X (.Call (.Name x p) (e :: es) kws pos) (dCallK sp n ks.length sel dds t tk) := fun W tk' => by
  obtain ⟨fd, ps, g, F, hb⟩ := F.ex
  refine pe_imp (pe_callKE (E := WE W) F hr hg hm hk hb (fun σ => passAt tk' σ) (ha W tk') (hkw W tk') hall hks hdb he hpl) fun σ H Q ⟨G, Fz, R, ρ, Qd, Xd, r, q, n, xx⟩ => ?_
  refine ⟨G, Fz, R, ρ, _, Xd, r, q, fun ods ρ1 vs F1 H1 R1 r1 l1 pv q1 => ⟨G, F1, R1, ρ1, _, Xd, r1, q1, fun kds ρ2 zs F2 H2 R2 r2 l2 pz ⟨e1, e2, q2⟩ => ?_, xx.le l1⟩, xx⟩
  refine ⟨(paired_len pv).symm.trans e1, (paired_len pz).symm.trans e2, ?_⟩
  exact call_lift r2 (paired_pick (paired_le l2 pv) (opds_of (hD F2)) pz sel) q2 (fun x ρ' v F' H' R' T r' l => n x ρ' v F' H' R' T r' ((l1.trans l2).trans l)) fun e ρ' dx F' H' R' T r' l => xx e ρ' dx F' H' R' T r' ((l1.trans l2).trans l)
theorem dx_makeK (M : Mk X.K C f) (F : FnK X.prog X.w X.K X.mg X.base k f (n + 1) ks sel dvs sp) (hD : ∀ F, DenL X.K F dvs dds) (hr : Room (k + 1) X.A) (hg : Gl X x) (hm : X.mg x = some (.ref C)) (ha : DVs X (e :: es) t) (hkw : DVK X kws tk)
    (hall : (backToKw pos (keywordEach kws X.env)).all (·.1.isSome) = true := by rfl) (hks : (backToKw pos (keywordEach kws X.env)).filterMap (·.1) = ks := by rfl)
    (hdb : (x == ("__debug__" : Str)) = false := by decide) (he : starEach (e :: es) X.env = (false, eval e X.env) :: starEach es X.env := by rfl)
    (hpl : ((backTo pos (starEach (e :: es) X.env)).any (·.1) || (backToKw pos (keywordEach kws X.env)).any (·.1.isNone)) = false := by rfl) :
    DX X (.Call (.Name x p) (e :: es) kws pos) (dMakeK C sp n ks.length sel dds t tk) := fun W tk' => by
  obtain ⟨fd, ps, g, F, hb⟩ := F.ex
  refine pe_imp (pe_makeKE (E := WE W) M F hr hg hm hb (fun σ => passAt tk' σ) (ha W tk') (hkw W tk') hall hks hdb he hpl) fun σ H Q ⟨G, Fz, R, ρ, Qd, Xd, r, q, n, xx⟩ => ?_
  refine ⟨G, Fz, R, ρ, _, Xd, r, q, fun ods ρ0 vs F0 H0 R0 r0 l0 pv q1 => ⟨G, F0, R0, ρ0, _, Xd, r0, q1, fun kds ρ1 zs F1 H1 R1 r1 l1 pz ⟨e1, e2, sok, sok2, q1⟩ => ?_, xx.le l0⟩, xx⟩
  refine ⟨(paired_len pv).symm.trans e1, (paired_len pz).symm.trans e2, fun x dx hx hdx ne => ?_⟩
  have l1' := l0.trans l1
  have g1 : Grow F1 H1 F1 (upd H1 dx (.own x)) := .own r1.fit hdx
  have hx1 : upd H1 dx (.own x) x = none := by rw [upd_ne (Ne.symm ne)]; exact hx
  have r2 := r1.grow g1
  have g2 : Grow F1 (upd H1 dx (.own x)) F1 (upd (upd H1 dx (.own x)) x (.ins C dx [])) := .own r2.fit hx1
  have r3 := (r2.grow g2).push (y := .o (.ins C [])) (v := .ref x) (Tmp.new r2 hx1) ⟨x, dx, [], rfl, rfl, upd_same, .nil⟩ (fun b z => nomatch z)
  have el := r1.len
  have pv2 : Paired (OpAt X.K F1 (σ ++ [some (.ref x)])) (pickS (.s ρ1.length :: ods) (dds.map Opd.d) kds sel) (pickS (.ref x :: vs) dvs zs sel) := by
    refine paired_pick (.cons ?_ (opAt_app (.refl F1) (by rw [el]; exact sok) (paired_le l1 pv))) (opds_of (hD F1)) (opAt_app (.refl F1) (by rw [el]; exact sok2) pz) sel
    show (σ ++ [some (V.ref x)])[ρ1.length]? = some (some (.ref x))
    rw [List.getElem?_append_right (by omega), el]
    simp
  refine call_lift r3 pv2 q1 (fun y ρ' v F' H' R' T r' l t av nl qq => ?_) fun ex ρ' dx' F' H' R' T r' l t av qq => ?_
  · obtain ⟨rfl, qq⟩ := qq
    cases z : ρ'.getLast? with
    | none => rw [z] at qq; exact qq.elim
    | some w =>
      rw [z] at qq
      have er := dropLast_get z
      rw [er] at r'
      obtain ⟨p1, p2, p3⟩ := r'.pop
      cases w with
      | none => exact qq.elim
      | some w =>
        cases w with
        | o b =>
          obtain ⟨u, e1, e2⟩ := p3 _ rfl
          cases e1
          cases av
          exact ⟨rfl, n (.o b) ρ'.dropLast (.ref x) F' H' _ _ p1 (l1'.trans l) p2 e2 (fun b z => nomatch z) qq⟩
        | v d => exact qq.elim
        | l b => exact qq.elim
  · have hne : ρ' ≠ [] := fun z => by
      have := r'.len
      rw [z] at this
      simp at this
    obtain ⟨w, z⟩ : ∃ w, ρ'.getLast? = some w := by
      cases z : ρ'.getLast? with
      | none => exact absurd (List.getLast?_eq_none_iff.mp z) hne
      | some w => exact ⟨w, rfl⟩
    have er := dropLast_get z
    rw [er] at r'
    obtain ⟨p1, p2, p3⟩ := r'.pop
    refine xx ex ρ'.dropLast dx' F' H' _ T p1 (l1'.trans l) (fun a ta => ?_) av qq
    obtain ⟨t1, t2, t3, t4⟩ := t a ta
    exact ⟨t1, t2, t3, fun i hi => t4 i hi.2⟩
end
section
variable {ρ : Rho} {X : XD} {QX : DV → Rho → Prop} {C : Addr} {sp : SpD} {n m : Nat} {sel : List Sel} {dds : List D} {t tk : TVD}
/-- the operands of a call, picked out first -/
def pickK (us ds ks : List Opd) (sel : List Sel) (k : List Opd → Prop) : Prop := k (pickS us ds ks sel)
@[simp ↓] theorem s_dCallK : dCallK sp n m sel dds t tk ρ QX X = t ρ (fun ods ρ1 => tk ρ1 (fun kds ρ2 => ods.length = n ∧ kds.length = m ∧ pickK ods (dds.map Opd.d) kds sel fun as => callD ρ2 as sp QX X) X) X := id rfl
@[simp ↓] theorem s_dMakeK : dMakeK C sp n m sel dds t tk ρ QX X = t ρ (fun ods ρ1 => tk ρ1 (fun kds ρ2 => ods.length = n ∧ kds.length = m ∧ slotsOk ρ2.length ods ∧ slotsOk ρ2.length kds ∧
  pickK (.s ρ2.length :: ods) (dds.map Opd.d) kds sel fun as => callD (ρ2 ++ [some (.o (.ins C []))]) as sp (popQ QX) (fun e ρ' => X e ρ'.dropLast)) X) X := id rfl
variable {us ds : List Opd} {ks : List Opd} {l : List Sel} {i : Nat}
@[simp ↓] theorem s_pickK0 {k : List Opd → Prop} : pickK us ds ks [] k = k [] := id rfl
@[simp ↓] theorem s_pickKp {k : List Opd → Prop} : pickK us ds ks (.p i :: l) k = (match us[i]? with
    | some x => pickK us ds ks l fun ods => k (x :: ods)
    | none => pickK us ds ks l k) := by
  unfold pickK
  rw [pickS]
  cases us[i]? <;> rfl
@[simp ↓] theorem s_pickKd {k : List Opd → Prop} : pickK us ds ks (.d i :: l) k = (match ds[i]? with
    | some x => pickK us ds ks l fun ods => k (x :: ods)
    | none => pickK us ds ks l k) := by
  unfold pickK
  rw [pickS]
  cases ds[i]? <;> rfl
@[simp ↓] theorem s_pickKk {k : List Opd → Prop} : pickK us ds ks (.k i :: l) k = (match ks[i]? with
    | some x => pickK us ds ks l fun ods => k (x :: ods)
    | none => pickK us ds ks l k) := by
  unfold pickK
  rw [pickS]
  cases ks[i]? <;> rfl
end
end PD
set_option maxHeartbeats 1000000
namespace PD
open PySem L2 PySem.Spec PyProof.Rows
/-! ### xs[k] op= e, the items instances of one class -/
theorem get_list {X : Cx} : PGet X (rIxL X.K) := by
  intro pins s σ H x y v u Q I rx ry h
  obtain ⟨p, xs, i, z, rfl, rfl, hq, he, q⟩ := h
  cases rx
  obtain ⟨t, rfl⟩ := ry
  obtain ⟨its, r, pl, hz⟩ := I.list hq
  obtain ⟨j, h1, h2, h3, h4, h5⟩ := atI_get he
  obtain ⟨w, ew, rw'⟩ := r.get h2
  have hl := r.length
  have hn := line63
  have fin : EP X pins σ Q w s := ⟨z, H, I, rw', q⟩
  by_cases h0 : 0 ≤ i
  · have hj : i.toNat = j := by
      rw [seqIndex_of h0 h5] at h1
      exact Option.some.inj h1
    exact wpAny_getItem_list pl.isList h0 (by omega) (by rw [hj]; simpa using ew) fin
  · have hj : (i + (its.toArray.size : Int)).toNat = j := by
      rw [seqIndex_neg (by omega) h4] at h1
      rw [List.size_toArray, ← hl]
      exact Option.some.inj h1
    exact wpAny_getItem_list_neg pl.isList (by omega) (by rw [List.size_toArray] <;> omega) (by omega) (by rw [hj]; simpa using ew) fin
/-- a value given away -/
def frzV (x : DV) (k : D → Prop) : Prop := match x with
  | .v d => k d
  | .o b => ∃ d, b.fz = some d ∧ k d
  | .l _ => False
def dAugSR (i : Nat) (ti : TED) (C C' : Addr) (sp : SpD) (t : TOD) : TSD := fun E ρ => ρ.getD i none ≠ none ∧ ti ρ (fun di ρ1 => match di with
  | .int k => ownL ρ1 i fun xs _ => match atI xs k with
    | some d => isInsC C d ∧ t ρ1 (fun ob ρ2 => see1 ρ2 ob (isInsC C') ∧ callD ρ2 [.d d, ob] sp (fun x ρ3 => frzV x fun d' => ownL ρ3 i fun ys put => match ixN ys.length k with
      | some j => E.nx (put (ys.set j d'))
      | none => False) noX) E.ex
    | none => False
  | _ => False) E.ex
theorem ds_augSR {X : Cx} {k : Nat} {f C C' : Addr} {sp : SpD} {i : Nat} {op : Operator} {ti : TED} {to : TOD} {o ei e : Expr} {tpos pos : Pos} (F : FnD X.prog X.w X.K X.mg X.base k f [] sp) (hr : Room k X.A) (hc : PySem.W.selfFirst X.K C = true) (hni : noInB X.K C op.info.2 = true) (hn : C = C' ∨ (C ≠ C' ∧ noSlotB X.K C' op.info.2 = true)) (hs : PySem.W.findIn X.K (.ref C) (PySem.dunder op.info.2) = some (some (.ref f))) (hf : PySem.W.isFn X.K (.ref f) = true)
    (ho : PE X o (tVar i)) (hi : DE X ei ti) (he : DO X e to)
    (ha : ∀ ov iv new, augStore ei ov iv new = (do holding [new, ov, iv] (setItem ov iv new); release [new, ov, iv] []; pure .next) := by intros; rfl) :
    DS X (.AugAssign (.Subscript o ei tpos) op e pos) (dAugSR i ti C C' sp to) := fun W tk po =>
  ps_imp (ps_augS ho (hi W tk) get_list (he W tk) (fun pins s σ H x y v u Q I rx ry h => ip_ownR F hr hc hni hn hs hf pins s σ H x y v u Q I rx ry h) set_list ha) fun D σ H ⟨G, Fz, R, ρ, E, r, ⟨nn, q⟩, ok⟩ => by
    obtain ⟨y0, ey0⟩ : ∃ y, ρ.getD i none = some y := by
      cases z : ρ.getD i none with
      | none => exact absurd z nn
      | some y => exact ⟨y, rfl⟩
    obtain ⟨w0, hw0, _⟩ := r.at_ i y0 (getD_some ey0)
    refine ⟨w0, hw0, G, Fz, R, ρ, _, E.ex, r, q, fun di ρ1 vi F1 H1 R1 r1 l1 hdi q1 => ?_, ok.ex σ⟩
    cases di with
    | int k =>
      cases hdi
      obtain ⟨x, xs, ex, hx, q1⟩ := ownL_of q1
      obtain ⟨p, vs, h1, h2, h3, h4⟩ := r1.ownL ex hx
      rw [hw0] at h1
      cases h1
      cases ea : atI xs k with
      | none => rw [ea] at q1; exact q1.elim
      | some d =>
        rw [ea] at q1
        obtain ⟨i1, q1⟩ := q1
        obtain ⟨w, e1, e2⟩ := atI_den h4 ea
        refine ⟨p, vs, k, w, rfl, rfl, SqL.of h3, e1, G, F1, R1, ρ1, _, E.ex, r1, q1, fun ob ρ2 u F2 H2 R2 r2 l2 o2 ⟨i2, q2⟩ => ?_, (ok.ex σ).le l1⟩
        obtain ⟨d2, ed2, i2⟩ := see1_of i2
        have dw : Den X.K F2 w d := e2.le l2
        obtain ⟨a, dx, fs, _, _, eaa, haa, _⟩ := isInsC_of r2.fit (.inl dw) i1
        obtain ⟨b, dy, gs, _, _, eb, hb, _⟩ := isInsC_of r2.fit (r2.look o2 ed2) i2
        refine ⟨a, dx, fs, b, dy, gs, eaa, eb, haa, hb, ?_⟩
        refine call_lift r2 (.cons (show OpAt X.K F2 σ (.d d) w from dw) (.cons o2 .nil)) q2 (fun x ρ3 v F3 H3 R3 T r3 l3 t3 at3 nl qd => ?_) (fun _ _ _ _ _ _ _ _ _ _ _ q => q.elim)
        -- the answer is given away
        obtain ⟨d', F4, r4, l4, dd, q4⟩ : ∃ d' F4, Rp X.K G F4 H3 R3 σ ρ3 ∧ Fle F3 F4 ∧ Den X.K F4 v d' ∧ ownL ρ3 i (fun ys put => match ixN ys.length k with
            | some j => E.nx (put (ys.set j d'))
            | none => False) := by
          cases x with
          | v d' => exact ⟨d', F3, r3, .refl F3, at3, qd⟩
          | o b =>
            obtain ⟨d', hd', qd⟩ := qd
            obtain ⟨F4, r4, l4, h4⟩ := frz_at r3 t3 at3 hd'
            exact ⟨d', F4, r4, l4, h4, qd⟩
          | l b => exact absurd rfl (nl b)
        have L := ((l1.trans l2).trans l3).trans l4
        obtain ⟨x5, ys, ex5, hx5, q5⟩ := ownL_of q4
        obtain ⟨p5, vs5, g1, g2, g3, g4⟩ := r4.ownL ex5 hx5
        rw [hw0] at g1
        cases g1
        cases z2 : ixN ys.length k with
        | none => rw [z2] at q5; exact q5.elim
        | some j =>
          rw [z2] at q5
          exact ⟨p, vs5, k, j, rfl, rfl, g3, by rw [g4.length]; exact z2, ok.nx _ _ F4 _ R3 (r4.setL ex5 hx5 hw0 g2 (g4.set dd j)) L q5⟩
    | _ => exact q1.elim
section
variable {ρ : Rho} {E : EndsD} {i : Nat} {C C' : Addr} {sp : SpD} {k : D → Prop} {d : D} {b : Box}
@[simp ↓] theorem s_frzVv : frzV (.v d) k = k d := id rfl
@[simp ↓] theorem s_frzVo : frzV (.o b) k = ∃ d, b.fz = some d ∧ k d := id rfl
@[simp ↓] theorem s_dAugSR {ti : TED} {t : TOD} : dAugSR i ti C C' sp t E ρ = (slotK i ρ fun o => match o with
    | some _ => ti ρ (fun di ρ1 => match di with
      | .int k => ownL ρ1 i fun xs _ => match atI xs k with
        | some d => isInsC C d ∧ t ρ1 (fun ob ρ2 => see1 ρ2 ob (isInsC C') ∧ callD ρ2 [.d d, ob] sp (fun x ρ3 => frzV x fun d' => ownL ρ3 i fun ys put => match ixN ys.length k with
          | some j => E.nx (put (ys.set j d'))
          | none => False) noX) E.ex
        | none => False
      | _ => False) E.ex
    | none => False) := by
  unfold slotK
  show (ρ.getD i none ≠ none ∧ ti ρ _ E.ex) = _
  cases ρ.getD i none with
  | none => simp
  | some y => simp
end
end PD
set_option maxHeartbeats 1000000
namespace PD
open PySem L2 PySem.Spec PyProof.Rows
/-! ### isinstance with an own class, an instance of which it is -/
def isCB (K : PySem.W.Frag) (C : Addr) : Bool := He.eqO (PySem.W.findIn K (.ref C) "__class__") (some (some (.builtin "object.__class__"))) && (He.eqO (PySem.W.specialIn K (.builtin "object.__class__") "__get__") (some (some (.builtin "getset_descriptor.__get__"))) &&
  (decide (PySem.W.takesIn K (.builtin "object.__class__") = some true) && decide (PySem.W.mroIn K C (.type "object") = some true)))
def dIsC (C : Addr) (ta : TOD) : TED := fun ρ Q X => ta ρ (fun oa ρ1 => see1 ρ1 oa fun x => isInsC C x ∧ Q (.bl true) ρ1) X
theorem kitOne_self {K : PySem.W.Frag} {C : Addr} : PySem.W.kitOne K (.ref C) (.ref C) = some true := by
  unfold PySem.W.kitOne
  rw [if_pos (beq_self_eq_true _)]
section
variable {X : Cx} {a : Expr} {ta : TOD} {pos : Pos}
theorem de_isC {C : Addr} {cn : Str} {p pc : Pos} (ha : DO X a ta) (hg : Gl X "isinstance") (hm : X.mg "isinstance" = none) (hv : bootBuiltins "isinstance" = some (.builtin "isinstance"))
    (gc : Gl X cn) (mc : X.mg cn = some (.ref C)) (cl : Cls X.K C) (hc : isCB X.K C = true) (hdb : (cn == ("__debug__" : Str)) = false := by decide)
    (hs : starEach [a, .Name cn pc] X.env = (false, eval a X.env) :: starEach [.Name cn pc] X.env := by rfl) (hs2 : starEach [.Name cn pc] X.env = (false, eval (.Name cn pc) X.env) :: starEach [] X.env := by rfl) (hpl : (backTo pos (starEach [.Name cn pc] X.env)).any (·.1) = false := by rfl) :
    DE X (.Call (.Name "isinstance" p) [a, .Name cn pc] [] pos) (dIsC C ta) := fun W tk =>
  pe_imp (pe_callB call_isi hg hm hv (pa_cons (ha W tk) (pa_cons (pe_glob (v := .ref C) gc mc rfl hdb) pa_nil hs2) hs) (by decide) (by decide) hs hpl) fun σ H Q ⟨G, F, R, ρ, Qd, Xd, r, q, n, x⟩ =>
    ⟨G, F, R, ρ, _, Xd, r, q, fun oa ρ1 v F1 H1 R1 r1 l1 o1 q1 => by
      obtain ⟨d, ed, i1, q1⟩ := see1_of q1
      obtain ⟨b, dx, vs, fs, _, eb, hb, _⟩ := isInsC_of r1.fit (r1.look o1 ed) i1
      obtain ⟨c1, c2⟩ := He.ba hc
      obtain ⟨c2, c3⟩ := He.ba c2
      obtain ⟨c3, c4⟩ := He.ba c3
      subst eb
      exact ⟨_, .ref C, .ref C, .ref C, true, rfl, .own C, .base (.ins hb cl (He.eqO_ok c1) (He.eqO_ok c2) (of_decide_eq_true c3) (of_decide_eq_true c4)), kitOne_self, n (.bl true) ρ1 (.bl true) F1 H1 R1 r1 l1 (.bl true) q1⟩, x⟩
end
/-! ### sep.join(texts) -/
def strsD : List D → Option (List Str)
  | [] => some []
  | .str s :: l => (strsD l).map (s :: ·)
  | _ => none
theorem strsD_of : ∀ {ds : List D} {ys : List Str}, strsD ds = some ys → ds = ys.map D.str
  | [], ys, h => by cases h; rfl
  | d :: l, ys, h => by
    cases d with
    | str s =>
      rw [strsD] at h
      cases e : strsD l with
      | none => rw [e] at h; cases h
      | some zs =>
        rw [e] at h
        cases h
        rw [strsD_of e]; rfl
    | _ => cases h
theorem denL_strs {K : PySem.W.Frag} {F : Fz} : ∀ {vs : List V} {ys : List Str}, DenL K F vs (ys.map D.str) → vs = ys.map V.str
  | _, [], h => by cases h; rfl
  | _, y :: ys, h => by
    cases h with
    | cons h1 h2 =>
      cases h1
      rw [denL_strs h2]; rfl
def fJoin : D → D → (DV → Prop) → Prop
  | .str a, .lst ds, P => (match strsD ds with
    | some ys => (ys.map (·.length)).sum + ys.length * a.length ≤ 16777216 ∧ P (.v (.str (Txt.join a ys)))
    | none => False)
  | .str a, .tup ds, P => (match strsD ds with
    | some ys => (ys.map (·.length)).sum + ys.length * a.length ≤ 16777216 ∧ P (.v (.str (Txt.join a ys)))
    | none => False)
  | _, _, _ => False
theorem mJoin {X : Cx} : MtR X "str.join" (rM1 X.K fJoin) := by
  intro pins s σ H x xs v us Q I rx rxs ⟨y, F, dx, dy, P, ex, fit, sx, sy, q, k⟩
  subst ex
  cases dx with
  | str a =>
    have e := sx.str
    subst e
    cases dy with
    | lst ds =>
      obtain ⟨p, vs, rfl, h1, h2⟩ := sy.lst fit
      have q' : (match strsD ds with
        | some ys => (ys.map (·.length)).sum + ys.length * a.length ≤ 16777216 ∧ P (.v (.str (Txt.join a ys)))
        | none => False) := q
      cases e : strsD ds with
      | none => rw [e] at q'; exact q'.elim
      | some ys =>
        rw [e] at q'
        have e1 := strsD_of e
        subst e1
        have e2 := denL_strs h2
        subst e2
        exact mt_join pins s σ H _ _ v us Q I rx rxs ⟨a, p, ys, rfl, rfl, .inl (SqL.of h1), q'.1, k _ (.v (.str (Txt.join a ys))) F H NoR (.refl fit) (fun _ z => z.elim) (.str _) (fun b z => nomatch z) q'.2⟩
    | tup ds =>
      obtain ⟨p, vs, rfl, h1, h2⟩ := sy.tup fit
      have q' : (match strsD ds with
        | some ys => (ys.map (·.length)).sum + ys.length * a.length ≤ 16777216 ∧ P (.v (.str (Txt.join a ys)))
        | none => False) := q
      cases e : strsD ds with
      | none => rw [e] at q'; exact q'.elim
      | some ys =>
        rw [e] at q'
        have e1 := strsD_of e
        subst e1
        have e2 := denL_strs h2
        subst e2
        exact mt_join pins s σ H _ _ v us Q I rx rxs ⟨a, p, ys, rfl, rfl, .inr h1, q'.1, k _ (.v (.str (Txt.join a ys))) F H NoR (.refl fit) (fun _ z => z.elim) (.str _) (fun b z => nomatch z) q'.2⟩
    | _ => exact q.elim
  | _ => exact q.elim
/-! ### f-strings -/
def dFmt (t : TED) : TED := fun ρ Q X => t ρ (fun d ρ1 => match d with
  | .str y => y.length ≤ sizeLine ∧ Q (.str y) ρ1
  | .int i => i.natAbs.log2 < 1920 ∧ Q (.str (toString i)) ρ1
  | _ => False) X
def dJs : List TED → Str → TED
  | [], acc => fun ρ Q _ => Q (.str acc) ρ
  | t :: ts, acc => fun ρ Q X => t ρ (fun d ρ1 => match d with
    | .str y => (acc ++ y).length ≤ sizeLine ∧ dJs ts (acc ++ y) ρ1 Q X
    | _ => False) X
inductive DJ (X : Cx) : List Expr → List TED → Prop where
  | nil : DJ X [] []
  | cons {e : Expr} {t : TED} {es : List Expr} {ts : List TED} (h : DE X e t) (r : DJ X es ts) : DJ X (e :: es) (t :: ts)
section
variable {X : Cx}
theorem dj_pj {W : WX} (tk : Takes X W) {es : List Expr} {ts : List TED} (h : DJ X es ts) : PJ X es (ts.map (LE X.K W)) := by
  induction h with
  | nil => exact .nil
  | cons h r ih => exact .cons (h W tk) ih
theorem js_lift {K : PySem.W.Frag} {W : WX} : ∀ (ts : List TED) (acc : Str) {σ : L2.St} {H : Hp} {Q : VK}, LE K W (dJs ts acc) σ H Q → tJs (ts.map (LE K W)) acc σ H fun out H1 => Q (.str out) H1
  | [], acc, σ, H, Q, ⟨G, F, R, ρ, Qd, Xd, r, q, n, x⟩ => n (.str acc) ρ (.str acc) F H R r (.refl F) (.str _) q
  | t :: ts, acc, σ, H, Q, ⟨G, F, R, ρ, Qd, Xd, r, q, n, x⟩ => ⟨G, F, R, ρ, _, Xd, r, q, fun d ρ1 v F1 H1 R1 r1 l1 hd q1 => by
      cases d with
      | str y =>
        cases hd
        exact ⟨y, rfl, q1.1, js_lift ts (acc ++ y) ⟨G, F1, R1, ρ1, _, Xd, r1, q1.2, fun d ρ2 w F2 H2 R2 r2 l2 => n d ρ2 w F2 H2 R2 r2 (l1.trans l2), x.le l1⟩⟩
      | _ => exact q1.elim, x⟩
theorem de_fmt {e : Expr} {t : TED} {pos : Pos} (h : DE X e t) : DE X (.FormattedValue e (-1) none pos) (dFmt t) := fun W tk =>
  pe_imp (pe_fmt (h W tk)) fun σ H Q ⟨G, F, R, ρ, Qd, Xd, r, q, n, x⟩ => ⟨G, F, R, ρ, _, Xd, r, q, fun d ρ1 v F1 H1 R1 r1 l1 hd q1 => by
    cases d with
    | str y => cases hd; exact .inl ⟨y, rfl, q1.1, n (.str y) ρ1 _ F1 H1 R1 r1 l1 (.str _) q1.2⟩
    | int i => cases hd; exact .inr ⟨i, rfl, q1.1, n (.str (toString i)) ρ1 _ F1 H1 R1 r1 l1 (.str _) q1.2⟩
    | _ => exact q1.elim, x⟩
theorem de_joined {v1 v2 : Expr} {rest : List Expr} {ts : List TED} {pos : Pos} (h : DJ X (v1 :: v2 :: rest) ts) : DE X (.JoinedStr (v1 :: v2 :: rest) pos) (dJs ts Str.empty) := fun W tk =>
  pe_imp (pe_joined (dj_pj tk h)) fun σ H Q q => js_lift ts Str.empty q
end
/-! ### T.get(k, x), T a written table of the module -/
def missB (K : PySem.W.Frag) (a : Addr) (l : List Str) : Bool := l.all fun z => He.eqO (PySem.W.nsIn K a z) (some none)
def tKGet (K : PySem.W.Frag) (w : World) (ta tb tc : TE) : TE := fun σ H Q => ta σ H fun x H1 => (∃ (p : Addr), x = .ref p ∧ (∃ es n, KDict K w p es n)) ∧ tb σ H1 fun y H2 => tc σ H2 fun z H3 => ∃ (p : Addr) (s : Str), x = .ref p ∧ y = .str s ∧
  ((∃ v, KDct K w p s v ∧ Q v H3) ∨ (PySem.W.nsIn K p s = some none ∧ Q z H3))
section
variable {X : Cx} {o e f : Expr} {apos cpos : Pos}
theorem pe_kget {td ty tx : TE} (ho : PE X o td) (he : PE X e ty) (hf : PE X f tx) (m : M2 X o "get" apos e f cpos) : PE X (.Call (.Attribute o "get" apos) [e, f] [] cpos) (tKGet X.K X.w td ty tx) := by
  refine ⟨fun pins s σ H Q I h => ?_⟩
  refine wpAny_Call_method m.base m.few m.line PySem.F.plainAttrs_dict PySem.F.slot_dict_get PySem.F.type_dict_get (thn (ho.run pins s σ H _ I h) fun u s1 ⟨x, H1, I1, rx, ⟨a, ex, es, n, D⟩, q1⟩ => ?_)
  subst ex
  obtain rfl : u = Value.ref a := rx
  have hm1 := PySem.W.mapOf_K (prog := X.prog) (w := X.w) I1.kIn D.at_ D.lit
  refine ⟨hm1.typeIs, fun b q => by cases q; exact ⟨_, I1.kIn _ _ D.at_, rfl⟩, ?_⟩
  rw [m.trees]
  refine Calls.callWith_builtin rfl (Calls.evalArgs_plain (Calls.spliced_cons (thn (he.run pins s1 σ H1 _ I1 q1) fun iv s2 ⟨y, H2, I2, ry, q2⟩ =>
    Calls.spliced_cons (thn (hf.run pins s2 σ H2 _ I2 q2) fun fv s3 ⟨z, H3, I3, rz, p, s, e1, e2, q3⟩ => Calls.spliced_nil ?_))))
  cases e1
  subst e2
  obtain ⟨t, rfl⟩ := ry
  have hm3 := PySem.W.mapOf_K (prog := X.prog) (w := X.w) I3.kIn D.at_ D.lit
  refine call_meetsIn PySem.F.slot_dict_get hm3.typeIs PySem.F.entry_dict_get (PySem.F.args_dict_get_3 _ _ _) (meets_dict_get_default (PySem.strKind X.prog X.w) a (PySem.strKind_is X.prog X.w s t) D.low fv) ⟨_, hm3, ?_⟩
  rcases q3 with ⟨v, ⟨es', n', u, l1, l2, l3, l4⟩, q3⟩ | ⟨l3, q3⟩
  · rw [PySem.W.find_K D.at_ l3]
    exact ⟨v, H3, I3.tok _, l4, q3⟩
  · rw [PySem.W.find_K D.at_ l3]
    exact ⟨z, H3, I3.tok _, rz, q3⟩
end
section
variable {X : Cx} {o a c : Expr} {apos cpos : Pos} {ta tb : TOD} {tc : TED}
def getMK (dds : List (Str × D)) (miss : List Str) (z : Str) (d : D) (P : D → Prop) : Prop := match dds.lookup z with
  | some d' => P d'
  | none => z ∈ miss ∧ P d
def dKGet (ad : Addr) (dds : List (Str × D)) (miss : List Str) (ta tb : TOD) (tc : TED) : TED := fun ρ Q X => ta ρ (fun oa ρ1 => see1 ρ1 oa (fun y => match y with
  | .obj b => b = ad
  | _ => False) ∧ tb ρ1 (fun ob ρ2 => tc ρ2 (fun d ρ3 => see1 ρ3 ob fun x => match x with
    | .str z => getMK dds miss z d fun d' => Q d' ρ3
    | _ => False) X) X) X
theorem missB_of {K : PySem.W.Frag} {ad : Addr} {l : List Str} (h : missB K ad l = true) {z : Str} (hz : z ∈ l) : PySem.W.nsIn K ad z = some none := He.eqO_ok (List.all_eq_true.mp h z hz)
theorem de_kget {ad : Addr} {kvs : List (Str × V)} {dds : List (Str × D)} {miss : List Str} (T : TabW X.K X.w ad kvs dds) (D : ∃ es n, KDict X.K X.w ad es n) (hM : missB X.K ad miss = true) (ho : DO X o ta) (ha : DO X a tb) (hc : DE X c tc) (m : M2 X o "get" apos a c cpos := by exact ⟨rfl, rfl, rfl, rfl⟩) :
    DE X (.Call (.Attribute o "get" apos) [a, c] [] cpos) (dKGet ad dds miss ta tb tc) := fun W tk =>
  pe_imp (pe_kget (ho W tk) (ha W tk) (hc W tk) m) fun σ H Q ⟨G, F, R, ρ, Qd, Xd, r, q, n, x⟩ => ⟨G, F, R, ρ, _, Xd, r, q, fun oa ρ1 v F1 H1 R1 r1 l1 o1 ⟨q0, q1⟩ => by
    obtain ⟨d0, e0, q0⟩ := see1_of q0
    cases d0 with
    | obj b =>
      have eb := (r1.look o1 e0).obj
      have q0' : b = ad := q0
      subst q0'
      subst eb
      refine ⟨⟨b, rfl, D⟩, G, F1, R1, ρ1, _, Xd, r1, q1, fun ob ρ2 w F2 H2 R2 r2 l2 o2 q2 => ⟨G, F2, R2, ρ2, _, Xd, r2, q2, fun d ρ3 z F3 H3 R3 r3 l3 hd q3 => ?_, (x.le l1).le l2⟩, x.le l1⟩
      obtain ⟨d2, e2, q3⟩ := see1_of q3
      cases d2 with
      | str s =>
        have ew := (r3.look (o2.le l3) e2).str
        subst ew
        refine ⟨b, s, rfl, rfl, ?_⟩
        have q3' : getMK dds miss s d fun d' => Qd d' ρ3 := q3
        unfold getMK at q3'
        cases el : dds.lookup s with
        | none =>
          rw [el] at q3'
          exact .inr ⟨missB_of hM q3'.1, n d ρ3 z F3 H3 R3 r3 ((l1.trans l2).trans l3) hd q3'.2⟩
        | some d' =>
          rw [el] at q3'
          obtain ⟨u, eu, du⟩ := (T.den F3).lookup el
          exact .inl ⟨u, T.at_ s u eu, n d' ρ3 u F3 H3 R3 r3 ((l1.trans l2).trans l3) du q3'⟩
      | _ => exact q3.elim
    | _ => exact q0.elim, x⟩
end
/-! ### simp -/
section
variable {ρ : Rho} {X : XD} {QE : D → Rho → Prop} {P : DV → Prop} {C : Addr} {a : Str} {ds : List D} {ys : List Str} {t : TED} {ts : List TED} {ta tb : TOD} {acc : Str}
@[simp ↓] theorem s_dIsC : dIsC C ta ρ QE X = ta ρ (fun oa ρ1 => see1 ρ1 oa fun x => isInsC C x ∧ QE (.bl true) ρ1) X := id rfl
/-- the texts of a list, then -/
def strsK (ds : List D) (k : List Str → Prop) : Prop := match strsD ds with
  | some ys => k ys
  | none => False
theorem strsD_map {α : Type} {f : α → Str} : ∀ {l : List α}, strsD (l.map fun x => D.str (f x)) = some (l.map f)
  | [] => rfl
  | x :: l => by rw [List.map_cons, strsD, strsD_map]; rfl
@[simp ↓] theorem s_strsK {k : List Str → Prop} {α : Type} {f : α → Str} {l : List α} : strsK (l.map fun x => D.str (f x)) k = k (l.map f) := by unfold strsK; rw [strsD_map]
@[simp ↓] theorem s_strsK1 {k : List Str → Prop} {l : List Str} : strsK (l.map D.str) k = k l := by
  have := @s_strsK k Str id l
  rw [List.map_id] at this
  exact this
@[simp ↓] theorem s_strsK0 {k : List Str → Prop} : strsK [] k = k [] := id rfl
@[simp ↓] theorem s_strsKc {k : List Str → Prop} {s : Str} : strsK (.str s :: ds) k = strsK ds fun ys => k (s :: ys) := by
  unfold strsK
  rw [strsD]
  cases strsD ds <;> rfl
@[simp ↓] theorem s_fJoinL : fJoin (.str a) (.lst ds) P = strsK ds fun ys => (ys.map (·.length)).sum + ys.length * a.length ≤ 16777216 ∧ P (.v (.str (Txt.join a ys))) := id rfl
@[simp ↓] theorem s_fJoinT : fJoin (.str a) (.tup ds) P = strsK ds fun ys => (ys.map (·.length)).sum + ys.length * a.length ≤ 16777216 ∧ P (.v (.str (Txt.join a ys))) := id rfl
/-- str(i) -/
def strI (i : Int) : Str := toString i
@[simp ↓] theorem s_fStrI {i : Int} : fStrI (.int i) P = (i.natAbs.log2 < 1920 ∧ P (.v (.str (strI i)))) := id rfl
@[simp ↓] theorem s_dFmt : dFmt t ρ QE X = t ρ (fun d ρ1 => match d with
  | .str y => y.length ≤ sizeLine ∧ QE (.str y) ρ1
  | .int i => i.natAbs.log2 < 1920 ∧ QE (.str (strI i)) ρ1
  | _ => False) X := id rfl
@[simp ↓] theorem s_dJs0 : dJs [] acc ρ QE X = QE (.str acc) ρ := id rfl
@[simp ↓] theorem s_dJsC : dJs (t :: ts) acc ρ QE X = t ρ (fun d ρ1 => match d with
    | .str y => (acc ++ y).length ≤ sizeLine ∧ dJs ts (acc ++ y) ρ1 QE X
    | _ => False) X := id rfl
@[simp ↓] theorem s_dKGet {ad : Addr} {dds : List (Str × D)} {miss : List Str} {tc : TED} : dKGet ad dds miss ta tb tc ρ QE X = ta ρ (fun oa ρ1 => see1 ρ1 oa (fun y => match y with
  | .obj b => b = ad
  | _ => False) ∧ tb ρ1 (fun ob ρ2 => tc ρ2 (fun d ρ3 => see1 ρ3 ob fun x => match x with
    | .str z => getMK dds miss z d fun d' => QE d' ρ3
    | _ => False) X) X) X := id rfl
end
end PD
set_option maxHeartbeats 1000000
namespace PD
open PySem L2 PySem.Spec PyProof.Rows
/-! ### raise C('text'), C an own exception class without own __init__ -/
structure ExcO (K : PySem.W.Frag) (C : Addr) : Prop where
  ex : PySem.W.excIn K C He.veBase "ValueError.__new__" = true ∧ PySem.W.keepIn K (.ref C) = true ∧ PySem.W.subIn K (.ref C) (.type "BaseException") = some true ∧ PySem.W.typeIn K (.ref C) = some (.type "type")
def dRaise (C : Addr) : TSD := fun E ρ => E.ex ⟨C, none⟩ ρ
theorem ds_raise {X : Cx} {C : Addr} {x m : Str} {j : Nat} {p p2 p3 pos : Pos} (q : ExcO X.K C) (gC : X.mg x = some (.ref C)) (hg : Gl X x) (hc : X.calm = true := by rfl) (hdb : (x == ("__debug__" : Str)) = false := by decide) :
    DS X (.Raise (some (.Call (.Name x p) [.Constant (.str m) j p2] [] p3)) none pos) (dRaise C) := fun W tk po =>
  ps_imp (ps_raise hc tk (pmk_own PySem.F.excBase_ValueError q.ex.1 gC q.ex.2.1 (raises_own q.ex.2.2.1 q.ex.2.2.2) hg hdb)) fun D σ H ⟨G, F, R, ρ, E, r, q, o⟩ =>
    o.ex σ ⟨C, none⟩ ρ none F H R NoR r (.refl F) .no rfl q
/-! ### isinstance of the exception that a suite holds -/
def excB (K : PySem.W.Frag) (D : Addr) : Bool := decide (PySem.W.findIn K (.ref D) "__getattribute__" = some (some (.builtin "BaseException.__getattribute__"))) && (decide (PySem.W.findIn K (.ref D) "__getattr__" = some none) && (decide (PySem.W.subIn K (.ref D) (.type "BaseException") = some true) &&
  (PySem.W.hasDictIn K D && (decide (PySem.W.findIn K (.ref D) "__class__" = some (some (.builtin "object.__class__"))) && (decide (PySem.W.specialIn K (.builtin "object.__class__") "__get__" = some (some (.builtin "getset_descriptor.__get__"))) &&
  (decide (PySem.W.takesIn K (.builtin "object.__class__") = some true) && decide (PySem.W.mroIn K D (.type "object") = some true)))))))
theorem excB_ok {K : PySem.W.Frag} {D : Addr} (h : excB K D = true) : ExcC K D := by
  obtain ⟨h1, h⟩ := He.ba h
  obtain ⟨h2, h⟩ := He.ba h
  obtain ⟨h3, h⟩ := He.ba h
  obtain ⟨h4, h⟩ := He.ba h
  obtain ⟨h5, h⟩ := He.ba h
  obtain ⟨h6, h⟩ := He.ba h
  obtain ⟨h7, h8⟩ := He.ba h
  exact ⟨of_decide_eq_true h1, of_decide_eq_true h2, of_decide_eq_true h3, h4, of_decide_eq_true h5, of_decide_eq_true h6, of_decide_eq_true h7, of_decide_eq_true h8⟩
/-- isinstance(e, T), T a tuple of classes -/
def rIsET (K : PySem.W.Frag) (D a : Addr) : List V → Hp → VK → Prop := fun xs H Q => ∃ (tp : Addr) (cs : List Addr) (b : Bool), xs = [.ref a, .ref tp] ∧ SqT K H tp (cs.map V.ref) ∧ PySem.W.kitAny K (.ref D) (cs.map Value.ref) = some b ∧ Q (.bl b) H
theorem vals_refs : ∀ {cs : List Addr} {us : List Value}, Vals (cs.map V.ref) us → us = cs.map Value.ref
  | [], _, .nil => rfl
  | c :: cs, _, .cons h r => by rw [vals_refs r, show _ = Value.ref c from h]; rfl
theorem call_isET {X : Cx} {a D : Addr} {oe : Obj} {pn : List (Addr × Obj)} (C : ExcC X.K D) (hz : Zc (.ref D) none oe) (hf : ∃ vs, oe.data = .fields vs) : CallR (X.suite a ((a, oe) :: pn)) (.builtin "isinstance") (rIsET X.K D a) := by
  intro pins s σ H xs us Q I r h
  obtain ⟨tp, cs, b, rfl, hT, e, q⟩ := h
  cases r with
  | cons rx rr =>
    cases rr with
    | cons rt rr =>
      cases rr
      cases rx
      cases rt
      obtain ⟨hget, _⟩ := I.pin (a, oe) (List.mem_append.mpr (.inl List.mem_cons_self))
      obtain ⟨vs, hv⟩ := hf
      have J : PySem.W.InstAt s.heap a oe D none := by
        obtain ⟨oc, od, oda, osl⟩ := oe
        obtain ⟨h1, h2⟩ := hz
        dsimp only at h1 h2 hv
        subst h1 h2 hv
        exact ⟨hget, rfl, rfl, trivial⟩
      obtain ⟨its, rv, ⟨o, h1, h2, n, h3⟩, _⟩ := I.tuple hT
      have e3 := vals_refs rv
      subst e3
      obtain ⟨oc, od, dt, sl⟩ := o
      simp only at h2 h3
      subst h2 h3
      exact PySem.W.kia_tup (PySem.W.handS_kitx_exc C.hg C.hk C.hs C.hd C.ha C.hn C.ht C.hm) I.kIn J h1 e (fun z => nomatch z) fun tk => ⟨.bl b, H, I.tok tk, rfl, q⟩
def objsD : List D → Option (List Addr)
  | [] => some []
  | .obj a :: l => (objsD l).map (a :: ·)
  | _ => none
theorem objsD_of {K : PySem.W.Frag} {F : Fz} : ∀ {ds : List D} {cs : List Addr} {vs : List V}, objsD ds = some cs → DenL K F vs ds → vs = cs.map V.ref
  | [], cs, vs, h, d => by cases h; cases d; rfl
  | d :: l, cs, vs, h, dl => by
    cases d with
    | obj a =>
      rw [objsD] at h
      cases e : objsD l with
      | none => rw [e] at h; cases h
      | some zs =>
        rw [e] at h
        cases h
        cases dl with
        | cons h1 h2 =>
          cases h1
          rw [objsD_of e h2]; rfl
    | _ => cases h
/-- isinstance(e, C), isinstance(e, (C1, ..)): e holds the exception a; the answer is known -/
def dIsE (a : Addr) (b : Bool) (ta : TOD) : TED := fun ρ Q X => ta ρ (fun oa ρ1 => see1 ρ1 oa fun x => x = .obj a ∧ Q (.bl b) ρ1) X
def dIsET (a : Addr) (b : Bool) (cs : List Addr) (ta : TOD) (tt : TED) : TED := fun ρ Q X => ta ρ (fun oa ρ1 => tt ρ1 (fun d ρ2 => (match d with
  | .tup ds => objsD ds = some cs
  | _ => False) ∧ see1 ρ2 oa fun x => x = .obj a ∧ Q (.bl b) ρ2) X) X
def kit1B (K : PySem.W.Frag) (D C : Addr) (b : Bool) : Bool := decide (PySem.W.kitOne K (.ref D) (.ref C) = some b)
def kitVB (K : PySem.W.Frag) (D : Addr) (b : Bool) : Bool := decide (PySem.W.kitOne K (.ref D) (.type "ValueError") = some b)
def kitTB (K : PySem.W.Frag) (D : Addr) (cs : List Addr) (b : Bool) : Bool := decide (PySem.W.kitAny K (.ref D) (cs.map Value.ref) = some b)
section
variable {X : Cx} {a D : Addr} {oe : Obj} {pn : List (Addr × Obj)} {ae : Expr} {ta : TOD} {pos p pc : Pos} {b : Bool}
theorem de_isE {C : Addr} {cn : Str} (T : ExcC X.K D) (hz : Zc (.ref D) none oe) (hf : ∃ vs, oe.data = .fields vs) (hk : kit1B X.K D C b = true) (ha : DO (X.suite a ((a, oe) :: pn)) ae ta) (hg : Gl (X.suite a ((a, oe) :: pn)) "isinstance") (hm : X.mg "isinstance" = none) (hv : bootBuiltins "isinstance" = some (.builtin "isinstance"))
    (gc : Gl (X.suite a ((a, oe) :: pn)) cn) (mc : X.mg cn = some (.ref C)) (hdb : (cn == ("__debug__" : Str)) = false := by decide)
    (hs : starEach [ae, .Name cn pc] X.env = (false, eval ae X.env) :: starEach [.Name cn pc] X.env := by rfl) (hs2 : starEach [.Name cn pc] X.env = (false, eval (.Name cn pc) X.env) :: starEach [] X.env := by rfl) (hpl : (backTo pos (starEach [.Name cn pc] X.env)).any (·.1) = false := by rfl) :
    DE (X.suite a ((a, oe) :: pn)) (.Call (.Name "isinstance" p) [ae, .Name cn pc] [] pos) (dIsE a b ta) := fun W tk =>
  pe_imp (pe_callB (X := X.suite a ((a, oe) :: pn)) (call_isE T hz hf) hg hm hv (pa_cons (ha W tk) (pa_cons (pe_glob (X := X.suite a ((a, oe) :: pn)) (v := .ref C) gc mc rfl hdb) pa_nil hs2) hs) (by decide) (by decide) hs hpl) fun σ H Q ⟨G, F, R, ρ, Qd, Xd, r, q, n, x⟩ =>
    ⟨G, F, R, ρ, _, Xd, r, q, fun oa ρ1 v F1 H1 R1 r1 l1 o1 q1 => by
      obtain ⟨d, ed, e1, q1⟩ := see1_of q1
      subst e1
      have ev := (r1.look o1 ed).obj
      subst ev
      exact ⟨.ref C, .ref C, b, rfl, fun u hu => hu, of_decide_eq_true hk, n (.bl b) ρ1 (.bl b) F1 H1 R1 r1 l1 (.bl b) q1⟩, x⟩
theorem de_isEV (T : ExcC X.K D) (hz : Zc (.ref D) none oe) (hf : ∃ vs, oe.data = .fields vs) (hk : kitVB X.K D b = true) (ha : DO (X.suite a ((a, oe) :: pn)) ae ta) (hg : Gl (X.suite a ((a, oe) :: pn)) "isinstance") (hm : X.mg "isinstance" = none) (hv : bootBuiltins "isinstance" = some (.builtin "isinstance"))
    (gc : Gl (X.suite a ((a, oe) :: pn)) "ValueError") (mc : X.mg "ValueError" = none) (vc : bootBuiltins "ValueError" = some (.type "ValueError"))
    (hs : starEach [ae, .Name "ValueError" pc] X.env = (false, eval ae X.env) :: starEach [.Name "ValueError" pc] X.env := by rfl) (hs2 : starEach [.Name "ValueError" pc] X.env = (false, eval (.Name "ValueError" pc) X.env) :: starEach [] X.env := by rfl) (hpl : (backTo pos (starEach [.Name "ValueError" pc] X.env)).any (·.1) = false := by rfl) :
    DE (X.suite a ((a, oe) :: pn)) (.Call (.Name "isinstance" p) [ae, .Name "ValueError" pc] [] pos) (dIsE a b ta) := fun W tk =>
  pe_imp (pe_callB (X := X.suite a ((a, oe) :: pn)) (call_isE T hz hf) hg hm hv (pa_cons (ha W tk) (pa_cons (pe_bltn (X := X.suite a ((a, oe) :: pn)) (v := .ty "ValueError") gc mc vc rfl) pa_nil hs2) hs) (by decide) (by decide) hs hpl) fun σ H Q ⟨G, F, R, ρ, Qd, Xd, r, q, n, x⟩ =>
    ⟨G, F, R, ρ, _, Xd, r, q, fun oa ρ1 v F1 H1 R1 r1 l1 o1 q1 => by
      obtain ⟨d, ed, e1, q1⟩ := see1_of q1
      subst e1
      have ev := (r1.look o1 ed).obj
      subst ev
      exact ⟨.ty "ValueError", .type "ValueError", b, rfl, fun u hu => hu, of_decide_eq_true hk, n (.bl b) ρ1 (.bl b) F1 H1 R1 r1 l1 (.bl b) q1⟩, x⟩
theorem de_isET {cs : List Addr} {te : Expr} {tt : TED} (T : ExcC X.K D) (hz : Zc (.ref D) none oe) (hf : ∃ vs, oe.data = .fields vs) (hk : kitTB X.K D cs b = true) (ha : DO (X.suite a ((a, oe) :: pn)) ae ta) (ht : DE (X.suite a ((a, oe) :: pn)) te tt) (hg : Gl (X.suite a ((a, oe) :: pn)) "isinstance") (hm : X.mg "isinstance" = none) (hv : bootBuiltins "isinstance" = some (.builtin "isinstance"))
    (hs : starEach [ae, te] X.env = (false, eval ae X.env) :: starEach [te] X.env := by rfl) (hs2 : starEach [te] X.env = (false, eval te X.env) :: starEach [] X.env := by rfl) (hpl : (backTo pos (starEach [te] X.env)).any (·.1) = false := by rfl) :
    DE (X.suite a ((a, oe) :: pn)) (.Call (.Name "isinstance" p) [ae, te] [] pos) (dIsET a b cs ta tt) := fun W tk =>
  pe_imp (pe_callB (X := X.suite a ((a, oe) :: pn)) (call_isET T hz hf) hg hm hv (pa_cons (ha W tk) (pa_cons (ht W tk) pa_nil hs2) hs) (by decide) (by decide) hs hpl) fun σ H Q ⟨G, F, R, ρ, Qd, Xd, r, q, n, x⟩ =>
    ⟨G, F, R, ρ, _, Xd, r, q, fun oa ρ1 v F1 H1 R1 r1 l1 o1 q1 => ⟨G, F1, R1, ρ1, _, Xd, r1, q1, fun d ρ2 w F2 H2 R2 r2 l2 hd ⟨q0, q2⟩ => by
      obtain ⟨d2, ed, e1, q2⟩ := see1_of q2
      subst e1
      have ev := (r2.look (o1.le l2) ed).obj
      subst ev
      cases d with
      | tup ds =>
        obtain ⟨tp, vs, rfl, h1, h2⟩ := See.tup r2.fit (.inl hd)
        have e2 := objsD_of q0 h2
        subst e2
        exact ⟨tp, cs, b, rfl, h1, of_decide_eq_true hk, n (.bl b) ρ2 (.bl b) F2 H2 R2 r2 (l1.trans l2) (.bl b) q2⟩
      | _ => exact q0.elim, x.le l1⟩, x⟩
end
/-! ### try: body, except C as e: suite -/
theorem Rp.wild {K : PySem.W.Frag} {G : Gd} {F : Fz} {H : Hp} {R : Nat → Addr → Prop} {σ : L2.St} {ρ : Rho} (r : Rp K G F H R σ ρ) (i : Nat) (w : Option V) : Rp K G F H R (σ.set i w) (ρ.set i none) := by
  refine ⟨r.fit, r.out, by rw [List.length_set, List.length_set]; exact r.len, fun j x e => ?_, r.reg, r.dis, fun j b e => ?_⟩
  · have hj : j ≠ i := fun z => by
      subst z
      by_cases hl : j < ρ.length
      · rw [List.getElem?_set_self hl] at e; cases e
      · rw [List.getElem?_eq_none (by simpa using hl)] at e; cases e
    rw [List.getElem?_set_ne (Ne.symm hj)] at e ⊢
    exact r.at_ j x e
  · have hj : j ≠ i := fun z => by
      subst z
      by_cases hl : j < ρ.length
      · rw [List.getElem?_set_self hl] at e; cases e
      · rw [List.getElem?_eq_none (by simpa using hl)] at e; cases e
    rw [List.getElem?_set_ne (Ne.symm hj)] at e ⊢
    exact r.lnt j b e
def suiteE (i : Nat) (E : EndsD) : EndsD := { nx := fun ρ' => E.nx (ρ'.set i none), rt := E.rt, bk := fun ρ' => E.bk (ρ'.set i none), ct := fun ρ' => E.ct (ρ'.set i none), ex := noX }
def tryE (i : Nat) (C : Addr) (ts : Addr → TSD) (E : EndsD) : EndsD := { nx := E.nx, rt := E.rt, bk := E.bk, ct := E.ct, ex := fun e ρ' => e.C = C ∧ e.fs = none ∧ ∀ a, ts a (suiteE i E) (ρ'.set i (some (.v (.obj a)))) }
def dTryAs (i : Nat) (C : Addr) (tb : TSD) (ts : Addr → TSD) : TSD := fun E ρ => tb (tryE i C ts E) ρ
section
variable {X : Cx} {C : Addr} {x n : Str} {i : Nat} {body suite : List Stmt} {b₀ : Stmt} {np pos pos' : Pos} {tb : TSD} {ts : Addr → TSD}
def noW : WX := fun _ _ _ _ => False
theorem ds_tryAs (hs : X.stack = X.env :: X.outer) (hf : X.env.frame = some X.env.locals) (hN : X.N.Nodup) (hi : X.N[i]? = some n) (hln : X.env.kindOf n = some .local) (hg : Gl X x) (hm : X.mg x = some (.ref C)) (he : PySem.W.exmOne X.K (.ref C) (.ref C) = some true)
    (hb : ∀ (pn : List (Addr × Obj)) (xe : Value → Shared → Prop), DSs (X.tr pn xe) body tb)
    (hsu : ∀ (a : Addr) (oe : Obj) (pn : List (Addr × Obj)), Zc (.ref C) none oe → (∃ vs, oe.data = .fields vs) → DSs (X.suite a ((a, oe) :: pn)) (b₀ :: suite) (ts a)) (hdb : (x == ("__debug__" : Str)) = false := by decide) :
    DS X (.Try body [.ExceptHandler (some (.Name x np)) (some n) (b₀ :: suite) pos'] [] [] pos) (dTryAs i C tb ts) := fun W tk po =>
  ps_imp (ps_try_as (X := X) (c := .ref C) (tb := fun W => LS X.K W tb) (ts := fun a cls d D σ H => cls = .ref C ∧ d = none ∧ LS X.K noW (ts a) D σ H) hs hf hN hi hln ⟨hg, hdb, .inl hm⟩ tk
    (fun W pn xe tk' po' => hb pn xe W tk' po')
    (fun a oe cls d pn hz hf' => ⟨fun pins s σ H D I ⟨e1, e2, q⟩ => by
      subst e1 e2
      exact (hsu a oe pn hz hf' noW takes_none5 PassesOwn.never).run pins s σ H D I q⟩)) fun D σ H ⟨G, F, R, ρ, E, r, q, o⟩ =>
    ⟨G, F, R, ρ, tryE i C ts E, r, q, ⟨o.nx, o.rt, o.bk, o.ct, fun σ1 e ρ1 dx F1 H1 R1 T r1 l1 t1 ea ⟨e1, e2, q1⟩ => by
      refine ⟨true, by rw [e1]; exact he, fun _ a na => ⟨by rw [e1], ?_, ?_⟩, fun z => by cases z⟩
      · unfold ExAt at ea
        rw [e2] at ea
        exact ea
      · have r2 := r1.set (i := i) (x := .v (.obj a)) (v := .ref a) (T := NoR) .no (.obj a) (fun b z => nomatch z)
        exact ⟨G, F1, _, _, suiteE i E, r2, q1 a, ⟨fun ρ2 σ2 F2 H2 R2 r3 l2 q3 => o.nx _ _ F2 H2 R2 (r3.wild i none) (l1.trans l2) q3, fun x ρ2 v σ2 F2 H2 R2 T r3 l2 => o.rt x ρ2 v σ2 F2 H2 R2 T r3 (l1.trans l2),
          fun ρ2 σ2 F2 H2 R2 r3 l2 q3 => o.bk _ _ F2 H2 R2 (r3.wild i none) (l1.trans l2) q3, fun ρ2 σ2 F2 H2 R2 r3 l2 q3 => o.ct _ _ F2 H2 R2 (r3.wild i none) (l1.trans l2) q3, fun σ2 => nox_post⟩⟩⟩⟩
end
section
variable {ρ : Rho} {E : EndsD} {X : XD} {QE : D → Rho → Prop} {C : Addr} {i : Nat} {tb : TSD} {ts : Addr → TSD} {a : Addr} {b : Bool} {cs : List Addr} {ta : TOD} {tt : TED} {e : Exn}
@[simp ↓] theorem s_dRaise : dRaise C E ρ = E.ex ⟨C, none⟩ ρ := id rfl
@[simp ↓] theorem s_dTryAs : dTryAs i C tb ts E ρ = tb (tryE i C ts E) ρ := id rfl
@[simp] theorem s_tryE1 : (tryE i C ts E).nx = E.nx := id rfl
@[simp] theorem s_tryE2 : (tryE i C ts E).rt = E.rt := id rfl
@[simp] theorem s_tryE3 : (tryE i C ts E).ex e ρ = (e.C = C ∧ e.fs = none ∧ ∀ a, ts a (suiteE i E) (ρ.set i (some (.v (.obj a))))) := id rfl
@[simp] theorem s_suiteE1 : (suiteE i E).nx ρ = E.nx (ρ.set i none) := id rfl
@[simp] theorem s_suiteE2 : (suiteE i E).rt = E.rt := id rfl
@[simp ↓] theorem s_dIsE : dIsE a b ta ρ QE X = ta ρ (fun oa ρ1 => see1 ρ1 oa fun x => x = .obj a ∧ QE (.bl b) ρ1) X := id rfl
/-- known class objects -/
def objsK (ds : List D) (cs : List Addr) : Prop := objsD ds = some cs
@[simp ↓] theorem s_dIsET : dIsET a b cs ta tt ρ QE X = ta ρ (fun oa ρ1 => tt ρ1 (fun d ρ2 => (match d with
  | .tup ds => objsK ds cs
  | _ => False) ∧ see1 ρ2 oa fun x => x = .obj a ∧ QE (.bl b) ρ2) X) X := id rfl
@[simp] theorem s_objsK0 : objsK [] [] = True := eq_true rfl
@[simp] theorem s_objsKc {a : Addr} {ds : List D} {c : Addr} {cs : List Addr} : objsK (.obj a :: ds) (c :: cs) = (a = c ∧ objsK ds cs) := by
  unfold objsK
  rw [objsD]
  cases objsD ds with
  | none => simp
  | some zs => simp
end
end PD
set_option maxHeartbeats 1000000
namespace PD
open PySem L2 PySem.Spec PyProof.Rows
/-! ### a class whose __init__ takes what is left over as a tuple -/
structure FnT (P : Program) (w : World) (K : PySem.W.Frag) (mg : Str → Option Value) (base : Heap) (k : Nat) (f : Addr) (m : Nat) (sp : SpD) : Prop where
  ex : FnR P w K mg base (L2.CX P w) k f (fun vs H Q E => ∃ ws rest, vs = ws ++ rest ∧ ws.length = m ∧ rest.length ≤ sizeLine ∧ ∀ p, H p = none → liftSp K sp (ws ++ [V.ref p]) (upd H p (.tup rest)) Q E)
theorem body_of {P : Program} {w : World} {K : PySem.W.Frag} {mg : Str → Option Value} {base : Heap} {qual : Str} {body : List Stmt} {scope : Scope} {f : Addr} {N : List Str} {k : Nat} {sp : SpD} {t : TSD} (hb : BodyOk P w K mg base k N qual scope f body t)
    (hsp : ∀ args Qd Xd, sp args Qd Xd → t (endsOf args Qd Xd) (startD N.length args)) (cdv : Value) (A : Around) (outer : List Env) (s : Shared) (H : Hp) (vs : List V) (Q : VK) (E : XK) (hr : Room k (A.deeper (envOfC qual scope s.heap.objs.size f cdv))) (h : liftSp K sp vs H Q E) :
    ∃ t, PSs (cxOf (L2.CX P w) P w K mg base N qual scope f cdv A outer s H E) body t ∧ t { nx := fun _ H' => Q .non H', rt := Q } (L2.start N vs) H := by
  obtain ⟨G, Fz, R, args, Qd, Xd, r, hL, no, h, kQ, kX⟩ := h
  have hl : vs.length = args.length := by simpa using r.len
  refine ⟨_, hb cdv A outer s H E hr _ (takes_of rfl rfl rfl rfl) (passes_of rfl), G, Fz, R, _, _, ?_, hsp _ _ _ h, ?_⟩
  · have e1 : ∀ i (y : Option DV), (startD N.length args)[i]? = some y → y ≠ none → (args.map some)[i]? = some y := fun i y e ny => by
      unfold startD at e
      by_cases q : i < args.length
      · rw [List.getElem?_append_left (by simpa using q)] at e
        exact e
      · rw [List.getElem?_append_right (by simpa using q), List.getElem?_replicate] at e
        split at e
        · cases e; exact absurd rfl ny
        · cases e
    have e2 : ∀ i (y : V), (vs.map some)[i]? = some (some y) → (L2.start N vs)[i]? = some (some y) := fun i y e => by
      unfold L2.start
      have q := (List.getElem?_eq_some_iff.mp e).1
      rw [List.getElem?_append_left q]
      exact e
    refine ⟨r.fit, r.out, ?_, fun i y e => ?_, r.reg, r.dis, fun i b e => ?_⟩
    · unfold L2.start startD
      simp [hl]
    · obtain ⟨v, g1, g2⟩ := r.at_ i y (e1 i _ e (fun z => nomatch z))
      exact ⟨v, e2 i v g1, g2⟩
    · exact e2 i _ (r.lnt i b (e1 i _ e (fun z => nomatch z)))
  · refine ⟨fun ρ' σ' F' H' R' r' l q => ?_, fun x ρ' v σ' F' H' R' T r' l t a nl q => ?_, fun _ _ _ _ _ _ _ q => q.elim, fun _ _ _ _ _ _ _ q => q.elim, fun σ e ρ' dx F' H' R' T r' l t a q => ?_⟩
    · have q' : (match finA args ρ' with
        | some as => Qd (.v .non) as
        | none => False) := q
      cases z : finA args ρ' with
      | none => rw [z] at q'; exact q'.elim
      | some as =>
        rw [z] at q'
        exact kQ (.v .non) as .non F' H' R' NoR (Rp.fin r hL r' l z) l .no .non (fun b z => nomatch z) q'
    · have q' : (match finA args ρ' with
        | some as => Qd x as
        | none => False) := q
      cases z : finA args ρ' with
      | none => rw [z] at q'; exact q'.elim
      | some as =>
        rw [z] at q'
        exact kQ x as v F' H' R' T (Rp.fin r hL r' l z) l t a nl q'
    · have q' : (match finA args ρ' with
        | some as => Xd e as
        | none => False) := q
      cases z : finA args ρ' with
      | none => rw [z] at q'; exact q'.elim
      | some as =>
        rw [z] at q'
        exact kX e as dx F' H' R' T (Rp.fin r hL r' l z) l t a q'
theorem fnT_body {P : Program} {w : World} {K : PySem.W.Frag} {mg : Str → Option Value} {base : Heap} {x qual pv : Str} {params : Arguments} {body : List Stmt} {scope : Scope} {f : Addr} {fd : FuncData} {N ps : List Str} {k : Nat} {sp : SpD} {t : TSD}
    (F : FunD K x qual params body scope [] [] f fd) (S : FnScope N (ps ++ [pv]) scope) (hb : BodyOk P w K mg base k N qual scope f body t)
    (hsp : ∀ args Qd Xd, sp args Qd Xd → t (endsOf args Qd Xd) (startD N.length args))
    (hbi : ∀ (kV doc pm : Value) (an : Option Addr) (cdv ct : Value) (us rest : List Value), us.length = ps.length → bindArgs (PySem.W.fnOf x qual params body scope .none kV doc pm an cdv ct) ⟨us ++ rest, []⟩ = (newTuple rest >>= fun t => pure (ps.zip us ++ [(pv, t)]))) : FnT P w K mg base (k + 1) f ps.length sp := by
  obtain ⟨oc, od, dV, kV, doc, pm, an, cdv, ct, osl, rfl, lk, hcd, hD, hK⟩ := F.ex
  rcases hD with ⟨_, rfl⟩ | ⟨e, _⟩
  · exact ⟨StX.fn_star lk hcd S StX.cxUp (hbi kV doc pm an cdv ct) fun A outer s H vs Q E hr h => body_of hb hsp cdv A outer s H vs Q E hr h⟩
  · exact absurd rfl e
def dsO : List Opd → Option (List D)
  | [] => some []
  | .d d :: l => (dsO l).map (d :: ·)
  | .s _ :: _ => none
theorem dsO_den {K : PySem.W.Frag} {F : Fz} {σ : L2.St} : ∀ {ods : List Opd} {vs : List V} {ds : List D}, dsO ods = some ds → Paired (OpAt K F σ) ods vs → DenL K F vs ds
  | [], _, ds, h, .nil => by cases h; exact .nil
  | .d d :: l, _, ds, h, .cons p q => by
    rw [dsO] at h
    cases e : dsO l with
    | none => rw [e] at h; cases h
    | some es =>
      rw [e] at h
      cases h
      exact .cons p (dsO_den e q)
  | .s i :: l, _, ds, h, _ => by cases h
theorem paired_take {α β : Type} {P : α → β → Prop} : ∀ {l : List α} {m : List β} (n : Nat), Paired P l m → Paired P (l.take n) (m.take n) ∧ Paired P (l.drop n) (m.drop n)
  | _, _, 0, h => ⟨by simpa using .nil, by simpa using h⟩
  | _, _, n + 1, .nil => ⟨.nil, .nil⟩
  | _, _, n + 1, .cons a t => ⟨.cons a (paired_take n t).1, (paired_take n t).2⟩
theorem slots_take {n : Nat} : ∀ {l : List Opd} (m : Nat), slotsOk n l → slotsOk n (l.take m)
  | l, 0, _ => by simp [slotsOk]
  | [], m + 1, _ => by simp [slotsOk]
  | .s i :: l, m + 1, h => ⟨h.1, slots_take m h.2⟩
  | .d d :: l, m + 1, h => slots_take (l := l) m h
def tMakeSE (C : Addr) (sp : Sp) (E : L2.St → XK) (t : TA) : TE := fun σ H Q => t σ H fun vs H1 => ∀ x dx, H1 x = none → H1 dx = none → dx ≠ x → sp (.ref x :: vs) (upd (upd H1 dx (.own x)) x (.ins C dx [])) (fun v H2 => v = .non ∧ Q (.ref x) H2) (E σ)
section
variable {X : Cx} {k n : Nat} {f C : Addr} {sp' : Sp} {E : L2.St → XK} {x : Str} {p pos : Pos} {e : Expr} {es : List Expr} {t : TA}
theorem pe_makeSE {CX : CXT} (M : Mk X.K C f) (F : FnR X.prog X.w X.K X.mg X.base CX k f sp') (hr : Room (k + 1) X.A) (hg : Gl X x) (hm : X.mg x = some (.ref C)) (hx : ∀ σ, PassesAt CX X σ (E σ)) (ha : PA X (e :: es) t) (hdb : (x == ("__debug__" : Str)) = false := by decide)
    (he : starEach (e :: es) X.env = (false, eval e X.env) :: starEach es X.env := by rfl) (hpl : (backTo pos (starEach es X.env)).any (·.1) = false := by rfl) : PE X (.Call (.Name x p) (e :: es) [] pos) (tMakeSE C sp' E t) := by
  refine ⟨fun pins s σ H Q I h => ?_⟩
  refine wpAny_Call_Name_kw (ld_glob I hg hm ?_ hdb)
  refine PySem.W.callWith_K (h₀ := X.base) I.ok.mod.kin M.kp (thn (ha.run pos pins s σ H _ I h) fun us s ⟨vs, H, I, r, h⟩ => ⟨I.kIn, ?_⟩) he hpl
  have hq := h (s.heap.objs.size + 1) s.heap.objs.size (I.hok.fresh (Nat.le_succ _)) (I.hok.fresh (Nat.le_refl _)) (Nat.ne_of_lt (Nat.lt_succ_self _))
  have I2 := Inv.made (C := C) I
  have r2 : Vals (V.ref (s.heap.objs.size + 1) :: vs) (Value.ref (s.heap.objs.size + 1) :: us) := .cons rfl r
  refine wpAny_call (make_map (f := f) I.kIn M.makes M.init (beq_iff_eq.mp M.fn) (codeAny_mono (F _ X.stack _ _ (Value.ref (s.heap.objs.size + 1) :: us) _ _ (E σ) (hr.make C us []) (I2.env0.make C us []) r2 hq) fun r s' hq' => ?_))
  cases r with
  | error e => exact hx σ pins _ _ e s' I2 hq'
  | ok fl =>
    cases fl with
    | ret u =>
      obtain ⟨v, H', I3, rv, ev, q3⟩ := I2.after hq'
      subst ev
      exact ⟨rv, ⟨V.ref (s.heap.objs.size + 1), H', I3, rfl, q3⟩⟩
    | next => exact False.elim hq'
    | brk => exact False.elim hq'
    | cont => exact False.elim hq'
end
def dMakeS (C : Addr) (sp : SpD) (n : Nat) (t : TVD) : TXD := fun ρ Q X => t ρ (fun ods ρ1 => slotsOk ρ1.length ods ∧ (ods.take n).length = n ∧ (match dsO (ods.drop n) with
  | some ds => ds.length ≤ sizeLine ∧ callD (ρ1 ++ [some (.o (.ins C []))]) (.s ρ1.length :: (ods.take n ++ [.d (.tup ds)])) sp (popQ Q) (fun e ρ' => X e ρ'.dropLast)
  | none => False)) X
section
variable {X : Cx} {k n : Nat} {f C : Addr} {sp : SpD} {x : Str} {p pos : Pos} {e : Expr} {es : List Expr} {t : TVD}
theorem dx_makeS (M : Mk X.K C f) (F : FnT X.prog X.w X.K X.mg X.base k f (n + 1) sp) (hr : Room (k + 1) X.A) (hg : Gl X x) (hm : X.mg x = some (.ref C)) (ha : DVs X (e :: es) t)
    (hdb : (x == ("__debug__" : Str)) = false := by decide) (he : starEach (e :: es) X.env = (false, eval e X.env) :: starEach es X.env := by rfl) (hpl : (backTo pos (starEach es X.env)).any (·.1) = false := by rfl) :
    DX X (.Call (.Name x p) (e :: es) [] pos) (dMakeS C sp n t) := fun W tk => by
  refine pe_imp (pe_makeSE (E := WE W) M F.ex hr hg hm (fun σ => passAt tk σ) (ha W tk) hdb he hpl) fun σ H Q h => ?_
  obtain ⟨G, Fz, R, ρ, Qd, Xd, r, q, n', xx⟩ := h
  refine ⟨G, Fz, R, ρ, _, Xd, r, q, fun ods ρ1 vs F1 H1 R1 r1 l1 pv ⟨sok, e1, q1⟩ => fun x dx hx hdx ne => ?_, xx⟩
  cases ez : dsO (ods.drop n) with
  | none => rw [ez] at q1; exact q1.elim
  | some ds =>
    rw [ez] at q1
    obtain ⟨hz, q1⟩ := q1
    obtain ⟨pt, pd⟩ := paired_take n pv
    have dr := dsO_den ez pd
    refine ⟨.ref x :: vs.take n, vs.drop n, ?_, ?_, by rw [dr.length]; exact hz, fun tp htp => ?_⟩
    · rw [List.cons_append, List.take_append_drop]
    · rw [List.length_cons, ← paired_len pt, e1]
    -- the heap with the new instance, and the tuple
    have g1 : Grow F1 H1 F1 (upd H1 dx (.own x)) := .own r1.fit hdx
    have hx1 : upd H1 dx (.own x) x = none := by rw [upd_ne (Ne.symm ne)]; exact hx
    have r2 := r1.grow g1
    have g2 : Grow F1 (upd H1 dx (.own x)) F1 (upd (upd H1 dx (.own x)) x (.ins C dx [])) := .own r2.fit hx1
    have r3 := (r2.grow g2).push (y := .o (.ins C [])) (v := .ref x) (Tmp.new r2 hx1) ⟨x, dx, [], rfl, rfl, upd_same, .nil⟩ (fun b z => nomatch z)
    obtain ⟨g3, dt⟩ := Den.newT r3.fit htp dr
    have r4 := r3.grow g3
    have el := r1.len
    have pv2 : Paired (OpAt X.K (updF F1 tp (.hard (.tup (vs.drop n)))) (σ ++ [some (.ref x)])) (.s ρ1.length :: (ods.take n ++ [.d (.tup ds)])) ((.ref x :: vs.take n) ++ [.ref tp]) := by
      refine .cons ?_ (paired_app (opAt_app g3.le (by rw [el]; exact slots_take n sok) pt) (.cons dt .nil))
      show (σ ++ [some (V.ref x)])[ρ1.length]? = some (some (.ref x))
      rw [List.getElem?_append_right (by omega), el]
      simp
    refine call_lift r4 pv2 q1 (fun y ρ' v F' H' R' T r' l t av nl qq => ?_) fun ex ρ' dx' F' H' R' T r' l t av qq => ?_
    · obtain ⟨rfl, qq⟩ := qq
      cases z : ρ'.getLast? with
      | none => rw [z] at qq; exact qq.elim
      | some w =>
        rw [z] at qq
        have er := dropLast_get z
        rw [er] at r'
        obtain ⟨p1, p2, p3⟩ := r'.pop
        cases w with
        | none => exact qq.elim
        | some w =>
          cases w with
          | o b =>
            obtain ⟨u, e1, e2⟩ := p3 _ rfl
            cases e1
            cases av
            exact ⟨rfl, n' (.o b) ρ'.dropLast (.ref x) F' H' _ _ p1 ((l1.trans g3.le).trans l) p2 e2 (fun b z => nomatch z) qq⟩
          | v d => exact qq.elim
          | l b => exact qq.elim
    · have hne : ρ' ≠ [] := fun z => by
        have := r'.len
        rw [z] at this
        simp at this
      obtain ⟨w, z⟩ : ∃ w, ρ'.getLast? = some w := by
        cases z : ρ'.getLast? with
        | none => exact absurd (List.getLast?_eq_none_iff.mp z) hne
        | some w => exact ⟨w, rfl⟩
      have er := dropLast_get z
      rw [er] at r'
      obtain ⟨p1, p2, p3⟩ := r'.pop
      refine xx ex ρ'.dropLast dx' F' H' _ T p1 ((l1.trans g3.le).trans l) (fun a ta => ?_) av qq
      obtain ⟨t1, t2, t3, t4⟩ := t a ta
      exact ⟨t1, t2, t3, fun i hi => t4 i hi.2⟩
end
section
variable {ρ : Rho} {X : XD} {QX : DV → Rho → Prop} {C : Addr} {sp : SpD} {n : Nat} {t : TVD} {d : D} {l : List Opd}
/-- the values of operands -/
def dsK (ods : List Opd) (k : List D → Prop) : Prop := match dsO ods with
  | some ds => k ds
  | none => False
@[simp ↓] theorem s_dMakeS : dMakeS C sp n t ρ QX X = t ρ (fun ods ρ1 => slotsOk ρ1.length ods ∧ (ods.take n).length = n ∧ dsK (ods.drop n) fun ds =>
  ds.length ≤ sizeLine ∧ callD (ρ1 ++ [some (.o (.ins C []))]) (.s ρ1.length :: (ods.take n ++ [.d (.tup ds)])) sp (popQ QX) (fun e ρ' => X e ρ'.dropLast)) X := id rfl
@[simp ↓] theorem s_dsK0 {k : List D → Prop} : dsK [] k = k [] := id rfl
@[simp ↓] theorem s_dsKc {k : List D → Prop} : dsK (.d d :: l) k = dsK l fun ds => k (d :: ds) := by
  unfold dsK
  rw [dsO]
  cases dsO l <;> rfl
end
/-! ### not in, by the class's own __contains__ -/
section
variable {X : Cx} {C : Addr} {k : Nat} {f : Addr} {sp : SpD} {a b : Expr} {ta tb : TOD} {pos : Pos}
theorem op_notin2 (F : FnD X.prog X.w X.K X.mg X.base k f [] sp) (hr : Room k X.A) (hs : PySem.W.findIn X.K (.ref C) "__contains__" = some (some (.ref f))) (hf : PySem.W.isFn X.K (.ref f) = true) : OpR X (compareOp .NotIn) (rIn2 X.K C (liftSp X.K sp) true) := by
  obtain ⟨fd, ps, ds, F, hb, hd⟩ := F.ex
  intro pins s σ H x y v u Q I rx ry ⟨a, dx, fs, hy, ha, q⟩
  subst hy
  cases ry
  show wpAny _ X.A (contains (.ref a) v >>= fun b => pure (Value.bool (!b))) _ _ s
  refine wpAny_bind (contains_own I ha hs hf (wpAny_mono (run_fnSD (us := [.ref a, v]) (vs := [.ref a, x]) (dvs := []) (E := noE) F hr hb hd noE_pass I (.cons rfl (.cons rx .nil)) q) (fun w s' ⟨z, H', I', rz, c, ez, qz⟩ => ?_) fun _ _ z => z))
  subst ez
  cases rz
  refine ⟨c, rfl, wpAny_pure ⟨_, H', I', ?_, qz⟩⟩
  show Value.bool (!c) = Value.bool (c ^^ true)
  rw [Bool.xor_true]
def dNotIn2 (C : Addr) (sp : SpD) (ta tb : TOD) : TED := fun ρ Q X => ta ρ (fun oa ρ1 => tb ρ1 (fun ob ρ2 => see1 ρ2 ob (isInsC C) ∧ callD ρ2 [ob, oa] sp (fun x ρ3 => match x with
  | .v (.bl c) => Q (.bl (!c)) ρ3
  | _ => False) noX) X) X
theorem le_notin2 {W : WX} {σ : L2.St} {H : Hp} {Q : VK} (h : LE X.K W (dNotIn2 C sp ta tb) σ H Q) : tOp (rIn2 X.K C (liftSp X.K sp) true) (LO X.K W ta) (LO X.K W tb) σ H Q := by
  obtain ⟨G, Fz, R, ρ, Qd, Xd, r, q, n, xx⟩ := h
  exact (
  ⟨G, Fz, R, ρ, _, Xd, r, q, fun oa ρ1 v F1 H1 R1 r1 l1 o1 q1 => ⟨G, F1, R1, ρ1, _, Xd, r1, q1, fun ob ρ2 w F2 H2 R2 r2 l2 o2 ⟨i2, q2⟩ => by
    obtain ⟨d2, e2, i2⟩ := see1_of i2
    obtain ⟨b, dy, us, gs, _, eb, hb, _⟩ := isInsC_of r2.fit (r2.look o2 e2) i2
    refine ⟨b, dy, us, eb, hb, ?_⟩
    refine call_lift r2 (.cons o2 (.cons (OpAt.le l2 o1) .nil)) q2 (fun x ρ' v F' H' R' T r' l t av nl q3 => ?_) (fun _ _ _ _ _ _ _ _ _ _ _ q => q.elim)
    cases x with
    | v d => cases d with
      | bl c =>
        cases av
        refine ⟨c, rfl, ?_⟩
        rw [Bool.xor_true]
        exact n _ ρ' _ F' H' R' r' ((l1.trans l2).trans l) (.bl (!c)) q3
      | _ => exact q3.elim
    | o _ => exact q3.elim
    | l _ => exact q3.elim, xx.le l1⟩, xx⟩)
theorem de_notin2 (F : FnD X.prog X.w X.K X.mg X.base k f [] sp) (hr : Room k X.A) (hs : PySem.W.findIn X.K (.ref C) "__contains__" = some (some (.ref f))) (hf : PySem.W.isFn X.K (.ref f) = true) (ha : DO X a ta) (hb : DO X b tb) (hm : behindInMarks .NotIn b = false) :
    DE X (.Compare a [.NotIn] [b] pos) (dNotIn2 C sp ta tb) := fun W tk => pe_imp (pe_cmpR (op_notin2 F hr hs hf) (ha W tk) (hb W tk) hm) fun _ _ _ h => le_notin2 h
theorem dt_notin2 (F : FnD X.prog X.w X.K X.mg X.base k f [] sp) (hr : Room k X.A) (hs : PySem.W.findIn X.K (.ref C) "__contains__" = some (some (.ref f))) (hf : PySem.W.isFn X.K (.ref f) = true) (ha : DO X a ta) (hb : DO X b tb) (hm : behindInMarks .NotIn b = false) :
    DT X (.Compare a [.NotIn] [b] pos) (dTest (dNotIn2 C sp ta tb)) := fun W tk => pt_imp (pt_cmpR (op_notin2 F hr hs hf) (ha W tk) (hb W tk) hm) fun _ _ _ h => le_notin2 (lt_test h)
end
@[simp ↓] theorem s_dNotIn2 {ρ : Rho} {X : XD} {QE : D → Rho → Prop} {C : Addr} {sp : SpD} {ta tb : TOD} : dNotIn2 C sp ta tb ρ QE X = ta ρ (fun oa ρ1 => tb ρ1 (fun ob ρ2 => see1 ρ2 ob (isInsC C) ∧ callD ρ2 [ob, oa] sp (fun x ρ3 => match x with
  | .v (.bl c) => QE (.bl (!c)) ρ3
  | _ => False) noX) X) X := id rfl
end PD
set_option maxHeartbeats 1000000
namespace PD
open PySem L2 PySem.Spec PyProof.Rows
/-! ### the signs of a text -/
def chS (c : Nat) : Str := ⟨#[c]⟩
def chD (c : Nat) : D := .str (chS c)
def iStrD (t : TED) : TID := fun ρ Q X => t ρ (fun d ρ' => match d with
  | .str z => Q (z.cps.toList.map chD) noChk ρ'
  | _ => False) X
theorem goes_str {K : PySem.W.Frag} {L : Nat → V} {F0 : Fz} {z : Str} : GoesA K L F0 (Its z) (z.cps.toList.map chD) noChk := fun G _ =>
  ⟨fun i F H R σ ρ d r l _ e => by
    rw [List.getElem?_map] at e
    cases q : z.cps.toList[i]? with
    | none => rw [q] at e; cases e
    | some c =>
      rw [q] at e
      cases e
      have hlt : i < z.cps.size := by simpa using (List.getElem?_eq_some_iff.mp q).1
      refine ⟨hlt, fun x H' ⟨eh, c', ec, ex⟩ => ?_⟩
      subst eh ex
      have e2 : z.cps[i]? = some c := by rw [← q]; simp
      rw [e2] at ec
      cases ec
      exact ⟨F, .refl r.fit, .str _⟩,
   fun F H R σ ρ r l _ => by
    show z.cps.size ≤ (z.cps.toList.map chD).length
    simp⟩
theorem di_str {X : Cx} {tg l : Expr} {t : TED} (hl : DE X l t) : DI X tg l (iStrD t) := fun W tk => pi_imp (pi_str (hl W tk)) fun σ H Rr ⟨G, F, R, ρ, Qd, Xd, r, q, n, x⟩ => ⟨G, F, R, ρ, _, Xd, r, q, fun d ρ1 v F1 H1 R1 r1 l1 hd q1 => by
  cases hd with
  | str z => exact ⟨z, rfl, n _ _ ρ1 _ F1 H1 R1 r1 l1 goes_str q1⟩
  | _ => exact q1.elim, x⟩
/-- one sign in a text -/
def fInC : D → D → (D → Prop) → Prop
  | .str s, .str z, P => (match s.cps.toList with
    | [c] => P (.bl (decide (c ∈ z.cps.toList)))
    | _ => False)
  | _, _, _ => False
theorem one_sign {s : Str} {c : Nat} (h : s.cps.toList = [c]) : s = chS c := Str.ext' (Array.toList_inj.mp h)
section
variable {X : Cx}
theorem oInC : OpR X (compareOp .In) (rD X.K fInC) := by
  intro pins s σ H x y v u Q I rx ry ⟨F, dx, dy, P, fit, sx, sy, h, k⟩
  cases dx with
  | str a => cases dy with
    | str z =>
      cases sx.str
      cases sy.str
      have h' : (match a.cps.toList with
        | [c] => P (.bl (decide (c ∈ z.cps.toList)))
        | _ => False) := h
      cases e : a.cps.toList with
      | nil => rw [e] at h'; exact h'.elim
      | cons c l =>
        cases l with
        | nil =>
          rw [e] at h'
          have ea := one_sign e
          subst ea
          exact op_in_sign pins s σ H _ _ v u Q I rx ry ⟨c, z, rfl, rfl, k _ _ F H (.refl fit) (.bl _) h'⟩
        | cons c2 l => rw [e] at h'; exact h'.elim
    | _ => exact h.elim
  | _ => exact h.elim
/-- int(text) -/
def fIntS : D → (DV → Prop) → Prop
  | .str a, P => a.length ≤ 640 ∧ (match PySem.intText? a with
    | some n => P (.v (.int n))
    | none => False)
  | _, _ => False
theorem cIntS : CallR X (.type "int") (rC1 X.K fIntS) := by
  intro pins s σ H xs us Q I r ⟨x, F, dx, P, e, fit, sx, h, k⟩
  subst e
  cases dx with
  | str a =>
    cases sx.str
    obtain ⟨h1, h2⟩ := h
    cases e : PySem.intText? a with
    | none => rw [e] at h2; exact h2.elim
    | some n =>
      rw [e] at h2
      exact call_int_str pins s σ H _ us Q I r ⟨a, n, rfl, e, h1, rC1.give fit k (.int _) h2⟩
  | _ => exact h.elim
/-- text methods with one text -/
def fFind : D → D → (DV → Prop) → Prop
  | .str a, .str b, P => P (.v (.int (Txt.find a b)))
  | _, _, _ => False
theorem mFind : MtR X "str.find" (rM1 X.K fFind) := by
  intro pins s σ H x xs v us Q I rx rxs ⟨y, F, dx, dy, P, ex, fit, sx, sy, q, k⟩
  subst ex
  cases dx with
  | str a => cases dy with
    | str b =>
      cases sx.str
      cases sy.str
      exact mt_find pins s σ H _ _ v us Q I rx rxs ⟨a, b, rfl, rfl, k _ (.v (.int _)) F H NoR (.refl fit) (fun _ z => z.elim) (.int _) (fun b z => nomatch z) q⟩
    | _ => exact q.elim
  | _ => exact q.elim
/-- a new list of texts -/
def fSplit : D → D → (DV → Prop) → Prop
  | .str a, .str b, P => (b.length == 0) = false ∧ a.length + 2 ≤ sizeLine ∧ P (.o (.lst ((Txt.split a b).map D.str)))
  | _, _, _ => False
theorem denL_of {K : PySem.W.Frag} {F : Fz} : ∀ {ys : List Str}, DenL K F (ys.map V.str) (ys.map D.str)
  | [] => .nil
  | y :: ys => .cons (.str y) denL_of
theorem mSplit : MtR X "str.split" (rM1 X.K fSplit) := by
  intro pins s σ H x xs v us Q I rx rxs ⟨y, F, dx, dy, P, ex, fit, sx, sy, q, k⟩
  subst ex
  cases dx with
  | str a => cases dy with
    | str b =>
      cases sx.str
      cases sy.str
      obtain ⟨h1, h2, h3⟩ := q
      refine mt_split pins s σ H _ _ v us Q I rx rxs ⟨a, b, rfl, rfl, h1, h2, fun p hp => ?_⟩
      exact k (.ref p) (.o (.lst ((Txt.split a b).map D.str))) F _ (fun a => a = p) (.own fit hp) (fun a ha => by
        subst ha
        exact ⟨hp, (by rw [upd_same]; exact Option.some_ne_none _), fit.free hp⟩) ⟨p, _, rfl, rfl, upd_same, denL_of⟩ (fun b z => nomatch z) h3
    | _ => exact q.elim
  | _ => exact q.elim
end
section
variable {ρ : Rho} {X : XD} {P : D → Prop} {PV : DV → Prop} {a b z : Str} {c : Nat} {QL : List D → (Rho → Prop) → Rho → Prop}
@[simp ↓] theorem s_iStrD {t : TED} : iStrD t ρ QL X = t ρ (fun d ρ' => match d with
  | .str z => QL (z.cps.toList.map chD) noChk ρ'
  | _ => False) X := id rfl
@[simp ↓] theorem s_fInC : fInC (.str (chS c)) (.str z) P = P (.bl (decide (c ∈ z.cps.toList))) := id rfl
@[simp ↓] theorem s_fFind : fFind (.str a) (.str b) PV = PV (.v (.int (Txt.find a b))) := id rfl
@[simp ↓] theorem s_fSplit : fSplit (.str a) (.str b) PV = ((b.length == 0) = false ∧ a.length + 2 ≤ sizeLine ∧ PV (.o (.lst ((Txt.split a b).map D.str)))) := id rfl
end
/-! ### a classmethod of a class, called -/
def cmP (K : PySem.W.Frag) (C : Addr) (m : Str) : Addr := match PySem.W.findCls K (.ref C) (.type "type") m with
  | some (.get _ (.ref p) _ _) => p
  | _ => 0
def cg (K : PySem.W.Frag) (C : Addr) (m : Str) : Addr := match PySem.W.recIn K (cmP K C m) "classmethod" with
  | some (.ref g :: _) => g
  | _ => 0
def cmB (K : PySem.W.Frag) (C : Addr) (m : Str) : Bool := PySem.W.readsIn K C (.type "type") && (He.eqO (PySem.W.specialIn K (.ref C) "__getattribute__") (some (some (.builtin "type.__getattribute__"))) &&
  ((match PySem.W.findCls K (.ref C) (.type "type") m with
    | some (.get (.builtin b) (.ref _) .none (.ref D)) => decide (b = "classmethod.__get__") && decide (D = C)
    | _ => false) && ((match PySem.W.recIn K (cmP K C m) "classmethod" with
    | some (.ref _ :: _) => true
    | _ => false) && PySem.W.fnIn K (cg K C m))))
structure CMOf (K : PySem.W.Frag) (C : Addr) (m : Str) : Prop where
  rd : ClX.CRead K C (.type "type")
  cm : ClX.CMet K C (.type "type") m (cmP K C m) (cg K C m)
theorem cm_ok {K : PySem.W.Frag} {C : Addr} {m : Str} (h : cmB K C m = true) : CMOf K C m := by
  obtain ⟨h1, h⟩ := He.ba h
  obtain ⟨h2, h⟩ := He.ba h
  obtain ⟨h3, h⟩ := He.ba h
  obtain ⟨h4, h5⟩ := He.ba h
  refine ⟨⟨h1, He.eqO_ok h2⟩, ⟨?_, ?_, h5⟩⟩
  · unfold cmP
    split at h3
    · rename_i b p D e
      obtain ⟨e1, e2⟩ := He.ba h3
      have e1 := of_decide_eq_true e1
      have e2 := of_decide_eq_true e2
      subst e1 e2
      rw [e]
    · cases h3
  · unfold cg
    split at h4
    · rename_i g rest e
      rw [e]
      exact ⟨rest, rfl⟩
    · cases h4
def tCMethE (C : Addr) (sp : Sp) (dvs : List V) (E : L2.St → XK) (ta : TE) (t : TA) : TE := fun σ H Q => ta σ H fun x H1 => x = .ref C ∧ t σ H1 fun vs H2 => sp (.ref C :: (vs ++ dvs)) H2 Q (E σ)
section
variable {X : Cx} {CX : CXT} {k : Nat} {C p g : Addr} {mc : Value} {sp : Sp} {dvs : List V} {E : L2.St → XK} {o e : Expr} {es : List Expr} {m : Str} {pos apos : Pos} {ta : TE} {t : TA} {pl : Sem Bool}
theorem run_cmS {pins : List (Addr × Obj)} {σ : L2.St} {H : Hp} {s : Shared} {q : Addr} {Q : VK} {us : List Value} {vs : List V} (F : FnR X.prog X.w X.K X.mg X.base CX k g sp) (hr : Room k X.A) (hx : PassesAt CX X σ (E σ)) (I : Inv X ((q, PySem.W.methodObj (.ref g) (.ref C)) :: pins) σ H s)
    (r : Vals vs us) (h : sp (.ref C :: vs) H Q (E σ)) : wpAny (model X.prog X.w) X.A (call (.ref q) us) (EP X pins σ Q) X.xe s := by
  have z : wpAny (model X.prog X.w) X.A (call (.ref q) us) (EP X ((q, PySem.W.methodObj (.ref g) (.ref C)) :: pins) σ Q) X.xe s := by
    refine wpAny_call (PySem.W.method_call (ClX.pin_at I) (codeAny_mono (F X.A X.stack s H (.ref C :: us) (.ref C :: vs) Q (E σ) hr I.env0 (.cons rfl r) h) fun r s' hq => ?_))
    cases r with
    | error e => exact hx _ _ _ e s' I hq
    | ok fl =>
      cases fl with
      | ret u => exact I.after hq
      | next => exact False.elim hq
      | brk => exact False.elim hq
      | cont => exact False.elim hq
  exact thn z fun _ _ y => ClX.unpinE y
theorem pe_cmethE (he : PE X o ta) (r : ClX.CRead X.K C mc) (c : ClX.CMet X.K C mc m p g) (F : FnR X.prog X.w X.K X.mg X.base CX k g (fun vs H Q E => sp (vs ++ dvs) H Q E)) (hr : Room k X.A) (hx : ∀ σ, PassesAt CX X σ (E σ)) (ha : PA X (e :: es) t)
    (hst : starEach (e :: es) X.env = (false, eval e X.env) :: starEach es X.env := by rfl) (hpl : (backTo pos (starEach es X.env)).any (·.1) = false := by rfl)
    (ht : eval (.Call (.Attribute o m apos) (e :: es) [] pos) X.env = (do
      let ov ← eval o X.env
      standAt apos.atName
      let (f, first) ← holding [ov] (getMethod ov m pl)
      callWith pos f first (backTo pos (starEach (e :: es) X.env)) (backToKw pos (keywordEach [] X.env))) := by rfl) :
    PE X (.Call (.Attribute o m apos) (e :: es) [] pos) (tCMethE C sp dvs E ta t) := by
  refine ⟨fun pins s σ H Q I h => ?_⟩
  refine PySem.W.methodCall_KW (pl := pl) (thn (he.run pins s σ H _ I h) fun u s1 ⟨x, H1, I1, rx, ex, q⟩ => ?_) ht
  subst ex
  obtain rfl : u = Value.ref C := rx
  refine ClX.getmethcm_ok I1 r c fun s2 I2 => ?_
  refine ClX.callwith_cm I2 (ClX.base_none I1 (Nat.le_refl _)) c.fi (thn (ha.run pos _ s2 σ H1 _ I2 q) fun us s3 ⟨vs, H2, I3, rv, q2⟩ => ⟨⟨ClX.pin_at I3, I3.kIn⟩, ?_⟩) hst hpl
  exact run_cmS F hr (hx σ) I3 rv q2
end
def dCMeth (C : Addr) (sp : SpD) (dds : List D) (t : TVD) : TXD := fun ρ Q X => t ρ (fun ods ρ1 => callD ρ1 (.d (.obj C) :: (ods ++ dds.map Opd.d)) sp Q X) X
section
variable {X : Cx} {k : Nat} {C : Addr} {cn m : Str} {sp : SpD} {dvs : List V} {dds : List D} {p pos apos : Pos} {e : Expr} {es : List Expr} {t : TVD} {pl : Sem Bool}
theorem dx_cmeth (hg : Gl X cn) (hm : X.mg cn = some (.ref C)) (c : CMOf X.K C m) (F : FnD X.prog X.w X.K X.mg X.base k (cg X.K C m) dvs sp) (hD : ∀ F, DenL X.K F dvs dds) (hr : Room k X.A) (ha : DVs X (e :: es) t) (hdb : (cn == ("__debug__" : Str)) = false := by decide)
    (hst : starEach (e :: es) X.env = (false, eval e X.env) :: starEach es X.env := by rfl) (hpl : (backTo pos (starEach es X.env)).any (·.1) = false := by rfl)
    (ht : eval (.Call (.Attribute (.Name cn p) m apos) (e :: es) [] pos) X.env = (do
      let ov ← eval (.Name cn p) X.env
      standAt apos.atName
      let (f, first) ← holding [ov] (getMethod ov m pl)
      callWith pos f first (backTo pos (starEach (e :: es) X.env)) (backToKw pos (keywordEach [] X.env))) := by rfl) :
    DX X (.Call (.Attribute (.Name cn p) m apos) (e :: es) [] pos) (dCMeth C sp dds t) := fun W tk => by
  obtain ⟨fd, ps, ds, F, hb, hd⟩ := F.ex
  refine pe_imp (pe_cmethE (E := WE W) (pe_glob (v := .ref C) hg hm rfl hdb) c.rd c.cm (F.raw hb hd) hr (fun σ => passAt tk σ) (ha W tk) hst hpl ht) fun σ H Q ⟨G, Fz, R, ρ, Qd, Xd, r, q, n, xx⟩ => ?_
  refine ⟨rfl, G, Fz, R, ρ, _, Xd, r, q, fun ods ρ1 vs F1 H1 R1 r1 l1 pv q1 => ?_, xx⟩
  exact call_lift r1 (.cons (show OpAt X.K F1 σ (.d (.obj C)) (.ref C) from .obj C) (paired_app pv (opds_of (hD F1)))) q1 (fun x ρ' v F' H' R' T r' l => n x ρ' v F' H' R' T r' (l1.trans l)) fun e ρ' dx F' H' R' T r' l => xx e ρ' dx F' H' R' T r' (l1.trans l)
end
@[simp ↓] theorem s_dCMeth {ρ : Rho} {X : XD} {QX : DV → Rho → Prop} {C : Addr} {sp : SpD} {dds : List D} {t : TVD} : dCMeth C sp dds t ρ QX X = t ρ (fun ods ρ1 => callD ρ1 (.d (.obj C) :: (ods ++ dds.map Opd.d)) sp QX X) X := id rfl
/-! ### a class in a local, called -/
def dMakeL (i : Nat) (C : Addr) (sp : SpD) (dds : List D) (t : TVD) : TXD := fun ρ Q X => see1 ρ (.s i) (fun x => x = .obj C) ∧ dMake C sp dds t ρ Q X
section
variable {X : Cx} {k : Nat} {f C : Addr} {sp : SpD} {dvs : List V} {dds : List D} {x : Str} {p pos : Pos} {e : Expr} {es : List Expr} {t : TVD} {i : Nat}
theorem lx_make {W : WX} {σ : L2.St} {H : Hp} {Q : VK} (hD : ∀ F, DenL X.K F dvs dds) (h : LX X.K W (dMake C sp dds t) σ H Q) : tMakeS C (liftSp X.K sp) dvs (WE W) (LV X.K W t) σ H Q := by
  obtain ⟨G, Fz, R, ρ, Qd, Xd, r, q, n, xx⟩ := h
  refine ⟨G, Fz, R, ρ, _, Xd, r, q, fun ods ρ1 vs F1 H1 R1 r1 l1 pv ⟨sok, q1⟩ => fun x dx hx hdx ne => ?_, xx⟩
  -- the heap with the new instance
  have g1 : Grow F1 H1 F1 (upd H1 dx (.own x)) := .own r1.fit hdx
  have hx1 : upd H1 dx (.own x) x = none := by rw [upd_ne (Ne.symm ne)]; exact hx
  have r2 := r1.grow g1
  have g2 : Grow F1 (upd H1 dx (.own x)) F1 (upd (upd H1 dx (.own x)) x (.ins C dx [])) := .own r2.fit hx1
  have r3 := (r2.grow g2).push (y := .o (.ins C [])) (v := .ref x) (Tmp.new r2 hx1) ⟨x, dx, [], rfl, rfl, upd_same, .nil⟩ (fun b z => nomatch z)
  have el := r1.len
  have pv2 : Paired (OpAt X.K F1 (σ ++ [some (.ref x)])) (.s ρ1.length :: (ods ++ dds.map Opd.d)) (.ref x :: (vs ++ dvs)) := by
    refine .cons ?_ (paired_app (opAt_app (.refl F1) (by rw [el]; exact sok) pv) (opds_of (hD F1)))
    show (σ ++ [some (V.ref x)])[ρ1.length]? = some (some (.ref x))
    rw [List.getElem?_append_right (by omega), el]
    simp
  refine call_lift r3 pv2 q1 (fun y ρ' v F' H' R' T r' l t av nl qq => ?_) fun ex ρ' dx' F' H' R' T r' l t av qq => ?_
  · obtain ⟨rfl, qq⟩ := qq
    cases z : ρ'.getLast? with
    | none => rw [z] at qq; exact qq.elim
    | some w =>
      rw [z] at qq
      have er := dropLast_get z
      rw [er] at r'
      obtain ⟨p1, p2, p3⟩ := r'.pop
      cases w with
      | none => exact qq.elim
      | some w =>
        cases w with
        | o b =>
          obtain ⟨u, e1, e2⟩ := p3 _ rfl
          cases e1
          cases av
          exact ⟨rfl, n (.o b) ρ'.dropLast (.ref x) F' H' _ _ p1 (l1.trans l) p2 e2 (fun b z => nomatch z) qq⟩
        | v d => exact qq.elim
        | l b => exact qq.elim
  · have hne : ρ' ≠ [] := fun z => by
      have := r'.len
      rw [z] at this
      simp at this
    obtain ⟨w, z⟩ : ∃ w, ρ'.getLast? = some w := by
      cases z : ρ'.getLast? with
      | none => exact absurd (List.getLast?_eq_none_iff.mp z) hne
      | some w => exact ⟨w, rfl⟩
    have er := dropLast_get z
    rw [er] at r'
    obtain ⟨p1, p2, p3⟩ := r'.pop
    refine xx ex ρ'.dropLast dx' F' H' _ T p1 (l1.trans l) (fun a ta => ?_) av qq
    obtain ⟨t1, t2, t3, t4⟩ := t a ta
    exact ⟨t1, t2, t3, fun i hi => t4 i hi.2⟩
theorem pe_makeLS {CX : CXT} {fd : FuncData} {ps : List Str} {ds : List Value} {sp' : Sp} {E : L2.St → XK} {ta : TA} (M : Mk X.K C f) (F : FnOk X.prog X.w X.K X.mg X.base CX k f fd ps sp') (hr : Room (k + 1) X.A) (hN : X.N[i]? = some x) (hv : Vis X.env.scope x) (hb : Binds X.K fd ps ds) (hd : Vals dvs ds) (hx : ∀ σ, PassesAt CX X σ (E σ))
    (ha : PA X (e :: es) ta) (hdb : (x == ("__debug__" : Str)) = false := by decide) (hcd : (x == ("__classdict__" : Str)) = false := by decide) (he : starEach (e :: es) X.env = (false, eval e X.env) :: starEach es X.env := by rfl) (hpl : (backTo pos (starEach es X.env)).any (·.1) = false := by rfl) :
    PE X (.Call (.Name x p) (e :: es) [] pos) (fun σ H Q => σ[i]? = some (some (V.ref C)) ∧ tMakeS C sp' dvs E ta σ H Q) := by
  refine ⟨fun pins s σ H Q I ⟨hs, h⟩ => ?_⟩
  refine wpAny_Call_Name_kw (thn ((pe_var (pos := p) hN hv hdb hcd).run pins s σ H (fun v H1 => v = .ref C ∧ H1 = H) I ⟨.ref C, hs, rfl, rfl⟩) fun u s1 ⟨v, H1, I1, r1, q1⟩ => ?_)
  obtain ⟨rfl, rfl⟩ := q1
  cases r1
  refine PySem.W.callWith_K (h₀ := X.base) I1.ok.mod.kin M.kp (thn (ha.run pos pins s1 σ _ _ I1 h) fun us s1 ⟨vs, H1, I1, r, q⟩ => ⟨I1.kIn, ?_⟩) he hpl
  exact run_makeS M F hr hb hd (hx σ) I1 r q
theorem dx_makeL (M : Mk X.K C f) (F : FnD X.prog X.w X.K X.mg X.base k f dvs sp) (hD : ∀ F, DenL X.K F dvs dds) (hr : Room (k + 1) X.A) (hN : X.N[i]? = some x) (hv : Vis X.env.scope x) (ha : DVs X (e :: es) t)
    (hdb : (x == ("__debug__" : Str)) = false := by decide) (hcd : (x == ("__classdict__" : Str)) = false := by decide) (he : starEach (e :: es) X.env = (false, eval e X.env) :: starEach es X.env := by rfl) (hpl : (backTo pos (starEach es X.env)).any (·.1) = false := by rfl) :
    DX X (.Call (.Name x p) (e :: es) [] pos) (dMakeL i C sp dds t) := fun W tk => by
  obtain ⟨fd, ps, ds, F, hb, hd⟩ := F.ex
  refine pe_imp (pe_makeLS (E := WE W) M F hr hN hv hb hd (fun σ => passAt tk σ) (ha W tk) hdb hcd he hpl) fun σ H Q h => ?_
  obtain ⟨G, Fz, R, ρ, Qd, Xd, r, ⟨q0, q⟩, n, xx⟩ := h
  obtain ⟨d, ed, e1⟩ := see1_of q0
  subst e1
  refine ⟨?_, lx_make hD ⟨G, Fz, R, ρ, Qd, Xd, r, q, n, xx⟩⟩
  obtain ⟨x0, e0⟩ : ∃ x0, ρ.getD i none = some x0 := by
    cases z : ρ.getD i none with
    | none =>
      have en : Rho.look ρ (.s i) = none := by
        show (match ρ.getD i none with
          | some (.v d) => some d
          | some (.o b) => b.fz
          | some (.l b) => b.fz
          | none => none) = none
        rw [z]
      rw [en] at ed
      cases ed
    | some y => exact ⟨y, rfl⟩
  obtain ⟨v, h1, h2⟩ := r.at_ i x0 (getD_some e0)
  have := (r.look (od := .s i) h1 ed).obj
  rw [h1, this]
end
@[simp ↓] theorem s_dMakeL {ρ : Rho} {X : XD} {QX : DV → Rho → Prop} {i : Nat} {C : Addr} {sp : SpD} {dds : List D} {t : TVD} : dMakeL i C sp dds t ρ QX X = (see1 ρ (.s i) (fun x => x = .obj C) ∧ dMake C sp dds t ρ QX X) := id rfl
/-! ### an own comparison as a test -/
def dTestX (t : TXD) : TTD := fun ρ Q X => t ρ (fun x ρ1 => match x with
  | .v (.bl b) => Q b ρ1
  | _ => False) X
theorem ltx_test {K : PySem.W.Frag} {W : WX} {t : TXD} {σ : L2.St} {H : Hp} {Q : Bool → Hp → Prop} (h : LT K W (dTestX t) σ H Q) : LX K W t σ H fun x H' => ∃ k, x = .bl k ∧ Q k H' := by
  obtain ⟨G, F, R, ρ, Qd, Xd, r, q, n, x⟩ := h
  refine ⟨G, F, R, ρ, _, Xd, r, q, fun y ρ' v F' H' R' T r' l t at_ nl qd => ?_, x⟩
  cases y with
  | v d => cases d with
    | bl k => cases at_; exact ⟨k, rfl, n k ρ' F' H' R' r' l qd⟩
    | _ => exact qd.elim
  | o b => exact qd.elim
  | l b => exact qd.elim
section
variable {X : Cx} {C : Addr} {k : Nat} {f : Addr} {sp : SpD} {a b : Expr} {ta tb : TOD} {pos : Pos}
theorem dt_owncmp {op : CmpOp} (F : FnD X.prog X.w X.K X.mg X.base k f [] sp) (hr : Room k X.A) (hs : PySem.W.findIn X.K (.ref C) (cmpInfo op).2.1 = some (some (.ref f))) (hf : PySem.W.isFn X.K (.ref f) = true)
    (hop : op = .Eq ∨ op = .LtE) (ha : DO X a ta) (hb : DO X b tb) (hm : behindInMarks op b = false) : DT X (.Compare a [op] [b] pos) (dTestX (dOwn2 C sp ta tb)) := fun W tk => pt_imp (pt_cmpR (cmpop_own F hr hs hf hop) (ha W tk) (hb W tk) hm) fun _ _ _ h => lx_own2 (ltx_test h)
end
@[simp ↓] theorem s_dTestX {ρ : Rho} {X : XD} {QT : Bool → Rho → Prop} {t : TXD} : dTestX t ρ QT X = t ρ (fun x ρ1 => match x with
  | .v (.bl b) => QT b ρ1
  | _ => False) X := id rfl
end PD
set_option maxHeartbeats 1000000
namespace PD
open PySem L2 PySem.Spec PyProof.Rows
/-! ### C.__init__(self, p): super().__init__('text'); self.f = p, C an exception class over ValueError -/
abbrev supPar (p : Str) (q1 q2 : Pos) : Arguments := ⟨[], [⟨"self", none, q1⟩, ⟨p, none, q2⟩], none, [], [], none, []⟩
abbrev supSt1 (m : Str) (j : Nat) (q3 q4 q5 q6 q7 q8 : Pos) : Stmt := .Expr (.Call (.Attribute (.Call (.Name "super" q3) [] [] q4) "__init__" q5) [.Constant (.str m) j q6] [] q7) q8
abbrev supSt2 (p fld : Str) (q9 q10 q11 q12 : Pos) : Stmt := .Assign [.Attribute (.Name "self" q9) fld q10] (.Name p q11) q12
abbrev supSc (p : Str) : Scope := { kind := .function, names := [("self", .local), (p, .local), ("__class__", .free), ("super", .globalImplicit)], isGenerator := false, isCoroutine := false, more := [] }
open NdefX in
/-- the def at fI is such an __init__ -/
structure SupF (K : PySem.W.Frag) (C fI : Addr) (p fld file : Str) : Prop where
  ex : ∃ (oc : Value) (od an : Option Addr) (osl : Array (Option Value)) (name qual : Str) (kV doc pm ct : Value) (cda cc : Addr) (q1 q2 q3 q4 q5 q6 q7 q8 q9 q10 q11 q12 : Pos) (m : Str) (j : Nat) (ccl cl : Value) (cdd cld : Option Addr) (ccs csl : Array (Option Value)) (fv : Array Value) (tf : Tok) (cd : ClassData),
    K.lookup fI = some ⟨oc, od, .func (PySem.W.ksFn name qual (supPar p q1 q2) [supSt1 m j q3 q4 q5 q6 q7 q8, supSt2 p fld q9 q10 q11 q12] (supSc p) .none kV doc pm an (.ref cda) ct cc), osl⟩ ∧
    (q5.endLine == q7.line) = true ∧ (nscB ["self", p, "__class__"] ["self", p] ["__class__"] (supSc p) = true ∧ (supSc p).names.lookup ("super" : Str) = some .globalImplicit) ∧
    PySem.W.codeIn K (.ref cda) qual = true ∧ (K.lookup cda = some ⟨ccl, cdd, .fields fv, ccs⟩ ∧ fv[2]? = some (.str file tf)) ∧
    K.lookup cc = some ⟨cl, cld, .cell (some (.ref C)), csl⟩ ∧ PySem.W.clsIn K C = some cd ∧ PySem.W.mroIn K C (.ref C) = some true ∧ PySem.W.nsIn K cStatics "thirdparty.any" = some none ∧
    PySem.W.alongIn K "__init__" ((cd.mro.dropWhile (· != .ref C)).drop 1) = some (some (.builtin "ValueError.__init__")) ∧ PySem.W.subIn K (.ref C) (.type "ValueError") = some true
  oex : OexC K C
  noat : PySem.W.findIn K (.ref C) fld = some none
  iC : PySem.W.findIn K (.ref C) "__init__" = some (some (.ref fI))
  tI : PySem.W.typeIn K (.ref fI) = some (.type "function")
  kp : PySem.W.keepIn K (.ref C) = true
/-- its promise -/
def supSp (C : Addr) (fld : Str) : Sp := fun vs H Q _ => ∃ (a : Addr) (y : V), vs = [.ref a, y] ∧ H a = some (exo a C none) ∧ ∀ dx, H dx = none → dx ≠ a → Q .non (upd (upd H dx (exd dx [(fld, y)])) a (exo a C (some dx)))
section
variable {M : Model} {A : Around} {E : Value → Shared → Prop} {s : Shared}
/-- the bound __init__, called: the exception's args are laid anew, nothing else is changed -/
theorem mw_call {prog : Program} {w : World} {K : PySem.W.Frag} {C a u t1 : Addr} {us : List Value} {Q : Value → Shared → Prop} (KX : K.In s.heap) (T : OexC K C) (hu : s.heap.get? u = some (PySem.W.kxs_mw "ValueError.__init__" a))
    (he : s.heap.get? a = some ({ cls := .ref C, dict := none, data := .fields #[.ref t1, .none, .none, .none, .bool false, .none] } : Obj)) (hz : us.length ≤ sizeLine)
    (h : ∀ h' t2, (∀ b o, b ≠ a → s.heap.get? b = some o → h'.get? b = some o) → h'.get? a = some ({ cls := .ref C, dict := none, data := .fields #[.ref t2, .none, .none, .none, .bool false, .none] } : Obj) → Q .none { s with heap := h' }) :
    wpAny (model prog w) A (call (.ref u) us) Q E s := by
  obtain ⟨nm, q, N, bs, bm, sn, sub, ab, col, dd, k0, k1, k2, k3, k5, hC, _⟩ := T.cls
  have hC' := KX _ _ hC
  obtain ⟨hh, g, d, tk, os⟩ := s
  refine wpAny_call (codeAny_of_tree ?_)
  have e1 : (Value.type "method-wrapper" == Value.type "method" || Value.type "method-wrapper" == Value.type "builtin_function_or_method" || Value.type "method-wrapper" == Value.type "method-wrapper") = true := by decide
  show wpAny _ A.in1 (callAny (.ref u) ⟨us, []⟩) _ _ _
  unfold callAny
  refine wpAny_bind (wpAny_load hu ?_)
  simp only [PySem.W.kxs_mw, e1, if_true]
  refine PySem.W.KFB.if_so (by decide) (wpAny_bind (PySem.W.check_bound_init (F.excBase_ValueError).toExcCallFacts hC' he rfl (wpAny_bind (wpAny_pure (wpAny_pure ?_)))))
  refine ⟨plainId_quiet F.excBase_ValueError.init.plain _, codeAny_builtin F.excBase_ValueError.initEntry ?_⟩
  exact PySem.W.exc_init_tree (cls := .ref C) (t0 := t1) (dv := none) (c2 := .none) (c3 := .none) (b4 := .bool false) he hz fun h' k x _ => h h' _ k x
end
theorem sup_eq {m : Str} {j : Nat} {q3 q4 q5 q6 q7 : Pos} {env : Env} (hq : (q5.endLine == q7.line) = true) :
    eval (.Call (.Attribute (.Call (.Name "super" q3) [] [] q4) "__init__" q5) [.Constant (.str m) j q6] [] q7) env = (do
      let ov ← attributeBase (.Call (.Name "super" q3) [] [] q4) "__init__" env (eval (.Call (.Name "super" q3) [] [] q4) env)
      standAt q5.atName
      let (f, first) ← holding [ov] (getMethod ov "__init__" (do return (← importBound (.Call (.Name "super" q3) [] [] q4) env).getD true))
      callWith q7 f first (backTo q7 (starEach [.Constant (.str m) j q6] env)) []) := by
  have hmp : methodCallPos true (.Call (.Name "super" q3) [] [] q4) env q5 q7 = pure q7 := if_pos (by rw [hq]; rfl)
  show (attributeBase _ _ _ _ >>= fun ov => standAt _ >>= fun _ => (holding [ov] (calleeOf true _ env ov _) >>= fun x => methodCallPos true _ env q5 q7 >>= fun cp => callWith cp x.1 x.2 _ _)) = _
  rw [hmp]
  simp only [pure_bind]
  rfl
/-- two arguments are bound (by rfl, for a known name) -/
def Bi2 (p : Str) : Prop := ∀ (name qual : Str) (q1 q2 : Pos) (body : List Stmt) (scope : Scope) (kV doc pm : Value) (an : Option Addr) (cdv ct : Value) (cc : Addr) (u1 u2 : Value),
  bindArgs (PySem.W.ksFn name qual (supPar p q1 q2) body scope .none kV doc pm an cdv ct cc) ⟨[u1, u2], []⟩ = pure ([("self", u1), (p, u2)] : List (Str × Value))
theorem bi2_kind : Bi2 "kind" := fun _ _ _ _ _ _ _ _ _ _ _ _ _ _ _ => rfl
open NdefX in
theorem fn_sup {P : Program} {w : World} {K : PySem.W.Frag} {mg : Str → Option Value} {base : Heap} {C fI : Addr} {p fld file : Str} (S : SupF K C fI p fld file) (hfile : ((P.main.file : Str) == file) = true) (htop : (P.main.scope.names.lookup ("super" : Str)).isSome = false) (hmg : mg "super" = none) (hbi : Bi2 p) (hpd : (p == ("__debug__" : Str)) = false) (hpc : (p == ("__classdict__" : Str)) = false) :
    ∃ fd, FnOk P w K mg base (L2.CX P w) 1 fI fd ["self", p] (supSp C fld) ∧ Binds K fd ["self", p] [] := by
  obtain ⟨oc, od, an, osl, name, qual, kV, doc, pm, ct, cda, cc, q1, q2, q3, q4, q5, q6, q7, q8, q9, q10, q11, q12, m, j, ccl, cl, cdd, cld, ccs, csl, fv, tf, cd, lk, hq5, ⟨snb, ssu⟩, hcd, ⟨lcd, hfv⟩, lcc, hcls, hmro, hop, hal, hVE⟩ := S.ex
  have NS := nscope_by snb
  refine ⟨PySem.W.ksFn name qual (supPar p q1 q2) [supSt1 m j q3 q4 q5 q6 q7 q8, supSt2 p fld q9 q10 q11 q12] (supSc p) .none kV doc pm an (.ref cda) ct cc, ⟨fun vs H Q E h => ?_, fun A outer s H args us vs Q E hr e0 hb r hsp => ?_⟩, fun s us KX hl => ?_⟩
  · obtain ⟨a, y, rfl, _⟩ := h
    rfl
  rotate_left
  · match us, hl with
    | [u1, u2], _ =>
      intro M A Q E q
      rw [hbi]
      exact wpAny_pure q
  have KX : K.In s.heap := e0.mod.kin.keeps fun b o e => (e0.bs b o e).1
  have lim : s.heap.NoLimit := e0.mod.nolimit.keeps fun b o e => (e0.bs b o e).1
  obtain ⟨a, y, rfl, ha, hq⟩ := hsp
  have hus : us.length = 2 := r.length.symm
  refine ks_codeAny_call_defAt (binds := ([("self" : Str), p].zip us)) hr.depth (KX _ _ lk) rfl lim (PySem.W.codeRec_of KX hcd) rfl hb NS.nocell (fun ⟨n, _⟩ hy => NS.par n (List.of_mem_zip hy).1) (fun h₁ hns kp => ?_)
  let F : NF := ⟨name, qual, supPar p q1 q2, [], supSc p, [("__class__", cc)], cda⟩
  have hcc0 := KX _ _ lcc
  have bfree : ∀ {b : Addr} {o : Obj}, K.lookup b = some o → H b = none := fun {b o} e => (e0.bs b o (e0.mod.kin _ _ e)).2
  have CA : CellsAt F.cl ["__class__"] [some (.ref C)] s.heap H := by
    have one : ∀ y c, List.lookup y [(("__class__" : Str), cc)] = some c → y = "__class__" ∧ c = cc := fun y c e => by
      rw [List.lookup_cons] at e
      split at e
      · rename_i q
        exact ⟨eq_of_beq q, (Option.some.inj e).symm⟩
      · cases e
    refine ⟨rfl, fun y c e => ?_, fun x y c e1 e2 => (one x c e1).1.trans (one y c e2).1.symm, fun i y e => ?_⟩
    · obtain ⟨_, rfl⟩ := one y c e
      exact ⟨bfree lcc, _, _, hcc0, rfl⟩
    · match i, e with
      | 0, e =>
        cases e
        refine ⟨cc, rfl, fun v ev => ?_⟩
        cases ev
        exact ⟨_, rfl, _, hcc0, rfl⟩
  have I : Inv (ncx (L2.CX P w) P w K mg base ["self", p, "__class__"] F fI A outer s H E) [] (startF ["self", p, "__class__"] [.ref a, y] [some (.ref C)]) H { s with heap := h₁, toks := s.toks + (([("self" : Str), p].zip us)).length } :=
    inv_startN NS hr.hd e0 rfl r CA hns kp
  have kC : ∀ b o, K.lookup b = some o → h₁.get? b = some o := fun b o e => kp _ _ (KX _ _ e)
  have K1 : K.In h₁ := fun b o e => kC b o e
  -- the exception being made
  obtain ⟨t1, he⟩ := exo_at I.hok ha
  have he1 : h₁.get? a = some ({ cls := .ref C, dict := none, data := .fields #[.ref t1, .none, .none, .none, .bool false, .none] } : Obj) := he
  obtain ⟨oD, hD1, hD2⟩ : ∃ oD, h₁.get? C = some oD ∧ oD.data = .cls cd := by
    unfold PySem.W.clsIn at hcls
    split at hcls
    · rename_i c d cd' sl ho
      cases hcls
      exact ⟨_, K1 _ _ ho, rfl⟩
    · cases hcls
  have aC : a ≠ C := PySem.W.ks_ne (odx := none) K1 ⟨he1, rfl, rfl, trivial⟩ hcls
  have nself : List.lookup ("self" : Str) (([("self" : Str), p].zip us)).reverse = some (.ref a) := by
    match us, hus, r with
    | [u1, u2], _, .cons r1 _ =>
      cases r1
      exact zip_look (i := 0) (by have := NS.nd; simp at this ⊢; exact fun z => this.1 z) rfl rfl
  refine ks_wpAt_execs_cons (ks_wpAt_Expr_any (ks_wpAt_MethodCall ?_ (sup_eq hq5)))
  have kSu : (envF F fI s.heap.objs.size).kindOf "super" = some .globalImplicit := ssu
  have kCl : (envF F fI s.heap.objs.size).kindOf "__class__" = some .free := NS.frk _ (by simp)
  have kSe : (envF F fI s.heap.objs.size).kindOf "self" = some .local := NS.par _ (by simp)
  obtain ⟨mb, hb1, hb2⟩ := e0.mod.blt
  have up0 : ∀ b o, base.get? b = some o → h₁.get? b = some o := fun b o e => kp _ _ (e0.bs b o e).1
  refine ks_wpAt_super_base kSu kCl (by decide) rfl (kC _ _ lk) rfl rfl rfl (kC _ _ lcd) rfl hfv hfile htop ?_
  refine PySem.W.ks_loadName_global (env := envF F fI s.heap.objs.size) rfl kSu (Calls.loadGlobal_builtin (env := envF F fI s.heap.objs.size) (e0.mod.glob.keeps up0) hmg (hb1.keeps up0) (hb2 _ (by decide)) ⟨by first | rfl | kernel_rfl, ?_⟩)
  refine wpAny_loadName_free (env := envF F fI s.heap.objs.size) rfl kCl rfl ⟨_, kC _ _ lcc, rfl⟩ ?_
  refine wpAny_loadName_local (env := envF F fI s.heap.objs.size) rfl kSe hns nself ?_
  refine ks_wpAny_isType_cls hD1 hD2 ⟨rfl, ?_⟩
  refine ks_wpAny_call_super hD1 hD2 he1 rfl (fun c z => by cases z) (PySem.W.looks_mroIn K1 hmro) fun h2 hso k2 => ?_
  have K2 : K.In h2 := K1.keeps k2
  have he2 := k2 _ _ he1
  have I2 := I.kept (h' := h2) (t' := s.toks + (([("self" : Str), p]).zip us).length) k2
  have J2 : PySem.W.InstAt h2 a ({ cls := .ref C, dict := none, data := .fields #[.ref t1, .none, .none, .none, .bool false, .none] } : Obj) C none := ⟨he2, rfl, rfl, trivial⟩
  refine PySem.W.kxs_getMethod PySem.W.kxs_ValueError hso (PySem.W.looks_opaque K2 hop) (l₀ := cd.mro) ?hmr rfl K2 hal (J2.type.andThen (PySem.W.looks_subIn K2 hVE)) aC (by decide) ?_
  case hmr => exact fun A Q E s k q => wpAny_bind ((PySem.W.looks_clsIn K2 hcls) A _ E s k (wpAny_pure q))
  show wpAny _ _ (callWith q7 (.ref h2.objs.size) [] (backTo q7 (starEach [.Constant (.str m) j q6] (envF F fI s.heap.objs.size))) []) _ _ _
  let h3 := h2.push (PySem.W.kxs_mw "ValueError.__init__" a)
  have k3 : ∀ b o, h2.get? b = some o → h3.get? b = some o := fun b o e => Heap.get?_push_of_some _ e
  have hu3 : h3.get? h2.objs.size = some (PySem.W.kxs_mw "ValueError.__init__" a) := Heap.get?_push_at rfl rfl
  have I3 : Inv (ncx (L2.CX P w) P w K mg base ["self", p, "__class__"] F fI A outer s H E) [(h2.objs.size, PySem.W.kxs_mw "ValueError.__init__" a)] (startF ["self", p, "__class__"] [.ref a, y] [some (.ref C)]) H { s with heap := h3, toks := s.toks + (([("self" : Str), p]).zip us).length + 1 } := by
    refine (I2.kept (h' := h3) (t' := s.toks + (([("self" : Str), p]).zip us).length + 1) k3).pins_of fun p' hp' => ?_
    obtain rfl := List.mem_singleton.mp hp'
    refine ⟨hu3, I2.hok.fresh (Nat.le_refl _), fun z => ?_, I2.nofs (Nat.le_refl _), fun v z => by cases z⟩
    have z' : h2.objs.size = s.heap.objs.size := z
    have lt : s.heap.objs.size < h2.objs.size := I2.lt
    omega
  have hPA : PA (ncx (L2.CX P w) P w K mg base ["self", p, "__class__"] F fI A outer s H E) [.Constant (.str m) j q6] (tCons (tC (.str m)) tNil) := pa_cons pe_str pa_nil
  have hev : starEach [.Constant (.str m) j q6] (envF F fI s.heap.objs.size) = (false, eval (.Constant (.str m) j q6) (envF F fI s.heap.objs.size)) :: starEach [] (envF F fI s.heap.objs.size) := rfl
  refine PySem.W.kxs_callWith (i := "ValueError.__init__") (x := a) rfl (PySem.Calls.evalArgs_plain (thn (hPA.run q7 _ _ _ H (fun vs H1 => vs = [V.str m] ∧ H1 = H) I3 ⟨rfl, rfl⟩) fun vs4 s4 hh => ?_))
  obtain ⟨vv, H4, I4, r4, ev, eH⟩ := hh
  subst ev
  rw [eH] at I4
  obtain ⟨hu4, _⟩ := I4.pin _ (List.mem_append_right _ (List.mem_singleton.mpr rfl))
  refine ⟨hu4, ?_⟩
  obtain ⟨t4, he4⟩ := exo_at I4.hok ha
  have hl4 : vs4.length ≤ sizeLine := by
    have := r4.length
    simp at this
    rw [← this, sizeLine_eq]
    omega
  refine mw_call I4.kIn S.oex hu4 he4 hl4 fun h5 t5 k5 he5 => ?_
  have eu : upd H a (exo a C none) = H := by
    funext b
    by_cases hb : b = a
    · rw [hb, upd_same, ha]
    · rw [upd_ne hb]
  have I5 := I4.write (t' := s4.toks) (x := a) (e := a) (o := exo a C none) (by rw [ha]; exact True.intro) (.inl rfl) k5 ⟨_, he5⟩ (exo_ok he5)
  rw [eu] at I5
  -- self.f = p
  refine wpAt_of_wpAny ?_
  have NS' := NS.par p (by simp)
  have hst : PSs (ncx (L2.CX P w) P w K mg base ["self", p, "__class__"] F fI A outer s H E) [supSt2 p fld q9 q10 q11 q12] (tOst K fld (tVar 0) (tVar 1)) :=
    pss_one (ps_ost (X := ncx (L2.CX P w) P w K mg base ["self", p, "__class__"] F fI A outer s H E) (pe_var rfl (.inl kSe)) (pe_var rfl (.inl NS') hpd hpc))
  refine wpAny_mono (hst.run _ _ _ H { nx := fun _ H' => Q .non H', rt := fun _ _ => False } I5 ⟨y, rfl, .ref a, rfl, a, C, rfl, S.oex, S.noat, .inl ⟨ha, hq⟩⟩) (fun fl s' hs => ?_) fun e s' hs => hs
  cases fl with
  | next =>
    obtain ⟨σ', H', J, q⟩ := hs
    exact ⟨.non, H', J.os, J.bare, J.base, J.hok, rfl, q⟩
  | ret u =>
    obtain ⟨_, _, _, _, _, q⟩ := hs
    exact q.elim
  | brk =>
    obtain ⟨_, _, _, q⟩ := hs
    exact False.elim q
  | cont =>
    obtain ⟨_, _, _, q⟩ := hs
    exact False.elim q
end PD
set_option maxHeartbeats 1000000
namespace PD
open PySem L2 PySem.Spec PyProof.Rows
/-- the module of the text: the file that its code objects name; no global `super` -/
class SupP (P : Program) (file : outParam Str) : Prop where
  file : ((P.main.file : Str) == file) = true
  top : (P.main.scope.names.lookup ("super" : Str)).isSome = false
/-! ### raise C(e), C with such an __init__ -/
def dRaiseF (C : Addr) (fld : Str) (t : TED) : TSD := fun E ρ => t ρ (fun d ρ1 => E.ex ⟨C, some [(fld, d)]⟩ ρ1) E.ex
theorem passNo {X : Cx} : Passes (L2.CX X.prog X.w) X (fun _ _ _ => False) := fun pins σ H s e s' I c => passAt (W := fun _ _ _ _ => False) takes_none5 σ pins H s e s' I c
section
variable {X : Cx} {C : Addr} {x pn fld file : Str} {p p3 pos : Pos} {e : Expr} {te : TED}
theorem ds_raiseF [hP : SupP X.prog file] (S : SupF X.K C (He.ma X.K C "__init__") pn fld file) (hmg : X.mg "super" = none) (hbi : Bi2 pn) (hpd : (pn == ("__debug__" : Str)) = false) (hpc : (pn == ("__classdict__" : Str)) = false)
    (gC : X.mg x = some (.ref C)) (hg : Gl X x) (hr : Room 2 X.A) (he : DE X e te) (hc : X.calm = true := by rfl) (hdb : (x == ("__debug__" : Str)) = false := by decide)
    (hst : starEach [e] X.env = (false, eval e X.env) :: starEach [] X.env := by rfl) (hpl : (backTo p3 (starEach [] X.env)).any (·.1) = false := by rfl) :
    DS X (.Raise (some (.Call (.Name x p) [e] [] p3)) none pos) (dRaiseF C fld te) := fun W tk po => by
  obtain ⟨fd, F, hb⟩ := fn_sup (P := X.prog) (w := X.w) (mg := X.mg) (base := X.base) S hP.file hP.top hmg hbi hpd hpc
  refine ps_imp (ps_raise hc tk (pmk_oex (dvs := []) (ds := []) S.oex S.iC S.tI F hr hb .nil passNo hg gC (pa_cons (he W tk) pa_nil hst) hdb hst hpl)) fun D σ H ⟨G, Fz, R, ρ, E, r, q, o⟩ => ?_
  refine ⟨G, Fz, R, ρ, _, E.ex, r, q, fun d ρ1 v F1 H1 R1 r1 l1 hd qd => ?_, o.ex σ⟩
  refine ⟨Nat.le_of_lt_succ (by simp), fun a ha => ⟨a, v, rfl, upd_same, fun dx hdx ne => ⟨rfl, dx, [(fld, v)], upd_same, (upd_ne ne).trans upd_same, ?_, ?_⟩⟩⟩
  · rw [upd_ne ne] at hdx
    exact hdx
  · have n1 : H1 dx = none := by rw [upd_ne ne] at hdx; exact hdx
    have eH : upd (del (upd (upd (upd H1 a (exo a C none)) dx (exd dx [(fld, v)])) a (exo a C (some dx))) a) dx (.xd [(fld, v)]) = upd H1 dx (.xd [(fld, v)]) := by
      funext b
      by_cases hb : b = dx
      · rw [hb, upd_same, upd_same]
      · rw [upd_ne hb, upd_ne hb]
        by_cases hb2 : b = a
        · rw [hb2, del_same, ha]
        · rw [del_ne hb2, upd_ne hb2, upd_ne hb, upd_ne hb2]
    rw [eH]
    exact o.ex σ ⟨C, some [(fld, d)]⟩ ρ1 (some dx) F1 _ R1 (fun a => a = dx) (r1.grow (.own r1.fit n1)) l1 (.new r1 n1) ⟨dx, [(fld, v)], rfl, rfl, upd_same, .cons hd .nil⟩ qd
end
/-! ### what K is asked -/
def oexB (K : PySem.W.Frag) (C : Addr) : Bool := (match K.lookup C with
  | some ⟨.type ty, _, .cls cd, sl⟩ => decide (ty = "type") && (match cd.mro, sl.toList with
    | .ref C' :: bm, [_, _, _, _, some (.builtin n), _] => decide (C' = C) && (decide (n = "ValueError.__new__") && (PySem.HandSPX.refsVE bm && (cd.hasDict && !cd.hasDel)))
    | _, _ => false)
  | _ => false) && (decide (PySem.W.findIn K (.ref C) "__setattr__" = some (some (.builtin "object.__setattr__"))) && (decide (PySem.W.subIn K (.ref C) (.type "BaseException") = some true) && (decide (PySem.W.typeIn K (.ref C) = some (.type "type")) && PySem.W.keepIn K (.ref C))))
theorem oexB_ok {K : PySem.W.Frag} {C : Addr} (h : oexB K C = true) : OexC K C := by
  obtain ⟨h1, h⟩ := He.ba h
  obtain ⟨h2, h⟩ := He.ba h
  obtain ⟨h3, h⟩ := He.ba h
  obtain ⟨h4, h5⟩ := He.ba h
  refine ⟨?_, of_decide_eq_true h2, of_decide_eq_true h3, of_decide_eq_true h4, h5⟩
  split at h1
  · rename_i ty dd cd sl ho
    obtain ⟨g1, h1⟩ := He.ba h1
    split at h1
    · rename_i C' bm k0 k1 k2 k3 n k5 hm hs
      obtain ⟨g2, h1⟩ := He.ba h1
      obtain ⟨g3, h1⟩ := He.ba h1
      obtain ⟨g4, h1⟩ := He.ba h1
      obtain ⟨g5, g6⟩ := He.ba h1
      have e1 := of_decide_eq_true g1
      have e2 := of_decide_eq_true g2
      have e3 := of_decide_eq_true g3
      obtain ⟨nm, bs, mro, ns, qn, hd, sn, sub, ab, col, del⟩ := cd
      dsimp only at hm g5 g6
      have e6 : del = false := by simpa using g6
      subst e1 e2 e3 hm g5 e6
      have hsl : sl = #[k0, k1, k2, k3, some (.builtin "ValueError.__new__"), k5] := by
        obtain ⟨l⟩ := sl
        simp only at hs
        rw [hs]
      subst hsl
      exact ⟨nm, qn, ns, bs, bm, sn, sub, ab, col, dd, k0, k1, k2, k3, k5, ho, g4⟩
    · cases h1
  · cases h1
def supFn (K : PySem.W.Frag) (C fI : Addr) (p fld file : Str) : Bool := match K.lookup fI with
  | some ⟨_, _, .func ⟨_, qual, ⟨[], [⟨s, none, _⟩, ⟨p', none, _⟩], none, [], [], none, []⟩, .stmts [.Expr (.Call (.Attribute (.Call (.Name su _) [] [] _) ini q5) [.Constant (.str _) _ _] [] q7) _, .Assign [.Attribute (.Name se _) fl _] (.Name p2 _) _], scope, gl, [(cn, cc)], .none, _, _, _, _, .ref cda, _, bi⟩, _⟩ =>
    decide (s = "self") && (decide (p' = p) && (decide (su = "super") && (decide (ini = "__init__") && (decide (se = "self") && (decide (fl = fld) && (decide (p2 = p) && (decide (scope = supSc p) && (decide (gl = mainGlobals) && (decide (cn = "__class__") && (decide (bi = builtinsNs) && ((q5.endLine == q7.line) && (PySem.W.codeIn K (.ref cda) qual &&
    ((match K.lookup cda with
      | some ⟨_, _, .fields fv, _⟩ => (match (fv : Array Value)[2]? with
        | some (Value.str f _) => decide (f = file)
        | _ => false)
      | _ => false) && (match K.lookup cc with
      | some ⟨_, _, .cell (some (.ref C')), _⟩ => decide (C' = C)
      | _ => false))))))))))))))
  | _ => false
def supB (K : PySem.W.Frag) (C : Addr) (p fld file : Str) : Bool := supFn K C (He.ma K C "__init__") p fld file && ((NdefX.nscB ["self", p, "__class__"] ["self", p] ["__class__"] (supSc p) && decide ((supSc p).names.lookup ("super" : Str) = some .globalImplicit)) && ((match PySem.W.clsIn K C with
    | some cd => He.eqO (PySem.W.alongIn K "__init__" ((cd.mro.dropWhile (· != .ref C)).drop 1)) (some (some (.builtin "ValueError.__init__")))
    | none => false) && (decide (PySem.W.mroIn K C (.ref C) = some true) && (He.eqO (PySem.W.nsIn K cStatics "thirdparty.any") (some none) && (decide (PySem.W.subIn K (.ref C) (.type "ValueError") = some true) &&
  (oexB K C && (He.eqO (PySem.W.findIn K (.ref C) fld) (some none) && (He.eqO (PySem.W.findIn K (.ref C) "__init__") (some (some (.ref (He.ma K C "__init__")))) && (decide (PySem.W.typeIn K (.ref (He.ma K C "__init__")) = some (.type "function")) && PySem.W.keepIn K (.ref C))))))))))
theorem supB_ok {K : PySem.W.Frag} {C : Addr} {p fld file : Str} (h : supB K C p fld file = true) : SupF K C (He.ma K C "__init__") p fld file := by
  obtain ⟨h1, h⟩ := He.ba h
  obtain ⟨h2, h⟩ := He.ba h
  obtain ⟨h3, h⟩ := He.ba h
  obtain ⟨h4, h⟩ := He.ba h
  obtain ⟨h5, h⟩ := He.ba h
  obtain ⟨h6, h⟩ := He.ba h
  obtain ⟨h7, h⟩ := He.ba h
  obtain ⟨h8, h⟩ := He.ba h
  obtain ⟨h9, h⟩ := He.ba h
  obtain ⟨h10, h11⟩ := He.ba h
  refine ⟨?_, oexB_ok h7, He.eqO_ok h8, He.eqO_ok h9, of_decide_eq_true h10, h11⟩
  obtain ⟨g1, g2⟩ := He.ba h2
  have hcl : ∃ cd, PySem.W.clsIn K C = some cd ∧ PySem.W.alongIn K "__init__" ((cd.mro.dropWhile (· != .ref C)).drop 1) = some (some (.builtin "ValueError.__init__")) := by
    split at h3
    · rename_i cd e
      exact ⟨cd, e, He.eqO_ok h3⟩
    · cases h3
  obtain ⟨cd, hc1, hc2⟩ := hcl
  unfold supFn at h1
  split at h1
  · rename_i lk
    obtain ⟨a1, h1⟩ := He.ba h1
    obtain ⟨a2, h1⟩ := He.ba h1
    obtain ⟨a3, h1⟩ := He.ba h1
    obtain ⟨a4, h1⟩ := He.ba h1
    obtain ⟨a5, h1⟩ := He.ba h1
    obtain ⟨a6, h1⟩ := He.ba h1
    obtain ⟨a7, h1⟩ := He.ba h1
    obtain ⟨a8, h1⟩ := He.ba h1
    obtain ⟨a9, h1⟩ := He.ba h1
    obtain ⟨a10, h1⟩ := He.ba h1
    obtain ⟨a11, h1⟩ := He.ba h1
    obtain ⟨a12, h1⟩ := He.ba h1
    obtain ⟨a13, h1⟩ := He.ba h1
    obtain ⟨a14, a15⟩ := He.ba h1
    have b1 := of_decide_eq_true a1
    have b2 := of_decide_eq_true a2
    have b3 := of_decide_eq_true a3
    have b4 := of_decide_eq_true a4
    have b5 := of_decide_eq_true a5
    have b6 := of_decide_eq_true a6
    have b7 := of_decide_eq_true a7
    have b8 := of_decide_eq_true a8
    have b9 := of_decide_eq_true a9
    have b10 := of_decide_eq_true a10
    have b11 := of_decide_eq_true a11
    subst b1 b2 b3 b4 b5 b6 b7 b8 b9 b10 b11
    split at a14
    · rename_i fv _ lcd
      split at a14
      · rename_i f tf hf
        have b14 := of_decide_eq_true a14
        subst b14
        split at a15
        · rename_i C' _ lcc
          have b15 := of_decide_eq_true a15
          subst b15
          exact ⟨_, _, _, _, _, _, _, _, _, _, _, _, _, _, _, _, _, _, _, _, _, _, _, _, _, _, _, _, _, _, _, _, _, _, cd, lk, a12, ⟨g1, of_decide_eq_true g2⟩, a13, ⟨lcd, hf⟩, lcc, hc1, of_decide_eq_true h4, He.eqO_ok h5, hc2, of_decide_eq_true h6⟩
        · cases a15
      · cases a14
    · cases a14
  · cases h1
end PD
set_option maxHeartbeats 2000000
namespace PD
open PySem L2 PySem.Spec PyProof.Rows
/-! ### several except clauses, each with a name or without -/
abbrev Ts4 := Addr → Value → Option Addr → TS
def nmE : Option Nat → Ends → Ends
  | none, D => D
  | some i, D => { nx := fun σ H => D.nx (σ.set i none) H, rt := D.rt, bk := fun σ H => D.bk (σ.set i none) H, ct := fun σ H => D.ct (σ.set i none) H }
def nmS : Option Nat → Addr → L2.St → L2.St
  | none, _, σ => σ
  | some i, a, σ => σ.set i (some (.ref a))
def wCl (K : PySem.W.Frag) (Wout : WX) (D : Ends) : List (Value × Option Nat × Ts4) → WX
  | [] => Wout
  | cl :: r => fun cls d σ H => ∃ b, PySem.W.exmOne K cls cl.1 = some b ∧ (b = true → ∀ a, H a = none → cl.2.2 a cls d (nmE cl.2.1 D) (nmS cl.2.1 a σ) H) ∧ (b = false → wCl K Wout D r cls d σ H)
/-- the clause's name, its slot -/
def NmOk (X : Cx) : Option Str → Option Nat → Prop
  | none, none => True
  | some n, some i => X.N[i]? = some n ∧ X.env.kindOf n = some .local
  | _, _ => False
inductive ClsOk (X : Cx) : List ExceptHandler → List (Value × Option Nat × Ts4) → Prop
  | nil : ClsOk X [] []
  | cons {x : Str} {c : Value} {n : Option Str} {i : Option Nat} {ts : Ts4} {b₀ : Stmt} {suite : List Stmt} {np pos' : Pos} {hds : List ExceptHandler} {l : List (Value × Option Nat × Ts4)} (hc : Names X x c) (hn : NmOk X n i)
      (hsu : ∀ (a : Addr) (oe : Obj) (cls : Value) (d : Option Addr) (pn : List (Addr × Obj)), Zc cls d oe → (∃ vs, oe.data = .fields vs) → PSs (X.suite a ((a, oe) :: pn)) (b₀ :: suite) (ts a cls d)) (r : ClsOk X hds l) :
      ClsOk X (.ExceptHandler (some (.Name x np)) n (b₀ :: suite) pos' :: hds) ((c, i, ts) :: l)
section
variable {X : Cx} {body : List Stmt} {hd₀ : ExceptHandler} {hds : List ExceptHandler} {l : List (Value × Option Nat × Ts4)} {pos : Pos} {tb : WX → TS} {Wout : WX}
theorem ps_tryCl (hst : X.stack = X.env :: X.outer) (hfr0 : X.env.frame = some X.env.locals) (hN : X.N.Nodup) (tk : Takes X Wout)
    (hb : ∀ (W : WX) (pn : List (Addr × Obj)) (xe : Value → Shared → Prop), Takes (X.tr pn xe) W → PassesOwn (model X.prog X.w) X.A X.env xe → PSs (X.tr pn xe) body (tb W))
    (hh : ClsOk X (hd₀ :: hds) l) : PS X (.Try body (hd₀ :: hds) [] [] pos) (fun D σ H => tb (wCl X.K Wout D l) D σ H) := by
  refine ⟨fun pins s σ H D I hw => ?_⟩
  have okX := I.ok
  have hfrs : X.A.frames = some (X.env :: X.outer) := by rw [okX.frames, hst]
  let XE2 : Value → Shared → Prop := fun e s₁ => wpAny (model X.prog X.w) X.A (noteFrame e X.env) (fun _ s₂ => wpAny (model X.prog X.w) X.A (setFlight e none) (fun _ s₃ => wpAny (model X.prog X.w) X.A (handleBy e X.env (hd₀ :: hds)) (SP X pins D) X.xe s₃) X.xe s₂) X.xe s₁
  refine wpAny_Try_except (wpAny_mono ((hb (wCl X.K Wout D l) (X.pn ++ pins) XE2 (fun u s' xx => ?_) PassesOwn.looking).run [] s σ H D (I.toTry _) hw) (fun f s1 hsp => ?_) (fun e s1 he => he))
  · obtain ⟨a, B, sI, pins2, σ2, H2, cls, d, rfl, JT, nb, up, sky, na, os, ag, w⟩ := xx
    have J0 : Inv X pins σ2 H2 sI := JT.ofTry okX
    have skyX : Sky B (X.env :: X.outer) a (Zc cls d) X.env.locals s'.heap := by rw [← hst]; exact sky
    show wpAny (model X.prog X.w) X.A (noteFrame (.ref a) X.env) _ _ _
    refine Sky.land Zc.steady hfrs hfr0 skyX fun hL ld3 upL => ?_
    have JL : Inv X pins σ2 H2 { s' with heap := hL } := J0.landed nb ld3.1 (up.trans upL) os ag
    obtain ⟨oeL, vsL, heL, hzL, hdL⟩ := ld3.there
    have nfr : a ∉ frs (X.env :: X.outer) := fun hm => by
      obtain ⟨_, o2, e2, hnf⟩ := ld3.2.2.1.mem hm
      rw [heL] at e2; cases e2
      exact hnf _ hdL
    have aL : a ≠ X.env.locals := fun z => nfr (List.mem_filterMap.mpr ⟨X.env, List.mem_cons_self, by rw [hfr0, z]⟩)
    have aF : a ∉ X.fs := fun hm => by
      obtain ⟨e, he, q⟩ := List.mem_filterMap.mp hm
      exact nfr (List.mem_filterMap.mpr ⟨e, .tail _ he, q⟩)
    have SL := JL.suite heL hdL na aL aF
    have go : ∀ {hds2 : List ExceptHandler} {l2 : List (Value × Option Nat × Ts4)}, ClsOk X hds2 l2 → wCl X.K Wout D l2 cls d σ2 H2 →
        wpAny (model X.prog X.w) X.A (handleBy (.ref a) X.env hds2) (SP X pins D) X.xe { s' with heap := hL } := by
      intro hds2 l2 hk
      induction hk with
      | nil =>
        intro w
        refine wpAny_handleBy_nil ?_
        obtain ⟨m1, m2, m3, oeR, vsR, TR, oTR, tsR, heR, hzR, hdR, hR1, hRr⟩ := id ld3
        unfold PySem.passOn
        refine wpAny_bind (wpAny_field heR hdR hR1 ?_)
        rw [if_neg (show ¬ ((Value.ref TR == Value.none) = true) from by simp)]
        have out : wpAny (model X.prog X.w) X.A (setFlight (.ref a) X.env.frame) (fun _ s4 => wpAny (model X.prog X.w) X.A (throw (.ref a) : Sem Flow) (SP X pins D) X.xe s4) X.xe { s' with heap := hL } := by
          rw [hfr0]
          refine HandSPX.setFlight_upZ ld3 fun hU hhU upU => wpAny_throw (tk _ _ ?_)
          exact ⟨a, B, sI, pins, σ2, H2, cls, d, rfl, J0, nb, (up.trans upL).trans upU, .inr (.inr (by rw [hst]; exact hhU)), na, os, ag, w⟩
        first
          | exact wpAny_bind (wpAny_pure (wpAny_bind out))
          | exact wpAny_bind out
      | @cons x c n i ts b₀ suite np pos2 hds3 l3 hc hn hsu r ih =>
        intro w
        obtain ⟨b, hb1, hyes, hno⟩ := w
        refine wpAny_handleBy_cons (codeAny_handlers_test ?_) (by intro q; cases q)
        have LTy : PySem.W.Looks (model X.prog X.w) hL (typeOf (.ref a)) cls := fun A Q E s k q => wpAny_typeOf_ref (k _ _ heL) (by rw [hzL.1]; exact q)
        have LMa := PySem.W.exm_one (M := model X.prog X.w) (JL.kIn) LTy hb1
        have tst : ∀ {Q : Value → Shared → Prop} {E : Value → Shared → Prop}, Q c { s' with heap := hL } → wpAny (model X.prog X.w) (X.A.mark (some (.ref a))) (eval (.Name x np) X.env) Q E { s' with heap := hL } := fun {Q E} q => by
          obtain ⟨hg, hdbg, hm | ⟨hm, hv, hnn⟩⟩ := hc
          · exact ld_glob (X := X.suite a ((a, oeL) :: (X.pn ++ pins))) SL hg hm q hdbg
          · exact ld_blt (X := X.suite a ((a, oeL) :: (X.pn ++ pins))) SL hg hm hv q hnn hdbg
        refine tst (LMa.here ?_)
        cases b with
        | false =>
          show wpAny _ X.A (handleBy (.ref a) X.env hds3) _ _ _
          exact ih (hno rfl)
        | true =>
          have wish := hyes rfl a na
          match n, i, hn with
          | none, none, _ =>
            refine codeAny_handlers_suite (HandSPX.lands_againZ ld3 fun hM ld4 upM => ?_)
            have JM : Inv X pins σ2 H2 { s' with heap := hM } := J0.landed nb ld4.1 ((up.trans upL).trans upM) os ag
            obtain ⟨oeM, vsM, heM, hzM, hdM⟩ := ld4.there
            have SM := JM.suite heM hdM na aL aF
            refine wpAny_mono ((hsu a oeM cls d (X.pn ++ pins) hzM ⟨_, hdM⟩).run [] _ _ H2 _ SM wish) (fun f sE hE => ?_) (fun _ _ z => False.elim z)
            cases f with
            | ret u =>
              obtain ⟨vE, σE, HE, SE, rE, qE⟩ := hE
              exact ⟨_, _, _, SE.unsuite okX, rE, qE⟩
            | next =>
              obtain ⟨σE, HE, SE, qE⟩ := hE
              exact ⟨_, _, SE.unsuite okX, qE⟩
            | brk =>
              obtain ⟨σE, HE, SE, qE⟩ := hE
              exact ⟨_, _, SE.unsuite okX, qE⟩
            | cont =>
              obtain ⟨σE, HE, SE, qE⟩ := hE
              exact ⟨_, _, SE.unsuite okX, qE⟩
          | some n, some i, hni =>
            obtain ⟨hi, hln⟩ := hni
            refine codeAny_handlers_suite_as (HandSPX.lands_againZ ld3 fun hM ld4 upM => ?_)
            have JM : Inv X pins σ2 H2 { s' with heap := hM } := J0.landed nb ld4.1 ((up.trans upL).trans upM) os ag
            obtain ⟨oeM, vsM, heM, hzM, hdM⟩ := ld4.there
            have SM := JM.suite heM hdM na aL aF
            refine store_ok (X := X.suite a ((a, oeM) :: (X.pn ++ pins))) (v := .ref a) SM hN hi (.inl hln) rfl (fun sN SN => ?_) (.inr hln)
            refine wpAny_mono ((hsu a oeM cls d (X.pn ++ pins) hzM ⟨_, hdM⟩).run [] sN _ H2 _ SN wish) (fun f sE hE => ?_) (fun _ _ z => False.elim z)
            have fin : ∀ {σE : L2.St} {HE : Hp} {Q : Shared → Prop}, Inv (X.suite a ((a, oeM) :: (X.pn ++ pins))) [] σE HE sE → (∀ s7, Inv X pins (σE.set i none) HE s7 → Q s7) →
                wpAny (model X.prog X.w) X.A (do bindName X.env n .none; unbindBehindTheSuite X.env n pos2) (fun _ s7 => Q s7) X.xe sE := fun {σE HE Q} SE hq => gone_ok (SE.unsuite okX) hN hi hln hq
            cases f with
            | ret u =>
              obtain ⟨vE, σE, HE, SE, rE, qE⟩ := hE
              exact fin SE fun s7 J7 => ⟨_, _, _, J7, rE, qE⟩
            | next =>
              obtain ⟨σE, HE, SE, qE⟩ := hE
              exact fin SE fun s7 J7 => ⟨_, _, J7, qE⟩
            | brk =>
              obtain ⟨σE, HE, SE, qE⟩ := hE
              exact fin SE fun s7 J7 => ⟨_, _, J7, qE⟩
            | cont =>
              obtain ⟨σE, HE, SE, qE⟩ := hE
              exact fin SE fun s7 J7 => ⟨_, _, J7, qE⟩
    exact go hh w
  · cases f with
    | ret u =>
      obtain ⟨v, σ2, H2, JT, r, q⟩ := hsp
      exact ⟨v, σ2, H2, JT.ofTry okX, r, q⟩
    | next =>
      obtain ⟨σ2, H2, JT, q⟩ := hsp
      exact wpAny_execs_nil ⟨σ2, H2, JT.ofTry okX, q⟩
    | brk =>
      obtain ⟨σ2, H2, JT, q⟩ := hsp
      exact ⟨σ2, H2, JT.ofTry okX, q⟩
    | cont =>
      obtain ⟨σ2, H2, JT, q⟩ := hsp
      exact ⟨σ2, H2, JT.ofTry okX, q⟩
end
end PD
set_option maxHeartbeats 2000000
namespace PD
open PySem L2 PySem.Spec PyProof.Rows
/-! ### try .. except C1 as e .. except C2 .., by data -/
structure ClD where
  C : Addr
  i : Option Nat
  ts : Addr → Option Addr → TSD
def suiteN : Option Nat → EndsD → EndsD
  | none, E => { nx := E.nx, rt := E.rt, bk := E.bk, ct := E.ct, ex := noX }
  | some i, E => suiteE i E
def setN : Option Nat → D → Rho → Rho
  | none, _, ρ => ρ
  | some i, d, ρ => ρ.set i (some (.v d))
def caught (cl : ClD) (E : EndsD) (e : Exn) (ρ : Rho) : Prop := match e.fs with
  | none => ∀ a, cl.ts a none (suiteN cl.i E) (setN cl.i (.obj a) ρ)
  | some fs => ∀ a dx, cl.ts a (some dx) (suiteN cl.i E) (setN cl.i (.exn a e.C dx fs) ρ)
def catchD (E : EndsD) : List ClD → Exn → Rho → Prop
  | [], e, ρ => E.ex e ρ
  | cl :: r, e, ρ => (e.C = cl.C → caught cl E e ρ) ∧ (e.C ≠ cl.C → catchD E r e ρ)
def tryCE (Cs : List Addr) (cls : List ClD) (E : EndsD) : EndsD := { nx := E.nx, rt := E.rt, bk := E.bk, ct := E.ct, ex := fun e ρ => e.C ∈ Cs ∧ catchD E cls e ρ }
def dTryCl (Cs : List Addr) (cls : List ClD) (tb : TSD) : TSD := fun E ρ => tb (tryCE Cs cls E) ρ
def exmTab (K : PySem.W.Frag) (Cs Ds : List Addr) : Bool := Cs.all fun c => Ds.all fun d => decide (PySem.W.exmOne K (.ref c) (.ref d) = some (decide (c = d)))
theorem exmTab_at {K : PySem.W.Frag} {Cs Ds : List Addr} (h : exmTab K Cs Ds = true) {c d : Addr} (hc : c ∈ Cs) (hd : d ∈ Ds) : PySem.W.exmOne K (.ref c) (.ref d) = some (decide (c = d)) :=
  of_decide_eq_true (List.all_eq_true.mp (List.all_eq_true.mp h c hc) d hd)
/-- two classes of the table are unlike -/
theorem exmTab_ne {K : PySem.W.Frag} {c d : Addr} (h : PySem.W.exmOne K (.ref c) (.ref d) = some false) (h' : PySem.W.exmOne K (.ref c) (.ref c) = some true) : c ≠ d := fun e => by
  rw [← e, h'] at h
  cases h
inductive ClsD (X : Cx) : List ExceptHandler → List ClD → Prop
  | nil : ClsD X [] []
  | cons {x : Str} {C : Addr} {n : Option Str} {i : Option Nat} {ts : Addr → Option Addr → TSD} {b₀ : Stmt} {suite : List Stmt} {np pos' : Pos} {hds : List ExceptHandler} {l : List ClD} (hg : Gl X x) (hm : X.mg x = some (.ref C)) (hn : NmOk X n i)
      (hsu : ∀ (a : Addr) (oe : Obj) (d : Option Addr) (pn : List (Addr × Obj)), Zc (.ref C) d oe → (∃ vs, oe.data = .fields vs) → DSs (X.suite a ((a, oe) :: pn)) (b₀ :: suite) (ts a d)) (r : ClsD X hds l)
      (hdb : (x == ("__debug__" : Str)) = false := by decide) : ClsD X (.ExceptHandler (some (.Name x np)) n (b₀ :: suite) pos' :: hds) (⟨C, i, ts⟩ :: l)
def tsOf (K : PySem.W.Frag) (cl : ClD) : Ts4 := fun a cls d D σ H => cls = .ref cl.C ∧ LS K noW (cl.ts a d) D σ H
def clOf (K : PySem.W.Frag) (cl : ClD) : Value × Option Nat × Ts4 := (.ref cl.C, cl.i, tsOf K cl)
theorem ClsD.ok {X : Cx} : ∀ {hds : List ExceptHandler} {l : List ClD}, ClsD X hds l → ClsOk X hds (l.map (clOf X.K))
  | _, _, .nil => .nil
  | _, _, .cons (C := C) hg hm hn hsu r hdb => .cons ⟨hg, hdb, .inl hm⟩ hn (fun a oe cls d pn hz hf => ⟨fun pins s σ H D I ⟨e1, q⟩ => by
      have e1 : cls = .ref C := e1
      subst e1
      exact (hsu a oe d pn hz hf noW takes_none5 PassesOwn.never).run pins s σ H D I q⟩) r.ok
section
variable {X : Cx} {body : List Stmt} {hd₀ : ExceptHandler} {hds : List ExceptHandler} {cls : List ClD} {Cs : List Addr} {pos : Pos} {tb : TSD}
/-- the wish at a clause, in the slots -/
theorem suiteN_ok {K : PySem.W.Frag} {W : WX} {G : Gd} {F F1 : Fz} {E : EndsD} {D : Ends} (o : EndsOk K W G F E D) (l : Fle F F1) : ∀ i : Option Nat, EndsOk K noW G F1 (suiteN i E) (nmE i D)
  | none => ⟨fun ρ2 σ2 F2 H2 R2 r3 l2 q3 => o.nx _ _ F2 H2 R2 r3 (l.trans l2) q3, fun x ρ2 v σ2 F2 H2 R2 T r3 l2 => o.rt x ρ2 v σ2 F2 H2 R2 T r3 (l.trans l2), fun ρ2 σ2 F2 H2 R2 r3 l2 q3 => o.bk _ _ F2 H2 R2 r3 (l.trans l2) q3,
      fun ρ2 σ2 F2 H2 R2 r3 l2 q3 => o.ct _ _ F2 H2 R2 r3 (l.trans l2) q3, fun σ2 => nox_post⟩
  | some i => ⟨fun ρ2 σ2 F2 H2 R2 r3 l2 q3 => o.nx _ _ F2 H2 R2 (r3.wild i none) (l.trans l2) q3, fun x ρ2 v σ2 F2 H2 R2 T r3 l2 => o.rt x ρ2 v σ2 F2 H2 R2 T r3 (l.trans l2),
      fun ρ2 σ2 F2 H2 R2 r3 l2 q3 => o.bk _ _ F2 H2 R2 (r3.wild i none) (l.trans l2) q3, fun ρ2 σ2 F2 H2 R2 r3 l2 q3 => o.ct _ _ F2 H2 R2 (r3.wild i none) (l.trans l2) q3, fun σ2 => nox_post⟩
theorem setN_ok {K : PySem.W.Frag} {G : Gd} {F : Fz} {H : Hp} {R : Nat → Addr → Prop} {σ : L2.St} {ρ : Rho} {a : Addr} {d : D} (r : Rp K G F H R σ ρ) (h : Den K F (.ref a) d) : ∀ i : Option Nat, ∃ R', Rp K G F H R' (nmS i a σ) (setN i d ρ)
  | none => ⟨R, r⟩
  | some i => ⟨_, r.set (i := i) (x := .v d) (v := .ref a) (T := NoR) .no h (fun b z => nomatch z)⟩
theorem catch_ok {K : PySem.W.Frag} {W : WX} {G : Gd} {F F1 : Fz} {H1 : Hp} {R1 : Nat → Addr → Prop} {T : Addr → Prop} {E : EndsD} {D : Ends} {σ1 : L2.St} {e : Exn} {ρ1 : Rho} {dx : Option Addr} (o : EndsOk K W G F E D) (r1 : Rp K G F1 H1 R1 σ1 ρ1) (l1 : Fle F F1) (t1 : Tmp G F1 H1 R1 T)
    (ea : ExAt K F1 H1 T e dx) : ∀ {cls : List ClD}, (∀ cl ∈ cls, PySem.W.exmOne K (.ref e.C) (.ref cl.C) = some (decide (e.C = cl.C))) → catchD E cls e ρ1 → wCl K W D (cls.map (clOf K)) (.ref e.C) dx σ1 H1
  | [], _, q => o.ex σ1 e ρ1 dx F1 H1 R1 T r1 l1 t1 ea q
  | cl :: r, hk, ⟨q1, q2⟩ => by
    refine ⟨decide (e.C = cl.C), hk cl List.mem_cons_self, fun hb a na => ?_, fun hb => catch_ok o r1 l1 t1 ea (fun c hc => hk c (List.mem_cons_of_mem _ hc)) (q2 (of_decide_eq_false hb))⟩
    have eC := of_decide_eq_true hb
    have q := q1 eC
    refine ⟨by rw [eC], ?_⟩
    unfold ExAt at ea
    unfold caught at q
    cases hf : e.fs with
    | none =>
      rw [hf] at ea q
      have ea : dx = none := ea
      subst ea
      obtain ⟨R2, r2⟩ := setN_ok r1 (.obj a) cl.i
      exact ⟨G, F1, R2, _, _, r2, q a, suiteN_ok o l1 cl.i⟩
    | some fs =>
      rw [hf] at ea q
      obtain ⟨d, vs, rfl, td, hd, df⟩ := ea
      obtain ⟨n1, n2, n3, n4⟩ := t1 d td
      have r2 := r1.frz hd n1 n2 n4
      have den : Den K (updF F1 d (.hard (.xd vs))) (.ref a) (.exn a e.C d fs) := .exn (hp_of updF_same) (df.le (.upd n1))
      obtain ⟨R3, r3⟩ := setN_ok r2 den cl.i
      exact ⟨G, _, R3, _, _, r3, q a d, suiteN_ok o (l1.trans (.upd n1)) cl.i⟩
theorem ds_tryCl (hs : X.stack = X.env :: X.outer) (hf : X.env.frame = some X.env.locals) (hN : X.N.Nodup) (hk : exmTab X.K Cs (cls.map (·.C)) = true)
    (hb : ∀ (pn : List (Addr × Obj)) (xe : Value → Shared → Prop), DSs (X.tr pn xe) body tb) (hh : ClsD X (hd₀ :: hds) cls) : DS X (.Try body (hd₀ :: hds) [] [] pos) (dTryCl Cs cls tb) := fun W tk po =>
  ps_imp (ps_tryCl (tb := fun W => LS X.K W tb) hs hf hN tk (fun W pn xe tk' po' => hb pn xe W tk' po') hh.ok) fun D σ H ⟨G, F, R, ρ, E, r, q, o⟩ =>
    ⟨G, F, R, ρ, tryCE Cs cls E, r, q, ⟨o.nx, o.rt, o.bk, o.ct, fun σ1 e ρ1 dx F1 H1 R1 T r1 l1 t1 ea ⟨e1, q1⟩ =>
      catch_ok o r1 l1 t1 ea (fun cl hc => exmTab_at hk e1 (List.mem_map_of_mem hc)) q1⟩⟩
end
/-! ### what the suite asks of the exception -/
def isX (a : Addr) (dd : Option Addr) : D → Prop
  | .obj b => b = a ∧ dd = none
  | .exn b _ dx _ => b = a ∧ dd = some dx
  | _ => False
theorem isX_ref {K : PySem.W.Frag} {F : Fz} {H : Hp} {v : V} {a : Addr} {dd : Option Addr} {d : D} (f : Fit F H) (s : See K F H v d) (h : isX a dd d) : v = .ref a ∧ ∀ dx, dd = some dx → ∃ fs, H dx = some (.xd fs) := by
  cases d with
  | obj b =>
    obtain ⟨h, e⟩ : b = a ∧ dd = none := h
    exact ⟨by rw [s.obj, h], fun dx z => by rw [e] at z; cases z⟩
  | exn b C dx fs =>
    obtain ⟨h, e⟩ : b = a ∧ dd = some dx := h
    subst h
    rcases s with s | ⟨R, bx, s, e⟩
    · cases s with
      | exn h1 _ =>
        refine ⟨rfl, fun dy z => ?_⟩
        rw [e] at z
        cases z
        exact ⟨_, f.rd h1⟩
    · cases bx <;> cases e
  | _ => exact h.elim
def dIsX (a : Addr) (dd : Option Addr) (b : Bool) (ta : TOD) : TED := fun ρ Q X => ta ρ (fun oa ρ1 => see1 ρ1 oa fun x => isX a dd x ∧ Q (.bl b) ρ1) X
def dIsXT (a : Addr) (dd : Option Addr) (b : Bool) (cs : List Addr) (ta : TOD) (tt : TED) : TED := fun ρ Q X => ta ρ (fun oa ρ1 => tt ρ1 (fun d ρ2 => (match d with
  | .tup ds => objsK ds cs
  | _ => False) ∧ see1 ρ2 oa fun x => isX a dd x ∧ Q (.bl b) ρ2) X) X
/-- e.f -/
def xfD (a : Addr) (dd : Option Addr) (C : Addr) (f : Str) (k : D → Prop) : D → Prop
  | .exn b C' dx fs => (b = a ∧ dd = some dx ∧ C' = C) ∧ (match fs.lookup f with
    | some d => k d
    | none => False)
  | _ => False
def dXf (a : Addr) (dd : Option Addr) (C : Addr) (f : Str) (ta : TOD) : TED := fun ρ Q X => ta ρ (fun oa ρ1 => see1 ρ1 oa (xfD a dd C f fun d => Q d ρ1)) X
section
variable {prog : Program} {w : World} {A : Around} {E : Value → Shared → Prop} {K : PySem.W.Frag}
open PySem.W in
/-- x.__class__ of an exception, its dict aside -/
theorem clsE {x Cc : Addr} {ox : Obj} {od : Option Obj} {h0 : Heap} {g : Array GenState} {dr : Drawn} {tk : Nat} {os : OsState} {Q : Option Value → Shared → Prop} (C : ExcC K Cc) (KX : K.In h0) (I : InstAt h0 x ox Cc od) (h : Q (some (.ref Cc)) ⟨h0, g, dr, tk + 1, os⟩) :
    wpAny (model prog w) A (getAttr? (.ref x) "__class__") Q E ⟨h0, g, dr, tk, os⟩ := by
  have fd : findObj K Cc od "__class__" = some (.bind (.builtin "getset_descriptor.__get__") (.builtin "object.__class__")) := by
    obtain ⟨cd, hc, _⟩ := any_some C.hd
    unfold findObj
    rw [hc, Option.bind_some, C.ha, Option.bind_some]
    simp [C.hn, C.ht]
  have Lt := I.type (M := model prog w)
  have Lg := looks_findIn (M := model prog w) KX C.hg
  have Lk := looks_findIn (M := model prog w) KX C.hk
  have Lf := looks_find (M := model prog w) KX I fd
  have sB : Looks (model prog w) h0 (isInstance (.ref x) (.type "BaseException")) true := Lt.andThen (looks_subIn KX C.hs)
  have n0 : (Value.builtin "BaseException.__getattribute__" == Value.builtin "object.__getattribute__") = false := by decide +kernel
  have n1 : (onTheHeap (Value.ref Cc) && Value.builtin "BaseException.__getattribute__" == Value.builtin "object.__getattribute__") = false := by rw [n0]; rfl
  have n2 : (false && onTheHeap (Value.builtin "BaseException.__getattribute__")) = false := rfl
  unfold getAttr? getAttrBy? getAttrBy
  refine wpAny_bind (wpAny_mkText (wpAny_bind (wpAny_attempt (wpAny_holding (wpAny_bind (Lt.at (wpAny_bind (Lg.at ?_))))))))
  show wpAny _ _ (if (onTheHeap (Value.ref Cc) && Value.builtin "BaseException.__getattribute__" == Value.builtin "object.__getattribute__") = true then _ else _) _ _ _
  rw [n1, if_neg Bool.false_ne_true]
  unfold getAttrByItsOwn hookBefore
  refine wpAny_bind ?_
  rw [if_pos (show onTheHeap (Value.ref Cc) = true from rfl)]
  refine Lk.at (wpAny_bind (wpAny_attempt (wpAny_holding ?_)))
  unfold callGetattribute
  rw [n2, if_neg Bool.false_ne_true]
  unfold boundAndCalled
  rw [PySem.F.excAttr_ValueError.ga.bind (.ref x)]
  refine wpAny_bind (wpAny_pure ?_)
  show wpAny _ _ (call (.builtin "BaseException.__getattribute__") [.ref x, .str "__class__" tk]) _ _ _
  refine wpAny_call (codeAny_call_builtin PySem.F.excAttr_ValueError.ga.plain PySem.F.entry_bexc_ga (@check_slot (model prog w) _ _ ⟨h0, g, dr, tk + 1, os⟩ "BaseException.__getattribute__" "BaseException" "__getattribute__" (.ref x) [.str "__class__" tk] [] _ (by decide +kernel) (by decide +kernel) sB (PySem.F.args_bexc_ga (.ref x) (.str "__class__" tk)) ?_))
  unfold Builtin.«object.__getattribute__»
  refine wpAny_bind (wpAny_of_eq (a := ((Value.ref x : Value), [Value.str "__class__" tk])) (by first | rfl | (simp only [slotArgs]; rfl)) ?_)
  refine wpAny_bind (wpAny_pure (wpAny_bind (Lt.at (wpAny_bind (Lf.at ?_)))))
  show wpAny _ _ (holding [Value.builtin "object.__class__"] (call (.builtin "getset_descriptor.__get__") [.builtin "object.__class__", .ref x, .ref Cc]) >>= ret) _ _ _
  refine wpAny_bind (wpAny_holding (wpAny_call (class_get (s := ⟨h0, g, dr, tk + 1, os⟩) (ox := ox) (od := od) KX I C.hm (wpAny_pure ?_))))
  show wpAny _ _ (handedOut (.ref Cc)) _ _ _
  rw [handedOut_of (v := .ref Cc) rfl]
  first
    | exact wpAny_pure (wpAny_pure h)
    | exact wpAny_pure h
    | exact wpAny_pure (wpAny_bind (wpAny_pure (wpAny_pure h)))
open PySem.W in
theorem kitE {x Cc : Addr} (C : ExcC K Cc) : KitX K (.ref x) (.ref Cc) (fun h => ∃ ox od, InstAt h x ox Cc od) := by
  obtain ⟨cd, hc, _⟩ := any_some C.hd
  have there : ∃ o : Obj, K.lookup Cc = some o ∧ o.data = .cls cd := by
    unfold clsIn at hc
    split at hc
    · rename_i q _ _ _ ho
      cases hc
      exact ⟨_, ho, rfl⟩
    · cases hc
  obtain ⟨oC, hoC, hdC⟩ := there
  refine ⟨fun _ _ _ ⟨_, _, I⟩ => I.type, fun M h X _ A Q E s k q => ?_, fun h tp dd its n sl X htp => Bool.eq_false_iff.mpr fun q => ?_, fun {prog w A E Q s} X ⟨ox, od, I⟩ q => ?_⟩
  · unfold isType loadHead
    refine wpAny_bind (wpAny_loadPart (k _ _ (X _ _ hoC)) ?_)
    rw [hdC]
    exact wpAny_pure q
  · have e : Cc = tp := Value.ref.inj (beq_iff_eq.mp q)
    subst e
    have z := (X _ _ hoC).symm.trans htp
    have z2 : oC = _ := Option.some.inj z
    rw [z2] at hdC
    cases hdC
  · obtain ⟨hh, g, dr, tk, os⟩ := s
    exact clsE C X I q
end
section
variable {X : Cx} {a C0 : Addr} {oe : Obj} {dd : Option Addr} {pn : List (Addr × Obj)}
def rIsX (K : PySem.W.Frag) (C0 a : Addr) (dd : Option Addr) : List V → Hp → VK → Prop := fun xs H Q => (∀ dx, dd = some dx → ∃ fs, H dx = some (.xd fs)) ∧ ∃ (c : V) (b : Bool), xs = [.ref a, c] ∧ Q (.bl b) H ∧
  ((∃ cv : Value, (∀ u, RelV c u → u = cv) ∧ PySem.W.kitOne K (.ref C0) cv = some b) ∨ ∃ (tp : Addr) (cs : List Addr), c = .ref tp ∧ SqT K H tp (cs.map V.ref) ∧ PySem.W.kitAny K (.ref C0) (cs.map Value.ref) = some b)
theorem call_isX (C : ExcC X.K C0) (hz : Zc (.ref C0) dd oe) (hf : ∃ vs, oe.data = .fields vs) : CallR (X.suite a ((a, oe) :: pn)) (.builtin "isinstance") (rIsX X.K C0 a dd) := by
  intro pins s σ H xs us Q I r h
  obtain ⟨hx, c, b, rfl, q, h⟩ := h
  cases r with
  | cons rx rr =>
    cases rr with
    | cons rt rr =>
      cases rr
      cases rx
      have hget := (I.pin (a, oe) (List.mem_append.mpr (.inl List.mem_cons_self))).1
      obtain ⟨fv, hv⟩ := hf
      have J : ∃ ox od, PySem.W.InstAt s.heap a ox C0 od := by
        obtain ⟨oc, od, oda, osl⟩ := oe
        obtain ⟨h1, h2⟩ := hz
        dsimp only at h1 h2 hv
        subst h1 h2 hv
        cases od with
        | none => exact ⟨_, none, hget, rfl, rfl, trivial⟩
        | some dx =>
          obtain ⟨fs, e⟩ := hx dx rfl
          have hd : ObjOk X.prog X.w H s.heap dx (.xd fs) := I.hok dx _ e
          obtain ⟨mA, ⟨o, _, _, ho, _⟩, _⟩ := hd
          exact ⟨_, some o, hget, rfl, rfl, ho⟩
      rcases h with ⟨cv, hcv, e⟩ | ⟨tp, cs, rfl, hT, e⟩
      · have ec := hcv _ rt
        subst ec
        exact PySem.W.kia_one (kitE C) I.kIn J e (fun z => nomatch z) fun tk => ⟨.bl b, H, I.tok tk, rfl, q⟩
      · cases rt
        obtain ⟨its, rv, ⟨o, h1, h2, n, h3⟩, _⟩ := I.tuple hT
        have e3 := vals_refs rv
        subst e3
        obtain ⟨oc, od, dt, sl⟩ := o
        simp only at h2 h3
        subst h2 h3
        exact PySem.W.kia_tup (kitE C) I.kIn J h1 e (fun z => nomatch z) fun tk => ⟨.bl b, H, I.tok tk, rfl, q⟩
variable {ae : Expr} {ta : TOD} {pos p pc : Pos} {b : Bool}
theorem de_isX {C : Addr} {cn : Str} (T : ExcC X.K C0) (hz : Zc (.ref C0) dd oe) (hf : ∃ vs, oe.data = .fields vs) (hk : kit1B X.K C0 C b = true) (ha : DO (X.suite a ((a, oe) :: pn)) ae ta) (hg : Gl (X.suite a ((a, oe) :: pn)) "isinstance") (hm : X.mg "isinstance" = none) (hv : bootBuiltins "isinstance" = some (.builtin "isinstance"))
    (gc : Gl (X.suite a ((a, oe) :: pn)) cn) (mc : X.mg cn = some (.ref C)) (hdb : (cn == ("__debug__" : Str)) = false := by decide)
    (hs : starEach [ae, .Name cn pc] X.env = (false, eval ae X.env) :: starEach [.Name cn pc] X.env := by rfl) (hs2 : starEach [.Name cn pc] X.env = (false, eval (.Name cn pc) X.env) :: starEach [] X.env := by rfl) (hpl : (backTo pos (starEach [.Name cn pc] X.env)).any (·.1) = false := by rfl) :
    DE (X.suite a ((a, oe) :: pn)) (.Call (.Name "isinstance" p) [ae, .Name cn pc] [] pos) (dIsX a dd b ta) := fun W tk =>
  pe_imp (pe_callB (X := X.suite a ((a, oe) :: pn)) (call_isX (dd := dd) T hz hf) hg hm hv (pa_cons (ha W tk) (pa_cons (pe_glob (X := X.suite a ((a, oe) :: pn)) (v := .ref C) gc mc rfl hdb) pa_nil hs2) hs) (by decide) (by decide) hs hpl) fun σ H Q ⟨G, F, R, ρ, Qd, Xd, r, q, n, x⟩ =>
    ⟨G, F, R, ρ, _, Xd, r, q, fun oa ρ1 v F1 H1 R1 r1 l1 o1 q1 => by
      obtain ⟨d, ed, e1, q1⟩ := see1_of q1
      obtain ⟨ev, ex⟩ := isX_ref r1.fit (r1.look o1 ed) e1
      subst ev
      exact ⟨ex, .ref C, b, rfl, n (.bl b) ρ1 (.bl b) F1 H1 R1 r1 l1 (.bl b) q1, .inl ⟨.ref C, fun u hu => hu, of_decide_eq_true hk⟩⟩, x⟩
theorem de_isXV (T : ExcC X.K C0) (hz : Zc (.ref C0) dd oe) (hf : ∃ vs, oe.data = .fields vs) (hk : kitVB X.K C0 b = true) (ha : DO (X.suite a ((a, oe) :: pn)) ae ta) (hg : Gl (X.suite a ((a, oe) :: pn)) "isinstance") (hm : X.mg "isinstance" = none) (hv : bootBuiltins "isinstance" = some (.builtin "isinstance"))
    (gc : Gl (X.suite a ((a, oe) :: pn)) "ValueError") (mc : X.mg "ValueError" = none) (vc : bootBuiltins "ValueError" = some (.type "ValueError"))
    (hs : starEach [ae, .Name "ValueError" pc] X.env = (false, eval ae X.env) :: starEach [.Name "ValueError" pc] X.env := by rfl) (hs2 : starEach [.Name "ValueError" pc] X.env = (false, eval (.Name "ValueError" pc) X.env) :: starEach [] X.env := by rfl) (hpl : (backTo pos (starEach [.Name "ValueError" pc] X.env)).any (·.1) = false := by rfl) :
    DE (X.suite a ((a, oe) :: pn)) (.Call (.Name "isinstance" p) [ae, .Name "ValueError" pc] [] pos) (dIsX a dd b ta) := fun W tk =>
  pe_imp (pe_callB (X := X.suite a ((a, oe) :: pn)) (call_isX (dd := dd) T hz hf) hg hm hv (pa_cons (ha W tk) (pa_cons (pe_bltn (X := X.suite a ((a, oe) :: pn)) (v := .ty "ValueError") gc mc vc rfl) pa_nil hs2) hs) (by decide) (by decide) hs hpl) fun σ H Q ⟨G, F, R, ρ, Qd, Xd, r, q, n, x⟩ =>
    ⟨G, F, R, ρ, _, Xd, r, q, fun oa ρ1 v F1 H1 R1 r1 l1 o1 q1 => by
      obtain ⟨d, ed, e1, q1⟩ := see1_of q1
      obtain ⟨ev, ex⟩ := isX_ref r1.fit (r1.look o1 ed) e1
      subst ev
      exact ⟨ex, .ty "ValueError", b, rfl, n (.bl b) ρ1 (.bl b) F1 H1 R1 r1 l1 (.bl b) q1, .inl ⟨.type "ValueError", fun u hu => hu, of_decide_eq_true hk⟩⟩, x⟩
theorem de_isXT {cs : List Addr} {te : Expr} {tt : TED} (T : ExcC X.K C0) (hz : Zc (.ref C0) dd oe) (hf : ∃ vs, oe.data = .fields vs) (hk : kitTB X.K C0 cs b = true) (ha : DO (X.suite a ((a, oe) :: pn)) ae ta) (ht : DE (X.suite a ((a, oe) :: pn)) te tt) (hg : Gl (X.suite a ((a, oe) :: pn)) "isinstance") (hm : X.mg "isinstance" = none) (hv : bootBuiltins "isinstance" = some (.builtin "isinstance"))
    (hs : starEach [ae, te] X.env = (false, eval ae X.env) :: starEach [te] X.env := by rfl) (hs2 : starEach [te] X.env = (false, eval te X.env) :: starEach [] X.env := by rfl) (hpl : (backTo pos (starEach [te] X.env)).any (·.1) = false := by rfl) :
    DE (X.suite a ((a, oe) :: pn)) (.Call (.Name "isinstance" p) [ae, te] [] pos) (dIsXT a dd b cs ta tt) := fun W tk =>
  pe_imp (pe_callB (X := X.suite a ((a, oe) :: pn)) (call_isX (dd := dd) T hz hf) hg hm hv (pa_cons (ha W tk) (pa_cons (ht W tk) pa_nil hs2) hs) (by decide) (by decide) hs hpl) fun σ H Q ⟨G, F, R, ρ, Qd, Xd, r, q, n, x⟩ =>
    ⟨G, F, R, ρ, _, Xd, r, q, fun oa ρ1 v F1 H1 R1 r1 l1 o1 q1 => ⟨G, F1, R1, ρ1, _, Xd, r1, q1, fun d ρ2 w F2 H2 R2 r2 l2 hd ⟨q0, q2⟩ => by
      obtain ⟨d2, ed, e1, q2⟩ := see1_of q2
      obtain ⟨ev, ex⟩ := isX_ref r2.fit (r2.look (o1.le l2) ed) e1
      subst ev
      cases d with
      | tup ds =>
        obtain ⟨tp, vs, rfl, h1, h2⟩ := See.tup r2.fit (.inl hd)
        have e2 := objsD_of q0 h2
        subst e2
        exact ⟨ex, .ref tp, b, rfl, n (.bl b) ρ2 (.bl b) F2 H2 R2 r2 (l1.trans l2) (.bl b) q2, .inr ⟨tp, cs, rfl, h1, of_decide_eq_true hk⟩⟩
      | _ => exact q0.elim, x.le l1⟩, x⟩
theorem de_xf {f : Str} (T : XfC X.K C0) (hno : PySem.W.findIn X.K (.ref C0) f = some none) (hz : Zc (.ref C0) dd oe) (hf : ∃ vs, oe.data = .fields vs) (ha : DO (X.suite a ((a, oe) :: pn)) ae ta) (hb : attributeBase ae f X.env (eval ae X.env) = eval ae X.env := by rfl) :
    DE (X.suite a ((a, oe) :: pn)) (.Attribute ae f pos) (dXf a dd C0 f ta) := fun W tk =>
  pe_imp (pe_xf (X := X) (a := a) (C := C0) (cls := .ref C0) (d := dd) T hno hz hf (ha W tk) hb) fun σ H Q ⟨G, F, R, ρ, Qd, Xd, r, q, n, x⟩ =>
    ⟨G, F, R, ρ, _, Xd, r, q, fun oa ρ1 v F1 H1 R1 r1 l1 o1 q1 => by
      obtain ⟨d, ed, q2⟩ := see1_of q1
      have s1 := r1.look o1 ed
      cases d with
      | exn b2 C2 dx fs =>
        obtain ⟨⟨e1, e2, e3⟩, q3⟩ : (b2 = a ∧ dd = some dx ∧ C2 = C0) ∧ (match fs.lookup f with
          | some d => Qd d ρ1
          | none => False) := q2
        subst e1 e3
        rcases s1 with s1 | ⟨_, bx, _, e⟩
        · cases s1 with
          | exn h1 h2 =>
            cases l : fs.lookup f with
            | none => rw [l] at q3; exact q3.elim
            | some y =>
              rw [l] at q3
              obtain ⟨u, l1', hu⟩ := h2.lookup l
              exact ⟨rfl, rfl, dx, _, u, e2, r1.fit.rd h1, l1', n y ρ1 u F1 H1 R1 r1 l1 hu q3⟩
        · cases bx <;> cases e
      | _ => exact q2.elim, x⟩
end
end PD
set_option maxHeartbeats 1000000
namespace PD
open PySem L2 PySem.Spec PyProof.Rows
section
variable {ρ : Rho} {E : EndsD} {X : XD} {QE : D → Rho → Prop} {C C' C0 : Addr} {i : Nat} {oi : Option Nat} {tb : TSD} {cl : ClD} {cls : List ClD} {Cs : List Addr} {a b : Addr} {bb : Bool} {ta : TOD} {tt : TED} {te : TED} {e : Exn} {fld f : Str} {dd : Option Addr} {dx : Addr} {fs : List (Str × D)} {d : D} {k : D → Prop} {ts : Addr → Option Addr → TSD}
@[simp ↓] theorem s_dRaiseF : dRaiseF C fld te E ρ = te ρ (fun d ρ1 => E.ex ⟨C, some [(fld, d)]⟩ ρ1) E.ex := id rfl
@[simp ↓] theorem s_dTryCl : dTryCl Cs cls tb E ρ = tb (tryCE Cs cls E) ρ := id rfl
@[simp] theorem s_tryCE1 : (tryCE Cs cls E).nx = E.nx := id rfl
@[simp] theorem s_tryCE2 : (tryCE Cs cls E).rt = E.rt := id rfl
@[simp] theorem s_tryCE4 : (tryCE Cs cls E).bk = E.bk := id rfl
@[simp] theorem s_tryCE5 : (tryCE Cs cls E).ct = E.ct := id rfl
@[simp] theorem s_tryCE3 : (tryCE Cs cls E).ex e ρ = (e.C ∈ Cs ∧ catchD E cls e ρ) := id rfl
@[simp] theorem s_catch0 : catchD E [] e ρ = E.ex e ρ := id rfl
@[simp] theorem s_catch1 : catchD E (cl :: cls) e ρ = ((e.C = cl.C → caught cl E e ρ) ∧ (e.C ≠ cl.C → catchD E cls e ρ)) := id rfl
@[simp] theorem s_caught0 : caught ⟨C, oi, ts⟩ E ⟨C', none⟩ ρ = ∀ a, ts a none (suiteN oi E) (setN oi (.obj a) ρ) := id rfl
@[simp] theorem s_caught1 : caught ⟨C, oi, ts⟩ E ⟨C', some fs⟩ ρ = ∀ a dx, ts a (some dx) (suiteN oi E) (setN oi (.exn a C' dx fs) ρ) := id rfl
@[simp] theorem s_suiteN0 : suiteN none E = { nx := E.nx, rt := E.rt, bk := E.bk, ct := E.ct, ex := noX } := id rfl
@[simp] theorem s_suiteN1 : suiteN (some i) E = suiteE i E := id rfl
@[simp] theorem s_setN0 : setN none d ρ = ρ := id rfl
@[simp] theorem s_setN1 : setN (some i) d ρ = ρ.set i (some (.v d)) := id rfl
@[simp] theorem s_isX0 : isX a dd (.obj b) = (b = a ∧ dd = none) := id rfl
@[simp] theorem s_isX1 : isX a dd (.exn b C dx fs) = (b = a ∧ dd = some dx) := id rfl
@[simp ↓] theorem s_dIsX : dIsX a dd bb ta ρ QE X = ta ρ (fun oa ρ1 => see1 ρ1 oa fun x => isX a dd x ∧ QE (.bl bb) ρ1) X := id rfl
@[simp ↓] theorem s_dIsXT {cs : List Addr} : dIsXT a dd bb cs ta tt ρ QE X = ta ρ (fun oa ρ1 => tt ρ1 (fun d ρ2 => (match d with
  | .tup ds => objsK ds cs
  | _ => False) ∧ see1 ρ2 oa fun x => isX a dd x ∧ QE (.bl bb) ρ2) X) X := id rfl
@[simp] theorem s_xfD : xfD a dd C f k (.exn b C' dx fs) = ((b = a ∧ dd = some dx ∧ C' = C) ∧ (match fs.lookup f with
    | some d => k d
    | none => False)) := id rfl
@[simp ↓] theorem s_dXf : dXf a dd C f ta ρ QE X = ta ρ (fun oa ρ1 => see1 ρ1 oa (xfD a dd C f fun d => QE d ρ1)) X := id rfl
end
/-- over any list of data -/
theorem for_eqD {σ : Type} {chk : Rho → Prop} {g : TGD} {body : TSD} {E : EndsD} (st : σ → Rho) (I : List D → σ → Prop) (val : List D → σ → Prop) (l : List D) (s : σ) (h : I l s) (h0 : ∀ s, I [] s → (chk (st s) ∧ E.nx (st s) ↔ val [] s))
    (hs : ∀ a l s (R : Rho → Prop), I (a :: l) s → (∀ s', I l s' → (R (st s') ↔ val l s')) → ((chk (st s) ∧ g a (st s) fun ρ1 => body (toLp E R) ρ1) ↔ val (a :: l) s)) : dForL chk g body l E (st s) ↔ val l s := by
  have q := for_eqI (E := E) (fun d : D => d) st I val h0 hs l s h
  rw [show List.map (fun d : D => d) l = l from by simp] at q
  exact q
end PD
set_option maxHeartbeats 1000000
namespace PD
open PySem L2 PySem.Spec PyProof.Rows
/-! ### x in a tuple, by data of any depth -/
def fInT2 : D → D → (D → Prop) → Prop
  | x, .tup xs, P => SeqAt.shaped x.py = true ∧ SeqAt.shaped (D.tup xs).py = true ∧ P (.bl (xs.any fun z => PyData.eqv z.py x.py))
  | _, _, _ => False
def fNotInT2 : D → D → (D → Prop) → Prop
  | x, .tup xs, P => SeqAt.shaped x.py = true ∧ SeqAt.shaped (D.tup xs).py = true ∧ P (.bl (!(xs.any fun z => PyData.eqv z.py x.py)))
  | _, _, _ => False
theorem any_pyL (x : D) (xs : List D) : (xs.any fun z => PyData.eqv z.py x.py) = ((D.pyL xs).any fun z => PyData.eqv z x.py) := by
  induction xs with
  | nil => rfl
  | cons y ys ih => rw [D.pyL, List.any_cons, List.any_cons, ih]
section
variable {X : Cx}
theorem oInT2 (hu : X.A.units + 65 < cLine) : OpR X (compareOp .In) (rD X.K fInT2) := by
  intro pins s σ H x y v u Q I rx ry ⟨F, dx, dy, P, fit, sx, sy, h, k⟩
  cases dy with
  | tup xs =>
    obtain ⟨h1, h2, h3⟩ : SeqAt.shaped dx.py = true ∧ SeqAt.shaped (D.tup xs).py = true ∧ P (.bl (xs.any fun z => PyData.eqv z.py dx.py)) := by cases dx <;> exact h
    rw [any_pyL] at h3
    obtain ⟨as, r1⟩ := Dp.reads I _ x v (sx.dp fit h1) rx
    obtain ⟨bs, r2⟩ := Dp.reads I _ y u (sy.dp fit h2) ry
    exact SeqAt.in_tuple_reads r2 r1 (SeqAt.canLay_of_shaped h2) (SeqAt.canLay_of_shaped h1) (room_in_shaped h1 hu) ⟨.bl _, H, I, rfl, k _ _ F H (.refl fit) (.bl _) h3⟩
  | _ => cases dx <;> exact h.elim
theorem oNotInT2 (hu : X.A.units + 65 < cLine) : OpR X (compareOp .NotIn) (rD X.K fNotInT2) := by
  intro pins s σ H x y v u Q I rx ry ⟨F, dx, dy, P, fit, sx, sy, h, k⟩
  cases dy with
  | tup xs =>
    obtain ⟨h1, h2, h3⟩ : SeqAt.shaped dx.py = true ∧ SeqAt.shaped (D.tup xs).py = true ∧ P (.bl (!(xs.any fun z => PyData.eqv z.py dx.py))) := by cases dx <;> exact h
    rw [any_pyL] at h3
    obtain ⟨as, r1⟩ := Dp.reads I _ x v (sx.dp fit h1) rx
    obtain ⟨bs, r2⟩ := Dp.reads I _ y u (sy.dp fit h2) ry
    exact SeqAt.notIn_tuple_reads r2 r1 (SeqAt.canLay_of_shaped h2) (SeqAt.canLay_of_shaped h1) (room_in_shaped h1 hu) ⟨.bl _, H, I, rfl, k _ _ F H (.refl fit) (.bl _) h3⟩
  | _ => cases dx <;> exact h.elim
/-! ### a list, several times over -/
def repD : Nat → List D → List D
  | 0, _ => []
  | n + 1, xs => xs ++ repD n xs
def fRep : D → D → (D → Prop) → Prop
  | .lst xs, .int k, P => -(2 ^ 63) ≤ k ∧ k < 2 ^ 63 ∧ xs.length * k.toNat ≤ sizeLine ∧ P (.lst (repD k.toNat xs))
  | _, _, _ => False
theorem rep_den {K : PySem.W.Frag} {F : Fz} {vs : List V} {ds : List D} (h : DenL K F vs ds) : ∀ n : Nat, DenL K F (List.replicate n vs).flatten (repD n ds)
  | 0 => .nil
  | n + 1 => by
    rw [List.replicate_succ, List.flatten_cons]
    exact h.append (rep_den h n)
theorem oRep : OpR X (binaryOp .Mult) (rD X.K fRep) := by
  intro pins s σ H x y v u Q I rx ry ⟨F, dx, dy, P, fit, sx, sy, h, k⟩
  cases dx with
  | lst xs => cases dy with
    | int j =>
      obtain ⟨h1, h2, h3, h4⟩ := h
      obtain ⟨p, vs, rfl, hp, d1⟩ := sx.lst fit
      cases sy.int
      refine op_rep pins s σ H _ _ v u Q I rx ry ⟨p, j, vs, rfl, rfl, hp, h1, h2, by rw [d1.length]; exact h3, fun z hz => ?_⟩
      obtain ⟨g, d⟩ := Den.newL fit hz (rep_den d1 j.toNat)
      exact k _ _ _ _ g d h4
    | _ => exact h.elim
  | _ => exact h.elim
end
section
variable {P : D → Prop} {x : D} {xs : List D} {k : Int}
@[simp ↓] theorem s_fInT2 (h1 : shD 64 x = true) (h2 : shD 64 (.tup xs) = true) : fInT2 x (.tup xs) P = P (.bl (inE x xs)) :=
  have e : fInT2 x (.tup xs) P = (SeqAt.shaped x.py = true ∧ SeqAt.shaped (D.tup xs).py = true ∧ P (.bl (xs.any fun z => PyData.eqv z.py x.py))) := by cases x <;> rfl
  e.trans (propext ⟨fun h => h.2.2, fun h => ⟨shaped_of h1, shaped_of h2, h⟩⟩)
@[simp ↓] theorem s_fNotInT2 (h1 : shD 64 x = true) (h2 : shD 64 (.tup xs) = true) : fNotInT2 x (.tup xs) P = P (.bl (!inE x xs)) :=
  have e : fNotInT2 x (.tup xs) P = (SeqAt.shaped x.py = true ∧ SeqAt.shaped (D.tup xs).py = true ∧ P (.bl (!(xs.any fun z => PyData.eqv z.py x.py)))) := by cases x <;> rfl
  e.trans (propext ⟨fun h => h.2.2, fun h => ⟨shaped_of h1, shaped_of h2, h⟩⟩)
@[simp ↓] theorem s_fRep : fRep (.lst xs) (.int k) P = (-(2 ^ 63) ≤ k ∧ k < 2 ^ 63 ∧ xs.length * k.toNat ≤ sizeLine ∧ P (.lst (repD k.toNat xs))) := id rfl
theorem repD_map {α : Type} {enc : α → D} {l : List α} : ∀ n : Nat, repD n (l.map enc) = ((List.replicate n l).flatten).map enc
  | 0 => rfl
  | n + 1 => by rw [repD, repD_map n, List.replicate_succ, List.flatten_cons, List.map_append]
end
end PD
set_option maxHeartbeats 1000000
namespace PD
open PySem L2 PySem.Spec PyProof.Rows
/-! ### a + b of lists, an object of one's own -/
def catK (x y : D) (k : List D → Prop) : Prop := match x, y with
  | .lst xs, .lst ys => xs.length + ys.length ≤ sizeLine ∧ k (xs ++ ys)
  | _, _ => False
def dCat (ta tb : TOD) : TXD := fun ρ Q X => ta ρ (fun oa ρ1 => tb ρ1 (fun ob ρ2 => see2 ρ2 oa ob fun x y => catK x y fun zs => Q (.o (.lst zs)) ρ2) X) X
def rCatD (K : PySem.W.Frag) : R2 := fun x y H Q => ∃ (F : Fz) (dx dy : D) (P : List D → Prop), Fit F H ∧ See K F H x dx ∧ See K F H y dy ∧ catK dx dy P ∧ ∀ zs p vs, H p = none → DenL K F vs zs → P zs → Q (.ref p) (upd H p (.lst vs))
section
variable {X : Cx} {a b : Expr} {ta tb : TOD} {pos : Pos}
theorem oCatD : OpR X (binaryOp .Add) (rCatD X.K) := by
  intro pins s σ H x y v u Q I rx ry ⟨F, dx, dy, P, fit, sx, sy, h, k⟩
  cases dx with
  | lst xs => cases dy with
    | lst ys =>
      obtain ⟨h1, h2⟩ := h
      obtain ⟨p, vs, rfl, hp, d1⟩ := sx.lst fit
      obtain ⟨q, us, rfl, hq, d2⟩ := sy.lst fit
      exact op_cat pins s σ H _ _ v u Q I rx ry ⟨p, q, vs, us, rfl, rfl, hp, hq, by rw [d1.length, d2.length]; exact h1, fun z hz => k _ z _ hz (d1.append d2) h2⟩
    | _ => exact h.elim
  | _ => exact h.elim
theorem dx_cat (ha : DO X a ta) (hb : DO X b tb) : DX X (.BinOp a .Add b pos) (dCat ta tb) := fun W tk =>
  pe_imp (pe_op oCatD (ha W tk) (hb W tk)) fun σ H Q ⟨G, F, R, ρ, Qd, Xd, r, q, n, x⟩ =>
    ⟨G, F, R, ρ, _, Xd, r, q, fun oa ρ1 v F1 H1 R1 r1 l1 o1 q1 => ⟨G, F1, R1, ρ1, _, Xd, r1, q1, fun ob ρ2 w F2 H2 R2 r2 l2 o2 q2 => by
      obtain ⟨dx, ex, q2⟩ := see1_of q2
      obtain ⟨dy, ey, q2⟩ := see1_of q2
      refine ⟨F2, dx, dy, _, r2.fit, r2.look (o1.le l2) ex, r2.look o2 ey, q2, fun zs p vs hp dv qz => ?_⟩
      exact n (.o (.lst zs)) ρ2 (.ref p) F2 _ R2 (fun a => a = p) (r2.grow (.own r2.fit hp)) (l1.trans l2) (.new r2 hp) ⟨p, vs, rfl, rfl, upd_same, dv⟩ (fun b z => nomatch z) qz, x.le l1⟩, x⟩
end
section
variable {ρ : Rho} {QX : DV → Rho → Prop} {X : XD} {ta tb : TOD} {xs ys : List D} {k : List D → Prop}
@[simp ↓] theorem s_dCat : dCat ta tb ρ QX X = ta ρ (fun oa ρ1 => tb ρ1 (fun ob ρ2 => see2 ρ2 oa ob fun x y => catK x y fun zs => QX (.o (.lst zs)) ρ2) X) X := id rfl
@[simp ↓] theorem s_catK : catK (.lst xs) (.lst ys) k = (xs.length + ys.length ≤ sizeLine ∧ k (xs ++ ys)) := id rfl
end
mutual
theorem ev_self : ∀ {n : Nat} {d : D}, shD n d = true → eqvD d d = true
  | _, .non, _ => rfl
  | _, .bl b, _ => by cases b <;> rfl
  | _, .int i, _ => by simp
  | _, .str s, _ => by simp
  | 0, .tup xs, h => by simp [shD] at h
  | n + 1, .tup xs, h => by rw [ev_tt]; exact evs_self (n := n) (by simpa using h)
  | 0, .lst xs, h => by simp [shD] at h
  | n + 1, .lst xs, h => by rw [ev_ll]; exact evs_self (n := n) (by simpa using h)
  | _, .dic _, h => by simp [shD] at h
  | _, .ins _ _, h => by simp [shD] at h
  | _, .obj _, h => by simp [shD] at h
  | _, .exn _ _ _ _, h => by simp [shD] at h
  | _, .stm, h => by simp [shD] at h
  | _, .scr _, h => by simp [shD] at h
  | _, .fn _, h => by simp [shD] at h
theorem evs_self : ∀ {n : Nat} {ds : List D}, shDs n ds = true → eqvDs ds ds = true
  | _, [], _ => by simp
  | n, d :: ds, h => by
    have h' : shD n d = true ∧ shDs n ds = true := by simpa using h
    simp [ev_self h'.1, evs_self h'.2]
end
theorem shDs_app {n : Nat} {a b : List D} : shDs n (a ++ b) = (shDs n a && shDs n b) := by
  induction a with
  | nil => simp
  | cons x a ih => simp [ih, Bool.and_assoc]
theorem shDs_cons {n : Nat} {a : D} {b : List D} : shDs n (a :: b) = (shD n a && shDs n b) := by simp
end PD
set_option maxHeartbeats 0
namespace PDLaw
open PySem L2 PySem.Spec PyProof.Rows PD
def bodyT : List Stmt := PySem.Challenge.pw_onekept_k06_rule_terms_refused.main.body
def fileT : Str := PySem.Challenge.pw_onekept_k06_rule_terms_refused.main.file
structure Fs (P : Program) (w : World) (K : PySem.W.Frag) (mg : Str → Option Value) : Prop where
  sup_file : SupP P fileT
  free_len : mg "len" = none
  free_int : mg "int" = none
  def_law_stream : ∃ fd, FunD K "_law_stream" "_law_stream" (defArgs (nthS bodyT 20)) (defBody (nthS bodyT 20)) (defScope (nthS bodyT 20)) [] [] (He.ga K "_law_stream") fd
  keep_law_stream : PySem.W.keepIn K (.ref (He.ga K "_law_stream")) = true
  glo_law_stream : mg "_law_stream" = some (.ref (He.ga K "_law_stream"))
  def_law_draw : ∃ fd, FunD K "_law_draw" "_law_draw" (defArgs (nthS bodyT 21)) (defBody (nthS bodyT 21)) (defScope (nthS bodyT 21)) [] [] (He.ga K "_law_draw") fd
  keep_law_draw : PySem.W.keepIn K (.ref (He.ga K "_law_draw")) = true
  glo_law_draw : mg "_law_draw" = some (.ref (He.ga K "_law_draw"))
  free_range : mg "range" = none
  def_law_term : ∃ fd, FunD K "_law_term" "_law_term" (defArgs (nthS bodyT 22)) (defBody (nthS bodyT 22)) (defScope (nthS bodyT 22)) [] [] (He.ga K "_law_term") fd
  keep_law_term : PySem.W.keepIn K (.ref (He.ga K "_law_term")) = true
  glo_law_term : mg "_law_term" = some (.ref (He.ga K "_law_term"))
  free_enumerate : mg "enumerate" = none
  free_isinstance : mg "isinstance" = none
  free_tuple : mg "tuple" = none
  def_is_term : ∃ fd, FunD K "is_term" "is_term" (defArgs (nthS bodyT 16)) (defBody (nthS bodyT 16)) (defScope (nthS bodyT 16)) [] [] (He.ga K "is_term") fd
  keep_is_term : PySem.W.keepIn K (.ref (He.ga K "is_term")) = true
  glo_is_term : mg "is_term" = some (.ref (He.ga K "is_term"))
  sup_BadTerm : SupF K (He.ga K "BadTerm") (He.ma K (He.ga K "BadTerm") "__init__") "place" "place" fileT
  free_super : mg "super" = none
  glo_BadTerm : mg "BadTerm" = some (.ref (He.ga K "BadTerm"))
  free_list : mg "list" = none
  cls_Rule : Cls K (He.ga K "Rule")
  noat_Rule_terms : NoAttr K (He.ga K "Rule") "terms"
  def_Rule___init : ∃ fd, FunD K "__init__" "Rule.__init__" (defArgs (nthS (clsB (nthS bodyT 18)) 0)) (defBody (nthS (clsB (nthS bodyT 18)) 0)) (defScope (nthS (clsB (nthS bodyT 18)) 0)) [] [] (He.ma K (He.ga K "Rule") "__init__") fd
  mkr_Rule : Mk K (He.ga K "Rule") (He.ma K (He.ga K "Rule") "__init__")
  glo_Rule : mg "Rule" = some (.ref (He.ga K "Rule"))
  excc_BadTerm : ExcC K (He.ga K "BadTerm")
  kitT_BadTerm_BadCode_BadKind_BadOrder_BadPlace_BadPromise_BadRow : kitTB K (He.ga K "BadTerm") [He.ga K "BadCode", He.ga K "BadKind", He.ga K "BadOrder", He.ga K "BadPlace", He.ga K "BadPromise", He.ga K "BadRow"] false = true
  glo_BadRow : mg "BadRow" = some (.ref (He.ga K "BadRow"))
  glo_BadPromise : mg "BadPromise" = some (.ref (He.ga K "BadPromise"))
  glo_BadPlace : mg "BadPlace" = some (.ref (He.ga K "BadPlace"))
  glo_BadOrder : mg "BadOrder" = some (.ref (He.ga K "BadOrder"))
  glo_BadKind : mg "BadKind" = some (.ref (He.ga K "BadKind"))
  glo_BadCode : mg "BadCode" = some (.ref (He.ga K "BadCode"))
  kitT_BadTerm_BadText_Breach_NothingToUndo : kitTB K (He.ga K "BadTerm") [He.ga K "BadText", He.ga K "Breach", He.ga K "NothingToUndo"] false = true
  glo_NothingToUndo : mg "NothingToUndo" = some (.ref (He.ga K "NothingToUndo"))
  glo_Breach : mg "Breach" = some (.ref (He.ga K "Breach"))
  glo_BadText : mg "BadText" = some (.ref (He.ga K "BadText"))
  kitV_BadTerm : kitVB K (He.ga K "BadTerm") true = true
  free_ValueError : mg "ValueError" = none
  kit1_BadTerm_OnekeptError : kit1B K (He.ga K "BadTerm") (He.ga K "OnekeptError") true = true
  glo_OnekeptError : mg "OnekeptError" = some (.ref (He.ga K "OnekeptError"))
  xf_BadTerm : XfC K (He.ga K "BadTerm")
  xfno_BadTerm_place : PySem.W.findIn K (.ref (He.ga K "BadTerm")) "place" = some none
  free_bool : mg "bool" = none
  exmT_BadTerm : exmTab K [He.ga K "BadTerm"] [He.ga K "BadTerm"] = true
  def_law_rule_or_place : ∃ fd, FunD K "_law_rule_or_place" "_law_rule_or_place" (defArgs (nthS bodyT 24)) (defBody (nthS bodyT 24)) (defScope (nthS bodyT 24)) [] [] (He.ga K "_law_rule_or_place") fd
  keep_law_rule_or_place : PySem.W.keepIn K (.ref (He.ga K "_law_rule_or_place")) = true
  glo_law_rule_or_place : mg "_law_rule_or_place" = some (.ref (He.ga K "_law_rule_or_place"))
  def_Rule_text : ∃ fd, FunD K "text" "Rule.text" (defArgs (nthS (clsB (nthS bodyT 18)) 2)) (defBody (nthS (clsB (nthS bodyT 18)) 2)) (defScope (nthS (clsB (nthS bodyT 18)) 2)) [] [] (He.ma K (He.ga K "Rule") "text") fd
  meth_Rule_text : Meth K (He.ga K "Rule") "text" (He.ma K (He.ga K "Rule") "text")
  find_Rule___iter__ : PySem.W.findIn K (.ref (He.ga K "Rule")) "__iter__" = some (some (.ref (He.ma K (He.ga K "Rule") "__iter__")))
  fn_Rule___iter__ : PySem.W.isFn K (.ref (He.ma K (He.ga K "Rule") "__iter__")) = true
  free_iter : mg "iter" = none
  def_Rule___iter : ∃ fd, FunD K "__iter__" "Rule.__iter__" (defArgs (nthS (clsB (nthS bodyT 18)) 4)) (defBody (nthS (clsB (nthS bodyT 18)) 4)) (defScope (nthS (clsB (nthS bodyT 18)) 4)) [] [] (He.ma K (He.ga K "Rule") "__iter__") fd
  isc_Rule : isCB K (He.ga K "Rule") = true
  def_law_wrong : ∃ fd, FunD K "_law_wrong" "_law_wrong" (defArgs (nthS bodyT 23)) (defBody (nthS bodyT 23)) (defScope (nthS bodyT 23)) [] [] (He.ga K "_law_wrong") fd
  keep_law_wrong : PySem.W.keepIn K (.ref (He.ga K "_law_wrong")) = true
  glo_law_wrong : mg "_law_wrong" = some (.ref (He.ga K "_law_wrong"))
  def_law : ∃ fd, FunD K "law" "law" (defArgs (nthS bodyT 25)) (defBody (nthS bodyT 25)) (defScope (nthS bodyT 25)) [] [] (He.ga K "law") fd
  glo_law : mg "law" = some (.ref (He.ga K "law"))
section
variable {P : Program} {w : World} {K : PySem.W.Frag} {mg : Str → Option Value} {base : Heap}
/-! _law_stream -/
abbrev st_law_stream : Stmt := nthS bodyT 20
abbrev sc_law_stream : Scope := defScope st_law_stream
def N_law_stream : List Str := ["_law_script", "_law_k", "_law_number", "_law_mixed"]
theorem hS_law_stream : FnScope N_law_stream ["_law_script", "_law_k"] sc_law_stream := ⟨rfl, rfl, rfl, by decide +kernel, rfl, by decide +kernel, by decide +kernel⟩
def rd_law_stream_5' (K : PySem.W.Frag) : TSD :=
  (dRet (dStm (dLst (dCons (dGive 2) (dCons (dGive 3) dNil)))))
theorem rd_law_stream_5 {K : PySem.W.Frag} {E : EndsD} {ρ : Rho} : rd_law_stream_5' K E ρ = (dRet (dStm (dLst (dCons (dGive 2) (dCons (dGive 3) dNil))))) E ρ := id rfl
def rd_law_stream_4' (K : PySem.W.Frag) : TSD :=
  (dSeq (dIfS (dTest (dOp fLt (dSlotH 2) (dOpd (dOp fPow (dOpd (dC (.int 10))) (dOpd (dC (.int 18))))))) (dAsg 2 (dXof (dC (.int 0)))) dNext) (rd_law_stream_5' K))
theorem rd_law_stream_4 {K : PySem.W.Frag} {E : EndsD} {ρ : Rho} : rd_law_stream_4' K E ρ = (dSeq (dIfS (dTest (dOp fLt (dSlotH 2) (dOpd (dOp fPow (dOpd (dC (.int 10))) (dOpd (dC (.int 18))))))) (dAsg 2 (dXof (dC (.int 0)))) dNext) (rd_law_stream_5' K)) E ρ := id rfl
def rd_law_stream_3' (K : PySem.W.Frag) : TSD :=
  (dSeq (dAsg 3 (dXof (dOp fMod (dOpd (dOp fAdd (dOpd (dOp fAdd (dOpd (dFz (dC1 fInt (dSlotH 2)))) (dOpd (dOp fMul (dOpd (dC (.int 100))) (dSlotH 1))))) (dOpd (dC (.int 5))))) (dOpd (dC (.int 1009)))))) (rd_law_stream_4' K))
theorem rd_law_stream_3 {K : PySem.W.Frag} {E : EndsD} {ρ : Rho} : rd_law_stream_3' K E ρ = (dSeq (dAsg 3 (dXof (dOp fMod (dOpd (dOp fAdd (dOpd (dOp fAdd (dOpd (dFz (dC1 fInt (dSlotH 2)))) (dOpd (dOp fMul (dOpd (dC (.int 100))) (dSlotH 1))))) (dOpd (dC (.int 5))))) (dOpd (dC (.int 1009)))))) (rd_law_stream_4' K)) E ρ := id rfl
def rd_law_stream_2' (K : PySem.W.Frag) : TSD :=
  (dSeq (dIfS (dTest (dOp fLt (dSlotH 2) (dOpd (dC (.int 0))))) (dAsg 2 (dXof (dOp fSub (dOpd (dC (.int 1))) (dOpd (dOp fMul (dOpd (dC (.int 2))) (dSlotH 2)))))) dNext) (rd_law_stream_3' K))
theorem rd_law_stream_2 {K : PySem.W.Frag} {E : EndsD} {ρ : Rho} : rd_law_stream_2' K E ρ = (dSeq (dIfS (dTest (dOp fLt (dSlotH 2) (dOpd (dC (.int 0))))) (dAsg 2 (dXof (dOp fSub (dOpd (dC (.int 1))) (dOpd (dOp fMul (dOpd (dC (.int 2))) (dSlotH 2)))))) dNext) (rd_law_stream_3' K)) E ρ := id rfl
def rd_law_stream_1' (K : PySem.W.Frag) : TSD :=
  (dSeq (dIfS (dTest (dOp fLt (dSlotH 1) (dOpd (dFz (dC1 fLen (dSlotH 0)))))) (dAsg 2 (dXof (dOp fIx (dSlotH 0) (dSlotH 1)))) dNext) (rd_law_stream_2' K))
theorem rd_law_stream_1 {K : PySem.W.Frag} {E : EndsD} {ρ : Rho} : rd_law_stream_1' K E ρ = (dSeq (dIfS (dTest (dOp fLt (dSlotH 1) (dOpd (dFz (dC1 fLen (dSlotH 0)))))) (dAsg 2 (dXof (dOp fIx (dSlotH 0) (dSlotH 1)))) dNext) (rd_law_stream_2' K)) E ρ := id rfl
def rd_law_stream_0' (K : PySem.W.Frag) : TSD :=
  (dSeq (dAsg 2 (dXof (dC (.int 0)))) (rd_law_stream_1' K))
theorem rd_law_stream_0 {K : PySem.W.Frag} {E : EndsD} {ρ : Rho} : rd_law_stream_0' K E ρ = (dSeq (dAsg 2 (dXof (dC (.int 0)))) (rd_law_stream_1' K)) E ρ := id rfl
def rd_law_stream' (K : PySem.W.Frag) : TSD :=
  (rd_law_stream_0' K)
theorem rd_law_stream {K : PySem.W.Frag} {E : EndsD} {ρ : Rho} : rd_law_stream' K E ρ = (rd_law_stream_0' K) E ρ := id rfl
def sp_law_stream (K : PySem.W.Frag) (args : List DV) (Q : DV → List DV → Prop) (X : Exn → List DV → Prop) (_ : W2 Q X := .mk) : Prop := args.length = 2 ∧ rd_law_stream' K (endsOf args Q X) (startD 4 args)
def sq_law_stream (K : PySem.W.Frag) : SpD := fun args Q X => sp_law_stream K args Q X
@[simp ↓] theorem sq_law_stream_at {K : PySem.W.Frag} {args : List DV} {Q : DV → List DV → Prop} {X : Exn → List DV → Prop} : sq_law_stream K args Q X = sp_law_stream K args Q X := id rfl
theorem bd_law_stream (f : Fs P w K mg) {fa : Addr} : BodyOk P w K mg base 0 N_law_stream "_law_stream" sc_law_stream fa (defBody st_law_stream) (rd_law_stream' K) := fun cdv A outer s H E hr => by
  have hS := hS_law_stream
  unfold rd_law_stream' rd_law_stream_0' rd_law_stream_1' rd_law_stream_2' rd_law_stream_3' rd_law_stream_4' rd_law_stream_5'
  exact (dss_cons (ds_asg (i := 2) hS.nd rfl (loc_of (sc := sc_law_stream) rfl (by decide +kernel)) (dx_of de_int) rfl (.inl rfl))
  (dss_cons (ds_if (dt_cmp oLt (do_var (pv_of (N := N_law_stream) (sc := sc_law_stream) rfl rfl rfl (by decide +kernel))) (do_of (de_fz (dx_c1 cLen (do_var (pv_of (N := N_law_stream) (sc := sc_law_stream) rfl rfl rfl (by decide +kernel))) (gl_of (sc := sc_law_stream) rfl (by decide +kernel)) f.free_len (by decide +kernel)))) (nomark _)) (dss_one (ds_asg (i := 2) hS.nd rfl (loc_of (sc := sc_law_stream) rfl (by decide +kernel)) (dx_of (de_ix (do_var (pv_of (N := N_law_stream) (sc := sc_law_stream) rfl rfl rfl (by decide +kernel))) (do_var (pv_of (N := N_law_stream) (sc := sc_law_stream) rfl rfl rfl (by decide +kernel))) (by intro _ _; rfl))) rfl (.inl rfl))) dss_nil)
  (dss_cons (ds_if (dt_cmp oLt (do_var (pv_of (N := N_law_stream) (sc := sc_law_stream) rfl rfl rfl (by decide +kernel))) (do_of de_int) (nomark _)) (dss_one (ds_asg (i := 2) hS.nd rfl (loc_of (sc := sc_law_stream) rfl (by decide +kernel)) (dx_of (de_op oSub (do_of de_int) (do_of (de_op oMul (do_of de_int) (do_var (pv_of (N := N_law_stream) (sc := sc_law_stream) rfl rfl rfl (by decide +kernel))))))) rfl (.inl rfl))) dss_nil)
  (dss_cons (ds_asg (i := 3) hS.nd rfl (loc_of (sc := sc_law_stream) rfl (by decide +kernel)) (dx_of (de_op oMod (do_of (de_op oAdd (do_of (de_op oAdd (do_of (de_fz (dx_t1 cInt (do_var (pv_of (N := N_law_stream) (sc := sc_law_stream) rfl rfl rfl (by decide +kernel))) (gl_of (sc := sc_law_stream) rfl (by decide +kernel)) f.free_int (by decide +kernel)))) (do_of (de_op oMul (do_of de_int) (do_var (pv_of (N := N_law_stream) (sc := sc_law_stream) rfl rfl rfl (by decide +kernel))))))) (do_of de_int))) (do_of de_int))) rfl (.inl rfl))
  (dss_cons (ds_if (dt_cmp oLt (do_var (pv_of (N := N_law_stream) (sc := sc_law_stream) rfl rfl rfl (by decide +kernel))) (do_of (de_op oPow (do_of de_int) (do_of de_int))) (nomark _)) (dss_one (ds_asg (i := 2) hS.nd rfl (loc_of (sc := sc_law_stream) rfl (by decide +kernel)) (dx_of de_int) rfl (.inl rfl))) dss_nil)
  (dss_one (ds_ret (dx_stm (dx_lst (da_cons (de_give (pv_of (N := N_law_stream) (sc := sc_law_stream) rfl rfl rfl (by decide +kernel))) (da_cons (de_give (pv_of (N := N_law_stream) (sc := sc_law_stream) rfl rfl rfl (by decide +kernel))) da_nil)))))))))))
theorem ok_law_stream (f : Fs P w K mg) : FnD P w K mg base 1 (He.ga K "_law_stream") [] (sq_law_stream K) := by
  obtain ⟨fd, F⟩ := f.def_law_stream
  exact ⟨⟨fd, _, [], fnD_body F hS_law_stream (bd_law_stream f) fun args Q X h => h, F.bindsN fun _ _ _ _ _ _ us hl => match us, hl with | [_, _], _ => rfl, .nil⟩⟩
/-! _law_draw -/
abbrev st_law_draw : Stmt := nthS bodyT 21
abbrev sc_law_draw : Scope := defScope st_law_draw
def N_law_draw : List Str := ["_law_stream_here", "_law_limit", "_law_found"]
theorem hS_law_draw : FnScope N_law_draw ["_law_stream_here", "_law_limit"] sc_law_draw := ⟨rfl, rfl, rfl, by decide +kernel, rfl, by decide +kernel, by decide +kernel⟩
def jn_law_draw_1' (K : PySem.W.Frag) : TSD :=
  (dSeq (dSetIx 0 (dC (.int 1)) (dOp fMod (dOpd (dOp fAdd (dOpd (dOp fMul (dOpd (dFz (dC1 fInt (dOpd (dOp fIx (dSlotH 0) (dOpd (dC (.int 1)))))))) (dOpd (dC (.int 11))))) (dOpd (dC (.int 7))))) (dOpd (dC (.int 1009)))))
  (dRet (dXof (dOp fMod (dOpd (dFz (dC1 fInt (dOpd (dOp fIx (dSlotH 0) (dOpd (dC (.int 1)))))))) (dSlotH 1)))))
theorem jn_law_draw_1 {K : PySem.W.Frag} {E : EndsD} {ρ : Rho} : jn_law_draw_1' K E ρ = (dSeq (dSetIx 0 (dC (.int 1)) (dOp fMod (dOpd (dOp fAdd (dOpd (dOp fMul (dOpd (dFz (dC1 fInt (dOpd (dOp fIx (dSlotH 0) (dOpd (dC (.int 1)))))))) (dOpd (dC (.int 11))))) (dOpd (dC (.int 7))))) (dOpd (dC (.int 1009)))))
  (dRet (dXof (dOp fMod (dOpd (dFz (dC1 fInt (dOpd (dOp fIx (dSlotH 0) (dOpd (dC (.int 1)))))))) (dSlotH 1))))) E ρ := id rfl
def rd_law_draw' (K : PySem.W.Frag) : TSD :=
  (dSeq (dIfS (dTest (dOp fGt (dOpd (dOp fIx (dSlotH 0) (dOpd (dC (.int 0))))) (dOpd (dC (.int 0))))) (dSeq (dAsg 2 (dXof (dOp fMod (dOpd (dFz (dC1 fInt (dOpd (dOp fIx (dSlotH 0) (dOpd (dC (.int 0)))))))) (dSlotH 1))))
  (dSeq (dSetIx 0 (dC (.int 0)) (dOp fDiv (dOpd (dOp fIx (dSlotH 0) (dOpd (dC (.int 0))))) (dSlotH 1)))
  (dRet (dXof (dGive 2))))) dNext)
  (jn_law_draw_1' K))
theorem rd_law_draw {K : PySem.W.Frag} {E : EndsD} {ρ : Rho} : rd_law_draw' K E ρ = (dSeq (dIfS (dTest (dOp fGt (dOpd (dOp fIx (dSlotH 0) (dOpd (dC (.int 0))))) (dOpd (dC (.int 0))))) (dSeq (dAsg 2 (dXof (dOp fMod (dOpd (dFz (dC1 fInt (dOpd (dOp fIx (dSlotH 0) (dOpd (dC (.int 0)))))))) (dSlotH 1))))
  (dSeq (dSetIx 0 (dC (.int 0)) (dOp fDiv (dOpd (dOp fIx (dSlotH 0) (dOpd (dC (.int 0))))) (dSlotH 1)))
  (dRet (dXof (dGive 2))))) dNext)
  (jn_law_draw_1' K)) E ρ := id rfl
def sp_law_draw (K : PySem.W.Frag) (args : List DV) (Q : DV → List DV → Prop) (X : Exn → List DV → Prop) (_ : W2 Q X := .mk) : Prop := args.length = 2 ∧ rd_law_draw' K (endsOf args Q X) (startD 3 args)
def sq_law_draw (K : PySem.W.Frag) : SpD := fun args Q X => sp_law_draw K args Q X
@[simp ↓] theorem sq_law_draw_at {K : PySem.W.Frag} {args : List DV} {Q : DV → List DV → Prop} {X : Exn → List DV → Prop} : sq_law_draw K args Q X = sp_law_draw K args Q X := id rfl
theorem bd_law_draw (f : Fs P w K mg) {fa : Addr} : BodyOk P w K mg base 0 N_law_draw "_law_draw" sc_law_draw fa (defBody st_law_draw) (rd_law_draw' K) := fun cdv A outer s H E hr => by
  have hS := hS_law_draw
  unfold rd_law_draw' jn_law_draw_1'
  exact (dss_cons (ds_if (dt_cmp oGt (do_of (de_ix (do_var (pv_of (N := N_law_draw) (sc := sc_law_draw) rfl rfl rfl (by decide +kernel))) (do_of de_int) (by intro _ _; rfl))) (do_of de_int) (nomark _)) (dss_cons (ds_asg (i := 2) hS.nd rfl (loc_of (sc := sc_law_draw) rfl (by decide +kernel)) (dx_of (de_op oMod (do_of (de_fz (dx_t1 cInt (do_of (de_ix (do_var (pv_of (N := N_law_draw) (sc := sc_law_draw) rfl rfl rfl (by decide +kernel))) (do_of de_int) (by intro _ _; rfl))) (gl_of (sc := sc_law_draw) rfl (by decide +kernel)) f.free_int (by decide +kernel)))) (do_var (pv_of (N := N_law_draw) (sc := sc_law_draw) rfl rfl rfl (by decide +kernel))))) rfl (.inl rfl))
  (dss_cons (ds_setIx (i := 0) (pv_of (N := N_law_draw) (sc := sc_law_draw) rfl rfl rfl (by decide +kernel)) de_int (de_op oDiv (do_of (de_ix (do_var (pv_of (N := N_law_draw) (sc := sc_law_draw) rfl rfl rfl (by decide +kernel))) (do_of de_int) (by intro _ _; rfl))) (do_var (pv_of (N := N_law_draw) (sc := sc_law_draw) rfl rfl rfl (by decide +kernel)))))
  (dss_one (ds_ret (dx_of (de_give (pv_of (N := N_law_draw) (sc := sc_law_draw) rfl rfl rfl (by decide +kernel)))))))) dss_nil)
  (dss_cons (ds_setIx (i := 0) (pv_of (N := N_law_draw) (sc := sc_law_draw) rfl rfl rfl (by decide +kernel)) de_int (de_op oMod (do_of (de_op oAdd (do_of (de_op oMul (do_of (de_fz (dx_t1 cInt (do_of (de_ix (do_var (pv_of (N := N_law_draw) (sc := sc_law_draw) rfl rfl rfl (by decide +kernel))) (do_of de_int) (by intro _ _; rfl))) (gl_of (sc := sc_law_draw) rfl (by decide +kernel)) f.free_int (by decide +kernel)))) (do_of de_int))) (do_of de_int))) (do_of de_int)))
  (dss_one (ds_ret (dx_of (de_op oMod (do_of (de_fz (dx_t1 cInt (do_of (de_ix (do_var (pv_of (N := N_law_draw) (sc := sc_law_draw) rfl rfl rfl (by decide +kernel))) (do_of de_int) (by intro _ _; rfl))) (gl_of (sc := sc_law_draw) rfl (by decide +kernel)) f.free_int (by decide +kernel)))) (do_var (pv_of (N := N_law_draw) (sc := sc_law_draw) rfl rfl rfl (by decide +kernel)))))))))
theorem ok_law_draw (f : Fs P w K mg) : FnD P w K mg base 1 (He.ga K "_law_draw") [] (sq_law_draw K) := by
  obtain ⟨fd, F⟩ := f.def_law_draw
  exact ⟨⟨fd, _, [], fnD_body F hS_law_draw (bd_law_draw f) fun args Q X h => h, F.bindsN fun _ _ _ _ _ _ us hl => match us, hl with | [_, _], _ => rfl, .nil⟩⟩
/-! _law_term -/
abbrev st_law_term : Stmt := nthS bodyT 22
abbrev sc_law_term : Scope := defScope st_law_term
def N_law_term : List Str := ["_law_stream_here", "_law_manner", "_law_pick", "_law_lacks", "_law_column"]
theorem hS_law_term : FnScope N_law_term ["_law_stream_here", "_law_manner"] sc_law_term := ⟨rfl, rfl, rfl, by decide +kernel, rfl, by decide +kernel, by decide +kernel⟩
def rd_law_term_6' (K : PySem.W.Frag) : TSD :=
  (dRet (dXof (dTup (dCons (dGive 4) (dCons (dOp fIx (dOpd (dFz (dLst (dCons (dC (.str "max")) (dCons (dC (.str "min")) dNil))))) (dOpd (dOp fMod (dOpd (dFz (dC1 fInt (dOpd (dOp fDiv (dSlotH 2) (dOpd (dC (.int 2)))))))) (dOpd (dC (.int 2)))))) (dCons (dOp fIx (dOpd (dFz (dLst (dCons (dC (.str "low")) (dCons (dC (.str "high")) (dCons (dC (.str "skip")) (dCons (dC (.str "stop")) dNil))))))) (dSlotH 3)) dNil))))))
theorem rd_law_term_6 {K : PySem.W.Frag} {E : EndsD} {ρ : Rho} : rd_law_term_6' K E ρ = (dRet (dXof (dTup (dCons (dGive 4) (dCons (dOp fIx (dOpd (dFz (dLst (dCons (dC (.str "max")) (dCons (dC (.str "min")) dNil))))) (dOpd (dOp fMod (dOpd (dFz (dC1 fInt (dOpd (dOp fDiv (dSlotH 2) (dOpd (dC (.int 2)))))))) (dOpd (dC (.int 2)))))) (dCons (dOp fIx (dOpd (dFz (dLst (dCons (dC (.str "low")) (dCons (dC (.str "high")) (dCons (dC (.str "skip")) (dCons (dC (.str "stop")) dNil))))))) (dSlotH 3)) dNil)))))) E ρ := id rfl
def rd_law_term_5' (K : PySem.W.Frag) : TSD :=
  (dSeq (dAsg 4 (dXof (dOp fIx (dOpd (dFz (dLst (dCons (dC (.str "stamp")) (dCons (dC (.str "seq")) dNil))))) (dOpd (dOp fMod (dOpd (dFz (dC1 fInt (dSlotH 2)))) (dOpd (dC (.int 2)))))))) (rd_law_term_6' K))
theorem rd_law_term_5 {K : PySem.W.Frag} {E : EndsD} {ρ : Rho} : rd_law_term_5' K E ρ = (dSeq (dAsg 4 (dXof (dOp fIx (dOpd (dFz (dLst (dCons (dC (.str "stamp")) (dCons (dC (.str "seq")) dNil))))) (dOpd (dOp fMod (dOpd (dFz (dC1 fInt (dSlotH 2)))) (dOpd (dC (.int 2)))))))) (rd_law_term_6' K)) E ρ := id rfl
def rd_law_term_4' (K : PySem.W.Frag) : TSD :=
  (dSeq (dIfS (dTest (dOp fEq (dSlotH 1) (dOpd (dC (.str "join"))))) (dAsg 3 (dXof (dC (.int 0)))) dNext) (rd_law_term_5' K))
theorem rd_law_term_4 {K : PySem.W.Frag} {E : EndsD} {ρ : Rho} : rd_law_term_4' K E ρ = (dSeq (dIfS (dTest (dOp fEq (dSlotH 1) (dOpd (dC (.str "join"))))) (dAsg 3 (dXof (dC (.int 0)))) dNext) (rd_law_term_5' K)) E ρ := id rfl
def rd_law_term_3' (K : PySem.W.Frag) : TSD :=
  (dSeq (dIfS (dOr (dTest (dOp fEq (dSlotH 1) (dOpd (dC (.str "first"))))) (dTest (dOp fEq (dSlotH 1) (dOpd (dC (.str "last")))))) (dAsg 3 (dXof (dOp fDiv (dSlotH 3) (dOpd (dC (.int 2)))))) dNext) (rd_law_term_4' K))
theorem rd_law_term_3 {K : PySem.W.Frag} {E : EndsD} {ρ : Rho} : rd_law_term_3' K E ρ = (dSeq (dIfS (dOr (dTest (dOp fEq (dSlotH 1) (dOpd (dC (.str "first"))))) (dTest (dOp fEq (dSlotH 1) (dOpd (dC (.str "last")))))) (dAsg 3 (dXof (dOp fDiv (dSlotH 3) (dOpd (dC (.int 2)))))) dNext) (rd_law_term_4' K)) E ρ := id rfl
def rd_law_term_2' (K : PySem.W.Frag) : TSD :=
  (dSeq (dAsg 3 (dCall (sq_law_draw K) [] (vCons (dArg 0) (vCons (dOpd (dC (.int 4))) vNil)))) (rd_law_term_3' K))
theorem rd_law_term_2 {K : PySem.W.Frag} {E : EndsD} {ρ : Rho} : rd_law_term_2' K E ρ = (dSeq (dAsg 3 (dCall (sq_law_draw K) [] (vCons (dArg 0) (vCons (dOpd (dC (.int 4))) vNil)))) (rd_law_term_3' K)) E ρ := id rfl
def rd_law_term_1' (K : PySem.W.Frag) : TSD :=
  (dSeq (dIfS (dTest (dOp fGt (dSlotH 2) (dOpd (dC (.int 7))))) (dRet (dXof (dOp fIx (dOpd (dFz (dLst (dCons (dTup (dCons (dC (.str "live")) dNil)) (dCons (dTup (dCons (dC (.str "struck")) dNil)) dNil))))) (dOpd (dOp fSub (dSlotH 2) (dOpd (dC (.int 8)))))))) dNext) (rd_law_term_2' K))
theorem rd_law_term_1 {K : PySem.W.Frag} {E : EndsD} {ρ : Rho} : rd_law_term_1' K E ρ = (dSeq (dIfS (dTest (dOp fGt (dSlotH 2) (dOpd (dC (.int 7))))) (dRet (dXof (dOp fIx (dOpd (dFz (dLst (dCons (dTup (dCons (dC (.str "live")) dNil)) (dCons (dTup (dCons (dC (.str "struck")) dNil)) dNil))))) (dOpd (dOp fSub (dSlotH 2) (dOpd (dC (.int 8)))))))) dNext) (rd_law_term_2' K)) E ρ := id rfl
def rd_law_term_0' (K : PySem.W.Frag) : TSD :=
  (dSeq (dAsg 2 (dCall (sq_law_draw K) [] (vCons (dArg 0) (vCons (dOpd (dOp fSub (dOpd (dC (.int 10))) (dOpd (dOp fMul (dOpd (dC (.int 2))) (dOpd (dFz (dC1 fInt (dOpd (dOp fEq (dSlotH 1) (dOpd (dC (.str "join")))))))))))) vNil)))) (rd_law_term_1' K))
theorem rd_law_term_0 {K : PySem.W.Frag} {E : EndsD} {ρ : Rho} : rd_law_term_0' K E ρ = (dSeq (dAsg 2 (dCall (sq_law_draw K) [] (vCons (dArg 0) (vCons (dOpd (dOp fSub (dOpd (dC (.int 10))) (dOpd (dOp fMul (dOpd (dC (.int 2))) (dOpd (dFz (dC1 fInt (dOpd (dOp fEq (dSlotH 1) (dOpd (dC (.str "join")))))))))))) vNil)))) (rd_law_term_1' K)) E ρ := id rfl
def rd_law_term' (K : PySem.W.Frag) : TSD :=
  (rd_law_term_0' K)
theorem rd_law_term {K : PySem.W.Frag} {E : EndsD} {ρ : Rho} : rd_law_term' K E ρ = (rd_law_term_0' K) E ρ := id rfl
def sp_law_term (K : PySem.W.Frag) (args : List DV) (Q : DV → List DV → Prop) (X : Exn → List DV → Prop) (_ : W2 Q X := .mk) : Prop := args.length = 2 ∧ rd_law_term' K (endsOf args Q X) (startD 5 args)
def sq_law_term (K : PySem.W.Frag) : SpD := fun args Q X => sp_law_term K args Q X
@[simp ↓] theorem sq_law_term_at {K : PySem.W.Frag} {args : List DV} {Q : DV → List DV → Prop} {X : Exn → List DV → Prop} : sq_law_term K args Q X = sp_law_term K args Q X := id rfl
theorem bd_law_term (f : Fs P w K mg) {fa : Addr} : BodyOk P w K mg base 1 N_law_term "_law_term" sc_law_term fa (defBody st_law_term) (rd_law_term' K) := fun cdv A outer s H E hr => by
  have hS := hS_law_term
  unfold rd_law_term' rd_law_term_0' rd_law_term_1' rd_law_term_2' rd_law_term_3' rd_law_term_4' rd_law_term_5' rd_law_term_6'
  exact (dss_cons (ds_asg (i := 2) hS.nd rfl (loc_of (sc := sc_law_term) rfl (by decide +kernel)) (dx_call (ok_law_draw f) (fun _ => .nil) (hr.mono (by decide)) (gl_of (sc := sc_law_term) rfl (by decide +kernel)) f.glo_law_draw f.keep_law_draw (dv_cons (do_arg (pv_of (N := N_law_term) (sc := sc_law_term) rfl rfl rfl (by decide +kernel))) (dv_cons (do_of (de_op oSub (do_of de_int) (do_of (de_op oMul (do_of de_int) (do_of (de_fz (dx_t1 cInt (do_of (de_cmp (oEq (hu64 hr)) (do_var (pv_of (N := N_law_term) (sc := sc_law_term) rfl rfl rfl (by decide +kernel))) (do_of de_str) (nomark _))) (gl_of (sc := sc_law_term) rfl (by decide +kernel)) f.free_int (by decide +kernel)))))))) dv_nil))) rfl (.inl rfl))
  (dss_cons (ds_if (dt_cmp oGt (do_var (pv_of (N := N_law_term) (sc := sc_law_term) rfl rfl rfl (by decide +kernel))) (do_of de_int) (nomark _)) (dss_one (ds_ret (dx_of (de_ix (do_of (de_fz (dx_lst (da_cons (de_tup (da_cons de_str da_nil)) (da_cons (de_tup (da_cons de_str da_nil)) da_nil))))) (do_of (de_op oSub (do_var (pv_of (N := N_law_term) (sc := sc_law_term) rfl rfl rfl (by decide +kernel))) (do_of de_int))) (by intro _ _; rfl))))) dss_nil)
  (dss_cons (ds_asg (i := 3) hS.nd rfl (loc_of (sc := sc_law_term) rfl (by decide +kernel)) (dx_call (ok_law_draw f) (fun _ => .nil) (hr.mono (by decide)) (gl_of (sc := sc_law_term) rfl (by decide +kernel)) f.glo_law_draw f.keep_law_draw (dv_cons (do_arg (pv_of (N := N_law_term) (sc := sc_law_term) rfl rfl rfl (by decide +kernel))) (dv_cons (do_of de_int) dv_nil))) rfl (.inl rfl))
  (dss_cons (ds_if (DW.dt (dw_or (dt_cmp (oEq (hu64 hr)) (do_var (pv_of (N := N_law_term) (sc := sc_law_term) rfl rfl rfl (by decide +kernel))) (do_of de_str) (nomark _)) (dw_or1 (dt_cmp (oEq (hu64 hr)) (do_var (pv_of (N := N_law_term) (sc := sc_law_term) rfl rfl rfl (by decide +kernel))) (do_of de_str) (nomark _))))) (dss_one (ds_asg (i := 3) hS.nd rfl (loc_of (sc := sc_law_term) rfl (by decide +kernel)) (dx_of (de_op oDiv (do_var (pv_of (N := N_law_term) (sc := sc_law_term) rfl rfl rfl (by decide +kernel))) (do_of de_int))) rfl (.inl rfl))) dss_nil)
  (dss_cons (ds_if (dt_cmp (oEq (hu64 hr)) (do_var (pv_of (N := N_law_term) (sc := sc_law_term) rfl rfl rfl (by decide +kernel))) (do_of de_str) (nomark _)) (dss_one (ds_asg (i := 3) hS.nd rfl (loc_of (sc := sc_law_term) rfl (by decide +kernel)) (dx_of de_int) rfl (.inl rfl))) dss_nil)
  (dss_cons (ds_asg (i := 4) hS.nd rfl (loc_of (sc := sc_law_term) rfl (by decide +kernel)) (dx_of (de_ix (do_of (de_fz (dx_lst (da_cons de_str (da_cons de_str da_nil))))) (do_of (de_op oMod (do_of (de_fz (dx_t1 cInt (do_var (pv_of (N := N_law_term) (sc := sc_law_term) rfl rfl rfl (by decide +kernel))) (gl_of (sc := sc_law_term) rfl (by decide +kernel)) f.free_int (by decide +kernel)))) (do_of de_int))) (by intro _ _; rfl))) rfl (.inl rfl))
  (dss_one (ds_ret (dx_of (de_tup (da_cons (de_give (pv_of (N := N_law_term) (sc := sc_law_term) rfl rfl rfl (by decide +kernel))) (da_cons (de_ix (do_of (de_fz (dx_lst (da_cons de_str (da_cons de_str da_nil))))) (do_of (de_op oMod (do_of (de_fz (dx_t1 cInt (do_of (de_op oDiv (do_var (pv_of (N := N_law_term) (sc := sc_law_term) rfl rfl rfl (by decide +kernel))) (do_of de_int))) (gl_of (sc := sc_law_term) rfl (by decide +kernel)) f.free_int (by decide +kernel)))) (do_of de_int))) (by intro _ _; rfl)) (da_cons (de_ix (do_of (de_fz (dx_lst (da_cons de_str (da_cons de_str (da_cons de_str (da_cons de_str da_nil))))))) (do_var (pv_of (N := N_law_term) (sc := sc_law_term) rfl rfl rfl (by decide +kernel))) (by intro _ _; rfl)) da_nil)))))))))))))
theorem ok_law_term (f : Fs P w K mg) : FnD P w K mg base 2 (He.ga K "_law_term") [] (sq_law_term K) := by
  obtain ⟨fd, F⟩ := f.def_law_term
  exact ⟨⟨fd, _, [], fnD_body F hS_law_term (bd_law_term f) fun args Q X h => h, F.bindsN fun _ _ _ _ _ _ us hl => match us, hl with | [_, _], _ => rfl, .nil⟩⟩
/-! is_term -/
abbrev st_is_term : Stmt := nthS bodyT 16
abbrev sc_is_term : Scope := defScope st_is_term
def N_is_term : List Str := ["thing"]
theorem hS_is_term : FnScope N_is_term ["thing"] sc_is_term := ⟨rfl, rfl, rfl, by decide +kernel, rfl, by decide +kernel, by decide +kernel⟩
def jn_is_term_1' (K : PySem.W.Frag) : TSD :=
  (dRet (dXof (dOp fInT2 (dOpd (dOp fIx (dSlotH 0) (dOpd (dC (.int 2))))) (dOpd (dTup (dCons (dC (.str "low")) (dCons (dC (.str "high")) (dCons (dC (.str "skip")) (dCons (dC (.str "stop")) dNil)))))))))
theorem jn_is_term_1 {K : PySem.W.Frag} {E : EndsD} {ρ : Rho} : jn_is_term_1' K E ρ = (dRet (dXof (dOp fInT2 (dOpd (dOp fIx (dSlotH 0) (dOpd (dC (.int 2))))) (dOpd (dTup (dCons (dC (.str "low")) (dCons (dC (.str "high")) (dCons (dC (.str "skip")) (dCons (dC (.str "stop")) dNil))))))))) E ρ := id rfl
def jn_is_term_2' (K : PySem.W.Frag) : TSD :=
  (dSeq (dIfS (dOr (dTest (dOp fNotInT2 (dOpd (dOp fIx (dSlotH 0) (dOpd (dC (.int 0))))) (dOpd (dTup (dCons (dC (.str "stamp")) (dCons (dC (.str "seq")) dNil)))))) (dTest (dOp fNotInT2 (dOpd (dOp fIx (dSlotH 0) (dOpd (dC (.int 1))))) (dOpd (dTup (dCons (dC (.str "max")) (dCons (dC (.str "min")) dNil))))))) (dRet (dXof (dC (.bl false)))) dNext)
  (jn_is_term_1' K))
theorem jn_is_term_2 {K : PySem.W.Frag} {E : EndsD} {ρ : Rho} : jn_is_term_2' K E ρ = (dSeq (dIfS (dOr (dTest (dOp fNotInT2 (dOpd (dOp fIx (dSlotH 0) (dOpd (dC (.int 0))))) (dOpd (dTup (dCons (dC (.str "stamp")) (dCons (dC (.str "seq")) dNil)))))) (dTest (dOp fNotInT2 (dOpd (dOp fIx (dSlotH 0) (dOpd (dC (.int 1))))) (dOpd (dTup (dCons (dC (.str "max")) (dCons (dC (.str "min")) dNil))))))) (dRet (dXof (dC (.bl false)))) dNext)
  (jn_is_term_1' K)) E ρ := id rfl
def jn_is_term_3' (K : PySem.W.Frag) : TSD :=
  (dSeq (dIfS (dOr (dNot (dTest (dIsi "tuple" (dSlotH 0)))) (dTest (dOp fNe (dOpd (dFz (dC1 fLen (dSlotH 0)))) (dOpd (dC (.int 3)))))) (dRet (dXof (dC (.bl false)))) dNext)
  (jn_is_term_2' K))
theorem jn_is_term_3 {K : PySem.W.Frag} {E : EndsD} {ρ : Rho} : jn_is_term_3' K E ρ = (dSeq (dIfS (dOr (dNot (dTest (dIsi "tuple" (dSlotH 0)))) (dTest (dOp fNe (dOpd (dFz (dC1 fLen (dSlotH 0)))) (dOpd (dC (.int 3)))))) (dRet (dXof (dC (.bl false)))) dNext)
  (jn_is_term_2' K)) E ρ := id rfl
def rd_is_term' (K : PySem.W.Frag) : TSD :=
  (dSeq (dIfS (dOr (dTest (dOp fEq (dSlotH 0) (dOpd (dTup (dCons (dC (.str "live")) dNil))))) (dTest (dOp fEq (dSlotH 0) (dOpd (dTup (dCons (dC (.str "struck")) dNil)))))) (dRet (dXof (dC (.bl true)))) dNext)
  (jn_is_term_3' K))
theorem rd_is_term {K : PySem.W.Frag} {E : EndsD} {ρ : Rho} : rd_is_term' K E ρ = (dSeq (dIfS (dOr (dTest (dOp fEq (dSlotH 0) (dOpd (dTup (dCons (dC (.str "live")) dNil))))) (dTest (dOp fEq (dSlotH 0) (dOpd (dTup (dCons (dC (.str "struck")) dNil)))))) (dRet (dXof (dC (.bl true)))) dNext)
  (jn_is_term_3' K)) E ρ := id rfl
def sp_is_term (K : PySem.W.Frag) (args : List DV) (Q : DV → List DV → Prop) (X : Exn → List DV → Prop) (_ : W2 Q X := .mk) : Prop := args.length = 1 ∧ rd_is_term' K (endsOf args Q X) (startD 1 args)
def sq_is_term (K : PySem.W.Frag) : SpD := fun args Q X => sp_is_term K args Q X
@[simp ↓] theorem sq_is_term_at {K : PySem.W.Frag} {args : List DV} {Q : DV → List DV → Prop} {X : Exn → List DV → Prop} : sq_is_term K args Q X = sp_is_term K args Q X := id rfl
theorem bd_is_term (f : Fs P w K mg) {fa : Addr} : BodyOk P w K mg base 0 N_is_term "is_term" sc_is_term fa (defBody st_is_term) (rd_is_term' K) := fun cdv A outer s H E hr => by
  have hS := hS_is_term
  unfold rd_is_term' jn_is_term_3' jn_is_term_2' jn_is_term_1'
  exact (dss_cons (ds_if (DW.dt (dw_or (dt_cmp (oEq (hu64 hr)) (do_var (pv_of (N := N_is_term) (sc := sc_is_term) rfl rfl rfl (by decide +kernel))) (do_of (de_tup (da_cons de_str da_nil))) (nomark _)) (dw_or1 (dt_cmp (oEq (hu64 hr)) (do_var (pv_of (N := N_is_term) (sc := sc_is_term) rfl rfl rfl (by decide +kernel))) (do_of (de_tup (da_cons de_str da_nil))) (nomark _))))) (dss_one (ds_ret (dx_of de_bl))) dss_nil)
  (dss_cons (ds_if (DW.dt (dw_or (dt_not (dt_val (de_isi (x := "") (do_var (pv_of (N := N_is_term) (sc := sc_is_term) rfl rfl rfl (by decide +kernel))) (gl_of (sc := sc_is_term) rfl (by decide +kernel)) f.free_isinstance (by decide +kernel) (gl_of (sc := sc_is_term) rfl (by decide +kernel)) f.free_tuple (by decide +kernel)))) (dw_or1 (dt_cmp (oNe (hu64 hr)) (do_of (de_fz (dx_c1 cLen (do_var (pv_of (N := N_is_term) (sc := sc_is_term) rfl rfl rfl (by decide +kernel))) (gl_of (sc := sc_is_term) rfl (by decide +kernel)) f.free_len (by decide +kernel)))) (do_of de_int) (nomark _))))) (dss_one (ds_ret (dx_of de_bl))) dss_nil)
  (dss_cons (ds_if (DW.dt (dw_or (dt_cmp (oNotInT2 (hu65 hr)) (do_of (de_ix (do_var (pv_of (N := N_is_term) (sc := sc_is_term) rfl rfl rfl (by decide +kernel))) (do_of de_int) (by intro _ _; rfl))) (do_of (de_tup (da_cons de_str (da_cons de_str da_nil)))) (by rfl)) (dw_or1 (dt_cmp (oNotInT2 (hu65 hr)) (do_of (de_ix (do_var (pv_of (N := N_is_term) (sc := sc_is_term) rfl rfl rfl (by decide +kernel))) (do_of de_int) (by intro _ _; rfl))) (do_of (de_tup (da_cons de_str (da_cons de_str da_nil)))) (by rfl))))) (dss_one (ds_ret (dx_of de_bl))) dss_nil)
  (dss_one (ds_ret (dx_of (de_cmp (oInT2 (hu65 hr)) (do_of (de_ix (do_var (pv_of (N := N_is_term) (sc := sc_is_term) rfl rfl rfl (by decide +kernel))) (do_of de_int) (by intro _ _; rfl))) (do_of (de_tup (da_cons de_str (da_cons de_str (da_cons de_str (da_cons de_str da_nil)))))) (by rfl))))))))
theorem ok_is_term (f : Fs P w K mg) : FnD P w K mg base 1 (He.ga K "is_term") [] (sq_is_term K) := by
  obtain ⟨fd, F⟩ := f.def_is_term
  exact ⟨⟨fd, _, [], fnD_body F hS_is_term (bd_is_term f) fun args Q X h => h, F.bindsN fun _ _ _ _ _ _ us hl => match us, hl with | [_], _ => rfl, .nil⟩⟩
/-! Rule.__init__ -/
abbrev st_Rule___init : Stmt := nthS (clsB (nthS bodyT 18)) 0
abbrev sc_Rule___init : Scope := defScope st_Rule___init
def N_Rule___init : List Str := ["self", "terms", "place", "term"]
theorem hS_Rule___init : FnScope N_Rule___init ["self", "terms"] sc_Rule___init := ⟨rfl, rfl, rfl, by decide +kernel, rfl, by decide +kernel, by decide +kernel⟩
def lp_Rule___init_1' (K : PySem.W.Frag) : TSD :=
  (dIfS (dNot (dTest (dFz (dCall (sq_is_term K) [] (vCons (dArg 3) vNil))))) (dRaiseF (He.ga K "BadTerm") "place" (dGive 2)) dNext)
theorem lp_Rule___init_1 {K : PySem.W.Frag} {E : EndsD} {ρ : Rho} : lp_Rule___init_1' K E ρ = (dIfS (dNot (dTest (dFz (dCall (sq_is_term K) [] (vCons (dArg 3) vNil))))) (dRaiseF (He.ga K "BadTerm") "place" (dGive 2)) dNext) E ρ := id rfl
def jn_Rule___init_1' (K : PySem.W.Frag) : TSD :=
  (dSetFld (He.ga K "Rule") "terms" 0 (dFz (dC1 fList (dSlotH 1))))
theorem jn_Rule___init_1 {K : PySem.W.Frag} {E : EndsD} {ρ : Rho} : jn_Rule___init_1' K E ρ = (dSetFld (He.ga K "Rule") "terms" 0 (dFz (dC1 fList (dSlotH 1)))) E ρ := id rfl
def rd_Rule___init' (K : PySem.W.Frag) : TSD :=
  (dSeq (dFor (iEnumS 1) (gdTup 2 (gdCons (gdName 2) (gdCons (gdName 3) gdNil))) (lp_Rule___init_1' K))
  (jn_Rule___init_1' K))
theorem rd_Rule___init {K : PySem.W.Frag} {E : EndsD} {ρ : Rho} : rd_Rule___init' K E ρ = (dSeq (dFor (iEnumS 1) (gdTup 2 (gdCons (gdName 2) (gdCons (gdName 3) gdNil))) (lp_Rule___init_1' K))
  (jn_Rule___init_1' K)) E ρ := id rfl
def sp_Rule___init (K : PySem.W.Frag) (args : List DV) (Q : DV → List DV → Prop) (X : Exn → List DV → Prop) (_ : W2 Q X := .mk) : Prop := args.length = 2 ∧ rd_Rule___init' K (endsOf args Q X) (startD 4 args)
def sq_Rule___init (K : PySem.W.Frag) : SpD := fun args Q X => sp_Rule___init K args Q X
@[simp ↓] theorem sq_Rule___init_at {K : PySem.W.Frag} {args : List DV} {Q : DV → List DV → Prop} {X : Exn → List DV → Prop} : sq_Rule___init K args Q X = sp_Rule___init K args Q X := id rfl
theorem bd_Rule___init (f : Fs P w K mg) {fa : Addr} : BodyOk P w K mg base 2 N_Rule___init "Rule.__init__" sc_Rule___init fa (defBody st_Rule___init) (rd_Rule___init' K) := fun cdv A outer s H E hr => by
  have hS := hS_Rule___init
  unfold rd_Rule___init' jn_Rule___init_1' lp_Rule___init_1'
  exact (dss_cons (ds_for rfl (di_enumS (gl_of (sc := sc_Rule___init) rfl (by decide +kernel)) f.free_enumerate (pv_of (N := N_Rule___init) (sc := sc_Rule___init) rfl rfl rfl (by decide +kernel))) (dg_tup rfl (dgs_cons (dg_name (i := 2) hS.nd rfl (loc_of (sc := sc_Rule___init) rfl (by decide +kernel)) (.inl rfl)) (dgs_cons (dg_name (i := 3) hS.nd rfl (loc_of (sc := sc_Rule___init) rfl (by decide +kernel)) (.inl rfl)) dgs_nil))) (dss_one (ds_if (dt_not (dt_val (de_fz (dx_call (ok_is_term f) (fun _ => .nil) (hr.mono (by decide)) (gl_of (sc := sc_Rule___init) rfl (by decide +kernel)) f.glo_is_term f.keep_is_term (dv_cons (do_arg (pv_of (N := N_Rule___init) (sc := sc_Rule___init) rfl rfl rfl (by decide +kernel))) dv_nil))))) (dss_one (ds_raiseF (hP := f.sup_file) f.sup_BadTerm f.free_super (fun _ _ _ _ _ _ _ _ _ _ _ _ _ _ _ => rfl) (by decide) (by decide) f.glo_BadTerm (gl_of (sc := sc_Rule___init) rfl (by decide +kernel)) (hr.mono (by decide)) (de_give (pv_of (N := N_Rule___init) (sc := sc_Rule___init) rfl rfl rfl (by decide +kernel))))) dss_nil)))
  (dss_one (ds_fld (i := 0) (pv_of (N := N_Rule___init) (sc := sc_Rule___init) rfl rfl rfl (by decide +kernel)) (de_fz (dx_t1 cList (do_var (pv_of (N := N_Rule___init) (sc := sc_Rule___init) rfl rfl rfl (by decide +kernel))) (gl_of (sc := sc_Rule___init) rfl (by decide +kernel)) f.free_list (by decide +kernel))) f.cls_Rule f.noat_Rule_terms)))
theorem ok_Rule___init (f : Fs P w K mg) : FnD P w K mg base 3 (He.ma K (He.ga K "Rule") "__init__") [] (sq_Rule___init K) := by
  obtain ⟨fd, F⟩ := f.def_Rule___init
  exact ⟨⟨fd, _, [], fnD_body F hS_Rule___init (bd_Rule___init f) fun args Q X h => h, F.bindsN fun _ _ _ _ _ _ us hl => match us, hl with | [_, _], _ => rfl, .nil⟩⟩
/-! _law_rule_or_place -/
abbrev st_law_rule_or_place : Stmt := nthS bodyT 24
abbrev sc_law_rule_or_place : Scope := defScope st_law_rule_or_place
def N_law_rule_or_place : List Str := ["_law_terms", "e"]
theorem hS_law_rule_or_place : FnScope N_law_rule_or_place ["_law_terms"] sc_law_rule_or_place := ⟨rfl, rfl, rfl, by decide +kernel, rfl, by decide +kernel, by decide +kernel⟩
def ty_law_rule_or_place_1' (K : PySem.W.Frag) : TSD :=
  (dRet (dMake (He.ga K "Rule") (sq_Rule___init K) [] (vCons (dArg 0) vNil)))
theorem ty_law_rule_or_place_1 {K : PySem.W.Frag} {E : EndsD} {ρ : Rho} : ty_law_rule_or_place_1' K E ρ = (dRet (dMake (He.ga K "Rule") (sq_Rule___init K) [] (vCons (dArg 0) vNil))) E ρ := id rfl
def rd_law_rule_or_place' (K : PySem.W.Frag) : TSD :=
  (dTryCl [He.ga K "BadTerm"] [⟨He.ga K "BadTerm", (some 1), fun a d => (dSeq (dIfS (dTest (dIsXT a d false [He.ga K "BadCode", He.ga K "BadKind", He.ga K "BadOrder", He.ga K "BadPlace", He.ga K "BadPromise", He.ga K "BadRow"] (dSlotH 1) (dTup (dCons (dC (.obj (He.ga K "BadCode"))) (dCons (dC (.obj (He.ga K "BadKind"))) (dCons (dC (.obj (He.ga K "BadOrder"))) (dCons (dC (.obj (He.ga K "BadPlace"))) (dCons (dC (.obj (He.ga K "BadPromise"))) (dCons (dC (.obj (He.ga K "BadRow"))) dNil))))))))) (dRet (dXof (dC .non))) dNext)
  (dSeq (dIfS (dTest (dIsXT a d false [He.ga K "BadText", He.ga K "Breach", He.ga K "NothingToUndo"] (dSlotH 1) (dTup (dCons (dC (.obj (He.ga K "BadText"))) (dCons (dC (.obj (He.ga K "Breach"))) (dCons (dC (.obj (He.ga K "NothingToUndo"))) dNil)))))) (dRet (dXof (dC .non))) dNext)
  (dSeq (dIfS (dOr (dNot (dTest (dIsX a d true (dSlotH 1)))) (dNot (dTest (dIsX a d true (dSlotH 1))))) (dRet (dXof (dC .non))) dNext)
  (dSeq (dIfS (dOr (dNot (dTest (dIsi "int" (dOpd (dXf a d (He.ga K "BadTerm") "place" (dSlotH 1)))))) (dTest (dIsi "bool" (dOpd (dXf a d (He.ga K "BadTerm") "place" (dSlotH 1)))))) (dRet (dXof (dC .non))) dNext)
  (dRet (dXof (dXf a d (He.ga K "BadTerm") "place" (dSlotH 1))))))))⟩] (ty_law_rule_or_place_1' K))
theorem rd_law_rule_or_place {K : PySem.W.Frag} {E : EndsD} {ρ : Rho} : rd_law_rule_or_place' K E ρ = (dTryCl [He.ga K "BadTerm"] [⟨He.ga K "BadTerm", (some 1), fun a d => (dSeq (dIfS (dTest (dIsXT a d false [He.ga K "BadCode", He.ga K "BadKind", He.ga K "BadOrder", He.ga K "BadPlace", He.ga K "BadPromise", He.ga K "BadRow"] (dSlotH 1) (dTup (dCons (dC (.obj (He.ga K "BadCode"))) (dCons (dC (.obj (He.ga K "BadKind"))) (dCons (dC (.obj (He.ga K "BadOrder"))) (dCons (dC (.obj (He.ga K "BadPlace"))) (dCons (dC (.obj (He.ga K "BadPromise"))) (dCons (dC (.obj (He.ga K "BadRow"))) dNil))))))))) (dRet (dXof (dC .non))) dNext)
  (dSeq (dIfS (dTest (dIsXT a d false [He.ga K "BadText", He.ga K "Breach", He.ga K "NothingToUndo"] (dSlotH 1) (dTup (dCons (dC (.obj (He.ga K "BadText"))) (dCons (dC (.obj (He.ga K "Breach"))) (dCons (dC (.obj (He.ga K "NothingToUndo"))) dNil)))))) (dRet (dXof (dC .non))) dNext)
  (dSeq (dIfS (dOr (dNot (dTest (dIsX a d true (dSlotH 1)))) (dNot (dTest (dIsX a d true (dSlotH 1))))) (dRet (dXof (dC .non))) dNext)
  (dSeq (dIfS (dOr (dNot (dTest (dIsi "int" (dOpd (dXf a d (He.ga K "BadTerm") "place" (dSlotH 1)))))) (dTest (dIsi "bool" (dOpd (dXf a d (He.ga K "BadTerm") "place" (dSlotH 1)))))) (dRet (dXof (dC .non))) dNext)
  (dRet (dXof (dXf a d (He.ga K "BadTerm") "place" (dSlotH 1))))))))⟩] (ty_law_rule_or_place_1' K)) E ρ := id rfl
def sp_law_rule_or_place (K : PySem.W.Frag) (args : List DV) (Q : DV → List DV → Prop) (X : Exn → List DV → Prop) (_ : W2 Q X := .mk) : Prop := args.length = 1 ∧ rd_law_rule_or_place' K (endsOf args Q X) (startD 2 args)
def sq_law_rule_or_place (K : PySem.W.Frag) : SpD := fun args Q X => sp_law_rule_or_place K args Q X
@[simp ↓] theorem sq_law_rule_or_place_at {K : PySem.W.Frag} {args : List DV} {Q : DV → List DV → Prop} {X : Exn → List DV → Prop} : sq_law_rule_or_place K args Q X = sp_law_rule_or_place K args Q X := id rfl
theorem bd_law_rule_or_place (f : Fs P w K mg) {fa : Addr} : BodyOk P w K mg base 4 N_law_rule_or_place "_law_rule_or_place" sc_law_rule_or_place fa (defBody st_law_rule_or_place) (rd_law_rule_or_place' K) := fun cdv A outer s H E hr => by
  have hS := hS_law_rule_or_place
  unfold rd_law_rule_or_place' ty_law_rule_or_place_1'
  exact (dss_one (ds_tryCl rfl rfl hS.nd f.exmT_BadTerm (fun _ _ => (dss_one (ds_ret (dx_make f.mkr_Rule (ok_Rule___init f) (fun _ => .nil) (hr.mono (by decide)) (gl_of (sc := sc_law_rule_or_place) rfl (by decide +kernel)) f.glo_Rule (dv_cons (do_arg (pv_of (N := N_law_rule_or_place) (sc := sc_law_rule_or_place) rfl rfl rfl (by decide +kernel))) dv_nil))))) (.cons (gl_of (sc := sc_law_rule_or_place) rfl (by decide +kernel)) f.glo_BadTerm ⟨rfl, lcl_of (sc := sc_law_rule_or_place) rfl (by decide +kernel)⟩ (fun a oe d _ hz hf => (dss_cons (ds_if (dt_val (de_isXT f.excc_BadTerm hz hf f.kitT_BadTerm_BadCode_BadKind_BadOrder_BadPlace_BadPromise_BadRow (do_var (pv_of (N := N_law_rule_or_place) (sc := sc_law_rule_or_place) rfl rfl rfl (by decide +kernel))) (de_tup (da_cons (de_glo (gl_of (sc := sc_law_rule_or_place) rfl (by decide +kernel)) f.glo_BadCode) (da_cons (de_glo (gl_of (sc := sc_law_rule_or_place) rfl (by decide +kernel)) f.glo_BadKind) (da_cons (de_glo (gl_of (sc := sc_law_rule_or_place) rfl (by decide +kernel)) f.glo_BadOrder) (da_cons (de_glo (gl_of (sc := sc_law_rule_or_place) rfl (by decide +kernel)) f.glo_BadPlace) (da_cons (de_glo (gl_of (sc := sc_law_rule_or_place) rfl (by decide +kernel)) f.glo_BadPromise) (da_cons (de_glo (gl_of (sc := sc_law_rule_or_place) rfl (by decide +kernel)) f.glo_BadRow) da_nil))))))) (gl_of (sc := sc_law_rule_or_place) rfl (by decide +kernel)) f.free_isinstance (by decide +kernel))) (dss_one (ds_ret (dx_of de_non))) dss_nil)
  (dss_cons (ds_if (dt_val (de_isXT f.excc_BadTerm hz hf f.kitT_BadTerm_BadText_Breach_NothingToUndo (do_var (pv_of (N := N_law_rule_or_place) (sc := sc_law_rule_or_place) rfl rfl rfl (by decide +kernel))) (de_tup (da_cons (de_glo (gl_of (sc := sc_law_rule_or_place) rfl (by decide +kernel)) f.glo_BadText) (da_cons (de_glo (gl_of (sc := sc_law_rule_or_place) rfl (by decide +kernel)) f.glo_Breach) (da_cons (de_glo (gl_of (sc := sc_law_rule_or_place) rfl (by decide +kernel)) f.glo_NothingToUndo) da_nil)))) (gl_of (sc := sc_law_rule_or_place) rfl (by decide +kernel)) f.free_isinstance (by decide +kernel))) (dss_one (ds_ret (dx_of de_non))) dss_nil)
  (dss_cons (ds_if (DW.dt (dw_or (dt_not (dt_val (de_isX f.excc_BadTerm hz hf f.kit1_BadTerm_OnekeptError (do_var (pv_of (N := N_law_rule_or_place) (sc := sc_law_rule_or_place) rfl rfl rfl (by decide +kernel))) (gl_of (sc := sc_law_rule_or_place) rfl (by decide +kernel)) f.free_isinstance (by decide +kernel) (gl_of (sc := sc_law_rule_or_place) rfl (by decide +kernel)) f.glo_OnekeptError))) (dw_or1 (dt_not (dt_val (de_isXV f.excc_BadTerm hz hf f.kitV_BadTerm (do_var (pv_of (N := N_law_rule_or_place) (sc := sc_law_rule_or_place) rfl rfl rfl (by decide +kernel))) (gl_of (sc := sc_law_rule_or_place) rfl (by decide +kernel)) f.free_isinstance (by decide +kernel) (gl_of (sc := sc_law_rule_or_place) rfl (by decide +kernel)) f.free_ValueError (by decide +kernel))))))) (dss_one (ds_ret (dx_of de_non))) dss_nil)
  (dss_cons (ds_if (DW.dt (dw_or (dt_not (dt_val (de_isi (x := "") (do_of (de_xf f.xf_BadTerm f.xfno_BadTerm_place hz hf (do_var (pv_of (N := N_law_rule_or_place) (sc := sc_law_rule_or_place) rfl rfl rfl (by decide +kernel))))) (gl_of (sc := sc_law_rule_or_place) rfl (by decide +kernel)) f.free_isinstance (by decide +kernel) (gl_of (sc := sc_law_rule_or_place) rfl (by decide +kernel)) f.free_int (by decide +kernel)))) (dw_or1 (dt_val (de_isi (x := "") (do_of (de_xf f.xf_BadTerm f.xfno_BadTerm_place hz hf (do_var (pv_of (N := N_law_rule_or_place) (sc := sc_law_rule_or_place) rfl rfl rfl (by decide +kernel))))) (gl_of (sc := sc_law_rule_or_place) rfl (by decide +kernel)) f.free_isinstance (by decide +kernel) (gl_of (sc := sc_law_rule_or_place) rfl (by decide +kernel)) f.free_bool (by decide +kernel)))))) (dss_one (ds_ret (dx_of de_non))) dss_nil)
  (dss_one (ds_ret (dx_of (de_xf f.xf_BadTerm f.xfno_BadTerm_place hz hf (do_var (pv_of (N := N_law_rule_or_place) (sc := sc_law_rule_or_place) rfl rfl rfl (by decide +kernel)))))))))))) .nil)))
theorem ok_law_rule_or_place (f : Fs P w K mg) : FnD P w K mg base 5 (He.ga K "_law_rule_or_place") [] (sq_law_rule_or_place K) := by
  obtain ⟨fd, F⟩ := f.def_law_rule_or_place
  exact ⟨⟨fd, _, [], fnD_body F hS_law_rule_or_place (bd_law_rule_or_place f) fun args Q X h => h, F.bindsN fun _ _ _ _ _ _ us hl => match us, hl with | [_], _ => rfl, .nil⟩⟩
/-! Rule.text -/
abbrev st_Rule_text : Stmt := nthS (clsB (nthS bodyT 18)) 2
abbrev sc_Rule_text : Scope := defScope st_Rule_text
def N_Rule_text : List Str := ["self", "term"]
theorem hS_Rule_text : FnScope N_Rule_text ["self"] sc_Rule_text := ⟨rfl, rfl, rfl, by decide +kernel, rfl, by decide +kernel, by decide +kernel⟩
def lc_Rule_text_1' (K : PySem.W.Frag) : TXD :=
  (dLc (iLst (dFld (He.ga K "Rule") "terms" (dSlotH 0))) (gdName 1) dYes (dFz (dM1 "str" fJoin (dOpd (dC (.str " "))) (dSlotH 1))) [1])
theorem lc_Rule_text_1 {K : PySem.W.Frag} {ρ : Rho} {Q : DV → Rho → Prop} {X : XD} : lc_Rule_text_1' K ρ Q X = (dLc (iLst (dFld (He.ga K "Rule") "terms" (dSlotH 0))) (gdName 1) dYes (dFz (dM1 "str" fJoin (dOpd (dC (.str " "))) (dSlotH 1))) [1]) ρ Q X := id rfl
def jn_Rule_text_1' (K : PySem.W.Frag) : TSD :=
  (dRet (dM1 "str" fJoin (dOpd (dC (.str ", "))) (dOpd (dFz (lc_Rule_text_1' K)))))
theorem jn_Rule_text_1 {K : PySem.W.Frag} {E : EndsD} {ρ : Rho} : jn_Rule_text_1' K E ρ = (dRet (dM1 "str" fJoin (dOpd (dC (.str ", "))) (dOpd (dFz (lc_Rule_text_1' K))))) E ρ := id rfl
def rd_Rule_text' (K : PySem.W.Frag) : TSD :=
  (dSeq (dIfS (dNot (dTruth (dOpd (dFld (He.ga K "Rule") "terms" (dSlotH 0))))) (dRet (dXof (dC (.str "-")))) dNext)
  (jn_Rule_text_1' K))
theorem rd_Rule_text {K : PySem.W.Frag} {E : EndsD} {ρ : Rho} : rd_Rule_text' K E ρ = (dSeq (dIfS (dNot (dTruth (dOpd (dFld (He.ga K "Rule") "terms" (dSlotH 0))))) (dRet (dXof (dC (.str "-")))) dNext)
  (jn_Rule_text_1' K)) E ρ := id rfl
def sp_Rule_text (K : PySem.W.Frag) (args : List DV) (Q : DV → List DV → Prop) (X : Exn → List DV → Prop) (_ : W2 Q X := .mk) : Prop := args.length = 1 ∧ rd_Rule_text' K (endsOf args Q X) (startD 2 args)
def sq_Rule_text (K : PySem.W.Frag) : SpD := fun args Q X => sp_Rule_text K args Q X
@[simp ↓] theorem sq_Rule_text_at {K : PySem.W.Frag} {args : List DV} {Q : DV → List DV → Prop} {X : Exn → List DV → Prop} : sq_Rule_text K args Q X = sp_Rule_text K args Q X := id rfl
theorem bd_Rule_text (f : Fs P w K mg) {fa : Addr} : BodyOk P w K mg base 0 N_Rule_text "Rule.text" sc_Rule_text fa (defBody st_Rule_text) (rd_Rule_text' K) := fun cdv A outer s H E hr => by
  have hS := hS_Rule_text
  unfold rd_Rule_text' jn_Rule_text_1' lc_Rule_text_1'
  exact (dss_cons (ds_if (dt_not (dt_truth (do_of (de_fld (do_var (pv_of (N := N_Rule_text) (sc := sc_Rule_text) rfl rfl rfl (by decide +kernel))) f.cls_Rule f.noat_Rule_terms)))) (dss_one (ds_ret (dx_of de_str))) dss_nil)
  (dss_one (ds_ret (dx_m1 PySem.F.plainAttrs_str PySem.F.slot_str_join PySem.F.type_str_join mJoin (do_of de_str) (do_of (de_fz (dx_lc (own := [("term", 1)]) rfl hS.nd (di_list (de_fld (do_var (pv_of (N := N_Rule_text) (sc := sc_Rule_text) rfl rfl rfl (by decide +kernel))) f.cls_Rule f.noat_Rule_terms)) (blkOk_by (N := N_Rule_text) (sc := sc_Rule_text) (own := [("term", 1)]) (by decide +kernel)) (by decide) (fun _ _ _ _ _ => (dg_name (i := 1) hS.nd rfl (loc_of (sc := (relS _ sc_Rule_text)) rfl (by decide +kernel)) (.inr (lcl_of (sc := (relS _ sc_Rule_text)) rfl (by decide +kernel))))) (fun _ _ _ _ _ => dts_nil) (fun _ _ _ _ _ => (de_fz (dx_m1 PySem.F.plainAttrs_str PySem.F.slot_str_join PySem.F.type_str_join mJoin (do_of de_str) (do_var (pv_of (N := N_Rule_text) (sc := (relS _ sc_Rule_text)) rfl rfl rfl (by decide +kernel)))))))))))))
theorem ok_Rule_text (f : Fs P w K mg) : FnD P w K mg base 1 (He.ma K (He.ga K "Rule") "text") [] (sq_Rule_text K) := by
  obtain ⟨fd, F⟩ := f.def_Rule_text
  exact ⟨⟨fd, _, [], fnD_body F hS_Rule_text (bd_Rule_text f) fun args Q X h => h, F.bindsN fun _ _ _ _ _ _ us hl => match us, hl with | [_], _ => rfl, .nil⟩⟩
/-! Rule.__iter__ -/
abbrev st_Rule___iter : Stmt := nthS (clsB (nthS bodyT 18)) 4
abbrev sc_Rule___iter : Scope := defScope st_Rule___iter
def N_Rule___iter : List Str := ["self"]
theorem hS_Rule___iter : FnScope N_Rule___iter ["self"] sc_Rule___iter := ⟨rfl, rfl, rfl, by decide +kernel, rfl, by decide +kernel, by decide +kernel⟩
theorem it_Rule (f : Fs P w K mg) : IterF P w K mg base 1 (He.ga K "Rule") (He.ma K (He.ga K "Rule") "__iter__") "terms" := by
  obtain ⟨fd, F⟩ := f.def_Rule___iter
  exact ⟨⟨fd, ["self"], fns_iter F hS_Rule___iter rfl f.cls_Rule f.noat_Rule_terms f.free_iter (by decide +kernel) (visc_of (by decide +kernel)), F.bindsN fun _ _ _ _ _ _ us hl => match us, hl with | [_], _ => rfl⟩, f.find_Rule___iter__, f.fn_Rule___iter__⟩
/-! _law_wrong -/
abbrev st_law_wrong : Stmt := nthS bodyT 23
abbrev sc_law_wrong : Scope := defScope st_law_wrong
def N_law_wrong : List Str := ["_law_stream_here", "_law_found"]
theorem hS_law_wrong : FnScope N_law_wrong ["_law_stream_here"] sc_law_wrong := ⟨rfl, rfl, rfl, by decide +kernel, rfl, by decide +kernel, by decide +kernel⟩
def rd_law_wrong_6' (K : PySem.W.Frag) : TSD :=
  (dRet (dXof (dOp fIx (dSlotH 1) (dOpd (dFz (dCall (sq_law_draw K) [] (vCons (dArg 0) (vCons (dOpd (dC (.int 26))) vNil))))))))
theorem rd_law_wrong_6 {K : PySem.W.Frag} {E : EndsD} {ρ : Rho} : rd_law_wrong_6' K E ρ = (dRet (dXof (dOp fIx (dSlotH 1) (dOpd (dFz (dCall (sq_law_draw K) [] (vCons (dArg 0) (vCons (dOpd (dC (.int 26))) vNil)))))))) E ρ := id rfl
def rd_law_wrong_5' (K : PySem.W.Frag) : TSD :=
  (dSeq (dFrzS 1 (dAsg 1 (dXof (dOp fAdd (dSlotH 1) (dOpd (dFz (dLst (dCons (dTup (dCons (dC (.str "seq")) (dCons (dC (.str "max")) (dCons (dC (.str "min")) dNil)))) (dCons (dTup (dCons (dC (.str "stamp")) (dCons (dC (.str "min")) (dCons (dC (.str "live")) dNil)))) (dCons (dTup (dCons (dC (.str "live")) (dCons (dC (.str "max")) (dCons (dC (.str "low")) dNil)))) dNil)))))))))) (rd_law_wrong_6' K))
theorem rd_law_wrong_5 {K : PySem.W.Frag} {E : EndsD} {ρ : Rho} : rd_law_wrong_5' K E ρ = (dSeq (dFrzS 1 (dAsg 1 (dXof (dOp fAdd (dSlotH 1) (dOpd (dFz (dLst (dCons (dTup (dCons (dC (.str "seq")) (dCons (dC (.str "max")) (dCons (dC (.str "min")) dNil)))) (dCons (dTup (dCons (dC (.str "stamp")) (dCons (dC (.str "min")) (dCons (dC (.str "live")) dNil)))) (dCons (dTup (dCons (dC (.str "live")) (dCons (dC (.str "max")) (dCons (dC (.str "low")) dNil)))) dNil)))))))))) (rd_law_wrong_6' K)) E ρ := id rfl
def rd_law_wrong_4' (K : PySem.W.Frag) : TSD :=
  (dSeq (dFrzS 1 (dAsg 1 (dXof (dOp fAdd (dSlotH 1) (dOpd (dFz (dLst (dCons (dTup (dCons (dC (.str "stamp")) (dCons (dC (.str "live")) (dCons (dC (.str "skip")) dNil)))) (dCons (dTup (dCons (dC (.str "max")) dNil)) (dCons (dTup (dCons (dFz (dLst (dCons (dC (.str "stamp")) dNil))) (dCons (dC (.str "max")) (dCons (dC (.str "low")) dNil)))) (dCons (dTup (dCons (dC (.str "stamp")) (dCons (dFz (dLst (dCons (dC (.str "max")) dNil))) (dCons (dC (.str "low")) dNil)))) dNil))))))))))) (rd_law_wrong_5' K))
theorem rd_law_wrong_4 {K : PySem.W.Frag} {E : EndsD} {ρ : Rho} : rd_law_wrong_4' K E ρ = (dSeq (dFrzS 1 (dAsg 1 (dXof (dOp fAdd (dSlotH 1) (dOpd (dFz (dLst (dCons (dTup (dCons (dC (.str "stamp")) (dCons (dC (.str "live")) (dCons (dC (.str "skip")) dNil)))) (dCons (dTup (dCons (dC (.str "max")) dNil)) (dCons (dTup (dCons (dFz (dLst (dCons (dC (.str "stamp")) dNil))) (dCons (dC (.str "max")) (dCons (dC (.str "low")) dNil)))) (dCons (dTup (dCons (dC (.str "stamp")) (dCons (dFz (dLst (dCons (dC (.str "max")) dNil))) (dCons (dC (.str "low")) dNil)))) dNil))))))))))) (rd_law_wrong_5' K)) E ρ := id rfl
def rd_law_wrong_3' (K : PySem.W.Frag) : TSD :=
  (dSeq (dFrzS 1 (dAsg 1 (dXof (dOp fAdd (dSlotH 1) (dOpd (dFz (dLst (dCons (dFz (dLst (dCons (dC (.str "seq")) (dCons (dC (.str "min")) (dCons (dC (.str "skip")) dNil))))) (dCons (dTup (dCons (dC (.str "stamp")) (dCons (dC (.str "high")) (dCons (dC (.str "low")) dNil)))) (dCons (dTup (dCons (dC (.str "seq")) (dCons (dC (.str "low")) (dCons (dC (.str "stop")) dNil)))) dNil)))))))))) (rd_law_wrong_4' K))
theorem rd_law_wrong_3 {K : PySem.W.Frag} {E : EndsD} {ρ : Rho} : rd_law_wrong_3' K E ρ = (dSeq (dFrzS 1 (dAsg 1 (dXof (dOp fAdd (dSlotH 1) (dOpd (dFz (dLst (dCons (dFz (dLst (dCons (dC (.str "seq")) (dCons (dC (.str "min")) (dCons (dC (.str "skip")) dNil))))) (dCons (dTup (dCons (dC (.str "stamp")) (dCons (dC (.str "high")) (dCons (dC (.str "low")) dNil)))) (dCons (dTup (dCons (dC (.str "seq")) (dCons (dC (.str "low")) (dCons (dC (.str "stop")) dNil)))) dNil)))))))))) (rd_law_wrong_4' K)) E ρ := id rfl
def rd_law_wrong_2' (K : PySem.W.Frag) : TSD :=
  (dSeq (dFrzS 1 (dAsg 1 (dXof (dOp fAdd (dSlotH 1) (dOpd (dFz (dLst (dCons (dTup (dCons (dC (.str "seq")) (dCons (dC (.str "min")) (dCons (dC (.str "none")) dNil)))) (dCons (dTup (dCons (dC (.str "seq")) (dCons (dC (.str "min")) (dCons (dFz (dLst (dCons (dC (.str "low")) dNil))) dNil)))) (dCons (dTup (dCons (dC (.str "live")) (dCons (dC (.str "struck")) dNil))) (dCons (dTup (dCons (dC (.str "seq")) (dCons (dC (.str "low")) (dCons (dC (.str "min")) dNil)))) dNil))))))))))) (rd_law_wrong_3' K))
theorem rd_law_wrong_2 {K : PySem.W.Frag} {E : EndsD} {ρ : Rho} : rd_law_wrong_2' K E ρ = (dSeq (dFrzS 1 (dAsg 1 (dXof (dOp fAdd (dSlotH 1) (dOpd (dFz (dLst (dCons (dTup (dCons (dC (.str "seq")) (dCons (dC (.str "min")) (dCons (dC (.str "none")) dNil)))) (dCons (dTup (dCons (dC (.str "seq")) (dCons (dC (.str "min")) (dCons (dFz (dLst (dCons (dC (.str "low")) dNil))) dNil)))) (dCons (dTup (dCons (dC (.str "live")) (dCons (dC (.str "struck")) dNil))) (dCons (dTup (dCons (dC (.str "seq")) (dCons (dC (.str "low")) (dCons (dC (.str "min")) dNil)))) dNil))))))))))) (rd_law_wrong_3' K)) E ρ := id rfl
def rd_law_wrong_1' (K : PySem.W.Frag) : TSD :=
  (dSeq (dFrzS 1 (dAsg 1 (dXof (dOp fAdd (dSlotH 1) (dOpd (dFz (dLst (dCons (dTup (dCons (dC (.str "stamp")) (dCons (dC (.str "max")) (dCons (dC (.str "low")) (dCons (dC (.str "low")) dNil))))) (dCons (dTup (dCons (dC (.str "key")) (dCons (dC (.str "max")) (dCons (dC (.str "low")) dNil)))) (dCons (dTup (dCons (dC (.str "seq")) (dCons (dC (.str "mid")) (dCons (dC (.str "low")) dNil)))) dNil)))))))))) (rd_law_wrong_2' K))
theorem rd_law_wrong_1 {K : PySem.W.Frag} {E : EndsD} {ρ : Rho} : rd_law_wrong_1' K E ρ = (dSeq (dFrzS 1 (dAsg 1 (dXof (dOp fAdd (dSlotH 1) (dOpd (dFz (dLst (dCons (dTup (dCons (dC (.str "stamp")) (dCons (dC (.str "max")) (dCons (dC (.str "low")) (dCons (dC (.str "low")) dNil))))) (dCons (dTup (dCons (dC (.str "key")) (dCons (dC (.str "max")) (dCons (dC (.str "low")) dNil)))) (dCons (dTup (dCons (dC (.str "seq")) (dCons (dC (.str "mid")) (dCons (dC (.str "low")) dNil)))) dNil)))))))))) (rd_law_wrong_2' K)) E ρ := id rfl
def rd_law_wrong_0' (K : PySem.W.Frag) : TSD :=
  (dSeq (dFrzS 1 (dAsg 1 (dLst (dCons (dFz (dLst (dCons (dC (.str "live")) dNil))) (dCons (dC (.str "live")) (dCons (dC (.str "stamp max low")) (dCons (dTup (dCons (dC (.str "dead")) dNil)) (dCons (dTup dNil) (dCons (dC .non) (dCons (dC (.int 7)) (dCons (dTup (dCons (dC (.str "stamp")) (dCons (dC (.str "max")) dNil))) (dCons (dTup (dCons (dC (.str "max")) (dCons (dC (.str "stamp")) (dCons (dC (.str "low")) dNil)))) dNil)))))))))))) (rd_law_wrong_1' K))
theorem rd_law_wrong_0 {K : PySem.W.Frag} {E : EndsD} {ρ : Rho} : rd_law_wrong_0' K E ρ = (dSeq (dFrzS 1 (dAsg 1 (dLst (dCons (dFz (dLst (dCons (dC (.str "live")) dNil))) (dCons (dC (.str "live")) (dCons (dC (.str "stamp max low")) (dCons (dTup (dCons (dC (.str "dead")) dNil)) (dCons (dTup dNil) (dCons (dC .non) (dCons (dC (.int 7)) (dCons (dTup (dCons (dC (.str "stamp")) (dCons (dC (.str "max")) dNil))) (dCons (dTup (dCons (dC (.str "max")) (dCons (dC (.str "stamp")) (dCons (dC (.str "low")) dNil)))) dNil)))))))))))) (rd_law_wrong_1' K)) E ρ := id rfl
def rd_law_wrong' (K : PySem.W.Frag) : TSD :=
  (rd_law_wrong_0' K)
theorem rd_law_wrong {K : PySem.W.Frag} {E : EndsD} {ρ : Rho} : rd_law_wrong' K E ρ = (rd_law_wrong_0' K) E ρ := id rfl
def sp_law_wrong (K : PySem.W.Frag) (args : List DV) (Q : DV → List DV → Prop) (X : Exn → List DV → Prop) (_ : W2 Q X := .mk) : Prop := args.length = 1 ∧ rd_law_wrong' K (endsOf args Q X) (startD 2 args)
def sq_law_wrong (K : PySem.W.Frag) : SpD := fun args Q X => sp_law_wrong K args Q X
@[simp ↓] theorem sq_law_wrong_at {K : PySem.W.Frag} {args : List DV} {Q : DV → List DV → Prop} {X : Exn → List DV → Prop} : sq_law_wrong K args Q X = sp_law_wrong K args Q X := id rfl
theorem bd_law_wrong (f : Fs P w K mg) {fa : Addr} : BodyOk P w K mg base 1 N_law_wrong "_law_wrong" sc_law_wrong fa (defBody st_law_wrong) (rd_law_wrong' K) := fun cdv A outer s H E hr => by
  have hS := hS_law_wrong
  unfold rd_law_wrong' rd_law_wrong_0' rd_law_wrong_1' rd_law_wrong_2' rd_law_wrong_3' rd_law_wrong_4' rd_law_wrong_5' rd_law_wrong_6'
  exact (dss_cons (ds_frz 1 (ds_asg (i := 1) hS.nd rfl (loc_of (sc := sc_law_wrong) rfl (by decide +kernel)) (dx_lst (da_cons (de_fz (dx_lst (da_cons de_str da_nil))) (da_cons de_str (da_cons de_str (da_cons (de_tup (da_cons de_str da_nil)) (da_cons (de_tup da_nil) (da_cons de_non (da_cons de_int (da_cons (de_tup (da_cons de_str (da_cons de_str da_nil))) (da_cons (de_tup (da_cons de_str (da_cons de_str (da_cons de_str da_nil)))) da_nil)))))))))) rfl (.inl rfl)))
  (dss_cons (ds_frz 1 (ds_asg (i := 1) hS.nd rfl (loc_of (sc := sc_law_wrong) rfl (by decide +kernel)) (dx_of (de_op oAdd (do_var (pv_of (N := N_law_wrong) (sc := sc_law_wrong) rfl rfl rfl (by decide +kernel))) (do_of (de_fz (dx_lst (da_cons (de_tup (da_cons de_str (da_cons de_str (da_cons de_str (da_cons de_str da_nil))))) (da_cons (de_tup (da_cons de_str (da_cons de_str (da_cons de_str da_nil)))) (da_cons (de_tup (da_cons de_str (da_cons de_str (da_cons de_str da_nil)))) da_nil)))))))) rfl (.inl rfl)))
  (dss_cons (ds_frz 1 (ds_asg (i := 1) hS.nd rfl (loc_of (sc := sc_law_wrong) rfl (by decide +kernel)) (dx_of (de_op oAdd (do_var (pv_of (N := N_law_wrong) (sc := sc_law_wrong) rfl rfl rfl (by decide +kernel))) (do_of (de_fz (dx_lst (da_cons (de_tup (da_cons de_str (da_cons de_str (da_cons de_str da_nil)))) (da_cons (de_tup (da_cons de_str (da_cons de_str (da_cons (de_fz (dx_lst (da_cons de_str da_nil))) da_nil)))) (da_cons (de_tup (da_cons de_str (da_cons de_str da_nil))) (da_cons (de_tup (da_cons de_str (da_cons de_str (da_cons de_str da_nil)))) da_nil))))))))) rfl (.inl rfl)))
  (dss_cons (ds_frz 1 (ds_asg (i := 1) hS.nd rfl (loc_of (sc := sc_law_wrong) rfl (by decide +kernel)) (dx_of (de_op oAdd (do_var (pv_of (N := N_law_wrong) (sc := sc_law_wrong) rfl rfl rfl (by decide +kernel))) (do_of (de_fz (dx_lst (da_cons (de_fz (dx_lst (da_cons de_str (da_cons de_str (da_cons de_str da_nil))))) (da_cons (de_tup (da_cons de_str (da_cons de_str (da_cons de_str da_nil)))) (da_cons (de_tup (da_cons de_str (da_cons de_str (da_cons de_str da_nil)))) da_nil)))))))) rfl (.inl rfl)))
  (dss_cons (ds_frz 1 (ds_asg (i := 1) hS.nd rfl (loc_of (sc := sc_law_wrong) rfl (by decide +kernel)) (dx_of (de_op oAdd (do_var (pv_of (N := N_law_wrong) (sc := sc_law_wrong) rfl rfl rfl (by decide +kernel))) (do_of (de_fz (dx_lst (da_cons (de_tup (da_cons de_str (da_cons de_str (da_cons de_str da_nil)))) (da_cons (de_tup (da_cons de_str da_nil)) (da_cons (de_tup (da_cons (de_fz (dx_lst (da_cons de_str da_nil))) (da_cons de_str (da_cons de_str da_nil)))) (da_cons (de_tup (da_cons de_str (da_cons (de_fz (dx_lst (da_cons de_str da_nil))) (da_cons de_str da_nil)))) da_nil))))))))) rfl (.inl rfl)))
  (dss_cons (ds_frz 1 (ds_asg (i := 1) hS.nd rfl (loc_of (sc := sc_law_wrong) rfl (by decide +kernel)) (dx_of (de_op oAdd (do_var (pv_of (N := N_law_wrong) (sc := sc_law_wrong) rfl rfl rfl (by decide +kernel))) (do_of (de_fz (dx_lst (da_cons (de_tup (da_cons de_str (da_cons de_str (da_cons de_str da_nil)))) (da_cons (de_tup (da_cons de_str (da_cons de_str (da_cons de_str da_nil)))) (da_cons (de_tup (da_cons de_str (da_cons de_str (da_cons de_str da_nil)))) da_nil)))))))) rfl (.inl rfl)))
  (dss_one (ds_ret (dx_of (de_ix (do_var (pv_of (N := N_law_wrong) (sc := sc_law_wrong) rfl rfl rfl (by decide +kernel))) (do_of (de_fz (dx_call (ok_law_draw f) (fun _ => .nil) (hr.mono (by decide)) (gl_of (sc := sc_law_wrong) rfl (by decide +kernel)) f.glo_law_draw f.keep_law_draw (dv_cons (do_arg (pv_of (N := N_law_wrong) (sc := sc_law_wrong) rfl rfl rfl (by decide +kernel))) (dv_cons (do_of de_int) dv_nil))))) (by intro _ _; rfl)))))))))))
theorem ok_law_wrong (f : Fs P w K mg) : FnD P w K mg base 2 (He.ga K "_law_wrong") [] (sq_law_wrong K) := by
  obtain ⟨fd, F⟩ := f.def_law_wrong
  exact ⟨⟨fd, _, [], fnD_body F hS_law_wrong (bd_law_wrong f) fun args Q X h => h, F.bindsN fun _ _ _ _ _ _ us hl => match us, hl with | [_], _ => rfl, .nil⟩⟩
/-! law -/
abbrev st_law : Stmt := nthS bodyT 25
abbrev sc_law : Scope := defScope st_law
def N_law : List Str := ["_law_script", "_law_stream_here", "_law_terms", "_law_k", "_law_rule", "_law_words", "_law_term_here", "_law_place", "_law_items", "_law_passed", "_law_actual"]
theorem hS_law : FnScope N_law ["_law_script"] sc_law := ⟨rfl, rfl, rfl, by decide +kernel, rfl, by decide +kernel, by decide +kernel⟩
def lc_law_1' (K : PySem.W.Frag) : TXD :=
  (dLc (iRg1 (dFz (dCall (sq_law_draw K) [] (vCons (dArg 1) (vCons (dOpd (dC (.int 7))) vNil))))) (gdName 3) dYes (dFz (dCall (sq_law_term K) [] (vCons (dArg 1) (vCons (dOpd (dC (.str "over"))) vNil)))) [3])
theorem lc_law_1 {K : PySem.W.Frag} {ρ : Rho} {Q : DV → Rho → Prop} {X : XD} : lc_law_1' K ρ Q X = (dLc (iRg1 (dFz (dCall (sq_law_draw K) [] (vCons (dArg 1) (vCons (dOpd (dC (.int 7))) vNil))))) (gdName 3) dYes (dFz (dCall (sq_law_term K) [] (vCons (dArg 1) (vCons (dOpd (dC (.str "over"))) vNil)))) [3]) ρ Q X := id rfl
def lc_law_2' (K : PySem.W.Frag) : TXD :=
  (dLc (iSlot 2) (gdName 6) dYes (dFz (dM1 "str" fJoin (dOpd (dC (.str " "))) (dSlotH 6))) [6])
theorem lc_law_2 {K : PySem.W.Frag} {ρ : Rho} {Q : DV → Rho → Prop} {X : XD} : lc_law_2' K ρ Q X = (dLc (iSlot 2) (gdName 6) dYes (dFz (dM1 "str" fJoin (dOpd (dC (.str " "))) (dSlotH 6))) [6]) ρ Q X := id rfl
def lc_law_3' (K : PySem.W.Frag) : TXD :=
  (dLc (iOwnD (He.ga K "Rule") "terms" (dSlotH 4)) (gdName 6) dYes (dGive 6) [6])
theorem lc_law_3 {K : PySem.W.Frag} {ρ : Rho} {Q : DV → Rho → Prop} {X : XD} : lc_law_3' K ρ Q X = (dLc (iOwnD (He.ga K "Rule") "terms" (dSlotH 4)) (gdName 6) dYes (dGive 6) [6]) ρ Q X := id rfl
def jn_law_1' (K : PySem.W.Frag) : TSD :=
  (dRet (dXof (dAndV (dIsC (He.ga K "Rule") (dSlotH 4)) (dAndV (dOp fEq (dOpd (dFz (lc_law_3' K))) (dSlotH 2)) (dOp fEq (dOpd (dFz (dMeth (He.ga K "Rule") "text" (sq_Rule_text K) [] (dSlotH 4) vNil))) (dSlotH 5))))))
theorem jn_law_1 {K : PySem.W.Frag} {E : EndsD} {ρ : Rho} : jn_law_1' K E ρ = (dRet (dXof (dAndV (dIsC (He.ga K "Rule") (dSlotH 4)) (dAndV (dOp fEq (dOpd (dFz (lc_law_3' K))) (dSlotH 2)) (dOp fEq (dOpd (dFz (dMeth (He.ga K "Rule") "text" (sq_Rule_text K) [] (dSlotH 4) vNil))) (dSlotH 5)))))) E ρ := id rfl
def rd_law_9' (K : PySem.W.Frag) : TSD :=
  (dRet (dXof (dAndV (dIsi "int" (dSlotH 10)) (dAndV (dOp fEq (dSlotH 10) (dSlotH 7)) (dOp fEq (dSlotH 9) (dSlotH 8))))))
theorem rd_law_9 {K : PySem.W.Frag} {E : EndsD} {ρ : Rho} : rd_law_9' K E ρ = (dRet (dXof (dAndV (dIsi "int" (dSlotH 10)) (dAndV (dOp fEq (dSlotH 10) (dSlotH 7)) (dOp fEq (dSlotH 9) (dSlotH 8)))))) E ρ := id rfl
def rd_law_8' (K : PySem.W.Frag) : TSD :=
  (dSeq (dFrzS 10 (dAsg 10 (dCall (sq_law_rule_or_place K) [] (vCons (dArg 9) vNil)))) (rd_law_9' K))
theorem rd_law_8 {K : PySem.W.Frag} {E : EndsD} {ρ : Rho} : rd_law_8' K E ρ = (dSeq (dFrzS 10 (dAsg 10 (dCall (sq_law_rule_or_place K) [] (vCons (dArg 9) vNil)))) (rd_law_9' K)) E ρ := id rfl
def rd_law_7' (K : PySem.W.Frag) : TSD :=
  (dSeq (dFrzS 9 (dAsg 9 (dC1 fList (dSlotH 8)))) (rd_law_8' K))
theorem rd_law_7 {K : PySem.W.Frag} {E : EndsD} {ρ : Rho} : rd_law_7' K E ρ = (dSeq (dFrzS 9 (dAsg 9 (dC1 fList (dSlotH 8)))) (rd_law_8' K)) E ρ := id rfl
def rd_law_6' (K : PySem.W.Frag) : TSD :=
  (dSeq (dIfS (dTest (dOp fEq (dOpd (dFz (dCall (sq_law_draw K) [] (vCons (dArg 1) (vCons (dOpd (dC (.int 2))) vNil))))) (dOpd (dC (.int 1))))) (dExpr (dInsert 8 (dOp fAdd (dOpd (dOp fAdd (dSlotH 7) (dOpd (dC (.int 1))))) (dOpd (dFz (dCall (sq_law_draw K) [] (vCons (dArg 1) (vCons (dOpd (dOp fSub (dOpd (dFz (dC1 fLen (dSlotH 8)))) (dSlotH 7))) vNil)))))) (dFz (dCall (sq_law_wrong K) [] (vCons (dArg 1) vNil))))) dNext) (rd_law_7' K))
theorem rd_law_6 {K : PySem.W.Frag} {E : EndsD} {ρ : Rho} : rd_law_6' K E ρ = (dSeq (dIfS (dTest (dOp fEq (dOpd (dFz (dCall (sq_law_draw K) [] (vCons (dArg 1) (vCons (dOpd (dC (.int 2))) vNil))))) (dOpd (dC (.int 1))))) (dExpr (dInsert 8 (dOp fAdd (dOpd (dOp fAdd (dSlotH 7) (dOpd (dC (.int 1))))) (dOpd (dFz (dCall (sq_law_draw K) [] (vCons (dArg 1) (vCons (dOpd (dOp fSub (dOpd (dFz (dC1 fLen (dSlotH 8)))) (dSlotH 7))) vNil)))))) (dFz (dCall (sq_law_wrong K) [] (vCons (dArg 1) vNil))))) dNext) (rd_law_7' K)) E ρ := id rfl
def rd_law_5' (K : PySem.W.Frag) : TSD :=
  (dSeq (dAsg 8 (dCat (dOpd (dOp fAdd (dOpd (dFz (dSl (dSlotH 2) dNoP (dPart (dGive 7))))) (dOpd (dFz (dLst (dCons (dFz (dCall (sq_law_wrong K) [] (vCons (dArg 1) vNil))) dNil)))))) (dOpd (dFz (dSl (dSlotH 2) (dPart (dGive 7)) dNoP))))) (rd_law_6' K))
theorem rd_law_5 {K : PySem.W.Frag} {E : EndsD} {ρ : Rho} : rd_law_5' K E ρ = (dSeq (dAsg 8 (dCat (dOpd (dOp fAdd (dOpd (dFz (dSl (dSlotH 2) dNoP (dPart (dGive 7))))) (dOpd (dFz (dLst (dCons (dFz (dCall (sq_law_wrong K) [] (vCons (dArg 1) vNil))) dNil)))))) (dOpd (dFz (dSl (dSlotH 2) (dPart (dGive 7)) dNoP))))) (rd_law_6' K)) E ρ := id rfl
def rd_law_4' (K : PySem.W.Frag) : TSD :=
  (dSeq (dAsg 7 (dCall (sq_law_draw K) [] (vCons (dArg 1) (vCons (dOpd (dOp fAdd (dOpd (dFz (dC1 fLen (dSlotH 2)))) (dOpd (dC (.int 1))))) vNil)))) (rd_law_5' K))
theorem rd_law_4 {K : PySem.W.Frag} {E : EndsD} {ρ : Rho} : rd_law_4' K E ρ = (dSeq (dAsg 7 (dCall (sq_law_draw K) [] (vCons (dArg 1) (vCons (dOpd (dOp fAdd (dOpd (dFz (dC1 fLen (dSlotH 2)))) (dOpd (dC (.int 1))))) vNil)))) (rd_law_5' K)) E ρ := id rfl
def rd_law_3' (K : PySem.W.Frag) : TSD :=
  (dSeq (dIfS (dTest (dOp fEq (dOpd (dFz (dCall (sq_law_draw K) [] (vCons (dArg 1) (vCons (dOpd (dC (.int 4))) vNil))))) (dOpd (dC (.int 0))))) (dSeq (dFrzS 4 (dAsg 4 (dCall (sq_law_rule_or_place K) [] (vCons (dOpd (dFz (dC1 fList (dSlotH 2)))) vNil))))
  (dSeq (dAsg 5 (dM1 "str" fJoin (dOpd (dC (.str ", "))) (dOpd (dFz (lc_law_2' K)))))
  (dSeq (dIfS (dTest (dOp fEq (dSlotH 2) (dOpd (dFz (dLst dNil))))) (dAsg 5 (dXof (dC (.str "-")))) dNext)
  (jn_law_1' K)))) dNext) (rd_law_4' K))
theorem rd_law_3 {K : PySem.W.Frag} {E : EndsD} {ρ : Rho} : rd_law_3' K E ρ = (dSeq (dIfS (dTest (dOp fEq (dOpd (dFz (dCall (sq_law_draw K) [] (vCons (dArg 1) (vCons (dOpd (dC (.int 4))) vNil))))) (dOpd (dC (.int 0))))) (dSeq (dFrzS 4 (dAsg 4 (dCall (sq_law_rule_or_place K) [] (vCons (dOpd (dFz (dC1 fList (dSlotH 2)))) vNil))))
  (dSeq (dAsg 5 (dM1 "str" fJoin (dOpd (dC (.str ", "))) (dOpd (dFz (lc_law_2' K)))))
  (dSeq (dIfS (dTest (dOp fEq (dSlotH 2) (dOpd (dFz (dLst dNil))))) (dAsg 5 (dXof (dC (.str "-")))) dNext)
  (jn_law_1' K)))) dNext) (rd_law_4' K)) E ρ := id rfl
def rd_law_2' (K : PySem.W.Frag) : TSD :=
  (dSeq (dIfS (dTest (dOp fGt (dOpd (dFz (dC1 fLen (dSlotH 2)))) (dOpd (dC (.int 4))))) (dFrzS 2 (dAsg 2 (dXof (dOp fRep (dSlotH 2) (dOpd (dC (.int 3))))))) dNext) (rd_law_3' K))
theorem rd_law_2 {K : PySem.W.Frag} {E : EndsD} {ρ : Rho} : rd_law_2' K E ρ = (dSeq (dIfS (dTest (dOp fGt (dOpd (dFz (dC1 fLen (dSlotH 2)))) (dOpd (dC (.int 4))))) (dFrzS 2 (dAsg 2 (dXof (dOp fRep (dSlotH 2) (dOpd (dC (.int 3))))))) dNext) (rd_law_3' K)) E ρ := id rfl
def rd_law_1' (K : PySem.W.Frag) : TSD :=
  (dSeq (dFrzS 2 (dAsg 2 (lc_law_1' K))) (rd_law_2' K))
theorem rd_law_1 {K : PySem.W.Frag} {E : EndsD} {ρ : Rho} : rd_law_1' K E ρ = (dSeq (dFrzS 2 (dAsg 2 (lc_law_1' K))) (rd_law_2' K)) E ρ := id rfl
def rd_law_0' (K : PySem.W.Frag) : TSD :=
  (dSeq (dFrzS 1 (dAsg 1 (dCall (sq_law_stream K) [] (vCons (dArg 0) (vCons (dOpd (dC (.int 0))) vNil))))) (rd_law_1' K))
theorem rd_law_0 {K : PySem.W.Frag} {E : EndsD} {ρ : Rho} : rd_law_0' K E ρ = (dSeq (dFrzS 1 (dAsg 1 (dCall (sq_law_stream K) [] (vCons (dArg 0) (vCons (dOpd (dC (.int 0))) vNil))))) (rd_law_1' K)) E ρ := id rfl
def rd_law' (K : PySem.W.Frag) : TSD :=
  (rd_law_0' K)
theorem rd_law {K : PySem.W.Frag} {E : EndsD} {ρ : Rho} : rd_law' K E ρ = (rd_law_0' K) E ρ := id rfl
def sp_law (K : PySem.W.Frag) (args : List DV) (Q : DV → List DV → Prop) (X : Exn → List DV → Prop) (_ : W2 Q X := .mk) : Prop := args.length = 1 ∧ rd_law' K (endsOf args Q X) (startD 11 args)
def sq_law (K : PySem.W.Frag) : SpD := fun args Q X => sp_law K args Q X
@[simp ↓] theorem sq_law_at {K : PySem.W.Frag} {args : List DV} {Q : DV → List DV → Prop} {X : Exn → List DV → Prop} : sq_law K args Q X = sp_law K args Q X := id rfl
theorem bd_law (f : Fs P w K mg) {fa : Addr} : BodyOk P w K mg base 5 N_law "law" sc_law fa (defBody st_law) (rd_law' K) := fun cdv A outer s H E hr => by
  have hS := hS_law
  unfold rd_law' rd_law_0' rd_law_1' rd_law_2' rd_law_3' rd_law_4' rd_law_5' rd_law_6' rd_law_7' rd_law_8' rd_law_9' jn_law_1' lc_law_3' lc_law_2' lc_law_1'
  exact (dss_cons (ds_frz 1 (ds_asg (i := 1) hS.nd rfl (loc_of (sc := sc_law) rfl (by decide +kernel)) (dx_call (ok_law_stream f) (fun _ => .nil) (hr.mono (by decide)) (gl_of (sc := sc_law) rfl (by decide +kernel)) f.glo_law_stream f.keep_law_stream (dv_cons (do_arg (pv_of (N := N_law) (sc := sc_law) rfl rfl rfl (by decide +kernel))) (dv_cons (do_of de_int) dv_nil))) rfl (.inl rfl)))
  (dss_cons (ds_frz 2 (ds_setLc (i := 2) (own := [("_law_k", 3)]) rfl hS.nd rfl (lcl_of (sc := sc_law) rfl (by decide +kernel)) (sw_true rfl (lcl_of (sc := sc_law) rfl (by decide +kernel)) rfl (by decide +kernel)) (di_range1 (gl_of (sc := sc_law) rfl (by decide +kernel)) f.free_range (de_fz (dx_call (ok_law_draw f) (fun _ => .nil) (hr.mono (by decide)) (gl_of (sc := sc_law) rfl (by decide +kernel)) f.glo_law_draw f.keep_law_draw (dv_cons (do_arg (pv_of (N := N_law) (sc := sc_law) rfl rfl rfl (by decide +kernel))) (dv_cons (do_of de_int) dv_nil))))) (blkOk_by (N := N_law) (sc := sc_law) (own := [("_law_k", 3)]) (by decide +kernel)) (by decide) (fun _ _ _ _ _ => (dg_name (i := 3) hS.nd rfl (loc_of (sc := (relS _ sc_law)) rfl (by decide +kernel)) (.inr (lcl_of (sc := (relS _ sc_law)) rfl (by decide +kernel))))) (fun _ _ _ _ _ => dts_nil) (fun _ _ _ _ _ => (de_fz (dx_call (ok_law_term f) (fun _ => .nil) (hr.mono (by decide)) (gl_of (sc := (relS _ sc_law)) rfl (by decide +kernel)) f.glo_law_term f.keep_law_term (dv_cons (do_arg (pv_of (N := N_law) (sc := (relS _ sc_law)) rfl rfl rfl (by decide +kernel))) (dv_cons (do_of de_str) dv_nil)))))))
  (dss_cons (ds_if (dt_cmp oGt (do_of (de_fz (dx_c1 cLen (do_var (pv_of (N := N_law) (sc := sc_law) rfl rfl rfl (by decide +kernel))) (gl_of (sc := sc_law) rfl (by decide +kernel)) f.free_len (by decide +kernel)))) (do_of de_int) (nomark _)) (dss_one (ds_frz 2 (ds_asg (i := 2) hS.nd rfl (loc_of (sc := sc_law) rfl (by decide +kernel)) (dx_of (de_op oRep (do_var (pv_of (N := N_law) (sc := sc_law) rfl rfl rfl (by decide +kernel))) (do_of de_int))) rfl (.inl rfl)))) dss_nil)
  (dss_cons (ds_if (dt_cmp (oEq (hu64 hr)) (do_of (de_fz (dx_call (ok_law_draw f) (fun _ => .nil) (hr.mono (by decide)) (gl_of (sc := sc_law) rfl (by decide +kernel)) f.glo_law_draw f.keep_law_draw (dv_cons (do_arg (pv_of (N := N_law) (sc := sc_law) rfl rfl rfl (by decide +kernel))) (dv_cons (do_of de_int) dv_nil))))) (do_of de_int) (nomark _)) (dss_cons (ds_frz 4 (ds_asg (i := 4) hS.nd rfl (loc_of (sc := sc_law) rfl (by decide +kernel)) (dx_call (ok_law_rule_or_place f) (fun _ => .nil) (hr.mono (by decide)) (gl_of (sc := sc_law) rfl (by decide +kernel)) f.glo_law_rule_or_place f.keep_law_rule_or_place (dv_cons (do_of (de_fz (dx_t1 cList (do_var (pv_of (N := N_law) (sc := sc_law) rfl rfl rfl (by decide +kernel))) (gl_of (sc := sc_law) rfl (by decide +kernel)) f.free_list (by decide +kernel)))) dv_nil)) rfl (.inl rfl)))
  (dss_cons (ds_asg (i := 5) hS.nd rfl (loc_of (sc := sc_law) rfl (by decide +kernel)) (dx_m1 PySem.F.plainAttrs_str PySem.F.slot_str_join PySem.F.type_str_join mJoin (do_of de_str) (do_of (de_fz (dx_lc (own := [("_law_term_here", 6)]) rfl hS.nd (di_slot (pv_of (N := N_law) (sc := sc_law) rfl rfl rfl (by decide +kernel))) (blkOk_by (N := N_law) (sc := sc_law) (own := [("_law_term_here", 6)]) (by decide +kernel)) (by decide) (fun _ _ _ _ _ => (dg_name (i := 6) hS.nd rfl (loc_of (sc := (relS _ sc_law)) rfl (by decide +kernel)) (.inr (lcl_of (sc := (relS _ sc_law)) rfl (by decide +kernel))))) (fun _ _ _ _ _ => dts_nil) (fun _ _ _ _ _ => (de_fz (dx_m1 PySem.F.plainAttrs_str PySem.F.slot_str_join PySem.F.type_str_join mJoin (do_of de_str) (do_var (pv_of (N := N_law) (sc := (relS _ sc_law)) rfl rfl rfl (by decide +kernel)))))))))) rfl (.inl rfl))
  (dss_cons (ds_if (dt_cmp (oEq (hu64 hr)) (do_var (pv_of (N := N_law) (sc := sc_law) rfl rfl rfl (by decide +kernel))) (do_of (de_fz (dx_lst da_nil))) (nomark _)) (dss_one (ds_asg (i := 5) hS.nd rfl (loc_of (sc := sc_law) rfl (by decide +kernel)) (dx_of de_str) rfl (.inl rfl))) dss_nil)
  (dss_one (ds_ret (dx_of (de_and (de_isC (do_var (pv_of (N := N_law) (sc := sc_law) rfl rfl rfl (by decide +kernel))) (gl_of (sc := sc_law) rfl (by decide +kernel)) f.free_isinstance (by decide +kernel) (gl_of (sc := sc_law) rfl (by decide +kernel)) f.glo_Rule f.cls_Rule f.isc_Rule) (de_and (de_cmp (oEq (hu64 hr)) (do_of (de_fz (dx_lc (own := [("_law_term_here", 6)]) rfl hS.nd (di_own (it_Rule f) (hr.mono (by decide)) (do_var (pv_of (N := N_law) (sc := sc_law) rfl rfl rfl (by decide +kernel)))) (blkOk_by (N := N_law) (sc := sc_law) (own := [("_law_term_here", 6)]) (by decide +kernel)) (by decide) (fun _ _ _ _ _ => (dg_name (i := 6) hS.nd rfl (loc_of (sc := (relS _ sc_law)) rfl (by decide +kernel)) (.inr (lcl_of (sc := (relS _ sc_law)) rfl (by decide +kernel))))) (fun _ _ _ _ _ => dts_nil) (fun _ _ _ _ _ => (de_give (pv_of (N := N_law) (sc := (relS _ sc_law)) rfl rfl rfl (by decide +kernel))))))) (do_var (pv_of (N := N_law) (sc := sc_law) rfl rfl rfl (by decide +kernel))) (nomark _)) (de_one (de_cmp (oEq (hu64 hr)) (do_of (de_fz (dx_meth0 (do_var (pv_of (N := N_law) (sc := sc_law) rfl rfl rfl (by decide +kernel))) f.cls_Rule f.meth_Rule_text (ok_Rule_text f) (fun _ => .nil) (hr.mono (by decide))))) (do_var (pv_of (N := N_law) (sc := sc_law) rfl rfl rfl (by decide +kernel))) (nomark _))))))))))) dss_nil)
  (dss_cons (ds_asg (i := 7) hS.nd rfl (loc_of (sc := sc_law) rfl (by decide +kernel)) (dx_call (ok_law_draw f) (fun _ => .nil) (hr.mono (by decide)) (gl_of (sc := sc_law) rfl (by decide +kernel)) f.glo_law_draw f.keep_law_draw (dv_cons (do_arg (pv_of (N := N_law) (sc := sc_law) rfl rfl rfl (by decide +kernel))) (dv_cons (do_of (de_op oAdd (do_of (de_fz (dx_c1 cLen (do_var (pv_of (N := N_law) (sc := sc_law) rfl rfl rfl (by decide +kernel))) (gl_of (sc := sc_law) rfl (by decide +kernel)) f.free_len (by decide +kernel)))) (do_of de_int))) dv_nil))) rfl (.inl rfl))
  (dss_cons (ds_asg (i := 8) hS.nd rfl (loc_of (sc := sc_law) rfl (by decide +kernel)) (dx_cat (do_of (de_op oAdd (do_of (de_fz (dx_slice (do_var (pv_of (N := N_law) (sc := sc_law) rfl rfl rfl (by decide +kernel))) dp_none (dp_some (de_give (pv_of (N := N_law) (sc := sc_law) rfl rfl rfl (by decide +kernel))))))) (do_of (de_fz (dx_lst (da_cons (de_fz (dx_call (ok_law_wrong f) (fun _ => .nil) (hr.mono (by decide)) (gl_of (sc := sc_law) rfl (by decide +kernel)) f.glo_law_wrong f.keep_law_wrong (dv_cons (do_arg (pv_of (N := N_law) (sc := sc_law) rfl rfl rfl (by decide +kernel))) dv_nil))) da_nil)))))) (do_of (de_fz (dx_slice (do_var (pv_of (N := N_law) (sc := sc_law) rfl rfl rfl (by decide +kernel))) (dp_some (de_give (pv_of (N := N_law) (sc := sc_law) rfl rfl rfl (by decide +kernel)))) dp_none)))) rfl (.inl rfl))
  (dss_cons (ds_if (dt_cmp (oEq (hu64 hr)) (do_of (de_fz (dx_call (ok_law_draw f) (fun _ => .nil) (hr.mono (by decide)) (gl_of (sc := sc_law) rfl (by decide +kernel)) f.glo_law_draw f.keep_law_draw (dv_cons (do_arg (pv_of (N := N_law) (sc := sc_law) rfl rfl rfl (by decide +kernel))) (dv_cons (do_of de_int) dv_nil))))) (do_of de_int) (nomark _)) (dss_one (ds_expr (dx_insert (pv_of (N := N_law) (sc := sc_law) rfl rfl rfl (by decide +kernel)) (de_op oAdd (do_of (de_op oAdd (do_var (pv_of (N := N_law) (sc := sc_law) rfl rfl rfl (by decide +kernel))) (do_of de_int))) (do_of (de_fz (dx_call (ok_law_draw f) (fun _ => .nil) (hr.mono (by decide)) (gl_of (sc := sc_law) rfl (by decide +kernel)) f.glo_law_draw f.keep_law_draw (dv_cons (do_arg (pv_of (N := N_law) (sc := sc_law) rfl rfl rfl (by decide +kernel))) (dv_cons (do_of (de_op oSub (do_of (de_fz (dx_c1 cLen (do_var (pv_of (N := N_law) (sc := sc_law) rfl rfl rfl (by decide +kernel))) (gl_of (sc := sc_law) rfl (by decide +kernel)) f.free_len (by decide +kernel)))) (do_var (pv_of (N := N_law) (sc := sc_law) rfl rfl rfl (by decide +kernel))))) dv_nil)))))) (de_fz (dx_call (ok_law_wrong f) (fun _ => .nil) (hr.mono (by decide)) (gl_of (sc := sc_law) rfl (by decide +kernel)) f.glo_law_wrong f.keep_law_wrong (dv_cons (do_arg (pv_of (N := N_law) (sc := sc_law) rfl rfl rfl (by decide +kernel))) dv_nil)))))) dss_nil)
  (dss_cons (ds_frz 9 (ds_asg (i := 9) hS.nd rfl (loc_of (sc := sc_law) rfl (by decide +kernel)) (dx_t1 cList (do_var (pv_of (N := N_law) (sc := sc_law) rfl rfl rfl (by decide +kernel))) (gl_of (sc := sc_law) rfl (by decide +kernel)) f.free_list (by decide +kernel)) rfl (.inl rfl)))
  (dss_cons (ds_frz 10 (ds_asg (i := 10) hS.nd rfl (loc_of (sc := sc_law) rfl (by decide +kernel)) (dx_call (ok_law_rule_or_place f) (fun _ => .nil) (hr.mono (by decide)) (gl_of (sc := sc_law) rfl (by decide +kernel)) f.glo_law_rule_or_place f.keep_law_rule_or_place (dv_cons (do_arg (pv_of (N := N_law) (sc := sc_law) rfl rfl rfl (by decide +kernel))) dv_nil)) rfl (.inl rfl)))
  (dss_one (ds_ret (dx_of (de_and (de_isi (x := "") (do_var (pv_of (N := N_law) (sc := sc_law) rfl rfl rfl (by decide +kernel))) (gl_of (sc := sc_law) rfl (by decide +kernel)) f.free_isinstance (by decide +kernel) (gl_of (sc := sc_law) rfl (by decide +kernel)) f.free_int (by decide +kernel)) (de_and (de_cmp (oEq (hu64 hr)) (do_var (pv_of (N := N_law) (sc := sc_law) rfl rfl rfl (by decide +kernel))) (do_var (pv_of (N := N_law) (sc := sc_law) rfl rfl rfl (by decide +kernel))) (nomark _)) (de_one (de_cmp (oEq (hu64 hr)) (do_var (pv_of (N := N_law) (sc := sc_law) rfl rfl rfl (by decide +kernel))) (do_var (pv_of (N := N_law) (sc := sc_law) rfl rfl rfl (by decide +kernel))) (nomark _)))))))))))))))))
theorem ok_law (f : Fs P w K mg) : FnD P w K mg base 6 (He.ga K "law") [] (sq_law K) := by
  obtain ⟨fd, F⟩ := f.def_law
  exact ⟨⟨fd, _, [], fnD_body F hS_law (bd_law f) fun args Q X h => h, F.bindsN fun _ _ _ _ _ _ us hl => match us, hl with | [_], _ => rfl, .nil⟩⟩
end
end PDLaw
set_option maxHeartbeats 0
namespace PDLaw
open PySem L2 PySem.Spec PyProof.Rows PD
def dd_law_stream : He.DefD := ⟨("_law_stream", none), "_law_stream", "_law_stream", defArgs (nthS bodyT 20), defBody (nthS bodyT 20), defScope (nthS bodyT 20), [], []⟩
def dd_law_draw : He.DefD := ⟨("_law_draw", none), "_law_draw", "_law_draw", defArgs (nthS bodyT 21), defBody (nthS bodyT 21), defScope (nthS bodyT 21), [], []⟩
def dd_law_term : He.DefD := ⟨("_law_term", none), "_law_term", "_law_term", defArgs (nthS bodyT 22), defBody (nthS bodyT 22), defScope (nthS bodyT 22), [], []⟩
def dd_is_term : He.DefD := ⟨("is_term", none), "is_term", "is_term", defArgs (nthS bodyT 16), defBody (nthS bodyT 16), defScope (nthS bodyT 16), [], []⟩
def dd_Rule___init : He.DefD := ⟨("Rule", some "__init__"), "__init__", "Rule.__init__", defArgs (nthS (clsB (nthS bodyT 18)) 0), defBody (nthS (clsB (nthS bodyT 18)) 0), defScope (nthS (clsB (nthS bodyT 18)) 0), [], []⟩
def dd_law_rule_or_place : He.DefD := ⟨("_law_rule_or_place", none), "_law_rule_or_place", "_law_rule_or_place", defArgs (nthS bodyT 24), defBody (nthS bodyT 24), defScope (nthS bodyT 24), [], []⟩
def dd_Rule_text : He.DefD := ⟨("Rule", some "text"), "text", "Rule.text", defArgs (nthS (clsB (nthS bodyT 18)) 2), defBody (nthS (clsB (nthS bodyT 18)) 2), defScope (nthS (clsB (nthS bodyT 18)) 2), [], []⟩
def dd_Rule___iter : He.DefD := ⟨("Rule", some "__iter__"), "__iter__", "Rule.__iter__", defArgs (nthS (clsB (nthS bodyT 18)) 4), defBody (nthS (clsB (nthS bodyT 18)) 4), defScope (nthS (clsB (nthS bodyT 18)) 4), [], []⟩
def dd_law_wrong : He.DefD := ⟨("_law_wrong", none), "_law_wrong", "_law_wrong", defArgs (nthS bodyT 23), defBody (nthS bodyT 23), defScope (nthS bodyT 23), [], []⟩
def dd_law : He.DefD := ⟨("law", none), "law", "law", defArgs (nthS bodyT 25), defBody (nthS bodyT 25), defScope (nthS bodyT 25), [], []⟩
def fnL0 : List He.DefD := [dd_law_stream, dd_law_draw, dd_law_term, dd_is_term, dd_Rule___init, dd_law_rule_or_place, dd_Rule_text, dd_Rule___iter, dd_law_wrong, dd_law]
def fnL : List He.DefD := fnL0
def faL0 : List He.Fa := [.free "len", .free "int", .keep "_law_stream", .glo "_law_stream", .keep "_law_draw", .glo "_law_draw", .free "range", .keep "_law_term", .glo "_law_term", .free "enumerate"]
def faL1 : List He.Fa := [.free "isinstance", .free "tuple", .keep "is_term", .glo "is_term", .free "super", .glo "BadTerm", .free "list", .cls "Rule", .noat "Rule" "terms", .mkr "Rule"]
def faL2 : List He.Fa := [.glo "Rule", .glo "BadRow", .glo "BadPromise", .glo "BadPlace", .glo "BadOrder", .glo "BadKind", .glo "BadCode", .glo "NothingToUndo", .glo "Breach", .glo "BadText"]
def faL3 : List He.Fa := [.free "ValueError", .glo "OnekeptError", .free "bool", .keep "_law_rule_or_place", .glo "_law_rule_or_place", .meth "Rule" "text", .meth "Rule" "__iter__", .free "iter", .keep "_law_wrong", .glo "_law_wrong"]
def faL4 : List He.Fa := [.glo "law"]
def faL : List He.Fa := faL0 ++ (faL1 ++ (faL2 ++ (faL3 ++ (faL4))))
def reL0 : List ReD := []
def reL : List ReD := reL0
def names0 : List Str := ["_wall", "OnekeptError", "BadRow", "BadOrder", "BadKind", "BadTerm", "BadCode", "BadText", "BadPromise", "Breach"]
def names1 : List Str := ["BadPlace", "NothingToUndo", "COLUMNS", "TURNED", "is_term", "meet", "Rule", "_law_stream", "_law_draw", "_law_term"]
def names2 : List Str := ["_law_wrong", "_law_rule_or_place"]
def names : List Str := names0 ++ (names1 ++ (names2))
def tsL : List He.Tab := []
def exs (K : PySem.W.Frag) : List Bool := [supB K (He.ga K "BadTerm") "place" "place" fileT, excB K (He.ga K "BadTerm"), kitTB K (He.ga K "BadTerm") [He.ga K "BadCode", He.ga K "BadKind", He.ga K "BadOrder", He.ga K "BadPlace", He.ga K "BadPromise", He.ga K "BadRow"] false, kitTB K (He.ga K "BadTerm") [He.ga K "BadText", He.ga K "Breach", He.ga K "NothingToUndo"] false, kitVB K (He.ga K "BadTerm") true, kit1B K (He.ga K "BadTerm") (He.ga K "OnekeptError") true, xfB K (He.ga K "BadTerm"), He.eqO (PySem.W.findIn K (.ref (He.ga K "BadTerm")) "place") (some none), exmTab K [He.ga K "BadTerm"] [He.ga K "BadTerm"], isCB K (He.ga K "Rule")]
def exB (K : PySem.W.Frag) : Bool := (exs K).all id
abbrev R : PySem.W.OpenRow := PySem.W.OpenLaw.row PySem.Challenge.rw_onekept_k06_rule_terms_refused
abbrev hk : PySem.W.Hook := hookP 5 faL fnL tsL exB reL
def ob (s : PySem.W.SharedT) : AlP := obsP 5 faL fnL tsL exB reL (HandSHeadRun.getT s)
theorem ob_eq (s : PySem.W.SharedT) : ob s = hk.obs s.abs := obsP_eq (HandSHeadRun.getT_eq s)
theorem run_a (w : World) : HandSHeadRun.RunEq R (PySem.W.view R.prog [25]) hk ob 20000 names (w.withFollow "special-get-raises" false) := fun os => by kernel_rfl
theorem run_b (w : World) : HandSHeadRun.RunEq R (PySem.W.view R.prog [25]) hk ob 20000 names (w.withFollow "special-get-raises" true) := fun os => by kernel_rfl
theorem run (w : World) : HandSHeadRun.RunEq R (PySem.W.view R.prog [25]) hk ob 20000 names w := PySem.W.byRow2 "special-get-raises" (P := fun w => HandSHeadRun.RunEq R (PySem.W.view R.prog [25]) hk ob 20000 names w) run_a run_b w
theorem exGet {K : PySem.W.Frag} (h : exB K = true) {i : Nat} {b : Bool} (e : (exs K)[i]? = some b := by rfl) : b = true := List.all_eq_true.mp h b (List.mem_of_getElem? e)
theorem facts {P : Program} (hP : SupP P fileT) {w : World} {K : PySem.W.Frag} {h : Heap} {mg : Str → Option Value} (X : K.In h) (G : h.Ns mainGlobals mg) (c0 : SaysP faL fnL tsL exB reL w h K) : Fs P w K mg := have c := c0.x; ⟨
  hP,
  He.free_ok X G (c.t.d.fact 0 (f := .free "len") rfl),
  He.free_ok X G (c.t.d.fact 1 (f := .free "int") rfl),
  c.t.d.def_ 0 (d := dd_law_stream) rfl,
  He.keep_ok (c.t.d.fact 2 (f := .keep "_law_stream") rfl),
  He.glo_ok X G (c.t.d.fact 3 (f := .glo "_law_stream") rfl),
  c.t.d.def_ 1 (d := dd_law_draw) rfl,
  He.keep_ok (c.t.d.fact 4 (f := .keep "_law_draw") rfl),
  He.glo_ok X G (c.t.d.fact 5 (f := .glo "_law_draw") rfl),
  He.free_ok X G (c.t.d.fact 6 (f := .free "range") rfl),
  c.t.d.def_ 2 (d := dd_law_term) rfl,
  He.keep_ok (c.t.d.fact 7 (f := .keep "_law_term") rfl),
  He.glo_ok X G (c.t.d.fact 8 (f := .glo "_law_term") rfl),
  He.free_ok X G (c.t.d.fact 9 (f := .free "enumerate") rfl),
  He.free_ok X G (c.t.d.fact 10 (f := .free "isinstance") rfl),
  He.free_ok X G (c.t.d.fact 11 (f := .free "tuple") rfl),
  c.t.d.def_ 3 (d := dd_is_term) rfl,
  He.keep_ok (c.t.d.fact 12 (f := .keep "is_term") rfl),
  He.glo_ok X G (c.t.d.fact 13 (f := .glo "is_term") rfl),
  supB_ok (exGet c.more (i := 0) rfl),
  He.free_ok X G (c.t.d.fact 14 (f := .free "super") rfl),
  He.glo_ok X G (c.t.d.fact 15 (f := .glo "BadTerm") rfl),
  He.free_ok X G (c.t.d.fact 16 (f := .free "list") rfl),
  He.cls_ok (c.t.d.fact 17 (f := .cls "Rule") rfl),
  He.noat_ok (c.t.d.fact 18 (f := .noat "Rule" "terms") rfl),
  c.t.d.def_ 4 (d := dd_Rule___init) rfl,
  He.mkr_ok (c.t.d.fact 19 (f := .mkr "Rule") rfl),
  He.glo_ok X G (c.t.d.fact 20 (f := .glo "Rule") rfl),
  excB_ok (exGet c.more (i := 1) rfl),
  exGet c.more (i := 2) rfl,
  He.glo_ok X G (c.t.d.fact 21 (f := .glo "BadRow") rfl),
  He.glo_ok X G (c.t.d.fact 22 (f := .glo "BadPromise") rfl),
  He.glo_ok X G (c.t.d.fact 23 (f := .glo "BadPlace") rfl),
  He.glo_ok X G (c.t.d.fact 24 (f := .glo "BadOrder") rfl),
  He.glo_ok X G (c.t.d.fact 25 (f := .glo "BadKind") rfl),
  He.glo_ok X G (c.t.d.fact 26 (f := .glo "BadCode") rfl),
  exGet c.more (i := 3) rfl,
  He.glo_ok X G (c.t.d.fact 27 (f := .glo "NothingToUndo") rfl),
  He.glo_ok X G (c.t.d.fact 28 (f := .glo "Breach") rfl),
  He.glo_ok X G (c.t.d.fact 29 (f := .glo "BadText") rfl),
  exGet c.more (i := 4) rfl,
  He.free_ok X G (c.t.d.fact 30 (f := .free "ValueError") rfl),
  exGet c.more (i := 5) rfl,
  He.glo_ok X G (c.t.d.fact 31 (f := .glo "OnekeptError") rfl),
  xfB_ok (exGet c.more (i := 6) rfl),
  He.eqO_ok (exGet c.more (i := 7) rfl),
  He.free_ok X G (c.t.d.fact 32 (f := .free "bool") rfl),
  exGet c.more (i := 8) rfl,
  c.t.d.def_ 5 (d := dd_law_rule_or_place) rfl,
  He.keep_ok (c.t.d.fact 33 (f := .keep "_law_rule_or_place") rfl),
  He.glo_ok X G (c.t.d.fact 34 (f := .glo "_law_rule_or_place") rfl),
  c.t.d.def_ 6 (d := dd_Rule_text) rfl,
  (He.meth_ok (c.t.d.fact 35 (f := .meth "Rule" "text") rfl)),
  (He.meth_ok (c.t.d.fact 36 (f := .meth "Rule" "__iter__") rfl)).at_,
  (He.meth_ok (c.t.d.fact 36 (f := .meth "Rule" "__iter__") rfl)).fn,
  He.free_ok X G (c.t.d.fact 37 (f := .free "iter") rfl),
  c.t.d.def_ 7 (d := dd_Rule___iter) rfl,
  exGet c.more (i := 9) rfl,
  c.t.d.def_ 8 (d := dd_law_wrong) rfl,
  He.keep_ok (c.t.d.fact 38 (f := .keep "_law_wrong") rfl),
  He.glo_ok X G (c.t.d.fact 39 (f := .glo "_law_wrong") rfl),
  c.t.d.def_ 9 (d := dd_law) rfl,
  He.glo_ok X G (c.t.d.fact 40 (f := .glo "law") rfl)⟩
theorem lawF {P : Program} {w : World} {K : PySem.W.Frag} {mg : Str → Option Value} (f : Fs P w K mg) : ∃ fd : FuncData, (∀ (s : Shared) (v : Value), BindsTo s fd ⟨[v], []⟩ [("_law_script", v)]) ∧ ∀ base : Heap, K.In base → base.Ns mainGlobals mg → FnOk P w K mg base (L2.CX P w) 6 (He.ga K "law") fd ["_law_script"] (liftSp K (sq_law K)) := by
  obtain ⟨fd, F⟩ := f.def_law
  have b := FunD.bindsA (ps := ["_law_script"]) F fun _ _ _ _ _ _ us hl => match us, hl with | [_], _ => rfl
  exact ⟨fd, fun s v => b s [v] rfl, fun base _ _ => fnD_body F hS_law (bd_law f) fun args Q X h => h⟩
end PDLaw
set_option maxHeartbeats 400000
namespace PDLaw
open PySem L2 PySem.Spec PyProof.Rows PD
variable {K : PySem.W.Frag} {Q : DV → List DV → Prop} {X : Exn → List DV → Prop}
inductive Lk where
  | low | high | skip | stop
  deriving DecidableEq
inductive Tm where
  | live | struck | t (seq : Bool) (min : Bool) (l : Lk)
  deriving DecidableEq
def colS (b : Bool) : Str := if b then "seq" else "stamp"
def wayS (b : Bool) : Str := if b then "min" else "max"
def lacS : Lk → Str
  | .low => "low" | .high => "high" | .skip => "skip" | .stop => "stop"
def Tm.d : Tm → D
  | .live => .tup [.str "live"]
  | .struck => .tup [.str "struck"]
  | .t c w l => .tup [.str (colS c), .str (wayS w), .str (lacS l)]
def oD : Option Int → D
  | none => .non
  | some i => .int i
@[simp] theorem oD_n : oD none = .non := rfl
@[simp] theorem oD_s {i : Int} : oD (some i) = .int i := rfl
structure Rw where
  key : Int
  stamp : Option Int
  seq : Option Int
  mark : Bool
def Rw.d (r : Rw) : D := .tup [.int r.key, oD r.stamp, oD r.seq, .bl r.mark]
def Rw.at (r : Rw) (c : Bool) : Option Int := if c then r.seq else r.stamp
/-- 1, -1, 0; 2: stop -/
def cmpC (w : Bool) (l : Lk) : Option Int → Option Int → Int
  | some x, some y => if x = y then 0 else if (decide (y < x)) = !w then 1 else -1
  | some _, none => if l = .stop then 2 else if l = .skip then 0 else if l = .low then 1 else -1
  | none, some _ => if l = .stop then 2 else if l = .skip then 0 else if l = .low then -1 else 1
  | none, none => if l = .stop then 2 else 0
def met : Tm → Rw → Rw → Int
  | .live, a, b => (if b.mark then 1 else 0) - (if a.mark then 1 else 0)
  | .struck, a, b => (if a.mark then 1 else 0) - (if b.mark then 1 else 0)
  | .t c w l, a, b => cmpC w l (a.at c) (b.at c)
def metD (i : Int) : D := if i = 2 then .non else .int i
theorem s_stop {l : Lk} : (lacS l = "stop") = (l = .stop) := by cases l <;> simp [lacS]
theorem s_skip {l : Lk} : (lacS l = "skip") = (l = .skip) := by cases l <;> simp [lacS]
theorem s_low {l : Lk} : (lacS l = "low") = (l = .low) := by cases l <;> simp [lacS]
theorem s_high {l : Lk} : (lacS l = "high") = (l = .high) := by cases l <;> simp [lacS]
theorem s_min {w : Bool} : (wayS w = "min") = (w = true) := by cases w <;> simp [wayS]
theorem s_max {w : Bool} : (wayS w = "max") = (w = false) := by cases w <;> simp [wayS]
theorem s_seq {w : Bool} : (colS w = "seq") = (w = true) := by cases w <;> simp [colS]
theorem s_stamp {w : Bool} : (colS w = "stamp") = (w = false) := by cases w <;> simp [colS]
@[simp] theorem sh_Tm {n : Nat} {t : Tm} : shD (n + 1) t.d = true := by
  cases t with
  | live => simp [Tm.d]
  | struck => simp [Tm.d]
  | t c w l => cases c <;> cases w <;> (cases l <;> simp [Tm.d, colS, wayS, lacS])
@[simp] theorem shs_Tm {n : Nat} {ts : List Tm} : shDs (n + 1) (ts.map Tm.d) = true := shDs_map fun _ => sh_Tm
@[simp] theorem ev_Tm {t u : Tm} : eqvD t.d u.d = decide (t = u) := by
  have hl : ∀ l m : Lk, (lacS l = lacS m) = (l = m) := by
    intro l m
    cases l <;> cases m <;> simp [lacS]
  cases t with
  | live => cases u <;> simp [Tm.d]
  | struck => cases u <;> simp [Tm.d]
  | t c w l => cases u with
    | live => simp [Tm.d]
    | struck => simp [Tm.d]
    | t c' w' l' => cases c <;> cases w <;> cases c' <;> cases w' <;> simp [Tm.d, colS, wayS, hl]
@[simp] theorem evs_Tm {t u : List Tm} : eqvDs (t.map Tm.d) (u.map Tm.d) = decide (t = u) := evs_map fun _ _ => ev_Tm
def cmpL : List Tm → Rw → Rw → Int
  | [], _, _ => 0
  | t :: ts, a, b => if met t a b = 2 then 0 else if met t a b = 0 then cmpL ts a b else met t a b
theorem cmpC_turn (w : Bool) (l : Lk) (x y : Option Int) : cmpC w l y x = if cmpC w l x y = 2 then 2 else - cmpC w l x y := by
  cases x <;> cases y
  · cases l <;> simp [cmpC]
  · cases l <;> simp [cmpC]
  · cases l <;> simp [cmpC]
  · rename_i i j
    rcases Int.lt_trichotomy i j with g | g | g
    · have h1 : ¬ i = j := by omega
      have h2 : ¬ j = i := by omega
      have h3 : ¬ j < i := by omega
      cases w <;> simp [cmpC, g, h1, h2, h3]
    · subst g
      simp [cmpC]
    · have h1 : ¬ i = j := by omega
      have h2 : ¬ j = i := by omega
      have h3 : ¬ i < j := by omega
      cases w <;> simp [cmpC, g, h1, h2, h3]
theorem cmpC_val (w : Bool) (l : Lk) (x y : Option Int) : cmpC w l x y = 0 ∨ cmpC w l x y = 1 ∨ cmpC w l x y = -1 ∨ cmpC w l x y = 2 := by
  cases x <;> cases y
  · cases l <;> simp [cmpC]
  · cases l <;> simp [cmpC]
  · cases l <;> simp [cmpC]
  · simp only [cmpC]
    split
    · exact .inl rfl
    · split
      · exact .inr (.inl rfl)
      · exact .inr (.inr (.inl rfl))
theorem met_turn (t : Tm) (a b : Rw) : met t b a = if met t a b = 2 then 2 else - met t a b := by
  cases t with
  | live => obtain ⟨_, _, _, x⟩ := a; obtain ⟨_, _, _, y⟩ := b; cases x <;> cases y <;> simp [met]
  | struck => obtain ⟨_, _, _, x⟩ := a; obtain ⟨_, _, _, y⟩ := b; cases x <;> cases y <;> simp [met]
  | t c w l => exact cmpC_turn w l _ _
theorem met_val (t : Tm) (a b : Rw) : met t a b = 0 ∨ met t a b = 1 ∨ met t a b = -1 ∨ met t a b = 2 := by
  cases t with
  | live => obtain ⟨_, _, _, x⟩ := a; obtain ⟨_, _, _, y⟩ := b; cases x <;> cases y <;> simp [met]
  | struck => obtain ⟨_, _, _, x⟩ := a; obtain ⟨_, _, _, y⟩ := b; cases x <;> cases y <;> simp [met]
  | t c w l => exact cmpC_val w l _ _
theorem cmpL_turn (ts : List Tm) (a b : Rw) : cmpL ts b a = - cmpL ts a b := by
  induction ts with
  | nil => rfl
  | cons t ts ih =>
    unfold cmpL
    rw [met_turn t a b]
    by_cases h : met t a b = 2
    · simp [h]
    · by_cases h2 : met t a b = 0
      · simp [h2, ih]
      · rcases met_val t a b with e | e | e | e <;> simp_all
theorem cmpL_self (ts : List Tm) (a : Rw) : cmpL ts a a = 0 := by
  have := cmpL_turn ts a a
  omega
/-- the kinds of terms that a manner takes -/
def Tm.fits (m : String) (t : Tm) : Prop := ((m = "first" ∨ m = "last") → ∀ c w l, t = .t c w l → l = .low ∨ l = .high) ∧ (m = "join" → ∃ c w, t = .t c w .low)
def Lk.n : Lk → Int
  | .low => 0 | .high => 1 | .skip => 2 | .stop => 3
theorem lk_of {i : Int} (h0 : 0 ≤ i) (h4 : i < 4) : ∃ l : Lk, i = l.n := by
  have e : i = 0 ∨ i = 1 ∨ i = 2 ∨ i = 3 := by omega
  rcases e with e | e | e | e
  · exact ⟨.low, e⟩
  · exact ⟨.high, e⟩
  · exact ⟨.skip, e⟩
  · exact ⟨.stop, e⟩
theorem bit_of {i : Int} : i % 2 = 0 ∨ i % 2 = 1 := by omega
def Rw.kind (r : Rw) : Int := 4 * (if r.stamp = none then 1 else 0) + 2 * (if r.seq = none then 1 else 0) + if r.mark then 1 else 0
def cellOk (o : Option Int) : Prop := ∀ i, o = some i → -10 ^ 30 ≤ i ∧ i ≤ 10 ^ 30
theorem cellOk_n : cellOk none := fun _ e => nomatch e
theorem cellOk_s {i : Int} (h : -10 ^ 30 ≤ i) (h' : i ≤ 10 ^ 30) : cellOk (some i) := fun _ e => by cases e; exact ⟨h, h'⟩
/-- an item drawn -/
theorem drawn {xs : List Int} {n : Int} (h0 : 0 ≤ n) (h1 : n < xs.length) : ∃ (i : Nat) (y : Int), n = i ∧ xs[i]? = some y ∧ y ∈ xs := by
  obtain ⟨i, rfl⟩ := Int.eq_ofNat_of_zero_le h0
  have hi : i < xs.length := by omega
  exact ⟨i, xs[i], rfl, List.getElem?_eq_getElem hi, List.getElem_mem hi⟩
/-- the rule of these terms -/
abbrev ruleD (K : PySem.W.Frag) (ts : List Tm) : D := .ins (He.ga K "Rule") [("terms", .lst (ts.map Tm.d))]
theorem cmpL_val (ts : List Tm) (a b : Rw) : cmpL ts a b = 0 ∨ cmpL ts a b = 1 ∨ cmpL ts a b = -1 := by
  induction ts with
  | nil => exact .inl rfl
  | cons t ts ih =>
    unfold cmpL
    rcases met_val t a b with e | e | e | e
    · simp [e, ih]
    · simp [e]
    · simp [e]
    · simp [e]
abbrev lawE (ns : List Int) : EndsD := endsOf [.v (.scr ns)] (fun x _ => x = .v (.bl true)) fun _ _ => False
end PDLaw
set_option maxHeartbeats 400000
namespace PDLaw
open PySem L2 PySem.Spec PyProof.Rows PD
variable {K : PySem.W.Frag} {Q : DV → List DV → Prop} {X : Exn → List DV → Prop}
theorem w_is_term {t : Tm} : sp_is_term K [.v t.d] Q X = Q (.v (.bl true)) [.v t.d] := by
  cases t with
  | live => simp [sp_is_term, rd_is_term, Tm.d]
  | struck => simp [sp_is_term, rd_is_term, Tm.d]
  | t c w l => cases c <;> cases w <;> (cases l <;> simp [sp_is_term, rd_is_term, jn_is_term_1, jn_is_term_2, jn_is_term_3, Tm.d, colS, wayS, lacS])
theorem w_Rule_init {ts : List Tm} : sp_Rule___init K [.l (.ins (He.ga K "Rule") []), .l (.lst (ts.map Tm.d))] Q X = Q (.v .non) [.l (.ins (He.ga K "Rule") [("terms", .lst (ts.map Tm.d))]), .l (.lst (ts.map Tm.d))] := by
  simp [sp_Rule___init, rd_Rule___init, enumD_map]
  generalize hl : ts.map Tm.d = l
  refine for_eq (fun p : Tm × Nat => D.tup [.int ((p.2 : Nat) : Int), p.1.d]) (fun s : Option DV × Option DV => [some (.l (.ins (He.ga K "Rule") [])), some (.l (.lst l)), s.1, s.2]) (fun us s => Q (.v .non) [.l (.ins (He.ga K "Rule") [("terms", .lst l)]), .l (.lst l)]) ?_ ?_ _ ⟨_, _⟩
  · rintro ⟨x, y⟩
    simp [jn_Rule___init_1, putD]
  · rintro ⟨t, n⟩ us ⟨x, y⟩ R hR
    simp only [Prod.forall] at hR
    simp [lp_Rule___init_1, w_is_term, hR]
theorem w_Rule_init_v {ts : List Tm} : sp_Rule___init K [.l (.ins (He.ga K "Rule") []), .v (.lst (ts.map Tm.d))] Q X = Q (.v .non) [.l (.ins (He.ga K "Rule") [("terms", .lst (ts.map Tm.d))]), .v (.lst (ts.map Tm.d))] := by
  simp [sp_Rule___init, rd_Rule___init, enumD_map]
  generalize hl : ts.map Tm.d = l
  refine for_eq (fun p : Tm × Nat => D.tup [.int ((p.2 : Nat) : Int), p.1.d]) (fun s : Option DV × Option DV => [some (.l (.ins (He.ga K "Rule") [])), some (.v (.lst l)), s.1, s.2]) (fun us s => Q (.v .non) [.l (.ins (He.ga K "Rule") [("terms", .lst l)]), .v (.lst l)]) ?_ ?_ _ ⟨_, _⟩
  · rintro ⟨x, y⟩
    simp [jn_Rule___init_1, putD]
  · rintro ⟨t, n⟩ us ⟨x, y⟩ R hR
    simp only [Prod.forall] at hR
    simp [lp_Rule___init_1, w_is_term, hR]
end PDLaw
set_option maxHeartbeats 400000
namespace PDLaw
open PySem L2 PySem.Spec PyProof.Rows PD
variable {K : PySem.W.Frag} {Q : DV → List DV → Prop} {X : Exn → List DV → Prop}
theorem w_draw {n : Int} (hn : 0 < n) (hl : n.natAbs.log2 < 9000) (h : ∀ r, 0 ≤ r → r < n → Q (.v (.int r)) [.v .stm, .v (.int n)]) : sp_law_draw K [.v .stm, .v (.int n)] Q X := by
  simp [sp_law_draw, rd_law_draw, jn_law_draw_1]
  intro a ha
  split
  · refine fun b hb => ⟨hn, fun c hc => ⟨⟨hn, hl⟩, Int.ediv_nonneg hc (Int.le_of_lt hn), h _ (Int.emod_nonneg _ (Int.ne_of_gt hn)) (Int.emod_lt_of_pos _ hn)⟩⟩
  · refine fun b hb => ⟨Int.emod_nonneg _ (by decide), fun c hc => ⟨hn, h _ (Int.emod_nonneg _ (Int.ne_of_gt hn)) (Int.emod_lt_of_pos _ hn)⟩⟩
theorem w_stream {ns : List Int} {k : Int} (hk : 0 ≤ k) (h : Q (.v .stm) [.v (.scr ns), .v (.int k)]) : sp_law_stream K [.v (.scr ns), .v (.int k)] Q X := by
  have t5 : ∀ a b, 0 ≤ a → 0 ≤ b → rd_law_stream_5' K (endsOf [DV.v (D.scr ns), DV.v (D.int k)] Q X) [some (DV.v (D.scr ns)), some (DV.v (D.int k)), some (DV.v (D.int a)), some (DV.v (D.int b))] := fun a b ha hb => by
    simp [rd_law_stream_5, ha, hb, h]
  simp [sp_law_stream, rd_law_stream, rd_law_stream_0, rd_law_stream_1, rd_law_stream_2, rd_law_stream_3, rd_law_stream_4]
  have m : ∀ z : Int, 0 ≤ z % 1009 := fun z => Int.emod_nonneg _ (by decide)
  split
  · rename_i hlt
    obtain ⟨j, rfl⟩ := Int.eq_ofNat_of_zero_le hk
    have hj : j < ns.length := by omega
    rw [atI_n hj]
    dsimp only
    split
    · split
      · exact t5 _ _ (by decide) (m _)
      · exact t5 _ _ (by omega) (m _)
    · split
      · exact t5 _ _ (by decide) (m _)
      · exact t5 _ _ (by omega) (m _)
  · exact t5 _ _ (by decide) (m _)
theorem w_term {m : String} (h : ∀ t : Tm, t.fits m → Q (.v t.d) [.v .stm, .v (.str m)]) : sp_law_term K [.v .stm, .v (.str m)] Q X := by
  have t5 : ∀ (p : Int) (l : Lk), (m = "first" ∨ m = "last" → l = .low ∨ l = .high) → (m = "join" → l = .low) → rd_law_term_5' K (endsOf [.v .stm, .v (.str m)] Q X) [some (.v .stm), some (.v (.str m)), some (.v (.int p)), some (.v (.int l.n)), none] := by
    intro p l h1 h2
    have hq : ∀ c w, Q (.v (Tm.t c w l).d) [.v .stm, .v (.str m)] := fun c w => h _ ⟨fun hm c' w' l' e => by cases e; exact h1 hm, fun hm => ⟨c, w, by rw [h2 hm]⟩⟩
    clear h h1 h2
    simp [rd_law_term_5, rd_law_term_6]
    rcases bit_of (i := p) with e | e <;> rcases bit_of (i := p / 2) with e2 | e2 <;> cases l <;> simp [e, e2, Lk.n]
    all_goals first | exact hq false false | exact hq false true | exact hq true false | exact hq true true
  have t2 : ∀ p : Int, 0 ≤ p → p ≤ 7 → rd_law_term_2' K (endsOf [.v .stm, .v (.str m)] Q X) [some (.v .stm), some (.v (.str m)), some (.v (.int p)), none, none] := by
    intro p h0 h7
    simp [rd_law_term_2]
    refine w_draw (by decide +kernel) (by decide +kernel) fun r r0 r4 => ?_
    obtain ⟨l, rfl⟩ := lk_of r0 r4
    simp [rd_law_term_3, rd_law_term_4]
    by_cases j : m = "join"
    · subst j
      have := t5 p .low (by simp) (by simp)
      simpa [Lk.n] using this
    · by_cases f : m = "first" ∨ m = "last"
      · have hl : ∃ l' : Lk, (l' = .low ∨ l' = .high) ∧ l.n / 2 = l'.n := by
          cases l
          · exact ⟨.low, .inl rfl, rfl⟩
          · exact ⟨.low, .inl rfl, rfl⟩
          · exact ⟨.high, .inr rfl, rfl⟩
          · exact ⟨.high, .inr rfl, rfl⟩
        obtain ⟨l', hl', e⟩ := hl
        have := t5 p l' (fun _ => hl') (fun z => absurd z j)
        rcases f with f | f <;> subst f <;> simpa [e] using this
      · have := t5 p l (fun z => absurd z f) (fun z => absurd z j)
        have f1 : ¬ m = "first" := fun z => f (.inl z)
        have f2 : ¬ m = "last" := fun z => f (.inr z)
        simpa [f1, f2, j] using this
  simp [sp_law_term, rd_law_term, rd_law_term_0]
  by_cases j : m = "join"
  · simp [j]
    refine w_draw (by decide +kernel) (by decide +kernel) fun r r0 r4 => ?_
    have h7 : ¬ 7 < r := by omega
    have := t2 r r0 (by omega)
    simpa [rd_law_term_1, h7, j] using this
  · simp [j]
    refine w_draw (by decide +kernel) (by decide +kernel) fun r r0 r4 => ?_
    by_cases h7 : 7 < r
    · have e : r = 8 ∨ r = 9 := by omega
      have hl := h .live ⟨fun _ _ _ _ e => (nomatch e), fun z => absurd z j⟩
      have hs := h .struck ⟨fun _ _ _ _ e => (nomatch e), fun z => absurd z j⟩
      rcases e with e | e <;> subst e
      · simpa [rd_law_term_1, Tm.d] using hl
      · simpa [rd_law_term_1, Tm.d] using hs
    · have := t2 r r0 (by omega)
      simpa [rd_law_term_1, h7] using this
end PDLaw
set_option maxHeartbeats 400000
namespace PDLaw
open PySem L2 PySem.Spec PyProof.Rows PD
variable {K : PySem.W.Frag} {Q : DV → List DV → Prop} {X : Exn → List DV → Prop}
theorem sjoin_len (sep : Str) : ∀ l : List Str, (Str.join sep l).length ≤ (l.map fun s : Str => s.length).sum + l.length * sep.length
  | [] => Nat.zero_le _
  | [x] => by
    show x.length ≤ _
    simp only [List.map_cons, List.map_nil, List.sum_cons, List.sum_nil, List.length_cons, List.length_nil]
    omega
  | x :: y :: r => by
    have ih := sjoin_len sep (y :: r)
    show (x ++ sep ++ Str.join sep (y :: r)).length ≤ _
    rw [PySem.Str.length_append, PySem.Str.length_append]
    have e : (x :: y :: r).length * sep.length = sep.length + (y :: r).length * sep.length := by rw [List.length_cons, Nat.add_mul, Nat.one_mul, Nat.add_comm]
    rw [e, List.map_cons, List.sum_cons]
    omega
theorem tjoin_len (sep : Str) (l : List Str) : (Txt.join sep l).length ≤ (l.map fun s : Str => s.length).sum + l.length * sep.length := by
  rw [TL.join_eq]
  exact sjoin_len sep l
end PDLaw
set_option maxHeartbeats 400000
namespace PDLaw
open PySem L2 PySem.Spec PyProof.Rows PD
variable {K : PySem.W.Frag} {Q : DV → List DV → Prop} {X : Exn → List DV → Prop}
def isSS : Tm → Bool
  | .t _ _ .skip => true
  | .t _ _ .stop => true
  | _ => false
def rankedB (ts : List Tm) : Bool := (ts.filter isSS).isEmpty
theorem rankedB_iff {ts : List Tm} : rankedB ts = true ↔ ∀ t ∈ ts, ∀ s w l, t = .t s w l → l = .low ∨ l = .high := by
  unfold rankedB
  rw [List.isEmpty_iff, List.filter_eq_nil_iff]
  constructor
  · intro h t ht s w l e
    have := h t ht
    subst e
    cases l <;> simp [isSS] at this ⊢
  · intro h t ht
    have := h t ht
    cases t with
    | live => simp [isSS]
    | struck => simp [isSS]
    | t s w l =>
      have := this s w l rfl
      rcases this with e | e <;> subst e <;> simp [isSS]
end PDLaw
set_option maxHeartbeats 400000
namespace PDLaw
open PySem L2 PySem.Spec PyProof.Rows PD
variable {K : PySem.W.Frag} {Q : DV → List DV → Prop} {X : Exn → List DV → Prop}
def turnL : Lk → Lk
  | .low => .high | .high => .low | .skip => .skip | .stop => .stop
def turnT : Tm → Tm
  | .live => .struck
  | .struck => .live
  | .t c w l => .t c (!w) (turnL l)
def Tm.ws : Tm → List Str
  | .live => ["live"]
  | .struck => ["struck"]
  | .t c w l => [colS c, wayS w, lacS l]
theorem tm_ws {t : Tm} : t.d = .tup (t.ws.map D.str) := by cases t <;> rfl
def tText (t : Tm) : Str := Txt.join " " t.ws
def rText (ts : List Tm) : Str := if ts = [] then "-" else Txt.join ", " (ts.map tText)
theorem turn_turn {t : Tm} : turnT (turnT t) = t := by
  cases t with
  | live => rfl
  | struck => rfl
  | t c w l => cases w <;> cases l <;> rfl
theorem turn_turns {ts : List Tm} : (ts.map turnT).map turnT = ts := by
  rw [List.map_map, show turnT ∘ turnT = id from funext fun t => turn_turn, List.map_id]
theorem metT {t : Tm} {a b : Rw} : met (turnT t) a b = met t b a := by
  cases t with
  | live => cases a.mark <;> cases b.mark <;> simp [turnT, met]
  | struck => cases a.mark <;> cases b.mark <;> simp [turnT, met]
  | t c w l =>
    simp only [turnT, met]
    generalize a.at c = x
    generalize b.at c = y
    cases x with
    | none => cases y <;> cases l <;> simp [turnL, cmpC]
    | some x => cases y with
      | none => cases l <;> simp [turnL, cmpC]
      | some y =>
        rcases Int.lt_trichotomy x y with g | g | g
        · have g1 : ¬ y < x := by omega
          have g2 : ¬ x = y := by omega
          have g3 : ¬ y = x := by omega
          cases w <;> simp [cmpC, g, g1, g2, g3]
        · subst g; simp [cmpC]
        · have g1 : ¬ x < y := by omega
          have g2 : ¬ x = y := by omega
          have g3 : ¬ y = x := by omega
          cases w <;> simp [cmpC, g, g1, g2, g3]
def catT (ts us : List Tm) : List Tm := ts ++ us
theorem map_cat {ts us : List Tm} : ts.map Tm.d ++ us.map Tm.d = (catT ts us).map Tm.d := by unfold catT; rw [List.map_append]
theorem catT_len {ts us : List Tm} : (catT ts us).length = ts.length + us.length := by simp [catT]
def turnR (ts : List Tm) : List Tm := ts.map turnT
theorem turnR_len {ts : List Tm} : (turnR ts).length = ts.length := by simp [turnR]
theorem turnR_turnR {ts : List Tm} : turnR (turnR ts) = ts := turn_turns
theorem turnR_app {ts us : List Tm} : turnR (ts ++ us) = turnR ts ++ turnR us := List.map_append
theorem cmp_turn {ts : List Tm} {a b : Rw} : cmpL (turnR ts) a b = cmpL ts b a := by
  unfold turnR
  induction ts with
  | nil => rfl
  | cons t ts ih => simp [cmpL, metT, ih]
theorem tText_len {t : Tm} : (t.ws.map fun s : Str => s.length).sum + t.ws.length ≤ 20 ∧ (tText t).length ≤ 20 := by
  cases t with
  | live => decide +kernel
  | struck => decide +kernel
  | t c w l => cases c <;> cases w <;> cases l <;> decide +kernel
theorem fJoin_t {t : Tm} {P : DV → Prop} : fJoin (.str " ") t.d P = P (.v (.str (tText t))) := by
  rw [tm_ws]
  have h := (tText_len (t := t)).1
  have e : (" " : Str).length = 1 := by decide +kernel
  show ((match strsD (t.ws.map D.str) with
    | some ys => (ys.map fun s : Str => s.length).sum + ys.length * (" " : Str).length ≤ 16777216 ∧ P (.v (.str (Txt.join " " ys)))
    | none => False)) = _
  have e2 : strsD (t.ws.map D.str) = some t.ws := by
    have := @strsD_map Str id t.ws
    rw [List.map_id] at this
    exact this
  rw [e2]
  simp only [e, Nat.mul_one]
  rw [show ((t.ws.map fun s : Str => s.length).sum + t.ws.length ≤ 16777216) = True from eq_true (by omega)]
  simp [tText]
theorem sum_len : ∀ {l : List Tm}, ((l.map tText).map fun s : Str => s.length).sum ≤ 20 * l.length
  | [] => by simp
  | t :: l => by
    have := sum_len (l := l)
    have := (tText_len (t := t)).2
    simp only [List.map_cons, List.sum_cons, List.length_cons]
    omega
theorem fJoin_r {ts : List Tm} (h : ts.length ≤ 1000) {P : DV → Prop} : fJoin (.str ", ") (.lst (ts.map fun t => .str (tText t))) P = P (.v (.str (Txt.join ", " (ts.map tText)))) := by
  have h2 := sum_len (l := ts)
  have e : (", " : Str).length = 2 := by decide +kernel
  have hz : ((ts.map tText).map fun s : Str => s.length).sum + (ts.map tText).length * (", " : Str).length ≤ 16777216 := by rw [e, List.length_map]; omega
  rw [s_fJoinL, s_strsK]
  exact propext ⟨fun z => z.2, fun z => ⟨hz, z⟩⟩
theorem w_Rule_text {ts : List Tm} (h : ts.length ≤ 1000) : sp_Rule_text K [.v (ruleD K ts)] Q X = Q (.v (.str (rText ts))) [.v (ruleD K ts)] := by
  have lc : ∀ (QX : DV → Rho → Prop) (XX : XD), lc_Rule_text_1' K [some (.v (ruleD K ts)), none] QX XX = QX (.o (.lst (ts.map fun t => .str (tText t)))) [some (.v (ruleD K ts)), none] := by
    intro QX XX
    simp [lc_Rule_text_1]
    refine (iff_of_eq (lc_pure Tm.d (fun t => some (.str (tText t))) _ trivial _ _ (by simp; omega) (by intro a ha R; simp [fJoin_t, tyD]))).trans ?_
    simp
  by_cases hn : ts = []
  · simp [sp_Rule_text, rd_Rule_text, hn, rText]
  · simp [sp_Rule_text, rd_Rule_text, hn, rText, jn_Rule_text_1, ↓lc, ↓fJoin_r h, tyD]
end PDLaw
set_option maxHeartbeats 400000
namespace PDLaw
open PySem L2 PySem.Spec PyProof.Rows PD
variable {K : PySem.W.Frag} {Q : DV → List DV → Prop} {X : Exn → List DV → Prop}
def wrA : List D := [.lst [.str "live"], .str "live", .str "stamp max low", .tup [.str "dead"], .tup [], .non, .int 7, .tup [.str "stamp", .str "max"], .tup [.str "max", .str "stamp", .str "low"]]
def wrB : List D := [.tup [.str "stamp", .str "max", .str "low", .str "low"], .tup [.str "key", .str "max", .str "low"], .tup [.str "seq", .str "mid", .str "low"]]
def wrC : List D := [.tup [.str "seq", .str "min", .str "none"], .tup [.str "seq", .str "min", .lst [.str "low"]], .tup [.str "live", .str "struck"], .tup [.str "seq", .str "low", .str "min"]]
def wrE : List D := [.lst [.str "seq", .str "min", .str "skip"], .tup [.str "stamp", .str "high", .str "low"], .tup [.str "seq", .str "low", .str "stop"]]
def wrF : List D := [.tup [.str "stamp", .str "live", .str "skip"], .tup [.str "max"], .tup [.lst [.str "stamp"], .str "max", .str "low"], .tup [.str "stamp", .lst [.str "max"], .str "low"]]
def wrG : List D := [.tup [.str "seq", .str "max", .str "min"], .tup [.str "stamp", .str "min", .str "live"], .tup [.str "live", .str "max", .str "low"]]
def wrL : List D := wrA ++ wrB ++ wrC ++ wrE ++ wrF ++ wrG
/-- a wrong term -/
def WrT (d : D) : Prop := d ∈ wrL
theorem wr_cases {P : D → Prop} {d : D} (h : WrT d) (ha : ∀ d ∈ wrA, P d) (hb : ∀ d ∈ wrB, P d) (hc : ∀ d ∈ wrC, P d) (he : ∀ d ∈ wrE, P d) (hf : ∀ d ∈ wrF, P d) (hg : ∀ d ∈ wrG, P d) : P d := by
  unfold WrT wrL at h
  simp only [List.mem_append] at h
  rcases h with ((((h | h) | h) | h) | h) | h
  · exact ha d h
  · exact hb d h
  · exact hc d h
  · exact he d h
  · exact hf d h
  · exact hg d h
theorem fEq_t {x : D} {ys : List D} {P : D → Prop} (h1 : shD 64 x = true) (h2 : shD 64 (.tup ys) = true) : fEq x (.tup ys) P = P (.bl (eqvD x (.tup ys))) := fEq_of h1 h2
theorem ev_nt {ys : List D} : eqvD .non (.tup ys) = false := rfl
theorem ev_it {i : Int} {ys : List D} : eqvD (.int i) (.tup ys) = false := rfl
theorem ev_st {s : Str} {ys : List D} : eqvD (.str s) (.tup ys) = false := rfl
theorem ev_lt {xs ys : List D} : eqvD (.lst xs) (.tup ys) = false := rfl
theorem w_is_term_w {d : D} (h : WrT d) : sp_is_term K [.v d] Q X = Q (.v (.bl false)) [.v d] := by
  refine wr_cases (P := fun d => sp_is_term K [.v d] Q X = Q (.v (.bl false)) [.v d]) h ?_ ?_ ?_ ?_ ?_ ?_
  · intro d hd
    unfold wrA at hd
    simp at hd
    rcases hd with rfl | rfl | rfl | rfl | rfl | rfl | rfl | rfl | rfl <;> simp [sp_is_term, rd_is_term, jn_is_term_1, jn_is_term_2, jn_is_term_3, ↓fEq_t, ev_nt, ev_it, ev_st, ev_lt]
  · intro d hd
    unfold wrB at hd
    simp at hd
    rcases hd with rfl | rfl | rfl <;> simp [sp_is_term, rd_is_term, jn_is_term_1, jn_is_term_2, jn_is_term_3, ↓fEq_t, ev_nt, ev_it, ev_st, ev_lt]
  · intro d hd
    unfold wrC at hd
    simp at hd
    rcases hd with rfl | rfl | rfl | rfl <;> simp [sp_is_term, rd_is_term, jn_is_term_1, jn_is_term_2, jn_is_term_3, ↓fEq_t, ev_nt, ev_it, ev_st, ev_lt]
  · intro d hd
    unfold wrE at hd
    simp at hd
    rcases hd with rfl | rfl | rfl <;> simp [sp_is_term, rd_is_term, jn_is_term_1, jn_is_term_2, jn_is_term_3, ↓fEq_t, ev_nt, ev_it, ev_st, ev_lt]
  · intro d hd
    unfold wrF at hd
    simp at hd
    rcases hd with rfl | rfl | rfl | rfl <;> simp [sp_is_term, rd_is_term, jn_is_term_1, jn_is_term_2, jn_is_term_3, ↓fEq_t, ev_nt, ev_it, ev_st, ev_lt]
  · intro d hd
    unfold wrG at hd
    simp at hd
    rcases hd with rfl | rfl | rfl <;> simp [sp_is_term, rd_is_term, jn_is_term_1, jn_is_term_2, jn_is_term_3, ↓fEq_t, ev_nt, ev_it, ev_st, ev_lt]
theorem enumD_app {a b : List D} : enumD (a ++ b) = enumD a ++ (b.zipIdx a.length).map fun p => D.tup [.int ((p.2 : Nat) : Int), p.1] := by
  unfold enumD
  rw [List.zipIdx_append, List.map_append]
  simp
theorem w_Rule_bad {ts : List Tm} {w : D} {rest : List D} (hw : WrT w) :
    sp_Rule___init K [.l (.ins (He.ga K "Rule") []), .v (.lst (ts.map Tm.d ++ w :: rest))] Q X = X ⟨He.ga K "BadTerm", some [("place", .int ts.length)]⟩ [.l (.ins (He.ga K "Rule") []), .v (.lst (ts.map Tm.d ++ w :: rest))] := by
  simp [sp_Rule___init, rd_Rule___init]
  rw [enumD_app, enumD_map]
  simp only [List.zipIdx_cons, List.map_cons, List.length_map]
  refine for_eqD (fun s : Option DV × Option DV => [some (.l (.ins (He.ga K "Rule") [])), some (.v (.lst (ts.map Tm.d ++ w :: rest))), s.1, s.2]) (fun us _ => ∃ (vs : List (Tm × Nat)) (r : List D), us = vs.map (fun p => D.tup [.int ((p.2 : Nat) : Int), p.1.d]) ++ D.tup [.int ts.length, w] :: r)
    (fun _ _ => X ⟨He.ga K "BadTerm", some [("place", .int ts.length)]⟩ [.l (.ins (He.ga K "Rule") []), .v (.lst (ts.map Tm.d ++ w :: rest))]) _ (none, none) ⟨ts.zipIdx, _, rfl⟩ ?_ ?_
  · rintro s ⟨vs, r, e⟩
    simp at e
  · rintro a us ⟨s1, s2⟩ R ⟨vs, r, e⟩ hR
    cases vs with
    | nil =>
      simp at e
      obtain ⟨rfl, rfl⟩ := e
      have ww := fun (Q : DV → List DV → Prop) (X : Exn → List DV → Prop) => @w_is_term_w K Q X w hw
      simp [lp_Rule___init_1, ↓ww]
    | cons k vs =>
      simp at e
      obtain ⟨rfl, rfl⟩ := e
      have := hR ⟨some (.v (.int k.2)), some (.v k.1.d)⟩ ⟨vs, r, rfl⟩
      simp at this
      simp [lp_Rule___init_1, ↓w_is_term, this]
end PDLaw
set_option maxHeartbeats 400000
namespace PDLaw
open PySem L2 PySem.Spec PyProof.Rows PD
variable {K : PySem.W.Frag} {Q : DV → List DV → Prop} {X : Exn → List DV → Prop}
theorem at_mem {l : List D} {n : Int} (h0 : 0 ≤ n) (h1 : n < l.length) : ∃ d, atI l n = some d ∧ d ∈ l := by
  obtain ⟨i, rfl⟩ := Int.eq_ofNat_of_zero_le h0
  have hi : i < l.length := by omega
  exact ⟨l[i], atI_n hi, List.getElem_mem hi⟩
theorem w_law_wrong (h : ∀ d : D, WrT d → Q (.v d) [.v .stm]) : sp_law_wrong K [.v .stm] Q X := by
  have t6 : ∀ l : List D, l = wrL → rd_law_wrong_6' K (endsOf [.v .stm] Q X) [some (.v .stm), some (.v (.lst l))] := by
    intro l hl
    have len : l.length = 26 := by rw [hl]; rfl
    simp [rd_law_wrong_6]
    refine w_draw (by decide) (by decide +kernel) fun r r0 r1 => ?_
    obtain ⟨d, e1, e2⟩ := at_mem (l := l) r0 (by omega)
    simp [e1]
    exact h d (by unfold WrT; rw [← hl]; exact e2)
  simp [sp_law_wrong, rd_law_wrong, rd_law_wrong_0, rd_law_wrong_1, rd_law_wrong_2, rd_law_wrong_3, rd_law_wrong_4, rd_law_wrong_5]
  exact t6 _ rfl
theorem w_rop_bad {ts : List Tm} {w : D} {rest : List D} (hw : WrT w) :
    sp_law_rule_or_place K [.v (.lst (ts.map Tm.d ++ w :: rest))] Q X = Q (.v (.int ts.length)) [.v (.lst (ts.map Tm.d ++ w :: rest))] := by
  have hs := fun (Q : DV → List DV → Prop) (X : Exn → List DV → Prop) => @w_Rule_bad K Q X ts w rest hw
  simp [sp_law_rule_or_place, rd_law_rule_or_place, ty_law_rule_or_place_1, ↓hs]
theorem w_rop_ok {ts : List Tm} :
    sp_law_rule_or_place K [.v (.lst (ts.map Tm.d))] Q X = Q (.o (.ins (He.ga K "Rule") [("terms", .lst (ts.map Tm.d))])) [.v (.lst (ts.map Tm.d))] := by
  have hs := fun (Q : DV → List DV → Prop) (X : Exn → List DV → Prop) => @w_Rule_init_v K Q X ts
  simp [sp_law_rule_or_place, rd_law_rule_or_place, ty_law_rule_or_place_1, ↓hs]
section
variable {ns : List Int} {a0 a1 a2 a3 a4 a5 a6 a7 a8 a9 a10 : Option DV} {QX : DV → Rho → Prop} {XX : XD}
theorem lc06_1 (h : ∀ ts : List Tm, ts.length ≤ 6 → QX (.o (.lst (ts.map Tm.d))) [a0, some (.v .stm), a2, none, a4, a5, a6, a7, a8, a9, a10]) :
    lc_law_1' K [a0, some (.v .stm), a2, none, a4, a5, a6, a7, a8, a9, a10] QX XX := by
  simp [lc_law_1]
  refine w_draw (by decide +kernel) (by decide +kernel) fun c c0 c5 => ?_
  simp
  refine ⟨by omega, lc_any Tm.d (fun t => True) _ trivial _ [] ?_ ?_ ?_⟩
  · simp [rangeD_len]; omega
  · intro d _ R S hR
    simp
    exact w_term fun t ht => by simp [hR t trivial]
  · intro bs hl hf
    rw [rangeD_len] at hl
    exact h bs (by omega)
theorem lc06_2 {ts : List Tm} (hl : ts.length ≤ 1000) : lc_law_2' K [a0, a1, some (.v (.lst (ts.map Tm.d))), a3, a4, a5, none, a7, a8, a9, a10] QX XX =
      QX (.o (.lst (ts.map fun t => .str (tText t)))) [a0, a1, some (.v (.lst (ts.map Tm.d))), a3, a4, a5, none, a7, a8, a9, a10] := by
  simp [lc_law_2]
  refine (iff_of_eq (lc_pure Tm.d (fun t => some (.str (tText t))) _ trivial _ _ (by simp; omega) (by intro a ha R; simp [fJoin_t, tyD]))).trans ?_
  simp
theorem lc06_3 {ts : List Tm} (hl : ts.length ≤ 1000) : lc_law_3' K [a0, a1, a2, a3, some (.v (ruleD K ts)), a5, none, a7, a8, a9, a10] QX XX =
      QX (.o (.lst (ts.map Tm.d))) [a0, a1, a2, a3, some (.v (ruleD K ts)), a5, none, a7, a8, a9, a10] := by
  simp [lc_law_3]
  refine (iff_of_eq (lc_pure Tm.d (fun t => some t.d) _ trivial _ _ (by simp; omega) (by intro a ha R; simp))).trans ?_
  simp
end
end PDLaw
set_option maxHeartbeats 400000
namespace PDLaw
open PySem L2 PySem.Spec PyProof.Rows PD
variable {K : PySem.W.Frag} {Q : DV → List DV → Prop} {X : Exn → List DV → Prop}
theorem take_mid {w : D} {B : List D} {r : Nat} : ∀ A : List D, (A ++ w :: B).take (A.length + 1 + r) = A ++ w :: B.take r
  | [] => by rw [show ([] : List D).length + 1 + r = r + 1 by simp; omega]; rfl
  | a :: A => by
    rw [show (a :: A).length + 1 + r = (A.length + 1 + r) + 1 by simp; omega, List.cons_append, List.take_succ_cons, take_mid A]
    rfl
theorem drop_mid {w : D} {B : List D} {r : Nat} : ∀ A : List D, (A ++ w :: B).drop (A.length + 1 + r) = B.drop r
  | [] => by rw [show ([] : List D).length + 1 + r = r + 1 by simp; omega]; rfl
  | a :: A => by
    rw [show (a :: A).length + 1 + r = (A.length + 1 + r) + 1 by simp; omega, List.cons_append, List.drop_succ_cons, drop_mid A]
theorem wr_sh {d : D} (h : WrT d) : shD 63 d = true := by
  refine wr_cases (P := fun d => shD 63 d = true) h ?_ ?_ ?_ ?_ ?_ ?_
  · unfold wrA; simp
  · unfold wrB; simp
  · unfold wrC; simp
  · unfold wrE; simp
  · unfold wrF; simp
  · unfold wrG; simp
section
variable {ns : List Int} {x2 x3 x4 x5 x6 : Option DV}
theorem t06_7 {ts : List Tm} {w : D} {rest : List D} (hw : WrT w) (he : shDs 63 (ts.map Tm.d ++ w :: rest) = true) :
    rd_law_7' K (lawE ns) [some (.v (.scr ns)), some (.v .stm), x2, x3, x4, x5, x6, some (.v (.int ts.length)), some (.o (.lst (ts.map Tm.d ++ w :: rest))), none, none] := by
  have hs := fun (Q : DV → List DV → Prop) (X : Exn → List DV → Prop) => @w_rop_bad K Q X ts w rest hw
  simp [rd_law_7, rd_law_8, rd_law_9, ↓hs]
  have h2 : shD 64 (.lst (ts.map Tm.d ++ w :: rest)) = true := he
  rw [fEq_of h2 h2, ev_self h2]
theorem t06_4 {ts : List Tm} (hl : ts.length ≤ 18) :
    rd_law_4' K (lawE ns) [some (.v (.scr ns)), some (.v .stm), some (.v (.lst (ts.map Tm.d))), x3, x4, x5, x6, none, none, none, none] := by
  simp [rd_law_4]
  refine w_draw (by omega) (log2_lt (by simp; omega)) fun j j0 j1 => ?_
  obtain ⟨j, rfl⟩ := Int.eq_ofNat_of_zero_le j0
  have e1 : (ts.map Tm.d).take j = (ts.take j).map Tm.d := by rw [List.map_take]
  have e2 : cutD (ts.map Tm.d) (some (j : Int)) none = (ts.drop j).map Tm.d := cut_from
  have lj : (ts.take j).length = j := by rw [List.length_take]; omega
  simp [rd_law_5, -List.map_take]
  refine w_law_wrong fun w hw => ?_
  simp [-List.map_take]
  have fin := fun rest : List D => fun hr => @t06_7 K ns (some (.v (.lst (ts.map Tm.d)))) x3 x4 x5 x6 (ts.take j) w rest hw hr
  rw [lj] at fin
  have sw : ∀ {v : D}, WrT v → shD 63 v = true := wr_sh
  have sT : shDs 63 ((ts.take j).map Tm.d) = true := shs_Tm
  have sD : shDs 63 ((ts.drop j).map Tm.d) = true := shs_Tm
  refine ⟨by omega, by omega, ?_⟩
  simp [rd_law_6, -List.map_take, -List.map_drop]
  refine w_draw (by decide) (by decide +kernel) fun z _ _ => ?_
  by_cases hz : z = 1
  · subst hz
    have hL : ((ts.take j).map Tm.d ++ w :: (ts.drop j).map Tm.d).length = ts.length + 1 := by simp; omega
    have hL2 : ((ts.take j).map Tm.d ++ w :: List.drop j (ts.map Tm.d)).length = ts.length + 1 := by simp; omega
    generalize hLe : ((ts.take j).map Tm.d ++ w :: List.drop j (ts.map Tm.d)) = L at *
    simp [hL2]
    refine w_draw (by omega) (log2_lt (by omega)) fun r r0 r1 => ?_
    obtain ⟨r, rfl⟩ := Int.eq_ofNat_of_zero_le r0
    have hk : ((j : Int) + 1 + (r : Int)).toNat = j + 1 + r := by omega
    have k0 : 0 ≤ (j : Int) + 1 + (r : Int) := by omega
    have k1 : (j : Int) + 1 + (r : Int) < 9223372036854775808 := by omega
    have hl2 : L.length < 16777216 := by omega
    simp
    refine w_law_wrong fun w2 hw2 => ?_
    have tk : L.take (j + 1 + r) = (ts.take j).map Tm.d ++ w :: ((ts.drop j).map Tm.d).take r := by
      have := take_mid (w := w) (B := (ts.drop j).map Tm.d) (r := r) ((ts.take j).map Tm.d)
      rw [List.length_map, lj] at this
      rw [← hLe, ← List.map_drop]
      exact this
    have dr : L.drop (j + 1 + r) = ((ts.drop j).map Tm.d).drop r := by
      have := drop_mid (w := w) (B := (ts.drop j).map Tm.d) (r := r) ((ts.take j).map Tm.d)
      rw [List.length_map, lj] at this
      rw [← hLe, ← List.map_drop]
      exact this
    have eq : (D.int (↑j + 1 + ↑r)) = D.int (((j + 1 + r : Nat) : Nat) : Int) := by congr 1
    simp [hl2, k0, k1, hk]
    have := fin (((ts.drop j).map Tm.d).take r ++ w2 :: ((ts.drop j).map Tm.d).drop r) (by
      have s1 : shDs 63 (((ts.drop j).map Tm.d).take r) = true := by rw [← List.map_take]; exact shs_Tm
      have s2 : shDs 63 (((ts.drop j).map Tm.d).drop r) = true := by rw [← List.map_drop]; exact shs_Tm
      rw [shDs_app, sT, shDs_cons, sw hw, shDs_app, s1, shDs_cons, sw hw2, s2]; rfl)
    rw [tk, dr, List.append_assoc]
    exact this
  · simp [hz, -List.map_take, -List.map_drop]
    have := fin ((ts.drop j).map Tm.d) (by rw [shDs_app, sT, shDs_cons, sw hw, sD]; rfl)
    simpa using this
end
section
variable {ns : List Int}
theorem t06_3 {ts : List Tm} {x3 : Option DV} (hl : ts.length ≤ 18) :
    rd_law_3' K (lawE ns) [some (.v (.scr ns)), some (.v .stm), some (.v (.lst (ts.map Tm.d))), x3, none, none, none, none, none, none, none] := by
  simp [rd_law_3]
  refine w_draw (by decide) (by decide +kernel) fun z _ _ => ?_
  by_cases hz : z = 0
  · subst hz
    have hl2 : ts.length ≤ 1000 := by omega
    have wt := fun (Q : DV → List DV → Prop) (X : Exn → List DV → Prop) => @w_Rule_text K Q X ts hl2
    have sT : shDs 63 (ts.map Tm.d) = true := shs_Tm
    simp [↓w_rop_ok, ↓lc06_2 hl2, ↓fJoin_r hl2, tyD]
    by_cases hn : ts = []
    · subst hn
      have l0 : ∀ (a0 a1 a2 a3 a5 : Option DV) (QX : DV → Rho → Prop) (XX : XD), lc_law_3' K [a0, a1, a2, a3, some (.v (.ins (He.ga K "Rule") [("terms", .lst [])])), a5, none, none, none, none, none] QX XX = QX (.o (.lst [])) [a0, a1, a2, a3, some (.v (.ins (He.ga K "Rule") [("terms", .lst [])])), a5, none, none, none, none, none] := fun a0 a1 a2 a3 a5 QX XX => lc06_3 (ts := []) (by simp)
      have w0 : ∀ (Q : DV → List DV → Prop) (X : Exn → List DV → Prop), sp_Rule_text K [.v (.ins (He.ga K "Rule") [("terms", .lst [])])] Q X = Q (.v (.str "-")) [.v (.ins (He.ga K "Rule") [("terms", .lst [])])] := fun Q X => w_Rule_text (ts := []) (by simp)
      simp [jn_law_1, ↓l0, ↓w0]
    · simp [hn, jn_law_1, ↓lc06_3 hl2, ↓wt, rText]
  · simp [hz]
    exact t06_4 hl
end
theorem law_true (ns : List Int) (h : ns.length ≤ 63) : sp_law K [.v (.scr ns)] (fun x _ => x = .v (.bl true)) fun _ _ => False := by
  simp [sp_law, rd_law, rd_law_0]
  refine w_stream (by decide) ?_
  simp [rd_law_1]
  refine lc06_1 fun ts hl => ?_
  simp [rd_law_2]
  by_cases h4 : (4 : Int) < (ts.length : Int)
  · have h5 : ts.length * 3 ≤ 16777216 := by omega
    have := t06_3 (K := K) (ns := ns) (x3 := none) (ts := ts ++ (ts ++ ts)) (by simp; omega)
    simp at this
    simp [h4, h5, repD]
    exact this
  · simp [h4]
    exact t06_3 (by omega)
end PDLaw
set_option maxHeartbeats 0
open PySem PySem.W PySem.Calls PyProof.Rows
theorem PySem.Challenge.cw_onekept_k06_rule_terms_refused_holds : PySem.Challenge.rw_onekept_k06_rule_terms_refused.Holds := by
  w_on; o_law
  refine HandSHeadRun.head_any (r := OpenLaw.row PySem.Challenge.rw_onekept_k06_rule_terms_refused) (q := view (OpenLaw.row PySem.Challenge.rw_onekept_k06_rule_terms_refused).prog [25]) (H := PDLaw.hk) (ob := PDLaw.ob) (M := 20000) (loose := PDLaw.names) (d := HandSHeadRun.topDef (OpenLaw.row PySem.Challenge.rw_onekept_k06_rule_terms_refused).prog 25) (kwd := []) PDLaw.ob_eq
    (by kernel_rfl) (fun s => by kernel_rfl) PDLaw.run (by kernel_rfl) (by kernel_rfl) (by kernel_rfl) (by rfl) (by first | assumption | decide +kernel) (by decide +kernel) ⟨rfl, rfl, rfl, rfl, rfl, by decide +kernel⟩ ?hw ?hc
  case hw => w_witness2
  case hc =>
    refine L2.walk_ofE (l := PySem.Challenge.rw_onekept_k06_rule_terms_refused) (n := 63) (k := 6) (x := "_law_script") (CX := L2.CX0) rfl (by decide) (by kernel_rfl) ⟨rfl, by decide, by decide⟩ ?F (fun _ _ _ _ z => z)
    intro w mg fa h Y G hmg0
    obtain ⟨K, KX, c⟩ := Y
    have hmg : mg ("law" : PySem.Str) = some (.ref fa) := by
      have e : (HandSHeadRun.topDef (OpenLaw.row PySem.Challenge.rw_onekept_k06_rule_terms_refused).prog 25).name = ("law" : PySem.Str) := by kernel_rfl
      rw [← e]
      exact hmg0
    have f := PDLaw.facts (P := (PySem.Challenge.rw_onekept_k06_rule_terms_refused).prog) ⟨by kernel_rfl, by kernel_rfl⟩ KX G c
    obtain ⟨fd, hb, hF⟩ := PDLaw.lawF (P := (PySem.Challenge.rw_onekept_k06_rule_terms_refused).prog) f
    have e := hmg.symm.trans f.glo_law
    cases e
    exact ⟨K, fd, (fun vs H Q _ => PD.liftSp K (PDLaw.sq_law K) vs H Q fun _ _ _ => False), KX, hb, fun H a ns hl _ hS => PD.start_law hS (PDLaw.law_true ns hl), fun base k1 k2 => PD.noneLeft (hF base k1 k2)⟩
