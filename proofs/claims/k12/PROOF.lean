import PyProof.Rows.All
import Wide.All
import OpenK.AllK
import Wide.FinOn
import HandS.ForMost
import HandS.ForExc
import HandS.CallSlots
import HandS.TryMany
import HandS.IsInst
import HandS.Flow
import HandS.Style
import HandS.Deep
import HandS.Zip
import HandS.WordsExc
import HandS.WordsList
import HandS.ExcIs
import HandS.ExcField
import HandS.Conv
import HandS.Iter
import HandS.Dict
import HandS.TupAny
import HandS.More
import KE.KDictZip
import KE.KDictItemsList
import HandS.ListItems
import HandS.TryOnly
import PySem.Challenge.RW_hurryprice_k12_whole_first_broken
set_option Elab.async false
set_option linter.all false
set_option maxRecDepth 100000
set_option maxHeartbeats 4000000
namespace HP
open PySem L2
/-- the built-in types that the programs name -/
inductive Bt where
  | int | bool | str | tuple | list | dict | non
  deriving DecidableEq
def Bt.name : Bt → String
  | .int => "int" | .bool => "bool" | .str => "str" | .tuple => "tuple" | .list => "list" | .dict => "dict" | .non => "NoneType"
/-- a value: tuples and frozen lists by their items, objects by their place in the store; exc: what an except clause holds -/
inductive D where
  | non | bl (b : Bool) | int (i : Int) | str (x : Str)
  | tup (ds : List D) | frl (ds : List D) | loc (l : Nat) | ty (n : Bt) | cls (c : Nat)
  | exc (c : Nat) (fs : List (Str × D)) | kd (kvs : List (Str × Int))
/-- an object of the store -/
inductive O where
  | lst (ds : List D) | dic (kvs : List (Key × D)) | ins (c : Nat) (fs : List (Str × D)) | dct (kvs : List (List Key × D))
abbrev Sto := List O
abbrev Ev := List (Option D)
/-- an exception: its class, its fields -/
structure Xn where
  c : Nat
  fs : List (Str × D)
/-- how an expression ends -/
inductive R (A : Type) where
  | ok (a : A) (S : Sto) | exn (x : Xn) (S : Sto) | bad
/-- how a statement ends -/
inductive RS where
  | nx (r : Ev) (S : Sto) | rt (d : D) (S : Sto) | bk (r : Ev) (S : Sto) | ct (r : Ev) (S : Sto) | ex (x : Xn) (r : Ev) (S : Sto) | bad
/-- what never changes once it is laid -/
def Imm : HO → Bool
  | .tup _ => true | .frz _ _ => true | .own _ => true | .xd _ => true | _ => false
def Frm (H H' : Hp) : Prop := ∀ a o, H a = some o → Imm o = true → H' a = some o
theorem Frm.refl (H : Hp) : Frm H H := fun _ _ h _ => h
theorem Frm.trans {H H1 H2 : Hp} (a : Frm H H1) (b : Frm H1 H2) : Frm H H2 := fun x o h i => b x o (a x o h i) i
theorem Frm.new {H : Hp} {p : Addr} {o : HO} (h : H p = none) : Frm H (upd H p o) := fun a u e _ => by
  rw [upd_ne (ne_of_none e h)]; exact e
theorem Frm.put {H : Hp} {p : Addr} {o o' : HO} (h : H p = some o) (m : Imm o = false) : Frm H (upd H p o') := fun a u e i => by
  by_cases ha : a = p
  · subst ha; rw [h] at e; cases e; rw [m] at i; cases i
  · rw [upd_ne ha]; exact e
/-- a list that is never written -/
def FzL (K : PySem.W.Frag) (H : Hp) (a : Addr) (xs : List V) : Prop :=
  (∃ o, H a = some (.frz o (.lst xs))) ∨
    ∃ (o : Obj) (its : Array Value) (n : Nat), K.lookup a = some o ∧ o.cls = .type "list" ∧ o.dict = none ∧ o.data = .seq its n ∧ its.size ≤ sizeLine ∧ Vals xs its.toList
theorem FzL.sq {K : PySem.W.Frag} {H : Hp} {a : Addr} {xs : List V} (h : FzL K H a xs) : SqL K H a xs := by
  rcases h with ⟨o, h⟩ | h
  · exact .inl (.inr ⟨o, h⟩)
  · exact .inr h
/-- a tuple that is no key of the programs' dicts: it may be a constant -/
def nsB : List D → Bool
  | [.str _, .int _] => false
  | _ => true
mutual
inductive RV (K : PySem.W.Frag) (ca : Nat → Addr) (th : List Addr) (H : Hp) : D → V → Prop
  | non : RV K ca th H .non .non
  | bl (b : Bool) : RV K ca th H (.bl b) (.bl b)
  | int (i : Int) : RV K ca th H (.int i) (.int i)
  | str (x : Str) : RV K ca th H (.str x) (.str x)
  | tup {a : Addr} {vs : List V} {ds : List D} (h : SqT K H a vs) (t : nsB ds = true ∨ H a = some (.tup vs)) (r : RVs K ca th H ds vs) : RV K ca th H (.tup ds) (.ref a)
  | frl {a : Addr} {vs : List V} {ds : List D} (h : FzL K H a vs) (r : RVs K ca th H ds vs) : RV K ca th H (.frl ds) (.ref a)
  | loc {l : Nat} {a : Addr} (h : th[l]? = some a) : RV K ca th H (.loc l) (.ref a)
  | ty (n : Bt) : RV K ca th H (.ty n) (.ty n.name)
  | cls (c : Nat) : RV K ca th H (.cls c) (.ref (ca c))
  | kd {kvs : List (Str × Int)} {a : Addr} : RV K ca th H (.kd kvs) (.ref a)
inductive RVs (K : PySem.W.Frag) (ca : Nat → Addr) (th : List Addr) (H : Hp) : List D → List V → Prop
  | nil : RVs K ca th H [] []
  | cons {d : D} {v : V} {ds : List D} {vs : List V} (h : RV K ca th H d v) (r : RVs K ca th H ds vs) : RVs K ca th H (d :: ds) (v :: vs)
end
section
variable {K : PySem.W.Frag} {ca : Nat → Addr} {th th' th2 : List Addr} {H H' H2 : Hp}
/-- further on: more objects, nothing lost -/
structure Go (th : List Addr) (H : Hp) (th' : List Addr) (H' : Hp) : Prop where
  ext : th <+: th'
  frm : Frm H H'
theorem Go.refl (th : List Addr) (H : Hp) : Go th H th H := ⟨List.prefix_refl _, Frm.refl _⟩
theorem Go.trans (a : Go th H th' H') (b : Go th' H' th2 H2) : Go th H th2 H2 := ⟨a.ext.trans b.ext, a.frm.trans b.frm⟩
theorem Go.at (g : Go th H th' H') {l : Nat} {a : Addr} (h : th[l]? = some a) : th'[l]? = some a := by
  obtain ⟨t, e⟩ := g.ext
  rw [← e, List.getElem?_append_left]
  · exact h
  · exact (List.getElem?_eq_some_iff.mp h).1
theorem Frm.rd (f : Frm H H') {a : Addr} {u : HO} (i : Imm u = true) (h : Rd H a u) : Rd H' a u := by
  rcases h with h | ⟨o, h⟩
  · exact .inl (f _ _ h i)
  · exact .inr ⟨o, f _ _ h rfl⟩
theorem Frm.sqT (f : Frm H H') {a : Addr} {xs : List V} (h : SqT K H a xs) : SqT K H' a xs := by
  rcases h with h | h
  · exact .inl (f.rd rfl h)
  · exact .inr h
theorem Frm.fz (f : Frm H H') {a : Addr} {xs : List V} (h : FzL K H a xs) : FzL K H' a xs := by
  rcases h with ⟨o, h⟩ | h
  · exact .inl ⟨o, f _ _ h rfl⟩
  · exact .inr h
mutual
theorem RV.go (g : Go th H th' H') : ∀ {d : D} {v : V}, RV K ca th H d v → RV K ca th' H' d v
  | _, _, .non => .non
  | _, _, .bl b => .bl b
  | _, _, .int i => .int i
  | _, _, .str x => .str x
  | _, _, .tup h t r => .tup (g.frm.sqT h) (t.imp id fun e => g.frm _ _ e rfl) (RVs.go g r)
  | _, _, .frl h r => .frl (g.frm.fz h) (RVs.go g r)
  | _, _, .loc h => .loc (g.at h)
  | _, _, .ty n => .ty n
  | _, _, .cls c => .cls c
  | _, _, .kd => .kd
theorem RVs.go (g : Go th H th' H') : ∀ {ds : List D} {vs : List V}, RVs K ca th H ds vs → RVs K ca th' H' ds vs
  | _, _, .nil => .nil
  | _, _, .cons h r => .cons (RV.go g h) (RVs.go g r)
end
theorem RVs.length : ∀ {ds : List D} {vs : List V}, RVs K ca th H ds vs → ds.length = vs.length
  | _, _, .nil => rfl
  | _, _, .cons _ r => by simp [RVs.length r]
theorem RVs.get : ∀ {ds : List D} {vs : List V} {i : Nat} {d : D}, RVs K ca th H ds vs → ds[i]? = some d → ∃ v, vs[i]? = some v ∧ RV K ca th H d v
  | _, _, 0, _, .cons h _, e => by simp at e; subst e; exact ⟨_, rfl, h⟩
  | _, _, i + 1, _, .cons _ r, e => by
    obtain ⟨v, h1, h2⟩ := RVs.get (i := i) r (by simpa using e)
    exact ⟨v, by simpa using h1, h2⟩
theorem RVs.append : ∀ {ds es : List D} {vs us : List V}, RVs K ca th H ds vs → RVs K ca th H es us → RVs K ca th H (ds ++ es) (vs ++ us)
  | _, _, _, _, .nil, s => s
  | _, _, _, _, .cons h r, s => .cons h (RVs.append r s)
theorem RVs.one {d : D} {v : V} (h : RV K ca th H d v) : RVs K ca th H [d] [v] := .cons h .nil
theorem RVs.set {d : D} {v : V} (h : RV K ca th H d v) : ∀ {ds : List D} {vs : List V} (i : Nat), RVs K ca th H ds vs → RVs K ca th H (ds.set i d) (vs.set i v)
  | _, _, _, .nil => .nil
  | _, _, 0, .cons _ r => .cons h r
  | _, _, i + 1, .cons q r => .cons q (RVs.set h i r)
theorem RVs.take : ∀ {ds : List D} {vs : List V} (n : Nat), RVs K ca th H ds vs → RVs K ca th H (ds.take n) (vs.take n)
  | _, _, 0, _ => by simp; exact .nil
  | _, _, _ + 1, .nil => by simp; exact .nil
  | _, _, n + 1, .cons h r => .cons h (RVs.take n r)
theorem RVs.drop : ∀ {ds : List D} {vs : List V} (n : Nat), RVs K ca th H ds vs → RVs K ca th H (ds.drop n) (vs.drop n)
  | _, _, 0, r => r
  | _, _, _ + 1, .nil => .nil
  | _, _, n + 1, .cons _ r => RVs.drop n r
theorem RVs.reverse : ∀ {ds : List D} {vs : List V}, RVs K ca th H ds vs → RVs K ca th H ds.reverse vs.reverse
  | _, _, .nil => .nil
  | _, _, .cons h r => by rw [List.reverse_cons, List.reverse_cons]; exact (RVs.reverse r).append (.one h)
theorem RVs.dropLast {ds : List D} {vs : List V} (r : RVs K ca th H ds vs) : RVs K ca th H ds.dropLast vs.dropLast := by
  rw [List.dropLast_eq_take, List.dropLast_eq_take, r.length]; exact r.take _
theorem RVs.eraseIdx : ∀ {ds : List D} {vs : List V} (i : Nat), RVs K ca th H ds vs → RVs K ca th H (ds.eraseIdx i) (vs.eraseIdx i)
  | _, _, _, .nil => .nil
  | _, _, 0, .cons _ r => r
  | _, _, i + 1, .cons h r => .cons h (RVs.eraseIdx i r)
theorem RVs.isEmpty {ds : List D} {vs : List V} (r : RVs K ca th H ds vs) : ds.isEmpty = vs.isEmpty := by
  cases r <;> rfl
/-- what stands at an object's address -/
def RO (K : PySem.W.Frag) (ca : Nat → Addr) (th : List Addr) (H : Hp) (a : Addr) : O → Prop
  | .lst ds => ∃ vs, H a = some (.lst vs) ∧ RVs K ca th H ds vs
  | .dic kvs => ∃ kus : List (Key × V), H a = some (.dK kus) ∧ kvs.map (·.1) = kus.map (·.1) ∧ RVs K ca th H (kvs.map (·.2)) (kus.map (·.2))
  | .dct kvs => ∃ kus : List (List Key × V), H a = some (.dT kus) ∧ kvs.map (·.1) = kus.map (·.1) ∧ RVs K ca th H (kvs.map (·.2)) (kus.map (·.2))
  | .ins c fs => ∃ dx, ∃ gs : List (Str × V), H a = some (.ins (ca c) dx gs) ∧ H dx = some (.own a) ∧ fs.map (·.1) = gs.map (·.1) ∧ RVs K ca th H (fs.map (·.2)) (gs.map (·.2))
theorem RO.go (g : Go th H th' H') {a : Addr} {o : O} (e : H' a = H a) (h : RO K ca th H a o) : RO K ca th' H' a o := by
  cases o with
  | lst ds => obtain ⟨vs, h, r⟩ := h; exact ⟨vs, e.trans h, r.go g⟩
  | dic kvs => obtain ⟨ks, h, k, r⟩ := h; exact ⟨ks, e.trans h, k, r.go g⟩
  | dct kvs => obtain ⟨ks, h, k, r⟩ := h; exact ⟨ks, e.trans h, k, r.go g⟩
  | ins c fs => obtain ⟨dx, gs, h, h2, k, r⟩ := h; exact ⟨dx, gs, e.trans h, g.frm _ _ h2 rfl, k, r.go g⟩
theorem RO.lstI {a : Addr} {vs : List V} {ds : List D} (h : H a = some (.lst vs)) (r : RVs K ca th H ds vs) : RO K ca th H a (.lst ds) := ⟨vs, h, r⟩
theorem RO.mut {a : Addr} {o : O} (h : RO K ca th H a o) : ∃ u, H a = some u ∧ Imm u = false := by
  cases o with
  | lst ds => obtain ⟨vs, h, r⟩ := h; exact ⟨_, h, rfl⟩
  | dic kvs => obtain ⟨ks, h, k, r⟩ := h; exact ⟨_, h, rfl⟩
  | dct kvs => obtain ⟨ks, h, k, r⟩ := h; exact ⟨_, h, rfl⟩
  | ins c fs => obtain ⟨dx, gs, h, _⟩ := h; exact ⟨_, h, rfl⟩
/-- the store stands in the abstract heap -/
structure Rep (K : PySem.W.Frag) (ca : Nat → Addr) (th : List Addr) (H : Hp) (S : Sto) : Prop where
  len : th.length = S.length
  nd : th.Nodup
  obj : ∀ (l : Nat) (a : Addr) (o : O), th[l]? = some a → S[l]? = some o → RO K ca th H a o
/-- an exception's class and own dict -/
def RX (K : PySem.W.Frag) (ca : Nat → Addr) (th : List Addr) (H : Hp) (c : Nat) (fs : List (Str × D)) (cls : Value) (dd : Option Addr) : Prop :=
  cls = .ref (ca c) ∧ ((fs = [] ∧ dd = none) ∨ fs ≠ [] ∧ ∃ (d : Addr) (gs : List (Str × V)), dd = some d ∧ H d = some (.xd gs) ∧ fs.map (·.1) = gs.map (·.1) ∧ RVs K ca th H (fs.map (·.2)) (gs.map (·.2)))
theorem RX.go (g : Go th H th' H') {c : Nat} {fs : List (Str × D)} {cls : Value} {dd : Option Addr} (h : RX K ca th H c fs cls dd) : RX K ca th' H' c fs cls dd := by
  refine ⟨h.1, ?_⟩
  rcases h.2 with h | ⟨h0, d, gs, h1, h2, h3, h4⟩
  · exact .inl h
  · exact .inr ⟨h0, d, gs, h1, g.frm _ _ h2 rfl, h3, h4.go g⟩
/-- the exception that an except suite holds: its address, class, dict -/
abbrev Hd := Option (Addr × Value × Option Addr)
/-- what a slot holds -/
def SV (K : PySem.W.Frag) (ca : Nat → Addr) (hd : Hd) (th : List Addr) (H : Hp) (d : D) (v : V) : Prop :=
  RV K ca th H d v ∨ ∃ c fs a cls dd, d = .exc c fs ∧ v = .ref a ∧ hd = some (a, cls, dd) ∧ RX K ca th H c fs cls dd
theorem SV.go {hd : Hd} (g : Go th H th' H') {d : D} {v : V} (h : SV K ca hd th H d v) : SV K ca hd th' H' d v := by
  rcases h with h | ⟨c, fs, a, cls, dd, h1, h2, h3, h4⟩
  · exact .inl (h.go g)
  · exact .inr ⟨c, fs, a, cls, dd, h1, h2, h3, h4.go g⟩
/-- .. and the names' values -/
structure Sim (K : PySem.W.Frag) (ca : Nat → Addr) (hd : Hd) (th : List Addr) (H : Hp) (S : Sto) (r : Ev) (sg : L2.St) : Prop where
  rep : Rep K ca th H S
  len : r.length = sg.length
  env : ∀ (i : Nat) (d : D), r[i]? = some (some d) → ∃ v, sg[i]? = some (some v) ∧ SV K ca hd th H d v
variable {S S' : Sto} {r : Ev} {sg : L2.St} {hd : Hd}
theorem Rep.at (R : Rep K ca th H S) {l : Nat} {o : O} (h : S[l]? = some o) : ∃ a, th[l]? = some a ∧ RO K ca th H a o := by
  have hl : l < S.length := (List.getElem?_eq_some_iff.mp h).1
  have hl' : l < th.length := by rw [R.len]; exact hl
  exact ⟨th[l], List.getElem?_eq_getElem hl', R.obj l _ o (List.getElem?_eq_getElem hl') h⟩
theorem Rep.same (R : Rep K ca th H S) (f : Frm H H') (e : ∀ a, a ∈ th → H' a = H a) : Rep K ca th H' S :=
  ⟨R.len, R.nd, fun l a o h1 h2 => (R.obj l a o h1 h2).go ⟨List.prefix_refl _, f⟩ (e a (List.mem_of_getElem? h1))⟩
theorem Rep.there (R : Rep K ca th H S) {a : Addr} (h : a ∈ th) : ∃ u, H a = some u ∧ Imm u = false := by
  obtain ⟨l, hl⟩ := List.mem_iff_getElem?.mp h
  have hl' : l < S.length := by rw [← R.len]; exact (List.getElem?_eq_some_iff.mp hl).1
  exact (R.obj l a _ hl (List.getElem?_eq_getElem hl')).mut
/-- an untracked thing is laid (a tuple ..) -/
theorem Rep.lay (R : Rep K ca th H S) {p : Addr} {o : HO} (h : H p = none) : Rep K ca th (upd H p o) S :=
  R.same (Frm.new h) fun a ha => by
    obtain ⟨u, hu, _⟩ := R.there ha
    rw [upd_ne (ne_of_none hu h)]
theorem Go.lay {p : Addr} {o : HO} (h : H p = none) : Go th H th (upd H p o) := ⟨List.prefix_refl _, Frm.new h⟩
/-- a new object -/
theorem Rep.new (R : Rep K ca th H S) {p : Addr} {u : HO} {o : O} (h : H p = none) (ho : RO K ca (th ++ [p]) (upd H p u) p o) : Rep K ca (th ++ [p]) (upd H p u) (S ++ [o]) := by
  have hp : p ∉ th := fun hm => by
    obtain ⟨v, hv, _⟩ := R.there hm
    rw [h] at hv; cases hv
  refine ⟨by simp [R.len], ?_, fun l a o' h1 h2 => ?_⟩
  · rw [List.nodup_append]
    exact ⟨R.nd, by simp, fun a ha b hb => by simp at hb; subst hb; exact fun z => hp (z ▸ ha)⟩
  · have hl : l < (th ++ [p]).length := (List.getElem?_eq_some_iff.mp h1).1
    rw [List.length_append] at hl
    by_cases e : l < th.length
    · rw [List.getElem?_append_left e] at h1
      rw [List.getElem?_append_left (by rw [← R.len]; exact e)] at h2
      have hm : a ∈ th := List.mem_of_getElem? h1
      refine (R.obj l a o' h1 h2).go ⟨List.prefix_append _ _, Frm.new h⟩ (upd_ne fun z => hp (z ▸ hm))
    · have e' : l = th.length := by simp at hl; omega
      subst e'
      rw [List.getElem?_append_right (Nat.le_refl _)] at h1
      rw [R.len, List.getElem?_append_right (Nat.le_refl _)] at h2
      simp at h1 h2
      subst h1 h2
      exact ho
theorem Go.new {p : Addr} {u : HO} (h : H p = none) : Go th H (th ++ [p]) (upd H p u) := ⟨List.prefix_append _ _, Frm.new h⟩
theorem nodup_inj {A : Type} {l : List A} (h : l.Nodup) {i j : Nat} (hi : i < l.length) (hj : j < l.length) (e : l[i] = l[j]) : i = j := by
  have q := List.pairwise_iff_getElem.mp h
  rcases Nat.lt_trichotomy i j with z | z | z
  · exact absurd e (q i j hi hj z)
  · exact z
  · exact absurd e.symm (q j i hj hi z)
/-- an object is changed -/
theorem Rep.put (R : Rep K ca th H S) {l : Nat} {a : Addr} {o : O} {u : HO} (h1 : th[l]? = some a) (ho : RO K ca th (upd H a u) a o) : Rep K ca th (upd H a u) (S.set l o) := by
  have hl : l < th.length := (List.getElem?_eq_some_iff.mp h1).1
  obtain ⟨w, hw, hm⟩ := R.there (List.mem_of_getElem? h1)
  refine ⟨by simp [R.len], R.nd, fun k b o' e1 e2 => ?_⟩
  by_cases hk : k = l
  · subst hk
    rw [h1] at e1; cases e1
    rw [List.getElem?_set_self (by rw [← R.len]; exact hl)] at e2
    cases e2
    exact ho
  · rw [List.getElem?_set_ne (Ne.symm hk)] at e2
    have hb : b ≠ a := fun z => hk (by
      have q1 := (List.getElem?_eq_some_iff.mp e1)
      have q2 := (List.getElem?_eq_some_iff.mp h1)
      obtain ⟨k1, k2⟩ := q1
      obtain ⟨l1, l2⟩ := q2
      exact nodup_inj R.nd k1 l1 (by rw [k2, l2, z]))
    exact (R.obj k b o' e1 e2).go ⟨List.prefix_refl _, Frm.put hw hm⟩ (upd_ne hb)
theorem Rep.goPut (R : Rep K ca th H S) {l : Nat} {a : Addr} {u : HO} (h1 : th[l]? = some a) : Go th H th (upd H a u) := by
  obtain ⟨w, hw, hm⟩ := R.there (List.mem_of_getElem? h1)
  exact ⟨List.prefix_refl _, Frm.put hw hm⟩
theorem Sim.go (m : Sim K ca hd th H S r sg) (R : Rep K ca th' H' S') (g : Go th H th' H') : Sim K ca hd th' H' S' r sg :=
  ⟨R, m.len, fun i d h => by
    obtain ⟨v, h1, h2⟩ := m.env i d h
    exact ⟨v, h1, h2.go g⟩⟩
theorem Sim.set (m : Sim K ca hd th H S r sg) {i : Nat} {d : D} {v : V} (h : SV K ca hd th H d v) : Sim K ca hd th H S (r.set i (some d)) (sg.set i (some v)) := by
  refine ⟨m.rep, by simp [m.len], fun j e he => ?_⟩
  by_cases hj : i = j
  · subst hj
    have hl : i < r.length := by
      have q := (List.getElem?_eq_some_iff.mp he).1
      simpa using q
    rw [List.getElem?_set_self hl] at he
    cases he
    exact ⟨v, List.getElem?_set_self (by rw [← m.len]; exact hl), h⟩
  · rw [List.getElem?_set_ne hj] at he
    obtain ⟨w, h1, h2⟩ := m.env j e he
    exact ⟨w, by rw [List.getElem?_set_ne hj]; exact h1, h2⟩
theorem Sim.unset (m : Sim K ca hd th H S r sg) (i : Nat) : Sim K ca hd th H S (r.set i none) (sg.set i none) := by
  refine ⟨m.rep, by simp [m.len], fun j e he => ?_⟩
  by_cases hj : i = j
  · subst hj
    have hl : i < r.length := by
      have q := (List.getElem?_eq_some_iff.mp he).1
      simpa using q
    rw [List.getElem?_set_self hl] at he
    cases he
  · rw [List.getElem?_set_ne hj] at he
    obtain ⟨w, h1, h2⟩ := m.env j e he
    exact ⟨w, by rw [List.getElem?_set_ne hj]; exact h1, h2⟩
/-- the slots of the names of a comprehension forgotten -/
def wipeD (r : Ev) : List Nat → Ev
  | [] => r
  | v :: vs => (wipeD r vs).set v none
theorem Sim.wipe (m : Sim K ca hd th H S r sg) : ∀ vs : List Nat, Sim K ca hd th H S (wipeD r vs) (L2.wipe sg vs)
  | [] => m
  | v :: vs => (Sim.wipe m vs).unset v
end
end HP
namespace HP
open PySem L2
inductive Bop where
  | add | sub | mul | fdiv | mod | pow
  deriving DecidableEq
inductive Cop where
  | eq | ne | lt | le | gt | ge | is | isn | inn | nin
  deriving DecidableEq
/-- built-in functions by their names -/
inductive Bf where
  | len | abs | min | max | int | list | tuple | all | any | isin | sum
  deriving DecidableEq
/-- methods of built-in types -/
inductive Mt where
  | append | pop | clear | extend | index
  deriving DecidableEq
mutual
inductive Tg where
  | name (i : Nat) | tup (ts : Tgs)
inductive Tgs where
  | nil | cons (t : Tg) (r : Tgs)
end
mutual
inductive E where
  | var (i : Nat) | con (d : D)
  | int (i : Int) | bl (b : Bool) | str (s : Str) | non
  | tup (es : Es) | lst (es : Es) | dic0
  | bin (o : Bop) (a b : E) | neg (a : E)
  | cmp (o : Cop) (a b : E) | chain (o o2 : Cop) (a b c : E)
  | band (es : Es) | bor (es : Es) | bnot (a : E) | ife (c a b : E)
  | call (f : Nat) (es : Es) | bcall (f : Bf) (es : Es) | meth (m : Mt) (o : E) (es : Es)
  | ix (a b : E) | sl (a : E) (lo hi : Eo) | rev (a : E)
  | lc (x : E) (tg : Tg) (it : It) (c : Eo) (own : List Nat)
  | dic1 (k : Key) (v : Int) | joinS (s : Str) (e : E) | lstR (e : E) | lstZ (a b : E)
  | dicT | kin (neg : Bool) (e : E) (kvs : List (Str × Int)) | kix (kvs : List (Str × Int)) (e : E) | din (neg : Bool) (e d : E)
  | exIs (i : Nat) (tp : Bool) (cs kn : List Nat) | exVe (i : Nat) (kn : List Nat) | exFld (i : Nat) (f : Str)
inductive Es where
  | nil | cons (e : E) (r : Es)
inductive Eo where
  | none | some (e : E)
inductive It where
  | seq (e : E) | rng1 (e : E) | rng2 (a b : E) | rng3 (a b c : E) | enm (e : E) | zip (a b : E)
end
mutual
inductive St where
  | set (i : Nat) (e : E) | asg (t : Tg) (e : E) | setIx (o i e : E) | setD (o i e : E) | aug (i : Nat) (o : Bop) (e : E)
  | expr (e : E) | ret (e : E) | retN | ite (c : E) (a b : Ss) | whl (c : E) (b : Ss) | for_ (t : Tg) (it : It) (b : Ss)
  | brk | cnt | pass | par (i j : Nat) (a b : E) | par3 (i j k : Nat) (a b c : E)
  | rse (c : Nat) (fl : List Str) (es : Es) | try_ (b : Ss) (h : Hs) (kn : List Nat) | never
inductive Ss where
  | nil | cons (s : St) (r : Ss)
/-- except clauses: the class (none: ValueError), the slot of its name, the suite -/
inductive Hs where
  | nil | cons (c : Option Nat) (i : Option Nat) (b : Ss) (r : Hs)
end
/-- a def: parameters, slots, body -/
structure Fn where
  ar : Nat
  n : Nat
  body : Ss
abbrev szL : Nat := 16777216
def okMul (i j : Int) : Bool := decide (i.natAbs.log2 + j.natAbs.log2 < 1000000)
def okDiv (i j : Int) : Bool := decide (j ≠ 0) && !Builtin.divisionGoesByPylong i j
def okPow (i j : Int) : Bool := decide (0 ≤ j) && decide (j ≤ 1000000) && decide (i.natAbs < 2 ^ 64)
def okRng (i : Int) : Bool := decide (-(2 ^ 62) ≤ i) && decide (i < 2 ^ 62)
def newO (o : O) (S : Sto) : R D := .ok (.loc S.length) (S ++ [o])
/-- the items of a list -/
def lstOf (S : Sto) : D → Option (List D)
  | .frl ds => some ds
  | .loc l => match S[l]? with
    | some (.lst ds) => some ds
    | _ => none
  | _ => none
/-- of a list or a tuple -/
def seqOf (S : Sto) : D → Option (List D)
  | .tup ds => some ds
  | d => lstOf S d
def repS (x : Str) (n : Int) : Str := if (n == 1 || x.length == 0) = true then x else { cps := List.foldl (fun x1 x2 => x1 ++ x2) #[] (List.replicate n.toNat x.cps) }
def binD (S : Sto) : Bop → D → D → R D
  | .add, .int i, .int j => .ok (.int (i + j)) S
  | .add, .str x, .str y => if x.length + y.length ≤ szL then .ok (.str (x ++ y)) S else .bad
  | .add, .tup xs, .tup ys => if xs ≠ [] ∧ xs.length + ys.length ≤ szL then .ok (.tup (xs ++ ys)) S else .bad
  | .add, .loc l, .loc m => match S[l]?, S[m]? with
    | some (.lst xs), some (.lst ys) => if xs.length + ys.length ≤ szL then newO (.lst (xs ++ ys)) S else .bad
    | _, _ => .bad
  | .sub, .int i, .int j => .ok (.int (i - j)) S
  | .mul, .int i, .int j => if okMul i j = true then .ok (.int (i * j)) S else .bad
  | .mul, .loc l, .int k => match S[l]? with
    | some (.lst xs) => if -(2 ^ 63) ≤ k ∧ k < 2 ^ 63 ∧ xs.length * k.toNat ≤ szL then newO (.lst (List.replicate k.toNat xs).flatten) S else .bad
    | _ => .bad
  | .mul, .str x, .int k => if 1 ≤ k ∧ k < 2 ^ 31 ∧ x.length * k.toNat ≤ szL then .ok (.str (repS x k)) S else .bad
  | .fdiv, .int i, .int j => if okDiv i j = true then .ok (.int (i.fdiv j)) S else .bad
  | .mod, .int i, .int j => if j ≠ 0 then .ok (.int (i.fmod j)) S else .bad
  | .pow, .int i, .int j => if okPow i j = true then .ok (.int (i ^ j.toNat)) S else .bad
  | _, _, _ => .bad
mutual
/-- data of any depth, read -/
def rdD (S : Sto) : Nat → D → Option PyData
  | _, .non => some .none
  | _, .bl b => some (.bool b)
  | _, .int i => some (.int i)
  | _, .str x => some (.str x)
  | n + 1, .tup ds => (rdAll S n ds).map .tuple
  | n + 1, .frl ds => (rdAll S n ds).map .list
  | n + 1, .loc l => match S[l]? with
    | some (.lst ds) => (rdAll S n ds).map .list
    | _ => none
  | _, _ => none
def rdAll (S : Sto) : Nat → List D → Option (List PyData)
  | _, [] => some []
  | 0, _ :: _ => none
  | n + 1, d :: ds => match rdD S n d, rdAll S n ds with
    | some x, some xs => some (x :: xs)
    | _, _ => none
end
def eqD (S : Sto) : D → D → Option Bool
  | .int i, .int j => some (decide (i = j))
  | .bl i, .bl j => some (decide (i = j))
  | .str i, .str j => some (decide (i = j))
  | .int _, .str _ => some false
  | .str _, .int _ => some false
  | .non, .non => some true
  | .int _, .non => some false
  | .str _, .non => some false
  | .bl _, .non => some false
  | a, b => match rdD S 200 a, rdD S 200 b with
    | some x, some y => if SeqAt.shaped x = true ∧ SeqAt.shaped y = true then some (PyData.eqv x y) else none
    | _, _ => none
def inD (S : Sto) : D → D → Option Bool
  | .str x, .str y => some (!(Builtin.Str.occurrences y x 0 y.length 1).isEmpty)
  | a, b => match rdD S 200 a, rdD S 200 b with
    | some x, some (.list ys) => if SeqAt.shaped x = true ∧ SeqAt.shaped (.list ys) = true then some (ys.any fun y => PyData.eqv y x) else none
    | some x, some (.tuple ys) => if SeqAt.shaped x = true ∧ SeqAt.shaped (.tuple ys) = true then some (ys.any fun y => PyData.eqv y x) else none
    | _, _ => none
/-- a list or an instance -/
def isLI (S : Sto) (l : Nat) : Bool :=
  match S[l]? with
  | some (.lst _) => true
  | some (.ins _ _) => true
  | _ => false
def isD (S : Sto) : D → D → Option Bool
  | .non, .non => some true
  | .bl a, .bl b => some (decide (a = b))
  | .bl _, .non => some false
  | .int _, .non => some false
  | .str _, .non => some false
  | .tup _, .non => some false
  | .frl _, .non => some false
  | .loc _, .non => some false
  | .loc l, .loc m => if (isLI S l && isLI S m) = true then some (decide (l = m)) else none
  | _, _ => none
def resB (S : Sto) : Option Bool → R D
  | some b => .ok (.bl b) S
  | none => .bad
def cmpD (S : Sto) : Cop → D → D → R D
  | .eq, a, b => resB S (eqD S a b)
  | .ne, a, b => resB S ((eqD S a b).map (!·))
  | .lt, .int i, .int j => .ok (.bl (decide (i < j))) S
  | .le, .int i, .int j => .ok (.bl (decide (i ≤ j))) S
  | .gt, .int i, .int j => .ok (.bl (decide (j < i))) S
  | .ge, .int i, .int j => .ok (.bl (decide (j ≤ i))) S
  | .is, a, b => resB S (isD S a b)
  | .isn, a, b => resB S ((isD S a b).map (!·))
  | .inn, a, b => resB S (inD S a b)
  | .nin, a, b => resB S ((inD S a b).map (!·))
  | _, _, _ => .bad
def tyD (S : Sto) : D → Option Bt
  | .non => some .non
  | .bl _ => some .bool
  | .int _ => some .int
  | .str _ => some .str
  | .tup _ => some .tuple
  | .frl _ => some .list
  | .loc l => match S[l]? with
    | some (.lst _) => some .list
    | some (.dic _) => some .dict
    | _ => none
  | _ => none
def isTy (a b : Bt) : Bool := decide (a = b) || (decide (a = .bool) && decide (b = .int))
def truD (S : Sto) : D → Option Bool
  | .non => some false
  | .bl b => some b
  | .int i => some (i != 0)
  | .str x => if x.length ≤ szL then some ((x.length : Int) != 0) else none
  | .tup ds => some (!ds.isEmpty)
  | .frl ds => some (!ds.isEmpty)
  | .loc l => match S[l]? with
    | some (.lst ds) => some (!ds.isEmpty)
    | some (.dic kvs) => some (!kvs.isEmpty)
    | _ => none
  | _ => none
def blOf : D → Option Bool
  | .bl b => some b
  | _ => none
def intOf : D → Option Int
  | .int i => some i
  | _ => none
def tyOf : D → Option Bt
  | .ty b => some b
  | _ => none
def allOf {A : Type} (f : D → Option A) : List D → Option (List A)
  | [] => some []
  | d :: ds => match f d, allOf f ds with
    | some x, some xs => some (x :: xs)
    | _, _ => none
def bfD (S : Sto) : Bf → List D → R D
  | .len, [.str x] => if x.length ≤ szL then .ok (.int x.length) S else .bad
  | .len, [d] => match seqOf S d with
    | some ds => .ok (.int ds.length) S
    | none => .bad
  | .abs, [.int i] => .ok (.int (if i < 0 then -i else i)) S
  | .min, [.int i, .int j] => .ok (.int (if j < i then j else i)) S
  | .max, [.int i, .int j] => .ok (.int (if j > i then j else i)) S
  | .int, [.int i] => .ok (.int i) S
  | .int, [.bl k] => .ok (.int (if k then 1 else 0)) S
  | .list, [.str x] => if x.length ≤ szL then newO (.lst (x.cps.toList.map fun c => .str ⟨#[c]⟩)) S else .bad
  | .list, [d] => match seqOf S d with
    | some ds => newO (.lst ds) S
    | none => .bad
  | .tuple, [d] => match seqOf S d with
    | some ds => .ok (.tup ds) S
    | none => .bad
  | .all, [d] => match (lstOf S d).bind (allOf blOf) with
    | some bs => .ok (.bl (bs.all id)) S
    | none => .bad
  | .any, [d] => match (lstOf S d).bind (allOf blOf) with
    | some bs => .ok (.bl (bs.any id)) S
    | none => .bad
  | .sum, [d] => match (lstOf S d).bind (allOf intOf) with
    | some ns => .ok (.int ns.sum) S
    | none => .bad
  | .isin, [d, .ty b] => match tyD S d with
    | some a => .ok (.bl (isTy a b)) S
    | none => .bad
  | .isin, [d, .tup ts] => match tyD S d, allOf tyOf ts with
    | some a, some bs => .ok (.bl (bs.any (isTy a))) S
    | _, _ => .bad
  | _, _ => .bad
/-- the first place of an equal one -/
def firstEq (d : PyData) : List PyData → Option Nat
  | [] => none
  | x :: xs => if PyData.eqv x d = true then some 0 else (firstEq d xs).map (· + 1)
def mtD (S : Sto) : Mt → D → List D → R D
  | .append, .loc l, [y] => match S[l]? with
    | some (.lst ds) => if ds.length < szL then .ok .non (S.set l (.lst (ds ++ [y]))) else .bad
    | _ => .bad
  | .pop, .loc l, [] => match S[l]? with
    | some (.lst ds) => match ds[ds.length - 1]? with
      | some y => .ok y (S.set l (.lst ds.dropLast))
      | none => .bad
    | _ => .bad
  | .pop, .loc l, [.int i] => match S[l]? with
    | some (.lst ds) => match ds[i.toNat]? with
      | some y => if 0 ≤ i ∧ i < 2 ^ 62 then .ok y (S.set l (.lst (ds.eraseIdx i.toNat))) else .bad
      | none => .bad
    | _ => .bad
  | .clear, .loc l, [] => match S[l]? with
    | some (.lst ds) => .ok .non (S.set l (.lst []))
    | _ => .bad
  | .extend, .loc l, [.loc m] => match S[l]?, S[m]? with
    | some (.lst xs), some (.lst ys) => if xs.length + ys.length ≤ szL then .ok .non (S.set l (.lst (xs ++ ys))) else .bad
    | _, _ => .bad
  | .index, .loc l, [y] => match rdD S 200 (.loc l), rdD S 200 y with
    | some (.list xs), some d => if SeqAt.shaped (.list xs) = true ∧ SeqAt.shaped d = true then (match firstEq d xs with
        | some j => .ok (.int (j : Nat)) S
        | none => .bad) else .bad
    | _, _ => .bad
  | _, _, _ => .bad
/-- a list that may be changed -/
def isL (S : Sto) : D → Bool
  | .loc l => match S[l]? with
    | some (.lst _) => true
    | _ => false
  | _ => false
def ixD (S : Sto) : D → D → R D
  | .str x, .int i => if x.length ≤ szL then (match atI x.cps.toList i with
    | some c => .ok (.str ⟨#[c]⟩) S
    | none => .bad) else .bad
  | d, .int i => match seqOf S d with
    | some ds => (match atI ds i with
      | some v => .ok v S
      | none => .bad)
    | none => .bad
  | _, _ => .bad
def cutL {A : Type} (xs : List A) (lo hi : Option Int) : List A := (xs.drop (HT.sIx xs.length 0 lo)).take (HT.sIx xs.length xs.length hi - HT.sIx xs.length 0 lo)
def slD (S : Sto) (d : D) (lo hi : Option Int) : R D :=
  match d with
  | .tup ds => if HT.sIx ds.length 0 lo = 0 ∧ HT.sIx ds.length ds.length hi = ds.length then .ok (.tup ds) S else .ok (.tup (cutL ds lo hi)) S
  | d => match lstOf S d with
    | some ds => newO (.lst (cutL ds lo hi)) S
    | none => .bad
/-- a key of a dict: a word and a number -/
def keyD : D → Option (List Key)
  | .tup [.str x, .int i] => some [.inr x, .inl i]
  | _ => none
/-- k in d, k not in d -/
def dinD (S : Sto) (neg : Bool) (x : D) : D → R D
  | .loc l => (match S[l]?, keyD x with
    | some (.dct kvs), some k => .ok (.bl (if neg = true then !((kvs.map (·.1)).any fun j => decide (j = k)) else (kvs.map (·.1)).any fun j => decide (j = k))) S
    | _, _ => .bad)
  | _ => .bad
/-- d[k] = v, for a new key -/
def setDD (S : Sto) : D → D → D → Option Sto
  | .loc l, x, v => (match S[l]?, keyD x with
    | some (.dct kvs), some k => if ((kvs.map (·.1)).any fun j => decide (j = k)) = true ∨ ¬kvs.length < szL then none else some (S.set l (.dct (kvs ++ [(k, v)])))
    | _, _ => none)
  | _, _, _ => none
/-- x in a dict that the module tells -/
def kinD (S : Sto) (neg : Bool) (kvs : List (Str × Int)) : D → R D
  | .str z => (match kvs.lookup z with
    | some _ => .ok (.bl (!neg)) S
    | none => .bad)
  | _ => .bad
def kixD (S : Sto) (kvs : List (Str × Int)) : D → R D
  | .str z => (match kvs.lookup z with
    | some i => .ok (.int i) S
    | none => .bad)
  | _ => .bad
def setIxD (S : Sto) : D → D → D → Option Sto
  | .loc l, .int k, v => match S[l]? with
    | some (.lst ds) => (match ixN ds.length k with
      | some j => some (S.set l (.lst (ds.set j v)))
      | none => none)
    | _ => none
  | _, _, _ => none
mutual
def asgT : Tg → D → Ev → Option Ev
  | .name i, d, r => some (r.set i (some d))
  | .tup ts, .tup ds, r => asgTs ts ds r
  | .tup _, _, _ => none
def asgTs : Tgs → List D → Ev → Option Ev
  | .nil, [], r => some r
  | .cons t ts, d :: ds, r => match asgT t d r with
    | some r1 => asgTs ts ds r1
    | none => none
  | _, _, _ => none
end
/-- what is taken apart: a list's items, too -/
def unL (S : Sto) : D → D
  | .loc l => match S[l]? with
    | some (.lst ds) => .tup ds
    | _ => .loc l
  | d => d
abbrev Ck := List (Nat × List D)
/-- the lists that are walked stand as they stood -/
def Still (ck : Ck) (S : Sto) : Prop := ∀ p ∈ ck, S[p.1]? = some (.lst p.2)
open Classical in
noncomputable def forL (ck : Ck) (t : D → Ev → Option Ev) (b : Ev → Sto → RS) : List D → Ev → Sto → RS
  | [], r, S => if Still ck S then .nx r S else .bad
  | d :: ds, r, S => if Still ck S then
      (match t d r with
      | none => .bad
      | some r1 => match b r1 S with
        | .nx r2 S2 => forL ck t b ds r2 S2
        | .ct r2 S2 => forL ck t b ds r2 S2
        | .bk r2 S2 => .nx r2 S2
        | x => x) else .bad
def whN (c : Ev → Sto → R Bool) (b : Ev → Sto → RS) : Nat → Ev → Sto → Option RS
  | 0, _, _ => none
  | n + 1, r, S => match c r S with
    | .ok true S1 => (match b r S1 with
      | .nx r2 S2 => whN c b n r2 S2
      | .ct r2 S2 => whN c b n r2 S2
      | .bk r2 S2 => some (.nx r2 S2)
      | x => some x)
    | .ok false S1 => some (.nx r S1)
    | .exn x S1 => some (.ex x r S1)
    | .bad => some .bad
open Classical in
noncomputable def whR (c : Ev → Sto → R Bool) (b : Ev → Sto → RS) (r : Ev) (S : Sto) : RS :=
  if h : ∃ n x, whN c b n r S = some x then Classical.choose (Classical.choose_spec h) else .bad
open Classical in
/-- the turns of a comprehension: the new list at l -/
noncomputable def compL (ck : Ck) (l : Nat) (f : D → Sto → R (Option D)) : List D → Sto → R D
  | [], S => if Still ck S then .ok (.loc l) S else .bad
  | d :: ds, S => if Still ck S then
      (match f d S with
      | .ok none S2 => compL ck l f ds S2
      | .ok (some y) S2 => (match S2[l]? with
        | some (.lst acc) => if acc.length < szL then compL ck l f ds (S2.set l (.lst (acc ++ [y]))) else .bad
        | _ => .bad)
      | _ => .bad) else .bad
/-- what is walked -/
def itSeq (S : Sto) : D → R (List D × Ck)
  | .tup ds => .ok (ds, []) S
  | .frl ds => .ok (ds, []) S
  | .loc l => match S[l]? with
    | some (.lst ds) => .ok (ds, [(l, ds)]) S
    | _ => .bad
  | .str x => .ok (x.cps.toList.map fun c => .str ⟨#[c]⟩, []) S
  | _ => .bad
def itLst (S : Sto) : D → Option (List D × Ck)
  | .frl ds => some (ds, [])
  | .loc l => match S[l]? with
    | some (.lst ds) => some (ds, [(l, ds)])
    | _ => none
  | _ => none
def enmL : Nat → List D → List D
  | _, [] => []
  | n, d :: ds => .tup [.int n, d] :: enmL (n + 1) ds
def zipL : List D → List D → List D
  | a :: as, b :: bs => .tup [a, b] :: zipL as bs
  | _, _ => []
def rngL (lo : Int) (n : Nat) : List D := (List.range n).map fun i => .int (lo + (i : Nat))
def rngC (lo c : Int) (n : Nat) : List D := (List.range n).map fun i => .int (lo + (i : Nat) * c)
def rngN (i j c : Int) : Nat := (Builtin.Range.rangeSize i j c).toNat
def strsD : List D → Option (List Str)
  | [] => some []
  | .str s :: r => (match strsD r with
    | some ys => some (s :: ys)
    | none => none)
  | _ => none
def joinD (S : Sto) (a : Str) (y : D) : R D :=
  match seqOf S y with
  | some ds => (match strsD ds with
    | some ys => if (ys.map (·.length)).sum + ys.length * a.length ≤ 16777216 then .ok (.str (Txt.join a ys)) S else .bad
    | none => .bad)
  | none => .bad
def lstRD (S : Sto) : D → R D
  | .int j => if okRng j = true ∧ j.toNat ≤ 2 ^ 24 then newO (.lst (rngL 0 j.toNat)) S else .bad
  | _ => .bad
def lstZD (S : Sto) (x y : D) : R D :=
  match lstOf S x, lstOf S y with
  | some xs, some ys => if (zipL xs ys).length ≤ szL then newO (.lst (zipL xs ys)) S else .bad
  | _, _ => .bad
/-- one class over another: 0 is over all -/
def subC (k j : Nat) : Bool := decide (k = j) || decide (j = 0)
abbrev Call := Nat → List D → Sto → R D
def R.bnd {A B : Type} (x : R A) (f : A → Sto → R B) : R B :=
  match x with
  | .ok a S => f a S
  | .exn x S => .exn x S
  | .bad => .bad
def R.bndS {A : Type} (x : R A) (r : Ev) (f : A → Sto → RS) : RS :=
  match x with
  | .ok a S => f a S
  | .exn x S => .ex x r S
  | .bad => .bad
def negD (S : Sto) : D → R D
  | .int i => .ok (.int (-i)) S
  | _ => .bad
def truR (S : Sto) (d : D) : R Bool :=
  match truD S d with
  | some b => .ok b S
  | none => .bad
def partD (S : Sto) : D → R (Option Int)
  | .int i => .ok (some i) S
  | _ => .bad
def revD (S : Sto) (d : D) : R D :=
  match lstOf S d with
  | some ds => newO (.lst ds.reverse) S
  | none => .bad
/-- behind a truth value -/
def onB (S : Sto) (d : D) (t f : Sto → R D) : R D :=
  match d with
  | .bl true => t S
  | .bl false => f S
  | _ => .bad
def rng1D (S : Sto) : D → R (List D × Ck)
  | .int j => if okRng j = true then .ok (rngL 0 j.toNat, []) S else .bad
  | _ => .bad
def rng2D (S : Sto) : D → D → R (List D × Ck)
  | .int i, .int j => if okRng i = true ∧ okRng j = true then .ok (rngL i (j - i).toNat, []) S else .bad
  | _, _ => .bad
def rng3D (S : Sto) : D → D → D → R (List D × Ck)
  | .int i, .int j, .int c => if c ≠ 0 ∧ c.natAbs < 1073741824 ∧ Builtin.Range.small i j c = true ∧ Builtin.Range.rangeSize i j c = (rngN i j c : Nat) then .ok (rngC i c (rngN i j c), []) S else .bad
  | _, _, _ => .bad
def enmD (S : Sto) (d : D) : R (List D × Ck) :=
  match itLst S d with
  | some (ds, ck) => .ok (enmL 0 ds, ck) S
  | none => .bad
def zipD (S : Sto) : D → D → R (List D × Ck)
  | .tup xs, .tup ys => .ok (zipL xs ys, []) S
  | x, y => match itLst S x, itLst S y with
    | some (xs, ck), some (ys, ck2) => .ok (zipL xs ys, ck ++ ck2) S
    | _, _ => .bad
mutual
noncomputable def evE (c : Call) : E → Ev → Sto → R D
  | .var i, r, S => match r[i]? with
    | some (some (.exc _ _)) => .bad
    | some (some d) => .ok d S
    | _ => .bad
  | .con d, _, S => .ok d S
  | .int i, _, S => .ok (.int i) S
  | .bl b, _, S => .ok (.bl b) S
  | .str x, _, S => .ok (.str x) S
  | .non, _, S => .ok .non S
  | .tup es, r, S => (evEs c es r S).bnd fun ds S1 => .ok (.tup ds) S1
  | .lst es, r, S => (evEs c es r S).bnd fun ds S1 => newO (.lst ds) S1
  | .dic0, _, S => newO (.dic []) S
  | .bin o a b, r, S => (evE c a r S).bnd fun x S1 => (evE c b r S1).bnd fun y S2 => binD S2 o x y
  | .neg a, r, S => (evE c a r S).bnd fun x S1 => negD S1 x
  | .cmp o a b, r, S => (evE c a r S).bnd fun x S1 => (evE c b r S1).bnd fun y S2 => cmpD S2 o x y
  | .chain o o2 a b d, r, S => (evE c a r S).bnd fun x S1 => (evE c b r S1).bnd fun y S2 => (cmpD S2 o x y).bnd fun k S3 =>
      onB S3 k (fun S3 => (evE c d r S3).bnd fun z S4 => cmpD S4 o2 y z) fun S3 => .ok (.bl false) S3
  | .band es, r, S => evAnd c es r S
  | .bor es, r, S => evOr c es r S
  | .bnot a, r, S => (evE c a r S).bnd fun x S1 => (truR S1 x).bnd fun b S2 => .ok (.bl (!b)) S2
  | .ife t a b, r, S => (evT c t r S).bnd fun k S1 => if k = true then evE c a r S1 else evE c b r S1
  | .call f es, r, S => (evEs c es r S).bnd fun ds S1 => c f ds S1
  | .bcall f es, r, S => (evEs c es r S).bnd fun ds S1 => bfD S1 f ds
  | .meth m o es, r, S => (evE c o r S).bnd fun x S1 => if isL S1 x = true then (evEs c es r S1).bnd fun ds S2 => mtD S2 m x ds else .bad
  | .ix a b, r, S => (evE c a r S).bnd fun x S1 => (evE c b r S1).bnd fun y S2 => ixD S2 x y
  | .sl a lo hi, r, S => (evE c a r S).bnd fun x S1 => (evO c lo r S1).bnd fun l S2 => (evO c hi r S2).bnd fun h S3 => slD S3 x l h
  | .rev a, r, S => (evE c a r S).bnd fun x S1 => revD S1 x
  | .lc x tg it cd own, r, S => (evI c it r S).bnd fun p S1 =>
      compL p.2 S1.length (fun d S2 => match asgT tg d (wipeD r own) with
        | none => .bad
        | some r2 => (evC c cd r2 S2).bnd fun k S3 => if k = true then (evE c x r2 S3).bnd fun y S4 => .ok (some y) S4 else .ok none S3) p.1 (S1 ++ [.lst []])
  | .dic1 k v, _, S => newO (.dic [(k, .int v)]) S
  | .joinS s e, r, S => (evE c e r S).bnd fun d S1 => joinD S1 s d
  | .lstR e, r, S => (evE c e r S).bnd fun d S1 => lstRD S1 d
  | .lstZ a b, r, S => (evE c a r S).bnd fun x S1 => (evE c b r S1).bnd fun y S2 => lstZD S2 x y
  | .dicT, _, S => newO (.dct []) S
  | .kin neg e kvs, r, S => (evE c e r S).bnd fun d S1 => kinD S1 neg kvs d
  | .kix kvs e, r, S => (evE c e r S).bnd fun d S1 => kixD S1 kvs d
  | .din neg a b, r, S => (evE c a r S).bnd fun x S1 => (evE c b r S1).bnd fun y S2 => dinD S2 neg x y
  | .exIs i tp cs kn, r, S => match r[i]? with
    | some (some (.exc k fs)) => if k ∈ kn ∧ fs = [] then .ok (.bl (cs.any (subC k))) S else .bad
    | _ => .bad
  | .exVe i kn, r, S => match r[i]? with
    | some (some (.exc k fs)) => if k ∈ kn ∧ fs = [] then .ok (.bl true) S else .bad
    | _ => .bad
  | .exFld i f, r, S => match r[i]? with
    | some (some (.exc _ fs)) => (match fs.lookup f with
      | some d => .ok d S
      | none => .bad)
    | _ => .bad
noncomputable def evEs (c : Call) : Es → Ev → Sto → R (List D)
  | .nil, _, S => .ok [] S
  | .cons e es, r, S => (evE c e r S).bnd fun d S1 => (evEs c es r S1).bnd fun ds S2 => .ok (d :: ds) S2
/-- a and b and .., truth values -/
noncomputable def evAnd (c : Call) : Es → Ev → Sto → R D
  | .nil, _, _ => .bad
  | .cons e .nil, r, S => evE c e r S
  | .cons e (.cons e2 es), r, S => (evE c e r S).bnd fun x S1 => onB S1 x (fun S1 => evAnd c (.cons e2 es) r S1) fun S1 => .ok (.bl false) S1
noncomputable def evOr (c : Call) : Es → Ev → Sto → R D
  | .nil, _, _ => .bad
  | .cons e .nil, r, S => evE c e r S
  | .cons e (.cons e2 es), r, S => (evE c e r S).bnd fun x S1 => onB S1 x (fun S1 => .ok (.bl true) S1) fun S1 => evOr c (.cons e2 es) r S1
noncomputable def evO (c : Call) : Eo → Ev → Sto → R (Option Int)
  | .none, _, S => .ok none S
  | .some e, r, S => (evE c e r S).bnd fun d S1 => partD S1 d
/-- a comprehension's test -/
noncomputable def evC (c : Call) : Eo → Ev → Sto → R Bool
  | .none, _, S => .ok true S
  | .some e, r, S => evT c e r S
/-- a test -/
noncomputable def evT (c : Call) : E → Ev → Sto → R Bool
  | .band es, r, S => evTA c es r S
  | .bor es, r, S => evTO c es r S
  | .bnot a, r, S => (evT c a r S).bnd fun b S1 => .ok (!b) S1
  | .ife _ _ _, _, _ => .bad
  | .var i, r, S => (evE c (.var i) r S).bnd fun d S1 => truR S1 d
  | .con d, r, S => (evE c (.con d) r S).bnd fun d S1 => truR S1 d
  | .int i, r, S => (evE c (.int i) r S).bnd fun d S1 => truR S1 d
  | .bl b, r, S => (evE c (.bl b) r S).bnd fun d S1 => truR S1 d
  | .str x, r, S => (evE c (.str x) r S).bnd fun d S1 => truR S1 d
  | .non, r, S => (evE c .non r S).bnd fun d S1 => truR S1 d
  | .tup es, r, S => (evE c (.tup es) r S).bnd fun d S1 => truR S1 d
  | .lst es, r, S => (evE c (.lst es) r S).bnd fun d S1 => truR S1 d
  | .dic0, r, S => (evE c .dic0 r S).bnd fun d S1 => truR S1 d
  | .bin o a b, r, S => (evE c (.bin o a b) r S).bnd fun d S1 => truR S1 d
  | .neg a, r, S => (evE c (.neg a) r S).bnd fun d S1 => truR S1 d
  | .cmp o a b, r, S => (evE c (.cmp o a b) r S).bnd fun d S1 => truR S1 d
  | .chain o o2 a b d, r, S => (evE c (.chain o o2 a b d) r S).bnd fun d S1 => truR S1 d
  | .call f es, r, S => (evE c (.call f es) r S).bnd fun d S1 => truR S1 d
  | .bcall f es, r, S => (evE c (.bcall f es) r S).bnd fun d S1 => truR S1 d
  | .meth m o es, r, S => (evE c (.meth m o es) r S).bnd fun d S1 => truR S1 d
  | .ix a b, r, S => (evE c (.ix a b) r S).bnd fun d S1 => truR S1 d
  | .sl a l h, r, S => (evE c (.sl a l h) r S).bnd fun d S1 => truR S1 d
  | .rev a, r, S => (evE c (.rev a) r S).bnd fun d S1 => truR S1 d
  | .lc x t i d o, r, S => (evE c (.lc x t i d o) r S).bnd fun d S1 => truR S1 d
  | .dic1 k v, r, S => (evE c (.dic1 k v) r S).bnd fun d S1 => truR S1 d
  | .joinS s e, r, S => (evE c (.joinS s e) r S).bnd fun d S1 => truR S1 d
  | .lstR e, r, S => (evE c (.lstR e) r S).bnd fun d S1 => truR S1 d
  | .lstZ a b, r, S => (evE c (.lstZ a b) r S).bnd fun d S1 => truR S1 d
  | .dicT, r, S => (evE c .dicT r S).bnd fun d S1 => truR S1 d
  | .kin neg e kvs, r, S => (evE c (.kin neg e kvs) r S).bnd fun d S1 => truR S1 d
  | .kix kvs e, r, S => (evE c (.kix kvs e) r S).bnd fun d S1 => truR S1 d
  | .din neg a b, r, S => (evE c (.din neg a b) r S).bnd fun d S1 => truR S1 d
  | .exIs i tp cs kn, r, S => (evE c (.exIs i tp cs kn) r S).bnd fun d S1 => truR S1 d
  | .exVe i kn, r, S => (evE c (.exVe i kn) r S).bnd fun d S1 => truR S1 d
  | .exFld i f, r, S => (evE c (.exFld i f) r S).bnd fun d S1 => truR S1 d
noncomputable def evTA (c : Call) : Es → Ev → Sto → R Bool
  | .nil, _, _ => .bad
  | .cons e .nil, r, S => evT c e r S
  | .cons e (.cons e2 es), r, S => (evT c e r S).bnd fun k S1 => if k = true then evTA c (.cons e2 es) r S1 else .ok false S1
noncomputable def evTO (c : Call) : Es → Ev → Sto → R Bool
  | .nil, _, _ => .bad
  | .cons e .nil, r, S => evT c e r S
  | .cons e (.cons e2 es), r, S => (evT c e r S).bnd fun k S1 => if k = true then .ok true S1 else evTO c (.cons e2 es) r S1
noncomputable def evI (c : Call) : It → Ev → Sto → R (List D × Ck)
  | .seq e, r, S => (evE c e r S).bnd fun d S1 => itSeq S1 d
  | .rng1 e, r, S => (evE c e r S).bnd fun d S1 => rng1D S1 d
  | .rng2 a b, r, S => (evE c a r S).bnd fun x S1 => (evE c b r S1).bnd fun y S2 => rng2D S2 x y
  | .rng3 a b d, r, S => (evE c a r S).bnd fun x S1 => (evE c b r S1).bnd fun y S2 => (evE c d r S2).bnd fun z S3 => rng3D S3 x y z
  | .enm e, r, S => (evE c e r S).bnd fun d S1 => enmD S1 d
  | .zip a b, r, S => (evE c a r S).bnd fun x S1 => (evE c b r S1).bnd fun y S2 => zipD S2 x y
end
/-- no slot holds an exception -/
def noX (r : Ev) : Bool := r.all fun o => match o with
  | some (.exc _ _) => false
  | _ => true
/-- the end of an except suite -/
def coolR (f : Ev → Ev) : RS → RS
  | .nx r S => if noX (f r) = true then .nx (f r) S else .bad
  | .bk r S => if noX (f r) = true then .bk (f r) S else .bad
  | .ct r S => if noX (f r) = true then .ct (f r) S else .bad
  | .rt d S => .rt d S
  | _ => .bad
/-- x op= y -/
def augD (S : Sto) : Bop → D → D → R D
  | .add, .int a, .int b => .ok (.int (a + b)) S
  | .sub, .int a, .int b => .ok (.int (a - b)) S
  | _, _, _ => .bad
mutual
noncomputable def evS (c : Call) : St → Ev → Sto → RS
  | .set i e, r, S => (evE c e r S).bndS r fun d S1 => .nx (r.set i (some d)) S1
  | .asg t e, r, S => (evE c e r S).bndS r fun d S1 => (match asgT t (unL S1 d) r with
      | some r1 => .nx r1 S1
      | none => .bad)
  | .setIx o i e, r, S => (evE c e r S).bndS r fun d S1 => (evE c o r S1).bndS r fun x S2 => (evE c i r S2).bndS r fun k S3 => (match setIxD S3 x k d with
      | some S4 => .nx r S4
      | none => .bad)
  | .setD o i e, r, S => (evE c e r S).bndS r fun d S1 => (evE c o r S1).bndS r fun x S2 => (evE c i r S2).bndS r fun k S3 => (match setDD S3 x k d with
      | some S4 => .nx r S4
      | none => .bad)
  | .aug i o e, r, S => (evE c (.var i) r S).bndS r fun x S1 => (evE c e r S1).bndS r fun y S2 => (augD S2 o x y).bndS r fun z S3 => .nx (r.set i (some z)) S3
  | .expr e, r, S => (evE c e r S).bndS r fun _ S1 => .nx r S1
  | .ret e, r, S => (evE c e r S).bndS r fun d S1 => .rt d S1
  | .retN, _, S => .rt .non S
  | .ite t a b, r, S => (evT c t r S).bndS r fun k S1 => if k = true then evSs c a r S1 else evSs c b r S1
  | .whl t b, r, S => whR (fun r S => evT c t r S) (fun r S => evSs c b r S) r S
  | .for_ t it b, r, S => (evI c it r S).bndS r fun p S1 => forL p.2 (fun d r => asgT t d r) (fun r S => evSs c b r S) p.1 r S1
  | .brk, r, S => .bk r S
  | .cnt, r, S => .ct r S
  | .pass, r, S => .nx r S
  | .par i j a b, r, S => (evE c a r S).bndS r fun x S1 => (evE c b r S1).bndS r fun y S2 => .nx ((r.set i (some x)).set j (some y)) S2
  | .par3 i j k a b d, r, S => (evE c a r S).bndS r fun x S1 => (evE c b r S1).bndS r fun y S2 => (evE c d r S2).bndS r fun z S3 =>
      .nx (((r.set i (some x)).set j (some y)).set k (some z)) S3
  | .rse k fl es, r, S => (evEs c es r S).bndS r fun ds S1 => if fl.length = ds.length then .ex ⟨k, fl.zip ds⟩ r S1 else .bad
  | .try_ b h kn, r, S => match evSs c b r S with
    | .ex x r1 S1 => if x.c ∈ kn then evH c h x r1 S1 else .bad
    | z => z
  | .never, _, _ => .bad
noncomputable def evSs (c : Call) : Ss → Ev → Sto → RS
  | .nil, r, S => .nx r S
  | .cons s ss, r, S => match evS c s r S with
    | .nx r1 S1 => evSs c ss r1 S1
    | z => z
/-- the except clauses -/
noncomputable def evH (c : Call) : Hs → Xn → Ev → Sto → RS
  | .nil, x, r, S => .ex x r S
  | .cons k i b h, x, r, S =>
    if k.all (subC x.c) = true then
      (match i with
      | none => coolR id (evSs c b r S)
      | some i => coolR (fun r => r.set i none) (evSs c b (r.set i (some (.exc x.c x.fs))) S))
    else evH c h x r S
end
/-- a def called -/
noncomputable def runF (c : Call) (f : Fn) (ds : List D) (S : Sto) : R D :=
  if ds.length = f.ar then
    match evSs c f.body (ds.map some ++ List.replicate (f.n - f.ar) none) S with
    | .nx _ S1 => .ok .non S1
    | .rt d S1 => .ok d S1
    | .ex x _ S1 => .exn x S1
    | _ => .bad
  else .bad
abbrev Tab := Nat → Option Fn
/-- calls so deep -/
noncomputable def callN (G : Tab) : Nat → Call
  | 0 => fun _ _ _ => .bad
  | n + 1 => fun f ds S => match G f with
    | some fn => runF (callN G n) fn ds S
    | none => .bad
end HP
namespace HP
open PySem L2 PySem.Spec PyProof.Rows
section
variable {K : PySem.W.Frag} {ca : Nat → Addr} {th th1 th2 : List Addr} {H H1 H2 : Hp} {A B : Type}
/-- what is wanted behind an evaluation -/
def Po (K : PySem.W.Frag) (ca : Nat → Addr) (th : List Addr) (H : Hp) (rel : List Addr → Hp → A → B → Prop) (Wx : Value → Option Addr → Hp → Prop) (Q : B → Hp → Prop) : R A → Prop
  | .ok a S => ∀ th' H' b, Go th H th' H' → Rep K ca th' H' S → rel th' H' a b → Q b H'
  | .exn x S => ∀ th' H' cls dd, Go th H th' H' → Rep K ca th' H' S → RX K ca th' H' x.c x.fs cls dd → Wx cls dd H'
  | .bad => False
variable {rel : List Addr → Hp → A → B → Prop} {Wx : Value → Option Addr → Hp → Prop} {Q : B → Hp → Prop} {x : R A}
theorem Po.later (g : Go th H th1 H1) (h : Po K ca th H rel Wx Q x) : Po K ca th1 H1 rel Wx Q x := by
  cases x with
  | ok a S => exact fun th' H' b g' => h th' H' b (g.trans g')
  | exn y S => exact fun th' H' c d g' => h th' H' c d (g.trans g')
  | bad => exact h
theorem Po.bnd {A' B' : Type} {rel' : List Addr → Hp → A' → B' → Prop} {Q' : B' → Hp → Prop} {f : A → Sto → R A'} (h : Po K ca th H rel' Wx Q' (x.bnd f))
    (k : ∀ a S th1 H1 b, Go th H th1 H1 → Rep K ca th1 H1 S → rel th1 H1 a b → Po K ca th1 H1 rel' Wx Q' (f a S) → Q b H1) : Po K ca th H rel Wx Q x := by
  cases x with
  | ok a S => exact fun th' H' b g r e => k a S th' H' b g r e (Po.later g h)
  | exn y S => exact h
  | bad => exact h
theorem Po.ok {a : A} {b : B} {S : Sto} (R : Rep K ca th H S) (e : rel th H a b) (h : Po K ca th H rel Wx Q (.ok a S)) : Q b H := h th H b (Go.refl _ _) R e
theorem Po.mono {Q' : B → Hp → Prop} (h : Po K ca th H rel Wx Q x) (k : ∀ b H, Q b H → Q' b H) : Po K ca th H rel Wx Q' x := by
  cases x with
  | ok a S => exact fun th' H' b g r e => k _ _ (h th' H' b g r e)
  | exn y S => exact h
  | bad => exact h
/-- a new object of the store -/
theorem Po.newLst {ds : List D} {vs : List V} {S : Sto} {Q : V → Hp → Prop} (R : Rep K ca th H S) (e : RVs K ca th H ds vs) (h : Po K ca th H (RV K ca) Wx Q (newO (.lst ds) S)) : ∀ p, H p = none → Q (.ref p) (upd H p (.lst vs)) := fun p hp =>
  h (th ++ [p]) _ (.ref p) (Go.new hp) (R.new hp ⟨vs, upd_same, e.go (Go.new hp)⟩) (.loc (by rw [← R.len, List.getElem?_append_right (Nat.le_refl _)]; simp))
theorem Po.newDic {S : Sto} {Q : V → Hp → Prop} (R : Rep K ca th H S) (h : Po K ca th H (RV K ca) Wx Q (newO (.dic []) S)) : ∀ p, H p = none → Q (.ref p) (upd H p (.dK [])) := fun p hp =>
  h (th ++ [p]) _ (.ref p) (Go.new hp) (R.new hp ⟨[], upd_same, rfl, .nil⟩) (.loc (by rw [← R.len, List.getElem?_append_right (Nat.le_refl _)]; simp))
theorem Po.newDct {S : Sto} {Q : V → Hp → Prop} (R : Rep K ca th H S) (h : Po K ca th H (RV K ca) Wx Q (newO (.dct []) S)) : ∀ p, H p = none → Q (.ref p) (upd H p (.dT [])) := fun p hp =>
  h (th ++ [p]) _ (.ref p) (Go.new hp) (R.new hp ⟨[], upd_same, rfl, .nil⟩) (.loc (by rw [← R.len, List.getElem?_append_right (Nat.le_refl _)]; simp))
theorem Po.tup {ds : List D} {vs : List V} {S : Sto} {Q : V → Hp → Prop} (R : Rep K ca th H S) (e : RVs K ca th H ds vs) (h : Po K ca th H (RV K ca) Wx Q (.ok (.tup ds) S)) : ∀ p, H p = none → Q (.ref p) (upd H p (.tup vs)) := fun p hp =>
  h th _ (.ref p) (Go.lay hp) (R.lay hp) (.tup (.inl (.inl upd_same)) (.inr upd_same) (e.go (Go.lay hp)))
theorem RV.int_inv {i : Int} {v : V} (h : RV K ca th H (.int i) v) : v = .int i := by cases h; rfl
theorem RV.bl_inv {i : Bool} {v : V} (h : RV K ca th H (.bl i) v) : v = .bl i := by cases h; rfl
theorem RV.str_inv {i : Str} {v : V} (h : RV K ca th H (.str i) v) : v = .str i := by cases h; rfl
theorem RV.non_inv {v : V} (h : RV K ca th H .non v) : v = .non := by cases h; rfl
theorem RV.tup_inv {ds : List D} {v : V} (h : RV K ca th H (.tup ds) v) : ∃ a vs, v = .ref a ∧ SqT K H a vs ∧ RVs K ca th H ds vs := by cases h with | tup h t r => exact ⟨_, _, rfl, h, r⟩
theorem RV.tup_inv3 {ds : List D} {v : V} (h : RV K ca th H (.tup ds) v) : ∃ a vs, v = .ref a ∧ SqT K H a vs ∧ (nsB ds = true ∨ H a = some (.tup vs)) ∧ RVs K ca th H ds vs := by cases h with | tup h t r => exact ⟨_, _, rfl, h, t, r⟩
theorem RV.frl_inv {ds : List D} {v : V} (h : RV K ca th H (.frl ds) v) : ∃ a vs, v = .ref a ∧ FzL K H a vs ∧ RVs K ca th H ds vs := by cases h with | frl h r => exact ⟨_, _, rfl, h, r⟩
theorem RV.loc_inv {l : Nat} {v : V} (h : RV K ca th H (.loc l) v) : ∃ a, v = .ref a ∧ th[l]? = some a := by cases h with | loc h => exact ⟨_, rfl, h⟩
theorem RV.lst_inv {l : Nat} {v : V} {S : Sto} {ds : List D} (R : Rep K ca th H S) (h : RV K ca th H (.loc l) v) (e : S[l]? = some (.lst ds)) : ∃ a vs, v = .ref a ∧ th[l]? = some a ∧ H a = some (.lst vs) ∧ RVs K ca th H ds vs := by
  obtain ⟨a, h1, h2⟩ := h.loc_inv
  obtain ⟨vs, h3, h4⟩ := R.obj l a _ h2 e
  exact ⟨a, vs, h1, h2, h3, h4⟩
/-- a list is read -/
theorem lstOf_ok {S : Sto} {d : D} {v : V} {ds : List D} (R : Rep K ca th H S) (h : RV K ca th H d v) (e : lstOf S d = some ds) : ∃ a vs, v = .ref a ∧ SqL K H a vs ∧ RVs K ca th H ds vs := by
  cases d with
  | frl es =>
    obtain rfl : es = ds := Option.some.inj e
    obtain ⟨a, vs, h1, h2, h3⟩ := h.frl_inv
    exact ⟨a, vs, h1, h2.sq, h3⟩
  | loc l =>
    have e' : (match S[l]? with | some (.lst ds) => some ds | _ => none) = some ds := e
    split at e'
    · rename_i es he
      cases e'
      obtain ⟨a, vs, h1, h2, h3, h4⟩ := h.lst_inv R he
      exact ⟨a, vs, h1, .inl (.inl h3), h4⟩
    · cases e'
  | _ => cases e
theorem seqOf_ok {S : Sto} {d : D} {v : V} {ds : List D} (R : Rep K ca th H S) (h : RV K ca th H d v) (e : seqOf S d = some ds) : ∃ a vs, v = .ref a ∧ (SqL K H a vs ∨ SqT K H a vs) ∧ RVs K ca th H ds vs := by
  have other : ∀ d', d' = d → lstOf S d' = some ds → ∃ a vs, v = .ref a ∧ (SqL K H a vs ∨ SqT K H a vs) ∧ RVs K ca th H ds vs := fun d' q e' => by
    rw [q] at e'
    obtain ⟨a, vs, h1, h2, h3⟩ := lstOf_ok R h e'
    exact ⟨a, vs, h1, .inl h2, h3⟩
  cases d with
  | tup es =>
    obtain rfl : es = ds := Option.some.inj e
    obtain ⟨a, vs, h1, h2, h3⟩ := h.tup_inv
    exact ⟨a, vs, h1, .inr h2, h3⟩
  | _ => exact other _ rfl e
theorem map_some {A B : Type} {f : A → B} {o : Option A} {b : B} (h : o.map f = some b) : ∃ a, o = some a ∧ f a = b := by
  cases o with
  | none => cases h
  | some a => exact ⟨a, rfl, Option.some.inj h⟩
mutual
theorem rdD_ok {S : Sto} (R : Rep K ca th H S) : ∀ (n : Nat) (d : D) (v : V) (p : PyData), RV K ca th H d v → rdD S n d = some p → Dp K H v p
  | n, .non, v, p, h, e => by rw [h.non_inv]; simp only [rdD] at e; cases e; exact .non
  | n, .bl b, v, p, h, e => by rw [h.bl_inv]; simp only [rdD] at e; cases e; exact .bl b
  | n, .int b, v, p, h, e => by rw [h.int_inv]; simp only [rdD] at e; cases e; exact .int b
  | n, .str b, v, p, h, e => by rw [h.str_inv]; simp only [rdD] at e; cases e; exact .str b
  | 0, .tup _, v, p, h, e => by simp only [rdD] at e; cases e
  | 0, .frl _, v, p, h, e => by simp only [rdD] at e; cases e
  | 0, .loc _, v, p, h, e => by simp only [rdD] at e; cases e
  | n, .ty _, v, p, h, e => by cases n <;> (simp only [rdD] at e; cases e)
  | n, .cls _, v, p, h, e => by cases n <;> (simp only [rdD] at e; cases e)
  | n, .exc _ _, v, p, h, e => by cases h
  | n, .kd _, v, p, h, e => by cases n <;> (simp only [rdD] at e; cases e)
  | n + 1, .tup ds, v, p, h, e => by
    simp only [rdD] at e
    obtain ⟨ps, e1, e2⟩ := map_some e
    subst e2
    obtain ⟨a, vs, rfl, h2, h3⟩ := h.tup_inv
    exact .tup h2 (rdAll_ok R n ds vs ps h3 e1)
  | n + 1, .frl ds, v, p, h, e => by
    simp only [rdD] at e
    obtain ⟨ps, e1, e2⟩ := map_some e
    subst e2
    obtain ⟨a, vs, rfl, h2, h3⟩ := h.frl_inv
    exact .lst h2.sq (rdAll_ok R n ds vs ps h3 e1)
  | n + 1, .loc l, v, p, h, e => by
    simp only [rdD] at e
    split at e
    · rename_i ds he
      obtain ⟨ps, e1, e2⟩ := map_some e
      subst e2
      obtain ⟨a, vs, rfl, h2, h3, h4⟩ := h.lst_inv R he
      exact .lst (.inl (.inl h3)) (rdAll_ok R n ds vs ps h4 e1)
    · cases e
theorem rdAll_ok {S : Sto} (R : Rep K ca th H S) : ∀ (n : Nat) (ds : List D) (vs : List V) (ps : List PyData), RVs K ca th H ds vs → rdAll S n ds = some ps → DpAll K H vs ps
  | n, [], vs, ps, h, e => by
    cases h
    have e' : ps = [] := by cases n <;> (simp only [rdAll] at e; cases e; rfl)
    subst e'
    exact .nil
  | 0, d :: ds, vs, ps, h, e => by simp only [rdAll] at e; cases e
  | n + 1, d :: ds, vs, ps, h, e => by
    cases h with
    | cons h1 h2 =>
      simp only [rdAll] at e
      split at e
      · rename_i x xs e1 e2
        cases e
        exact .cons (rdD_ok R n d _ x h1 e1) (rdAll_ok R n ds _ xs h2 e2)
      · cases e
end
end
section
variable {X : Cx} {ca : Nat → Addr} {Wx : Value → Option Addr → Hp → Prop}
/-- an operation on two values, as the small language has it -/
def rD2 (K : PySem.W.Frag) (ca : Nat → Addr) (Wx : Value → Option Addr → Hp → Prop) (f : Sto → D → D → R D) : R2 := fun x y H Q =>
  ∃ th S a b, Rep K ca th H S ∧ RV K ca th H a x ∧ RV K ca th H b y ∧ Po K ca th H (RV K ca) Wx Q (f S a b)
def bopO : Bop → Operator
  | .add => .Add | .sub => .Sub | .mul => .Mult | .fdiv => .FloorDiv | .mod => .Mod | .pow => .Pow
def copO : Cop → CmpOp
  | .eq => .Eq | .ne => .NotEq | .lt => .Lt | .le => .LtE | .gt => .Gt | .ge => .GtE | .is => .Is | .isn => .IsNot | .inn => .In | .nin => .NotIn
theorem okDiv_1 {i j : Int} (h : okDiv i j = true) : j ≠ 0 := by
  unfold okDiv at h
  rw [Bool.and_eq_true] at h
  exact of_decide_eq_true h.1
theorem okDiv_2 {i j : Int} (h : okDiv i j = true) : Builtin.divisionGoesByPylong i j = false := by
  unfold okDiv at h
  rw [Bool.and_eq_true] at h
  simpa using h.2
theorem okMul_ok {i j : Int} (h : okMul i j = true) : IntMulOk i j := by
  have h3 : i.natAbs.log2 + j.natAbs.log2 < 1000000 := of_decide_eq_true h
  have b : ∀ x : Int, Builtin.Int.intBits x ≤ x.natAbs.log2 + 1 := fun x => by
    unfold Builtin.Int.intBits
    split <;> omega
  have h1 := b i
  have h2 := b j
  have e : bitsLine = 134217728 := by decide
  unfold IntMulOk
  intro z
  rw [Bool.and_eq_true] at z
  have z2 := z.2
  unfold Builtin.Int.intTooBig at z2
  have z3 := of_decide_eq_true z2
  rw [e] at z3
  omega
theorem szL_eq : szL = sizeLine := sizeLine_eq.symm
theorem op_repS {pins : List (Addr × Obj)} {s : Shared} {sg : L2.St} {H : Hp} {x : Str} {n : Int} {t u : Tok} {Q : V → Hp → Prop} (h1 : 1 ≤ n) (h2 : n < 2 ^ 31) (h3 : x.length * n.toNat ≤ sizeLine) (I : L2.Inv X pins sg H s) (q : Q (.str (repS x n)) H) :
    wpAny (model X.prog X.w) X.A (binaryOp Operator.Mult (.str x t) (.int n u)) (EP X pins sg Q) X.xe s := by
  have hs : sizeLine = 16777216 := sizeLine_eq
  refine PySem.P.mul_str ?_ ?_ ?_ ?_
  · simp; omega
  · intro _ _
    rw [hs] at h3
    have hx : (x.length : Int) * n ≤ 16777216 := by
      have : ((x.length * n.toNat : Nat) : Int) ≤ 16777216 := by omega
      rw [Int.natCast_mul, Int.toNat_of_nonneg (by omega)] at this
      exact this
    have : (x.length : Int) ≤ (2 ^ 63 - 1) / n := (Int.le_ediv_iff_mul_le (by omega)).2 (by omega)
    omega
  · intro _ _
    unfold Builtin.Str.tooLong
    simp only [decide_eq_false_iff_not]
    omega
  · rw [if_neg (by omega)]
    unfold repS at q
    split
    · rename_i e
      rw [if_pos e] at q
      exact ⟨.str _, H, I, ⟨t, rfl⟩, q⟩
    · rename_i e
      rw [if_neg e] at q
      refine ⟨?_, ⟨.str _, H, I.tok _, ⟨_, rfl⟩, q⟩⟩
      have key : ∀ (m : Nat) (acc : Array Nat), (List.foldl (fun x1 x2 => x1 ++ x2) acc (List.replicate m x.cps)).size = acc.size + m * x.cps.size := by
        intro m
        induction m with
        | zero => intro acc; simp
        | succ m ih =>
          intro acc
          rw [List.replicate_succ, List.foldl_cons, ih, Array.size_append, Nat.succ_mul]
          omega
      show (List.foldl (fun x1 x2 => x1 ++ x2) #[] (List.replicate n.toNat x.cps)).size ≤ sizeLine
      rw [key]
      have : x.length = x.cps.size := rfl
      rw [this, Nat.mul_comm] at h3
      simpa using h3
theorem op_binD (o : Bop) : OpR X (binaryOp (bopO o)) (rD2 X.K ca Wx fun S => binD S o) := by
  intro pins s sg H x y v u Q I rx ry h
  obtain ⟨th, S, a, b, R, ha, hb, h⟩ := h
  have hs : sizeLine = szL := sizeLine_eq
  change Po X.K ca th H (RV X.K ca) Wx Q (binD S o a b) at h
  unfold binD at h
  split at h
  · cases ha.int_inv; cases hb.int_inv
    exact op_add pins s sg H _ _ v u Q I rx ry ⟨_, _, rfl, rfl, h.ok R (.int _)⟩
  · cases ha.str_inv; cases hb.str_inv
    split at h
    · rename_i hl
      exact op_add_str pins s sg H _ _ v u Q I rx ry ⟨_, _, rfl, rfl, by rw [hs]; exact hl, h.ok R (.str _)⟩
    · exact h.elim
  · rename_i xs ys
    split at h
    · rename_i hl
      obtain ⟨a1, vs, rfl, h1, r1⟩ := ha.tup_inv
      obtain ⟨a2, ws, rfl, h2, r2⟩ := hb.tup_inv
      have l1 := r1.length
      have l2 := r2.length
      have hne : vs ≠ [] := fun z => by
        subst z
        exact hl.1 (List.length_eq_zero_iff.mp l1)
      refine op_catT pins s sg H _ _ v u Q I rx ry ⟨a1, a2, vs, ws, rfl, rfl, h1, h2, hne, by rw [hs]; omega, ?_⟩
      first
        | exact ⟨fun z => by
            subst z
            have e : ys = [] := List.length_eq_zero_iff.mp l2
            subst e
            exact h.ok R (by rw [List.append_nil]; exact ha), fun _ => h.tup R (r1.append r2)⟩
        | exact ⟨fun z => by
            have e : ys = [] := List.length_eq_zero_iff.mp (by rw [l2, z]; rfl)
            subst e
            exact h.ok R (by rw [List.append_nil]; exact ha), h.tup R (r1.append r2)⟩
    · exact h.elim
  · split at h
    · rename_i xs ys e1 e2
      split at h
      · rename_i hl
        obtain ⟨a1, vs, rfl, h0, h1, r1⟩ := ha.lst_inv R e1
        obtain ⟨a2, ws, rfl, h0', h2, r2⟩ := hb.lst_inv R e2
        have l1 := r1.length
        have l2 := r2.length
        exact op_cat pins s sg H _ _ v u Q I rx ry ⟨a1, a2, vs, ws, rfl, rfl, h1, h2, by rw [hs]; omega, h.newLst R (r1.append r2)⟩
      · exact h.elim
    · exact h.elim
  · cases ha.int_inv; cases hb.int_inv
    exact op_sub pins s sg H _ _ v u Q I rx ry ⟨_, _, rfl, rfl, h.ok R (.int _)⟩
  · cases ha.int_inv; cases hb.int_inv
    split at h
    · rename_i hl
      obtain ⟨t1, rfl⟩ := rx
      obtain ⟨t2, rfl⟩ := ry
      exact mul_int (show EP X pins sg Q (.int _ _) _ from ⟨.int _, H, I.tok _, ⟨_, rfl⟩, h.ok R (.int _)⟩) (okMul_ok hl)
    · exact h.elim
  · split at h
    · rename_i xs e1
      split at h
      · rename_i hl
        cases hb.int_inv
        obtain ⟨a1, vs, rfl, h0, h1, r1⟩ := ha.lst_inv R e1
        have l1 := r1.length
        refine op_rep pins s sg H _ _ v u Q I rx ry ⟨a1, _, vs, rfl, rfl, h1, hl.1, hl.2.1, by rw [hs, ← l1]; exact hl.2.2, ?_⟩
        refine h.newLst R ?_
        clear h
        have : ∀ k : Nat, RVs X.K ca th H (List.replicate k xs).flatten (List.replicate k vs).flatten := fun k => by
          induction k with
          | zero => exact .nil
          | succ k ih => rw [List.replicate_succ, List.replicate_succ, List.flatten_cons, List.flatten_cons]; exact r1.append ih
        exact this _
      · exact h.elim
    · exact h.elim
  · cases ha.str_inv; cases hb.int_inv
    split at h
    · rename_i hl
      obtain ⟨t1, rfl⟩ := rx
      obtain ⟨t2, rfl⟩ := ry
      exact op_repS hl.1 hl.2.1 (by rw [hs]; exact hl.2.2) I (h.ok R (.str _))
    · exact h.elim
  · cases ha.int_inv; cases hb.int_inv
    split at h
    · rename_i hl
      obtain ⟨t1, rfl⟩ := rx
      obtain ⟨t2, rfl⟩ := ry
      exact floordiv_int (okDiv_1 hl) (show EP X pins sg Q (.int _ _) _ from ⟨.int _, H, I.tok _, ⟨_, rfl⟩, h.ok R (.int _)⟩) (.inl (okDiv_2 hl))
    · exact h.elim
  · cases ha.int_inv; cases hb.int_inv
    split at h
    · rename_i hl
      exact op_modN pins s sg H _ _ v u Q I rx ry ⟨_, _, rfl, rfl, hl, h.ok R (.int _)⟩
    · exact h.elim
  · cases ha.int_inv; cases hb.int_inv
    split at h
    · rename_i hl
      unfold okPow at hl
      simp only [Bool.and_eq_true, decide_eq_true_eq] at hl
      exact op_pow pins s sg H _ _ v u Q I rx ry ⟨_, _, rfl, rfl, ⟨hl.1.1, hl.1.2, hl.2⟩, h.ok R (.int _)⟩
    · exact h.elim
  · exact h.elim
end
end HP
namespace HP
open PySem L2 PySem.Spec PyProof.Rows
section
variable {X : Cx} {ca : Nat → Addr} {Wx : Value → Option Addr → Hp → Prop}
theorem room_in65 {A : Around} {d : PyData} {ds : List PyData} (h : SeqAt.shaped d = true) (hu : A.units + 65 < cLine) : A.units + 1 + min (PyData.depthAll ds) d.depth < cLine := by
  have h1 := SeqAt.depth_of_shaped h
  have h2 : min (PyData.depthAll ds) d.depth ≤ d.depth := Nat.min_le_right _ _
  omega
theorem resB_ok {th : List Addr} {H : Hp} {S : Sto} {K : PySem.W.Frag} {Q : V → Hp → Prop} {o : Option Bool} (R : Rep K ca th H S) (h : Po K ca th H (RV K ca) Wx Q (resB S o)) : ∃ b, o = some b ∧ Q (.bl b) H := by
  cases o with
  | none => exact h.elim
  | some b => exact ⟨b, rfl, h.ok R (.bl b)⟩
theorem eqD_ok (hu : X.A.units + 65 < cLine) {th : List Addr} {H : Hp} {S : Sto} {a b : D} {x y : V} {k : Bool} (R : Rep X.K ca th H S) (ha : RV X.K ca th H a x) (hb : RV X.K ca th H b y) (e : eqD S a b = some k) :
    (scal x y = true ∧ k = decide (x = y)) ∨ ∃ d d', Dp X.K H x d ∧ Dp X.K H y d' ∧ SeqAt.shaped d = true ∧ SeqAt.shaped d' = true ∧ k = PyData.eqv d d' := by
  unfold eqD at e
  split at e
  all_goals first
    | (cases ha.int_inv; cases hb.int_inv; cases e; exact .inl ⟨rfl, by simp⟩)
    | (cases ha.bl_inv; cases hb.bl_inv; cases e; exact .inl ⟨rfl, by simp⟩)
    | (cases ha.str_inv; cases hb.str_inv; cases e; exact .inl ⟨rfl, by simp⟩)
    | (cases ha.int_inv; cases hb.str_inv; cases e; exact .inl ⟨rfl, by simp⟩)
    | (cases ha.str_inv; cases hb.int_inv; cases e; exact .inl ⟨rfl, by simp⟩)
    | (cases ha.non_inv; cases hb.non_inv; cases e; exact .inr ⟨.none, .none, .non, .non, by decide, by decide, by decide⟩)
    | (cases ha.int_inv; cases hb.non_inv; cases e; exact .inl ⟨rfl, by simp⟩)
    | (cases ha.str_inv; cases hb.non_inv; cases e; exact .inl ⟨rfl, by simp⟩)
    | (cases ha.bl_inv; cases hb.non_inv; cases e; exact .inl ⟨rfl, by simp⟩)
    | skip
  split at e
  · rename_i d d' e1 e2
    split at e
    · rename_i hs
      cases e
      exact .inr ⟨d, d', rdD_ok R _ _ _ _ ha e1, rdD_ok R _ _ _ _ hb e2, hs.1, hs.2, rfl⟩
    · cases e
  · cases e
theorem inD_ok {th : List Addr} {H : Hp} {S : Sto} {a b : D} {x y : V} {k : Bool} (R : Rep X.K ca th H S) (ha : RV X.K ca th H a x) (hb : RV X.K ca th H b y) (e : inD S a b = some k) :
    (∃ i j, x = .str i ∧ y = .str j ∧ k = !(Builtin.Str.occurrences j i 0 j.length 1).isEmpty) ∨ (∃ d ds, Dp X.K H x d ∧ (Dp X.K H y (.list ds) ∧ SeqAt.shaped (.list ds) = true ∨ Dp X.K H y (.tuple ds) ∧ SeqAt.shaped (.tuple ds) = true) ∧ SeqAt.shaped d = true ∧ k = ds.any fun z => PyData.eqv z d) := by
  unfold inD at e
  split at e
  · cases ha.str_inv; cases hb.str_inv; cases e; exact .inl ⟨_, _, rfl, rfl, rfl⟩
  · split at e
    · rename_i d ds e1 e2
      split at e
      · rename_i hs
        cases e
        exact .inr ⟨d, ds, rdD_ok R _ _ _ _ ha e1, .inl ⟨rdD_ok R _ _ _ _ hb e2, hs.2⟩, hs.1, rfl⟩
      · cases e
    · rename_i d ds e1 e2
      split at e
      · rename_i hs
        cases e
        exact .inr ⟨d, ds, rdD_ok R _ _ _ _ ha e1, .inr ⟨rdD_ok R _ _ _ _ hb e2, hs.2⟩, hs.1, rfl⟩
      · cases e
    · cases e
theorem isD_ok {th : List Addr} {H : Hp} {S : Sto} {a b : D} {x y : V} {k : Bool} (R : Rep X.K ca th H S) (ha : RV X.K ca th H a x) (hb : RV X.K ca th H b y) (e : isD S a b = some k) :
    (y = .non ∧ k = decide (x = .non)) ∨ (∃ i j, x = .bl i ∧ y = .bl j ∧ k = decide (i = j)) ∨ ∃ a b oa ob, x = .ref a ∧ y = .ref b ∧ H a = some oa ∧ isObj oa = true ∧ H b = some ob ∧ isObj ob = true ∧ k = decide (a = b) := by
  unfold isD at e
  split at e
  all_goals first
    | (cases ha.non_inv; cases hb.non_inv; cases e; exact .inl ⟨rfl, by simp⟩)
    | (cases ha.bl_inv; cases hb.bl_inv; cases e; exact .inr (.inl ⟨_, _, rfl, rfl, rfl⟩))
    | (cases ha.bl_inv; cases hb.non_inv; cases e; exact .inl ⟨rfl, by simp⟩)
    | (cases ha.int_inv; cases hb.non_inv; cases e; exact .inl ⟨rfl, by simp⟩)
    | (cases ha.str_inv; cases hb.non_inv; cases e; exact .inl ⟨rfl, by simp⟩)
    | (obtain ⟨_, _, rfl, _⟩ := ha.tup_inv; cases hb.non_inv; cases e; exact .inl ⟨rfl, by simp⟩)
    | (obtain ⟨_, _, rfl, _⟩ := ha.frl_inv; cases hb.non_inv; cases e; exact .inl ⟨rfl, by simp⟩)
    | (obtain ⟨_, rfl, _⟩ := ha.loc_inv; cases hb.non_inv; cases e; exact .inl ⟨rfl, by simp⟩)
    | (cases e; done)
    | skip
  rename_i l m
  split at e
  · rename_i hs
    obtain ⟨a, rfl, h1⟩ := ha.loc_inv
    obtain ⟨b, rfl, h2⟩ := hb.loc_inv
    simp only [Bool.and_eq_true] at hs
    have obj : ∀ {l : Nat} {a : Addr}, th[l]? = some a → isLI S l = true → ∃ oa, H a = some oa ∧ isObj oa = true := fun {l a} h hi => by
      unfold isLI at hi
      split at hi
      · rename_i ds e1
        obtain ⟨vs, h3, _⟩ := R.obj l a _ h e1
        exact ⟨_, h3, rfl⟩
      · rename_i c fs e1
        obtain ⟨dx, gs, h3, _⟩ := R.obj l a _ h e1
        exact ⟨_, h3, rfl⟩
      · cases hi
    obtain ⟨oa, q1, q2⟩ := obj h1 hs.1
    obtain ⟨ob, q3, q4⟩ := obj h2 hs.2
    cases e
    refine .inr (.inr ⟨a, b, oa, ob, rfl, rfl, q1, q2, q3, q4, ?_⟩)
    refine decide_eq_decide.mpr ⟨fun z => ?_, fun z => ?_⟩
    · subst z
      rw [h1] at h2
      exact Option.some.inj h2
    · subst z
      obtain ⟨k1, k2⟩ := List.getElem?_eq_some_iff.mp h1
      obtain ⟨l1, l2⟩ := List.getElem?_eq_some_iff.mp h2
      exact nodup_inj R.nd k1 l1 (by rw [k2, l2])
  · cases e
theorem op_cmpD (o : Cop) (hu : X.A.units + 65 < cLine) : OpR X (compareOp (copO o)) (rD2 X.K ca Wx fun S => cmpD S o) := by
  intro pins s sg H x y v u Q I rx ry h
  obtain ⟨th, S, a, b, R, ha, hb, h⟩ := h
  change Po X.K ca th H (RV X.K ca) Wx Q (cmpD S o a b) at h
  unfold cmpD at h
  split at h
  · obtain ⟨k, e, q⟩ := resB_ok R h
    rcases eqD_ok hu R ha hb e with ⟨h1, rfl⟩ | ⟨d, d', h1, h2, h3, h4, rfl⟩
    · exact op_eq pins s sg H x y v u Q I rx ry ⟨h1, q⟩
    · exact op_eqD (by omega) pins s sg H x y v u Q I rx ry ⟨d, d', h1, h2, h3, h4, q⟩
  · obtain ⟨k, e, q⟩ := resB_ok R h
    obtain ⟨k', e', rfl⟩ := map_some e
    rcases eqD_ok hu R ha hb e' with ⟨h1, rfl⟩ | ⟨d, d', h1, h2, h3, h4, rfl⟩
    · exact op_ne pins s sg H x y v u Q I rx ry ⟨h1, q⟩
    · exact op_neD (by omega) pins s sg H x y v u Q I rx ry ⟨d, d', h1, h2, h3, h4, q⟩
  · cases ha.int_inv; cases hb.int_inv
    exact op_lt pins s sg H _ _ v u Q I rx ry ⟨_, _, rfl, rfl, h.ok R (.bl _)⟩
  · cases ha.int_inv; cases hb.int_inv
    exact op_le pins s sg H _ _ v u Q I rx ry ⟨_, _, rfl, rfl, h.ok R (.bl _)⟩
  · cases ha.int_inv; cases hb.int_inv
    exact op_gt pins s sg H _ _ v u Q I rx ry ⟨_, _, rfl, rfl, h.ok R (.bl _)⟩
  · cases ha.int_inv; cases hb.int_inv
    exact op_ge pins s sg H _ _ v u Q I rx ry ⟨_, _, rfl, rfl, h.ok R (.bl _)⟩
  · obtain ⟨k, e, q⟩ := resB_ok R h
    rcases isD_ok R ha hb e with ⟨h1, rfl⟩ | ⟨i, j, rfl, rfl, rfl⟩ | ⟨a1, a2, oa, ob, rfl, rfl, h1, h2, h3, h4, rfl⟩
    · exact op_isN pins s sg H x y v u Q I rx ry ⟨h1, q⟩
    · exact op_isBl pins s sg H _ _ v u Q I rx ry ⟨i, j, rfl, rfl, q⟩
    · exact op_is_ref pins s sg H _ _ v u Q I rx ry ⟨a1, a2, oa, ob, rfl, rfl, h1, h2, h3, h4, q⟩
  · obtain ⟨k, e, q⟩ := resB_ok R h
    obtain ⟨k', e', rfl⟩ := map_some e
    rcases isD_ok R ha hb e' with ⟨h1, rfl⟩ | ⟨i, j, rfl, rfl, rfl⟩ | ⟨a1, a2, oa, ob, rfl, rfl, h1, h2, h3, h4, rfl⟩
    · exact op_notN pins s sg H x y v u Q I rx ry ⟨h1, q⟩
    · exact op_notBl pins s sg H _ _ v u Q I rx ry ⟨i, j, rfl, rfl, q⟩
    · exact op_isnot_ref pins s sg H _ _ v u Q I rx ry ⟨a1, a2, oa, ob, rfl, rfl, h1, h2, h3, h4, q⟩
  · obtain ⟨k, e, q⟩ := resB_ok R h
    rcases inD_ok R ha hb e with ⟨i, j, rfl, rfl, rfl⟩ | ⟨d, ds, h1, ⟨h2, h3⟩ | ⟨h2, h3⟩, h4, rfl⟩
    · exact op_in_str pins s sg H _ _ v u Q I rx ry ⟨i, j, rfl, rfl, q⟩
    · exact op_inD hu pins s sg H x y v u Q I rx ry ⟨d, ds, h1, h2, h4, h3, q⟩
    · obtain ⟨as, r1⟩ := Dp.reads I d x v h1 rx
      obtain ⟨bs, r2⟩ := Dp.reads I (.tuple ds) y u h2 ry
      exact SeqAt.in_tuple_reads r2 r1 (SeqAt.canLay_of_shaped h3) (SeqAt.canLay_of_shaped h4) (room_in65 h4 hu) ⟨.bl _, H, I, rfl, q⟩
  · obtain ⟨k, e, q⟩ := resB_ok R h
    obtain ⟨k', e', rfl⟩ := map_some e
    rcases inD_ok R ha hb e' with ⟨i, j, rfl, rfl, rfl⟩ | ⟨d, ds, h1, ⟨h2, h3⟩ | ⟨h2, h3⟩, h4, rfl⟩
    · exact op_notIn_str pins s sg H _ _ v u Q I rx ry ⟨i, j, rfl, rfl, q⟩
    · exact op_notInD hu pins s sg H x y v u Q I rx ry ⟨d, ds, h1, h2, h4, h3, q⟩
    · obtain ⟨as, r1⟩ := Dp.reads I d x v h1 rx
      obtain ⟨bs, r2⟩ := Dp.reads I (.tuple ds) y u h2 ry
      exact SeqAt.notIn_tuple_reads r2 r1 (SeqAt.canLay_of_shaped h3) (SeqAt.canLay_of_shaped h4) (room_in65 h4 hu) ⟨.bl _, H, I, rfl, q⟩
  · exact h.elim
end
end HP
namespace HP
open PySem L2 PySem.Spec PyProof.Rows
theorem seqOf_tup {S : Sto} {d : D} {es : List D} (h : seqOf S d = some es) : (∃ fs, d = .tup fs ∧ fs = es) ∨ lstOf S d = some es := by
  cases d with
  | tup fs => exact .inl ⟨fs, rfl, Option.some.inj h⟩
  | _ => exact .inr h
section
variable {X : Cx} {ca : Nat → Addr} {Wx : Value → Option Addr → Hp → Prop}
theorem isEmpty_map {A B : Type} (f : A → B) (l : List A) : (l.map f).isEmpty = l.isEmpty := by cases l <;> rfl
theorem kv_empty {kvs : List (Key × D)} {kus : List (Key × V)} (h : kvs.map (·.1) = kus.map (·.1)) : kvs.isEmpty = kus.isEmpty := by
  have := congrArg List.isEmpty h
  rwa [isEmpty_map, isEmpty_map] at this
theorem truD_ok {th : List Addr} {H : Hp} {S : Sto} {K : PySem.W.Frag} {a : D} {x : V} {k : Bool} (R : Rep K ca th H S) (ha : RV K ca th H a x) (e : truD S a = some k) : TruV K x H k := by
  have hs : sizeLine = szL := sizeLine_eq
  unfold truD at e
  split at e
  · cases ha.non_inv; cases e; rfl
  · cases ha.bl_inv; cases e; rfl
  · cases ha.int_inv; cases e; rfl
  · cases ha.str_inv
    split at e
    · rename_i hl; cases e; exact ⟨by rw [hs]; exact hl, rfl⟩
    · cases e
  · obtain ⟨a1, vs, rfl, h1, r1⟩ := ha.tup_inv
    cases e
    exact .inr (.inl ⟨vs, h1, by rw [r1.isEmpty]⟩)
  · obtain ⟨a1, vs, rfl, h1, r1⟩ := ha.frl_inv
    cases e
    exact .inl ⟨vs, h1.sq, by rw [r1.isEmpty]⟩
  · split at e
    · rename_i ds he
      obtain ⟨a1, vs, rfl, h0, h1, r1⟩ := ha.lst_inv R he
      cases e
      exact .inl ⟨vs, .inl (.inl h1), by rw [r1.isEmpty]⟩
    · rename_i kvs he
      obtain ⟨a1, rfl, h0⟩ := ha.loc_inv
      obtain ⟨kus, h1, h2, h3⟩ := R.obj _ _ _ h0 he
      cases e
      exact .inr (.inr ⟨kus, h1, by rw [kv_empty h2]⟩)
    · cases e
  · cases e
/-- calls on values -/
def rDs (K : PySem.W.Frag) (ca : Nat → Addr) (Wx : Value → Option Addr → Hp → Prop) (f : Sto → List D → R D) : List V → Hp → VK → Prop := fun vs H Q =>
  ∃ th S ds, Rep K ca th H S ∧ RVs K ca th H ds vs ∧ Po K ca th H (RV K ca) Wx Q (f S ds)
def bfS : Bf → Str
  | .len => "len" | .abs => "abs" | .min => "min" | .max => "max" | .int => "int" | .list => "list" | .tuple => "tuple" | .all => "all" | .any => "any" | .isin => "isinstance" | .sum => "sum"
def bfV : Bf → Value
  | .len => .builtin "len" | .abs => .builtin "abs" | .min => .builtin "min" | .max => .builtin "max" | .int => .type "int" | .list => .type "list" | .tuple => .type "tuple" | .all => .builtin "all" | .any => .builtin "any"
  | .isin => .builtin "isinstance" | .sum => .builtin "sum"
/-- those that want no exception to be handled -/
def bfCalm : Bf → Bool
  | .min => true | .max => true | .all => true | .any => true | .sum => true | .list => true | _ => false
theorem RVs.one_inv {K : PySem.W.Frag} {th : List Addr} {H : Hp} {d : D} {vs : List V} (h : RVs K ca th H [d] vs) : ∃ v, vs = [v] ∧ RV K ca th H d v := by
  cases h with
  | cons h r => cases r; exact ⟨_, rfl, h⟩
theorem RVs.two_inv {K : PySem.W.Frag} {th : List Addr} {H : Hp} {d e : D} {vs : List V} (h : RVs K ca th H [d, e] vs) : ∃ v w, vs = [v, w] ∧ RV K ca th H d v ∧ RV K ca th H e w := by
  cases h with
  | cons h r =>
    obtain ⟨w, rfl, h2⟩ := r.one_inv
    exact ⟨_, _, rfl, h, h2⟩
theorem RVs.nil_inv {K : PySem.W.Frag} {th : List Addr} {H : Hp} {vs : List V} (h : RVs K ca th H [] vs) : vs = [] := by cases h; rfl
theorem allOf_bl {K : PySem.W.Frag} {th : List Addr} {H : Hp} : ∀ {ds : List D} {vs : List V} {bs : List Bool}, RVs K ca th H ds vs → allOf blOf ds = some bs → vs = bs.map V.bl
  | [], _, bs, h, e => by cases h; cases e; rfl
  | d :: ds, _, bs, .cons h r, e => by
    unfold allOf at e
    split at e
    · rename_i x xs e1 e2
      cases e
      cases d with
      | bl b => cases e1; rw [h.bl_inv, allOf_bl r e2]; rfl
      | _ => cases e1
    · cases e
theorem allOf_int {K : PySem.W.Frag} {th : List Addr} {H : Hp} : ∀ {ds : List D} {vs : List V} {bs : List Int}, RVs K ca th H ds vs → allOf intOf ds = some bs → vs = bs.map V.int
  | [], _, bs, h, e => by cases h; cases e; rfl
  | d :: ds, _, bs, .cons h r, e => by
    unfold allOf at e
    split at e
    · rename_i x xs e1 e2
      cases e
      cases d with
      | int b => cases e1; rw [h.int_inv, allOf_int r e2]; rfl
      | _ => cases e1
    · cases e
theorem bind_some {A B : Type} {o : Option A} {f : A → Option B} {b : B} (h : o.bind f = some b) : ∃ a, o = some a ∧ f a = some b := by
  cases o with
  | none => cases h
  | some a => exact ⟨a, rfl, h⟩
theorem isTy_ok : ∀ a b : Bt, kitB a.name b.name = some (isTy a b) := by
  intro a b
  cases a <;> cases b <;> decide +kernel
theorem allOf_ty {K : PySem.W.Frag} {th : List Addr} {H : Hp} : ∀ {ds : List D} {vs : List V} {bs : List Bt}, RVs K ca th H ds vs → allOf tyOf ds = some bs → Paired ClsV vs (bs.map fun b => Value.type b.name)
  | [], _, bs, h, e => by cases h; cases e; exact .nil
  | d :: ds, _, bs, .cons h r, e => by
    unfold allOf at e
    split at e
    · rename_i x xs e1 e2
      cases e
      cases d with
      | ty b =>
        cases e1
        cases h
        exact .cons (.ty _) (allOf_ty r e2)
      | _ => cases e1
    · cases e
theorem any_ok {K : PySem.W.Frag} {a : Bt} : ∀ bs : List Bt, PySem.W.kitAny K (.type a.name) (bs.map fun b => Value.type b.name) = some (bs.any (isTy a))
  | [] => kitAny_nil
  | b :: bs => by
    refine kitAny_cons (kit_ty (isTy_ok a b)) ?_ ?_
    · intro e
      rw [any_ok bs, List.any_cons, e]
      rfl
    · intro e
      rw [List.any_cons, e]
      rfl
/-- a tuple, however it stands, in the heap -/
theorem sqT_look {X : Cx} {pins : List (Addr × Obj)} {s : Shared} {sg : L2.St} {H : Hp} {tp : Addr} {cs : List V} (I : Inv X pins sg H s) (h : SqT X.K H tp cs) :
    ∃ (dd : Option Addr) (its : List Value) (n : Nat) (sl : Array (Option Value)), s.heap.get? tp = some ⟨.type "tuple", dd, .seq its.toArray n, sl⟩ ∧ Vals cs its := by
  rcases h with (h | ⟨ob, h⟩) | ⟨o, its, n, h1, h2, h3, _, h4⟩
  · obtain ⟨_, its, rv, o, h1, h2, n, h3⟩ := (show ObjOk X.prog X.w H s.heap tp (.tup cs) from I.hok tp _ h)
    obtain ⟨oc, od, dt, sl⟩ := o
    simp only at h2 h3
    subst h2 h3
    exact ⟨_, _, _, _, h1, rv⟩
  · obtain ⟨_, _, its, rv, o, h1, h2, n, h3⟩ := (show ObjOk X.prog X.w H s.heap tp (.frz ob (.tup cs)) from I.hok tp _ h)
    obtain ⟨oc, od, dt, sl⟩ := o
    simp only at h2 h3
    subst h2 h3
    exact ⟨_, _, _, _, h1, rv⟩
  · obtain ⟨oc, od, dt, sl⟩ := o
    simp only at h2 h3
    subst h2 h3
    exact ⟨od, its.toList, n, sl, I.kIn _ _ h1, h4⟩
theorem tyD_ok {th : List Addr} {H : Hp} {S : Sto} {K : PySem.W.Frag} {d : D} {x : V} {t : Bt} (R : Rep K ca th H S) (h : RV K ca th H d x) (e : tyD S d = some t) : TyX K H x (.type t.name) := by
  unfold tyD at e
  split at e
  · cases h.non_inv; cases e; exact .base .non
  · cases h.bl_inv; cases e; exact .base (.bl _)
  · cases h.int_inv; cases e; exact .base (.int _)
  · cases h.str_inv; cases e; exact .base (.str _)
  · cases e
    obtain ⟨a, vs, rfl, h1, _⟩ := h.tup_inv
    rcases h1 with (h1 | ⟨o, h1⟩) | ⟨o, its, n, h1, h2, _⟩
    · exact .base (.tup h1)
    · exact .fTuple h1
    · exact .kTuple h1 h2
  · cases e
    obtain ⟨a, vs, rfl, h1, _⟩ := h.frl_inv
    rcases h1 with ⟨o, h1⟩ | ⟨o, its, n, h1, h2, _⟩
    · exact .base (.frz h1)
    · exact .kList h1 h2
  · split at e
    · rename_i ds he
      cases e
      obtain ⟨a1, vs, rfl, h0, h1, r1⟩ := h.lst_inv R he
      exact .base (.lst h1)
    · rename_i kvs he
      cases e
      obtain ⟨a1, rfl, h0⟩ := h.loc_inv
      obtain ⟨kus, h1, h2, h3⟩ := R.obj _ _ _ h0 he
      exact .base (.dK h1)
    · cases e
  · cases e
theorem signs_vals {x : Str} {acc : Array Value} (h : ItemsOf (SignAt x) acc x.cps.size) : Vals (x.cps.toList.map fun c => V.str ⟨#[c]⟩) acc.toList := by
  refine vals_of_at (by rw [List.length_map, Array.length_toList, Array.length_toList]; exact h.1.symm) fun j y u h1 h2 => ?_
  rw [List.getElem?_map, Option.map_eq_some_iff] at h1
  obtain ⟨c, gc, rfl⟩ := h1
  obtain ⟨c', t, gc', rfl⟩ := h.2 j u (by rw [← Array.getElem?_toList]; exact h2)
  rw [← Array.getElem?_toList, gc] at gc'
  cases gc'
  exact ⟨t, rfl⟩
theorem rvs_signs {K : PySem.W.Frag} {th : List Addr} {H : Hp} : (cs : List Nat) → RVs K ca th H (cs.map fun c => D.str ⟨#[c]⟩) (cs.map fun c => V.str ⟨#[c]⟩)
  | [] => .nil
  | c :: cs => .cons (.str _) (rvs_signs cs)
theorem call_list_strH {X : Cx} (hc : X.calm = true) : CallR X (.type "list") (fun xs H Q => ∃ x, xs = [.str x] ∧ x.length ≤ sizeLine ∧ ∀ l, H l = none → Q (.ref l) (upd H l (.lst (x.cps.toList.map fun c => V.str ⟨#[c]⟩)))) := by
  intro pins s σ H xs us Q I r h
  obtain ⟨x, rfl, hz, q⟩ := h
  obtain ⟨u, rfl, t, rfl⟩ := vals1 r
  refine call_list_str (I.ok.hd hc) x t (fun h' tk acc' c' hk hS' hacc => ?_) (hn := hz)
  refine ⟨.ref s.heap.objs.size, upd H s.heap.objs.size (.lst (x.cps.toList.map fun c => V.str ⟨#[c]⟩)), I.laid (t' := tk) hk (Nat.le_refl _) (show ObjOk X.prog X.w _ _ _ (.lst _) from ⟨?_, acc'.toList, c', signs_vals hacc, ?_⟩), rfl, q _ (I.hok.fresh (Nat.le_refl _))⟩
  · rw [List.length_map]; exact hz
  · rw [Array.toArray_toList]; exact hS'
theorem call_bfD (f : Bf) (hc : bfCalm f = true → X.calm = true) : CallR X (bfV f) (rDs X.K ca Wx fun S => bfD S f) := by
  intro pins s sg H vs us Q I r h
  obtain ⟨th, S, ds, R, hd, h⟩ := h
  have hs : sizeLine = szL := sizeLine_eq
  change Po X.K ca th H (RV X.K ca) Wx Q (bfD S f ds) at h
  unfold bfD at h
  split at h
  · obtain ⟨v, rfl, h1⟩ := hd.one_inv
    cases h1.str_inv
    split at h
    · rename_i hl
      exact call_len_str pins s sg H _ us Q I r ⟨_, rfl, by rw [hs]; exact hl, h.ok R (.int _)⟩
    · exact h.elim
  · obtain ⟨v, rfl, h1⟩ := hd.one_inv
    split at h
    · rename_i es he
      obtain ⟨a, ws, rfl, h2, h3⟩ := seqOf_ok R h1 he
      exact call_len_seq pins s sg H _ us Q I r ⟨a, ws, rfl, h2, by have q := h.ok R (.int _); rw [h3.length] at q; exact q⟩
    · exact h.elim
  · obtain ⟨v, rfl, h1⟩ := hd.one_inv
    cases h1.int_inv
    exact call_abs pins s sg H _ us Q I r ⟨_, rfl, h.ok R (.int _)⟩
  · obtain ⟨v, w, rfl, h1, h2⟩ := hd.two_inv
    cases h1.int_inv; cases h2.int_inv
    exact call_min2 (hc rfl) pins s sg H _ us Q I r ⟨_, _, rfl, h.ok R (.int _)⟩
  · obtain ⟨v, w, rfl, h1, h2⟩ := hd.two_inv
    cases h1.int_inv; cases h2.int_inv
    exact call_max2 (hc rfl) pins s sg H _ us Q I r ⟨_, _, rfl, h.ok R (.int _)⟩
  · obtain ⟨v, rfl, h1⟩ := hd.one_inv
    cases h1.int_inv
    exact call_int1 pins s sg H _ us Q I r (.inl ⟨_, rfl, h.ok R (.int _)⟩)
  · obtain ⟨v, rfl, h1⟩ := hd.one_inv
    cases h1.bl_inv
    exact call_int1 pins s sg H _ us Q I r (.inr ⟨_, rfl, h.ok R (.int _)⟩)
  · obtain ⟨v, rfl, h1⟩ := hd.one_inv
    cases h1.str_inv
    split at h
    · rename_i hl
      exact call_list_strH (hc rfl) pins s sg H _ us Q I r ⟨_, rfl, by rw [hs]; exact hl, h.newLst R (rvs_signs _)⟩
    · exact h.elim
  · obtain ⟨v, rfl, h1⟩ := hd.one_inv
    split at h
    · rename_i es he
      obtain ⟨a, ws, rfl, h2, h3⟩ := seqOf_ok R h1 he
      exact call_list_of pins s sg H _ us Q I r ⟨a, ws, rfl, h2, h.newLst R h3⟩
    · exact h.elim
  · obtain ⟨v, rfl, h1⟩ := hd.one_inv
    split at h
    · rename_i es he
      rcases seqOf_tup he with ⟨fs, rfl, rfl⟩ | he
      · obtain ⟨a, ws, rfl, h2, t, h3⟩ := h1.tup_inv3
        exact call_tuple_of pins s sg H _ us Q I r ⟨a, ws, rfl, .inr ⟨h2, h.ok R (.tup h2 t h3)⟩⟩
      · obtain ⟨a, ws, rfl, h2, h3⟩ := lstOf_ok R h1 he
        exact call_tuple_of pins s sg H _ us Q I r ⟨a, ws, rfl, .inl ⟨h2, h.tup R h3⟩⟩
    · exact h.elim
  · obtain ⟨v, rfl, h1⟩ := hd.one_inv
    split at h
    · rename_i bs he
      obtain ⟨es, e1, e2⟩ := bind_some he
      obtain ⟨a, ws, rfl, h2, h3⟩ := lstOf_ok R h1 e1
      have e3 := allOf_bl h3 e2
      subst e3
      exact cr_all (hc rfl) pins s sg H _ us Q I r ⟨a, bs, rfl, h2, h.ok R (.bl _)⟩
    · exact h.elim
  · obtain ⟨v, rfl, h1⟩ := hd.one_inv
    split at h
    · rename_i bs he
      obtain ⟨es, e1, e2⟩ := bind_some he
      obtain ⟨a, ws, rfl, h2, h3⟩ := lstOf_ok R h1 e1
      have e3 := allOf_bl h3 e2
      subst e3
      exact cr_any (hc rfl) pins s sg H _ us Q I r ⟨a, bs, rfl, h2, h.ok R (.bl _)⟩
    · exact h.elim
  · obtain ⟨v, rfl, h1⟩ := hd.one_inv
    split at h
    · rename_i bs he
      obtain ⟨es, e1, e2⟩ := bind_some he
      obtain ⟨a, ws, rfl, h2, h3⟩ := lstOf_ok R h1 e1
      have e3 := allOf_int h3 e2
      subst e3
      exact cr_sum (hc rfl) pins s sg H _ us Q I r ⟨a, bs, rfl, h2, h.ok R (.int _)⟩
    · exact h.elim
  · obtain ⟨v, w, rfl, h1, h2⟩ := hd.two_inv
    split at h
    · rename_i a he
      cases h2
      exact call_isi pins s sg H _ us Q I r ⟨v, _, _, _, _, rfl, .ty _, tyD_ok R h1 he, kit_ty (isTy_ok _ _), h.ok R (.bl _)⟩
    · exact h.elim
  · obtain ⟨v, w, rfl, h1, h2⟩ := hd.two_inv
    split at h
    · rename_i a bs he he2
      obtain ⟨tp, vs, rfl, h3, h4⟩ := h2.tup_inv
      have k := allOf_ty h4 he2
      obtain ⟨u1, u2, rfl, r1, r2⟩ := vals2 r
      cases (show u2 = Value.ref tp from r2)
      obtain ⟨P, Z, p, hx⟩ := kit_of I r1 (tyD_ok R h1 he)
      obtain ⟨dd, its, n, sl, h5, h6⟩ := sqT_look I h3
      have e3 := ClsV.all k h6
      subst e3
      exact PySem.W.kia_tup Z I.kIn p h5 (any_ok bs) hx fun tk => ⟨.bl _, H, I.tok tk, rfl, h.ok R (.bl _)⟩
    · exact h.elim
  · exact h.elim
def rMt (K : PySem.W.Frag) (ca : Nat → Addr) (Wx : Value → Option Addr → Hp → Prop) (m : Mt) : V → List V → Hp → VK → Prop := fun x vs H Q =>
  ∃ th S a ds, Rep K ca th H S ∧ RV K ca th H a x ∧ RVs K ca th H ds vs ∧ Po K ca th H (RV K ca) Wx Q (mtD S m a ds)
def mtS : Mt → Str
  | .append => "append" | .pop => "pop" | .clear => "clear" | .extend => "extend" | .index => "index"
def mtI : Mt → String
  | .append => "list.append" | .pop => "list.pop" | .clear => "list.clear" | .extend => "list.extend" | .index => "list.index"
theorem firstEq_ok {d : PyData} : ∀ {xs : List PyData} {j : Nat}, firstEq d xs = some j → ∃ z, xs[j]? = some z ∧ PyData.eqv z d = true ∧ ∀ (m : Nat) (z' : PyData), m < j → xs[m]? = some z' → PyData.eqv z' d = false
  | [], _, e => by cases e
  | x :: xs, j, e => by
    unfold firstEq at e
    split at e
    · rename_i hx
      cases e
      exact ⟨x, rfl, hx, fun m z' hm _ => absurd hm (Nat.not_lt_zero _)⟩
    · rename_i hx
      obtain ⟨k, e1, e2⟩ := map_some e
      subst e2
      obtain ⟨z, h1, h2, h3⟩ := firstEq_ok e1
      refine ⟨z, by simpa using h1, h2, fun m z' hm hz => ?_⟩
      cases m with
      | zero =>
        have : x = z' := by simpa using hz
        subst this
        simpa using hx
      | succ m => exact h3 m z' (by omega) (by simpa using hz)
theorem putL' {th : List Addr} {H : Hp} {S : Sto} {K : PySem.W.Frag} {Q : V → Hp → Prop} {l : Nat} {a : Addr} {v : V} {d : D} {es : List D} {ws : List V} (R : Rep K ca th H S) (h0 : th[l]? = some a) (r : RVs K ca th H es ws) (hv : RV K ca th H d v)
    (h : Po K ca th H (RV K ca) Wx Q (.ok d (S.set l (.lst es)))) : Q v (upd H a (.lst ws)) := by
  have g : Go th H th (upd H a (.lst ws)) := R.goPut h0
  exact h th _ _ g (R.put h0 ⟨ws, upd_same, r.go g⟩) (hv.go g)
theorem seqIndex_nn {i : Int} {n : Nat} (h0 : 0 ≤ i) (h : i.toNat < n) : seqIndex? i n = some i.toNat := by
  unfold seqIndex?
  have e : (if i < 0 then i + (n : Int) else i) = i := if_neg (by omega)
  simp only [e]
  rw [if_pos (by simp; omega)]
theorem mt_mtD (m : Mt) (hu : X.A.units + 65 < cLine) : MtR X (mtI m) (rMt X.K ca Wx m) := by
  intro pins s sg H x vs v us Q I rx r h
  obtain ⟨th, S, a, ds, R, ha, hd, h⟩ := h
  have hs : sizeLine = szL := sizeLine_eq
  unfold mtD at h
  split at h
  · split at h
    · rename_i es he
      split at h
      · rename_i hl
        obtain ⟨a1, ws, rfl, h0, h1, r1⟩ := ha.lst_inv R he
        obtain ⟨y, rfl, h2⟩ := hd.one_inv
        exact mt_append pins s sg H _ _ v us Q I rx r ⟨a1, ws, y, rfl, rfl, h1, by rw [hs, ← r1.length]; exact hl, putL' R h0 (r1.append (.one h2)) .non h⟩
      · exact h.elim
    · exact h.elim
  · split at h
    · rename_i es he
      split at h
      · rename_i y hy
        obtain ⟨a1, ws, rfl, h0, h1, r1⟩ := ha.lst_inv R he
        have e1 := hd.nil_inv
        obtain ⟨w, hw, hyw⟩ := r1.get hy
        exact mt_pop pins s sg H _ _ v us Q I rx r ⟨a1, ws, w, rfl, e1, h1, by rw [← r1.length]; exact hw, putL' R h0 r1.dropLast hyw h⟩
      · exact h.elim
    · exact h.elim
  · split at h
    · rename_i es he
      split at h
      · rename_i y hy
        split at h
        · rename_i hb
          obtain ⟨a1, ws, rfl, h0, h1, r1⟩ := ha.lst_inv R he
          obtain ⟨z, rfl, hz⟩ := hd.one_inv
          cases hz.int_inv
          obtain ⟨w, hw, hyw⟩ := r1.get hy
          have hl := (List.getElem?_eq_some_iff.mp hw).1
          refine mt_popAt pins s sg H _ _ v us Q I rx r ⟨a1, ws, _, _, w, rfl, rfl, h1, by omega, by omega, ?_, hw, putL' R h0 (r1.eraseIdx _) hyw h⟩
          exact seqIndex_nn hb.1 hl
        · exact h.elim
      · exact h.elim
    · exact h.elim
  · split at h
    · rename_i es he
      obtain ⟨a1, ws, rfl, h0, h1, r1⟩ := ha.lst_inv R he
      have e1 := hd.nil_inv
      exact mt_clear pins s sg H _ _ v us Q I rx r ⟨a1, ws, rfl, e1, h1, putL' R h0 .nil .non h⟩
    · exact h.elim
  · split at h
    · rename_i es es2 he he2
      split at h
      · rename_i hl
        obtain ⟨a1, ws, rfl, h0, h1, r1⟩ := ha.lst_inv R he
        obtain ⟨y, rfl, h2⟩ := hd.one_inv
        obtain ⟨a2, ws2, rfl, h0', h1', r1'⟩ := h2.lst_inv R he2
        exact mt_extend pins s sg H _ _ v us Q I rx r ⟨a1, a2, ws, ws2, rfl, rfl, h1, h1', by rw [hs, ← r1.length, ← r1'.length]; exact hl, putL' R h0 (r1.append r1') .non h⟩
      · exact h.elim
    · exact h.elim
  · split at h
    · rename_i xs d he he2
      split at h
      · rename_i hl
        split at h
        · rename_i j hj
          obtain ⟨y, rfl, h2⟩ := hd.one_inv
          obtain ⟨a1, rfl, h0⟩ := ha.loc_inv
          obtain ⟨z, z1, z2, z3⟩ := firstEq_ok hj
          exact mt_indexD hu pins s sg H _ _ v us Q I rx r ⟨a1, y, d, xs, j, z, rfl, rfl, rdD_ok R _ _ _ _ ha he, rdD_ok R _ _ _ _ h2 he2, hl.1, hl.2, z1, z2, z3, h.ok R (.int _)⟩
        · exact h.elim
      · exact h.elim
    · exact h.elim
  · exact h.elim
theorem atI_map {th : List Addr} {H : Hp} {K : PySem.W.Frag} {ds : List D} {vs : List V} {i : Int} {d : D} (r : RVs K ca th H ds vs) (h : atI ds i = some d) : ∃ v, atI vs i = some v ∧ RV K ca th H d v := by
  unfold atI at h ⊢
  rw [r.length] at h
  obtain ⟨j, h1, h2⟩ := bind_some h
  rw [h1]
  exact r.get h2
theorem ix_ixD : IxR X (rD2 X.K ca Wx ixD) := by
  intro value slice pins s sg H x y v u Q I rx ry h hsub
  obtain ⟨th, S, a, b, R, ha, hb, h⟩ := h
  have hs : sizeLine = szL := sizeLine_eq
  unfold ixD at h
  split at h
  · cases ha.str_inv; cases hb.int_inv
    split at h
    · rename_i hl
      split at h
      · rename_i c hc
        exact ix_str value slice pins s sg H _ _ v u Q I rx ry ⟨_, _, c, rfl, rfl, by rw [hs]; exact hl, hc, h.ok R (.str _)⟩ hsub
      · exact h.elim
    · exact h.elim
  · cases hb.int_inv
    split at h
    · rename_i ds he
      split at h
      · rename_i d hd
        obtain ⟨p, ws, rfl, h2, h3⟩ := seqOf_ok R ha he
        obtain ⟨w, hw, hwr⟩ := atI_map h3 hd
        rcases h2 with h2 | h2
        · exact ix_list value slice pins s sg H _ _ v u Q I rx ry ⟨p, ws, _, w, rfl, rfl, h2, hw, h.ok R hwr⟩ hsub
        · exact ix_tup value slice pins s sg H _ _ v u Q I rx ry ⟨p, ws, _, w, rfl, rfl, h2, hw, h.ok R hwr⟩ hsub
      · exact h.elim
    · exact h.elim
  · exact h.elim
theorem RVs.cut {th : List Addr} {H : Hp} {K : PySem.W.Frag} {ds : List D} {vs : List V} (r : RVs K ca th H ds vs) (lo hi : Option Int) : RVs K ca th H (cutL ds lo hi) (cutV vs lo hi) := by
  unfold cutL cutV
  rw [r.length]
  exact (r.drop _).take _
def rSl (K : PySem.W.Frag) (ca : Nat → Addr) (Wx : Value → Option Addr → Hp → Prop) : V → Option Int → Option Int → Hp → VK → Prop := fun x lo hi H Q =>
  ∃ th S a, Rep K ca th H S ∧ RV K ca th H a x ∧ Po K ca th H (RV K ca) Wx Q (slD S a lo hi)
theorem sl_slD : SlR X (rSl X.K ca Wx) := by
  intro pins s sg H x v vl vu lo hi sl Q I rx hs pl pu h
  obtain ⟨th, S, a, R, ha, h⟩ := h
  unfold slD at h
  split at h
  · rename_i ds
    obtain ⟨a1, ws, rfl, h1, t1, r1⟩ := ha.tup_inv3
    refine sl_tupA pins s sg H _ v vl vu lo hi sl Q I rx hs pl pu ⟨a1, ws, rfl, h1, fun hw => ?_, fun hw => ?_⟩
    · rw [← r1.length] at hw
      rw [if_pos hw] at h
      exact h.ok R (.tup h1 t1 r1)
    · rw [← r1.length] at hw
      rw [if_neg hw] at h
      exact h.tup R (r1.cut lo hi)
  · split at h
    · rename_i ds he
      obtain ⟨a1, ws, rfl, h1, r1⟩ := lstOf_ok R ha he
      exact sl_list pins s sg H _ v vl vu lo hi sl Q I rx hs pl pu ⟨a1, ws, rfl, h1, h.newLst R (r1.cut lo hi)⟩
    · exact h.elim
/-- a dict's keys -/
theorem keyD_ok {K : PySem.W.Frag} {ca : Nat → Addr} {th : List Addr} {H : Hp} {d : D} {k : List Key} {v : V} (h : RV K ca th H d v) (e : keyD d = some k) : ∃ b, v = .ref b ∧ H b = some (.tup (k.map kV)) := by
  unfold keyD at e
  split at e
  · rename_i x i
    cases e
    obtain ⟨b, vs, rfl, _, t, r⟩ := h.tup_inv3
    rcases t with t | t
    · cases t
    · refine ⟨b, rfl, ?_⟩
      cases r with
      | cons h1 r =>
        cases r with
        | cons h2 r =>
          cases r with
          | nil =>
            cases h1.str_inv
            cases h2.int_inv
            exact t
  · cases e
theorem keys_any {kvs : List (List Key × D)} {kus : List (List Key × V)} (h : kvs.map (·.1) = kus.map (·.1)) (k : List Key) : ((kvs.map (·.1)).any fun j => decide (j = k)) = (valV kus k).isSome := by
  rw [h, List.any_map, ← valV_any]
  rfl
theorem op_dinD (neg : Bool) (hu : X.A.units + 65 < cLine) : OpR X (compareOp (if neg = true then .NotIn else .In)) (rD2 X.K ca Wx fun S => fun x y => dinD S neg x y) := by
  intro pins s sg H x y v u Q I rx ry h
  obtain ⟨th, S, a, b, R, ha, hb, h⟩ := h
  change Po X.K ca th H (RV X.K ca) Wx Q (dinD S neg a b) at h
  unfold dinD at h
  split at h
  · rename_i l
    split at h
    · rename_i kvs k he hk
      obtain ⟨a1, rfl, h1⟩ := hb.loc_inv
      obtain ⟨kus, h2, h3, h4⟩ := R.obj l a1 _ h1 he
      obtain ⟨b1, rfl, h5⟩ := keyD_ok ha hk
      cases (show u = Value.ref a1 from ry)
      rw [keys_any h3] at h
      cases neg with
      | true => exact d_notIn (by omega) I (DGet.t h2 h5) rx fun s' I' => ⟨.bl _, H, I', rfl, h.ok R (.bl _)⟩
      | false => exact d_in (by omega) I (DGet.t h2 h5) rx fun s' I' => ⟨.bl _, H, I', rfl, h.ok R (.bl _)⟩
    · exact h.elim
  · exact h.elim
/-- o[i] = v -/
def rSetI (K : PySem.W.Frag) (ca : Nat → Addr) : V → V → V → Hp → (Hp → Prop) → Prop := fun o i v H Q =>
  ∃ th S a b d S', Rep K ca th H S ∧ RV K ca th H a o ∧ RV K ca th H b i ∧ RV K ca th H d v ∧ setIxD S a b d = some S' ∧ ∀ H', Go th H th H' → Rep K ca th H' S' → Q H'
theorem set_setD : PSet X (rSetI X.K ca) := by
  intro pins s sg H o i v ov iv u Q I ro ri rv h
  obtain ⟨th, S, a, b, d, S', R, ha, hb, hd, e, h⟩ := h
  unfold setIxD at e
  split at e
  · split at e
    · rename_i ds he
      split at e
      · rename_i j hj
        cases e
        obtain ⟨a1, ws, rfl, h0, h1, r1⟩ := ha.lst_inv R he
        cases hb.int_inv
        have g : Go th H th (upd H a1 (.lst (ws.set j v))) := R.goPut h0
        refine set_list pins s sg H _ _ v ov iv u Q I ro ri rv ⟨a1, ws, _, j, rfl, rfl, h1, by rw [← r1.length]; exact hj, h _ g (R.put h0 ⟨_, upd_same, (RVs.set hd j r1).go g⟩)⟩
      · cases e
    · cases e
  · cases e
/-- d[k] = v -/
def rSetK (K : PySem.W.Frag) (ca : Nat → Addr) : V → V → V → Hp → (Hp → Prop) → Prop := fun o i v H Q =>
  ∃ th S a b d S', Rep K ca th H S ∧ RV K ca th H a o ∧ RV K ca th H b i ∧ RV K ca th H d v ∧ setDD S a b d = some S' ∧ ∀ H', Go th H th H' → Rep K ca th H' S' → Q H'
theorem set_setK (hu : X.A.units + 65 < cLine) : PSet X (rSetK X.K ca) := by
  intro pins s sg H o i v ov iv u Q I ro ri rv h
  obtain ⟨th, S, a, b, d, S', R, ha, hb, hd, e, h⟩ := h
  unfold setDD at e
  split at e
  · split at e
    · rename_i kvs k he hk
      split at e
      · cases e
      · rename_i hn
        cases e
        obtain ⟨a1, rfl, h1⟩ := ha.loc_inv
        obtain ⟨kus, h2, h3, h4⟩ := R.obj _ a1 _ h1 he
        obtain ⟨b1, rfl, h5⟩ := keyD_ok hb hk
        have hl : kus.length = kvs.length := by have := congrArg List.length h3; rw [List.length_map, List.length_map] at this; exact this.symm
        have hn1 : valV kus k = none := by
          cases e : valV kus k with
          | none => rfl
          | some w => exact absurd (Or.inl (by rw [keys_any h3, e]; rfl)) hn
        have hn2 : kvs.length < szL := Classical.byContradiction fun c => hn (.inr c)
        have g : Go th H th (upd H a1 (.dT (kus ++ [(k, v)]))) := R.goPut h1
        have P := DPut.t (v := v) h2 h5 (by rw [hl]; exact hn2)
        rw [putK_new v hn1] at P
        cases (show ov = Value.ref a1 from ro)
        refine d_setItem (by omega) I P ri rv fun s' I' => ⟨_, I', h _ g (R.put h1 ⟨_, upd_same, ?_, ?_⟩)⟩
        · rw [List.map_append, List.map_append, h3]; rfl
        · rw [List.map_append, List.map_append]; exact (h4.go g).append (.one (hd.go g))
    · cases e
  · cases e
end
end HP
namespace HP.LZ
open PySem PySem.W PySem.Calls PyProof.Rows PyProof.V PySem.Spec
theorem zip_no_len : typeLookup (.type "zip") "__len__" = pure none := by rw [typeLookup_type, builtinLookup_eq_fast]; kernel_rfl
theorem zip_no_hint : typeLookup (.type "zip") "__length_hint__" = pure none := by rw [typeLookup_type, builtinLookup_eq_fast]; kernel_rfl
/-- the zip at turn i, its last tuple held by the list at S -/
def ZSt (h : Heap) (z TI TO i1 i2 l1 l2 S : Addr) (i : Nat) : Prop := IsPair h TI (.ref i1) (.ref i2) ∧ h.IsListIter i1 l1 i ∧ h.IsListIter i2 l2 i ∧
  ((IsZip h z TI TO .none ∧ ∃ a b, IsPair h TO a b) ∨ ∃ T f oT, IsZipHeld h z TI TO T f ∧ h.get? T = some oT ∧ T ≠ z ∧ T ≠ i1 ∧ T ≠ i2 ∧ T ≠ S)
structure LzG (xs ys : Array Value) (lo : Addr) (h : Heap) (as : List Addr) : Prop where
  rise : as.Pairwise (· < ·)
  above : ∀ a ∈ as, lo ≤ a
  pairs : ∀ (j : Nat) (a : Addr), as[j]? = some a → ∃ x y, xs[j]? = some x ∧ ys[j]? = some y ∧ h.get? a = some { cls := .type "tuple", data := .seq #[x, y] }
theorem LzG.there {xs ys : Array Value} {lo : Addr} {h : Heap} {as : List Addr} (g : LzG xs ys lo h as) {a : Addr} (ha : a ∈ as) : a < h.objs.size := by
  obtain ⟨j, hj⟩ := List.mem_iff_getElem?.mp ha
  obtain ⟨_, _, _, _, e⟩ := g.pairs j a hj
  exact Heap.lt_size e
section
variable {prog : Program} {w : World} {A : Around} {E : Value → Shared → Prop} {s : Shared} {z TI TO i1 i2 l1 l2 S : Addr} {xs ys : Array Value}
theorem ZSt.keep {h h' : Heap} {i : Nat} (st : ZSt h z TI TO i1 i2 l1 l2 S i) (hS : S ≠ z ∧ S ≠ TI ∧ S ≠ TO ∧ S ≠ i1 ∧ S ≠ i2) (k : ∀ b o, b ≠ S → h.get? b = some o → h'.get? b = some o) : ZSt h' z TI TO i1 i2 l1 l2 S i := by
  obtain ⟨hTI, h1, h2, hz⟩ := st
  refine ⟨k _ _ hS.2.1.symm hTI, h1.at fun o e => k _ o hS.2.2.2.1.symm e, h2.at fun o e => k _ o hS.2.2.2.2.symm e, ?_⟩
  rcases hz with ⟨hz, a, b, hTO⟩ | ⟨T, f, oT, hz, hT, r1, r2, r3, r4⟩
  · exact .inl ⟨k _ _ hS.1.symm hz, a, b, k _ _ hS.2.2.1.symm hTO⟩
  · exact .inr ⟨T, f, oT, k _ _ hS.1.symm hz, k _ _ r4 hT, r1, r2, r3, r4⟩
theorem lz_item {i : Nat} {x y : Value} {Q : Option Value → Shared → Prop} (D : ZipApart z TI TO i1 i2 l1 l2) (hst : ZSt s.heap z TI TO i1 i2 l1 l2 S i) (hSl : S < s.heap.objs.size) (hl1 : s.heap.IsList l1 xs) (hl2 : s.heap.IsList l2 ys) (hx : xs[i]? = some x) (hy : ys[i]? = some y)
    (hQ : ∀ h', ZSt h' z TI TO i1 i2 l1 l2 S (i + 1) → h'.IsList l1 xs → h'.IsList l2 ys → h'.get? s.heap.objs.size = some { cls := .type "tuple", data := .seq #[x, y] } → h'.objs.size = s.heap.objs.size + 1 →
      (∀ b o, b ≠ z → b ≠ TO → b ≠ i1 → b ≠ i2 → s.heap.get? b = some o → h'.get? b = some o) → Q (some (.ref s.heap.objs.size)) { s with heap := h' }) :
    wpAny (model prog w) A (pyNext (.ref z)) Q E s := by
  obtain ⟨hTI, h1, h2, hz⟩ := hst
  have lt : ∀ {c o}, s.heap.get? c = some o → s.heap.objs.size ≠ c := fun e => Nat.ne_of_gt (Heap.lt_size e)
  have n1 : s.heap.objs.size ≠ i1 := let ⟨_, e, _⟩ := h1; lt e
  have n2 : s.heap.objs.size ≠ i2 := let ⟨_, e, _⟩ := h2; lt e
  rcases hz with ⟨hz, a, b, hTO⟩ | ⟨T, f, oT, hz, hT, r1, r2, r3, r4⟩
  · refine wpAny_pyNext_zip_item D hz hTI hTO h1 h2 hl1 hl2 hx hy fun h' a1 a2 a3 a4 a5 a6 hk => ?_
    exact hQ h' ⟨hk _ _ D.TIz D.TITO D.TIi1 D.TIi2 hTI, a3, a4, .inr ⟨s.heap.objs.size, false, _, a1, a5, lt hz, n1, n2, Nat.ne_of_gt hSl⟩⟩ (hl1.at fun o e => hk _ o D.l1z D.l1TO D.l1i1 D.l1i2 e) (hl2.at fun o e => hk _ o D.l2z D.l2TO D.l2i1 D.l2i2 e) a5 a6 hk
  · refine wpAny_pyNext_zip_item_held D hz hT hTI h1 h2 hl1 hl2 hx hy fun h' a1 a3 a4 a5 a6 hk => ?_
    exact hQ h' ⟨hk _ _ D.TIz D.TIi1 D.TIi2 hTI, a3, a4, .inr ⟨T, true, oT, a1, hk _ _ r1 r2 r3 hT, r1, r2, r3, r4⟩⟩ (hl1.at fun o e => hk _ o D.l1z D.l1i1 D.l1i2 e) (hl2.at fun o e => hk _ o D.l2z D.l2i1 D.l2i2 e) a5 a6 fun b o c1 _ c2 c3 e => hk b o c1 c2 c3 e
theorem lz_done {i : Nat} {Q : Option Value → Shared → Prop} (hh : A.handled = none) (D : ZipApart z TI TO i1 i2 l1 l2) (hst : ZSt s.heap z TI TO i1 i2 l1 l2 S i) (hl1 : s.heap.IsList l1 xs) (hl2 : s.heap.IsList l2 ys) (hend : xs[i]? = none ∨ ys[i]? = none)
    (hQ : ∀ h', (∀ b o, b ≠ z → b ≠ TO → b ≠ i1 → b ≠ i2 → s.heap.get? b = some o → h'.get? b = some o) → Q none { s with heap := h' }) : wpAny (model prog w) A (pyNext (.ref z)) Q E s := by
  obtain ⟨hTI, h1, h2, hz⟩ := hst
  rcases hz with ⟨hz, a, b, hTO⟩ | ⟨T, f, oT, hz, hT, r1, r2, r3, r4⟩
  · exact wpAny_pyNext_zip_end hh D hz hTI hTO h1 h2 hl1 hl2 hend hQ
  · exact wpAny_pyNext_zip_end_held hh D hz hT hTI h1 h2 hl1 hl2 hend fun h' hk => hQ h' fun b o c1 _ c2 c3 e => hk b o c1 c2 c3 e
end
section
variable {prog : Program} {w : World} {A : Around} {s : Shared} {R : Result → Shared → Prop} {z TI TO i1 i2 l1 l2 S : Addr} {xs ys : Array Value} {n : Nat}
theorem lz_loop {lo : Addr} (hh : A.handled = none) (D : ZipApart z TI TO i1 i2 l1 l2) (hS : S ≠ z ∧ S ≠ TI ∧ S ≠ TO ∧ S ≠ i1 ∧ S ≠ i2) (hSl : S ≠ l1 ∧ S ≠ l2) (hlo : S < lo ∧ z < lo ∧ TO < lo ∧ i1 < lo ∧ i2 < lo) (hnn : n = min xs.size ys.size) (hn : n ≤ sizeLine) (res : Value) {h₁ : Heap}
    (hR : ∀ h' tk acc c as, (∀ b o, b ≠ S → b ≠ z → b ≠ TO → b ≠ i1 → b ≠ i2 → h₁.get? b = some o → h'.get? b = some o) → h'.get? S = some { cls := .type "list", dict := none, data := .seq acc c, slots := #[] } → as.length = n → LzG xs ys lo h' as →
      acc.toList = as.map Value.ref → R (.ok (.ret res)) { s with heap := h', toks := tk }) :
    ∀ (k i : Nat) (h : Heap) (tk c : Nat) (acc : Array Value) (as : List Addr), n - i = k → i ≤ n → ZSt h z TI TO i1 i2 l1 l2 S i → h.IsList l1 xs → h.IsList l2 ys → (∀ b o, b ≠ S → b ≠ z → b ≠ TO → b ≠ i1 → b ≠ i2 → h₁.get? b = some o → h.get? b = some o) →
      h.get? S = some { cls := .type "list", dict := none, data := .seq acc c, slots := #[] } → acc.toList = as.map Value.ref → as.length = i → LzG xs ys lo h as → lo ≤ h.objs.size →
      codeAny (model prog w) A (.builtin "list.extend.loop" ⟨[.ref S, .ref z, res], []⟩) R { s with heap := h, toks := tk } := by
  intro k
  induction k with
  | zero =>
    intro i h tk c acc as hk hi hst hl1 hl2 hkeep hS0 hacc hal hG hIs
    have hin : i = n := by omega
    refine codeAny_builtin PySem.F.entry_extend_loop ?_
    rw [Around.under_plainId PySem.F.plain_extend_loop _]
    show wpAny _ A.in1 (pyNext (.ref z) >>= _) _ _ _
    have hend : xs[i]? = none ∨ ys[i]? = none := by
      rcases Nat.le_total xs.size ys.size with q | q
      · exact .inl (Array.getElem?_eq_none (by omega))
      · exact .inr (Array.getElem?_eq_none (by omega))
    refine wpAny_bind (lz_done (s := { s with heap := h, toks := tk }) (A := A.in1) hh D hst hl1 hl2 hend fun h' he => ?_)
    refine wpAny_pure (hR h' tk acc c as (fun b o h1 h2 h3 h4 h5 e => he b o h2 h3 h4 h5 (hkeep b o h1 h2 h3 h4 h5 e)) (he S _ hS.1 hS.2.2.1 hS.2.2.2.1 hS.2.2.2.2 hS0) (by omega) ⟨hG.rise, hG.above, fun j a hj => ?_⟩ hacc)
    obtain ⟨x, y, hx, hy, e3⟩ := hG.pairs j a hj
    have hla := hG.above a (List.mem_of_getElem? hj)
    exact ⟨x, y, hx, hy, he a _ (Nat.ne_of_gt (Nat.lt_of_lt_of_le hlo.2.1 hla)) (Nat.ne_of_gt (Nat.lt_of_lt_of_le hlo.2.2.1 hla)) (Nat.ne_of_gt (Nat.lt_of_lt_of_le hlo.2.2.2.1 hla)) (Nat.ne_of_gt (Nat.lt_of_lt_of_le hlo.2.2.2.2 hla)) e3⟩
  | succ k ih =>
    intro i h tk c acc as hk hi hst hl1 hl2 hkeep hS0 hacc hal hG hIs
    have hlt : i < n := by omega
    have hsz : acc.size = i := by rw [← Array.length_toList, hacc, List.length_map, hal]
    have ex : xs[i]? = some (xs[i]'(by omega)) := Array.getElem?_eq_getElem (by omega)
    have ey : ys[i]? = some (ys[i]'(by omega)) := Array.getElem?_eq_getElem (by omega)
    generalize xs[i]'(by omega) = x at ex
    generalize ys[i]'(by omega) = y at ey
    refine codeAny_builtin PySem.F.entry_extend_loop ?_
    rw [Around.under_plainId PySem.F.plain_extend_loop _]
    show wpAny _ A.in1 (pyNext (.ref z) >>= _) _ _ _
    refine wpAny_bind (lz_item (s := { s with heap := h, toks := tk }) (S := S) D hst (Heap.lt_size hS0) hl1 hl2 ex ey fun h' hst' hl1' hl2' ht hz hkp => ?_)
    dsimp only at ht hz hkp ⊢
    have hS' := hkp S _ hS.1 hS.2.2.1 hS.2.2.2.1 hS.2.2.2.2 hS0
    have up : ∀ b o, b ≠ S → h'.get? b = some o → (h'.update S (Obj.mapSeq (·.push (Value.ref h.objs.size)))).get? b = some o := fun b o hb e => (Heap.get?_update_other _ _ (Ne.symm hb)).trans e
    have hSl' : S < h.objs.size := Heap.lt_size hS0
    show wpAny _ A.in1 (updateSeq S (·.push (Value.ref h.objs.size)) >>= _) _ _ _
    refine wpAny_bind ?_
    refine wpAny_updateSeq hS' rfl (wpAny_pure ⟨plainId_quiet PySem.F.plain_extend_loop _, ih (i + 1) _ tk _ (acc.push (Value.ref h.objs.size)) (as ++ [h.objs.size]) (by omega) hlt (hst'.keep hS up) (hl1'.at fun o e => up l1 o hSl.1.symm e) (hl2'.at fun o e => up l2 o hSl.2.symm e)
      (fun b o h1 h2 h3 h4 h5 e => up b o h1 (hkp b o h2 h3 h4 h5 (hkeep b o h1 h2 h3 h4 h5 e))) (Heap.get?_update_self _ hS' rfl) (by rw [Array.toList_push, hacc, List.map_append]; rfl) (by rw [List.length_append, hal]; rfl) ⟨?_, ?_, ?_⟩ ?_⟩) (by rw [hsz]; omega) (by show (acc.push (Value.ref h.objs.size)).size ≤ sizeLine + 1; rw [Array.size_push, hsz]; omega)
    · refine List.pairwise_append.mpr ⟨hG.rise, List.pairwise_singleton _ _, fun a ha b hb => ?_⟩
      rw [List.mem_singleton.mp hb]
      exact hG.there ha
    · intro a ha
      rcases List.mem_append.mp ha with ha | ha
      · exact hG.above a ha
      · rw [List.mem_singleton.mp ha]; exact hIs
    · intro j b hj
      rcases Nat.lt_trichotomy j as.length with h1 | h1 | h1
      · rw [List.getElem?_append_left h1] at hj
        obtain ⟨x', y', hx', hy', e3⟩ := hG.pairs j b hj
        have hb := hG.above b (List.mem_of_getElem? hj)
        exact ⟨x', y', hx', hy', up b _ (Nat.ne_of_gt (Nat.lt_of_lt_of_le hlo.1 hb)) (hkp b _ (Nat.ne_of_gt (Nat.lt_of_lt_of_le hlo.2.1 hb)) (Nat.ne_of_gt (Nat.lt_of_lt_of_le hlo.2.2.1 hb)) (Nat.ne_of_gt (Nat.lt_of_lt_of_le hlo.2.2.2.1 hb)) (Nat.ne_of_gt (Nat.lt_of_lt_of_le hlo.2.2.2.2 hb)) e3)⟩
      · subst h1
        have hb : h.objs.size = b := by simpa using hj
        subst hb
        exact ⟨x, y, by rw [hal]; exact ex, by rw [hal]; exact ey, up _ _ (Nat.ne_of_gt hSl') ht⟩
      · have hnone : (as ++ [h.objs.size])[j]? = none := List.getElem?_eq_none (by rw [List.length_append, List.length_singleton]; omega)
        rw [hnone] at hj; cases hj
    · have e : (h'.update S (Obj.mapSeq (·.push (Value.ref h.objs.size)))).get? h.objs.size = _ := up _ _ (Nat.ne_of_gt hSl') ht
      exact Nat.le_trans hIs (Nat.le_of_lt (Heap.lt_size e))
end
section
variable {prog : Program} {w : World} {A : Around} {E : Value → Shared → Prop} {s : Shared} {z TI TO i1 i2 l1 l2 : Addr} {xs ys : Array Value}
theorem lz_extend {R : Result → Shared → Prop} {S : Addr} (hh : A.handled = none) (D : ZipApart z TI TO i1 i2 l1 l2) (hz : IsZip s.heap z TI TO .none) (hTI : IsPair s.heap TI (.ref i1) (.ref i2)) (hTO : ∃ a b, IsPair s.heap TO a b) (h1 : s.heap.IsListIter i1 l1 0) (h2 : s.heap.IsListIter i2 l2 0) (hl1 : s.heap.IsList l1 xs) (hl2 : s.heap.IsList l2 ys)
    (hS : S ≠ z ∧ S ≠ TI ∧ S ≠ TO ∧ S ≠ i1 ∧ S ≠ i2) (hSl : S ≠ l1 ∧ S ≠ l2) (res : Value) (c₀ : Nat) (hS0 : s.heap.get? S = some { cls := .type "list", data := .seq #[] c₀ }) (hn : min xs.size ys.size ≤ sizeLine)
    (hR : ∀ h' tk acc c as, (∀ b o, b ≠ S → b ≠ z → b ≠ TO → b ≠ i1 → b ≠ i2 → s.heap.get? b = some o → h'.get? b = some o) → h'.get? S = some { cls := .type "list", dict := none, data := .seq acc c, slots := #[] } → as.length = min xs.size ys.size → LzG xs ys s.heap.objs.size h' as →
      acc.toList = as.map Value.ref → R (.ok (.ret res)) { s with heap := h', toks := tk }) :
    wpAny (model prog w) A.in1 (Builtin.List.listExtendWith (.ref S) (.ref z) res)
      (fun fin s' => match fin with | .done f => R (.ok f) s' | .again c' => c'.quiet = true ∧ codeAny (model prog w) A c' R s') (fun e s' => R (.error e) s') s := by
  have lt : ∀ {c o}, s.heap.get? c = some o → c < s.heap.objs.size := fun e => Heap.lt_size e
  have ty : s.TypeIs (.ref z) "zip" := ⟨_, hz, rfl⟩
  unfold Builtin.List.listExtendWith
  refine wpAny_bind (wpAny_typeOf (T := "zip") ty ?_)
  have e1 : Builtin.List.listSameRef (.ref S) (.ref z) = false := by simp [Builtin.List.listSameRef, hS.1]
  have e2 : (Value.type "zip" == Value.type "list") = false := by decide
  have e3 : (Value.type "zip" == Value.type "tuple") = false := by decide
  simp only [e1, e2, e3, Bool.or_false, Bool.false_eq_true, if_false]
  refine wpAny_bind (wpAny_pyIter_zip hz ?_)
  refine wpAny_bind (wpAny_holding ?_)
  unfold Builtin.List.listLengthHint
  refine wpAny_bind (wpAny_specialOf ty zip_no_len ?_)
  show wpAny _ A.in1 (specialOf (Value.ref z) (Str.ofString "__length_hint__") >>= _) _ _ _
  refine wpAny_bind (wpAny_specialOf ty zip_no_hint ?_)
  refine wpAny_pure ?_
  show wpAny _ A.in1 (rule "list.extend.makes-room" >>= fun _ => Builtin.List.listTouch (.ref S) >>= fun _ =>
    again (.builtin "list.extend.loop" ⟨[.ref S, .ref z, res], []⟩)) _ _ _
  refine wpAny_bind (wpAny_rule ?_)
  refine wpAny_bind ?_
  show wpAny _ _ (updateSeq S (·.push .none) >>= fun _ => updateSeq S (·.pop)) _ _ _
  refine wpAny_bind (wpAny_updateSeq hS0 rfl ?_)
  have hS₂ := Heap.get?_update_self (Obj.mapSeq (·.push Value.none)) hS0 rfl
  refine wpAny_updateSeq (hz := by seq_fits) hS₂ rfl ?_
  have hS₃ := Heap.get?_update_self (Obj.mapSeq (·.pop)) hS₂ rfl
  have oth : ∀ b o, b ≠ S → s.heap.get? b = some o → ((s.heap.update S (Obj.mapSeq (·.push Value.none))).update S (Obj.mapSeq (·.pop))).get? b = some o := fun b o hb e => (Heap.get?_update_other _ _ (Ne.symm hb)).trans ((Heap.get?_update_other _ _ (Ne.symm hb)).trans e)
  have st0 : ZSt s.heap z TI TO i1 i2 l1 l2 S 0 := by
    obtain ⟨a, b, hTO⟩ := hTO
    exact ⟨hTI, h1, h2, .inl ⟨hz, a, b, hTO⟩⟩
  obtain ⟨a, b, hTO⟩ := hTO
  have hlt : ∀ {c o}, s.heap.get? c = some o → c < s.heap.objs.size := fun e => Heap.lt_size e
  have lS := hlt hS0
  have lz := hlt hz
  have lTO := hlt hTO
  have li1 : i1 < s.heap.objs.size := let ⟨_, e, _⟩ := h1; hlt e
  have li2 : i2 < s.heap.objs.size := let ⟨_, e, _⟩ := h2; hlt e
  refine wpAny_pure ⟨plainId_quiet PySem.F.plain_extend_loop _, lz_loop (lo := s.heap.objs.size) (h₁ := s.heap) (s := s) hh D hS hSl ⟨lS, lz, lTO, li1, li2⟩ rfl hn res hR _ 0 _ _ _ #[] [] rfl (Nat.zero_le _) (st0.keep hS oth) (hl1.at fun o e => oth _ o hSl.1.symm e) (hl2.at fun o e => oth _ o hSl.2.symm e) (fun b o h _ _ _ _ e => oth b o h e) hS₃ rfl rfl ⟨List.Pairwise.nil, (fun _ ha => nomatch ha), (fun j a hj => by simp at hj)⟩ ?_⟩
  have : ((s.heap.update S (Obj.mapSeq (·.push Value.none))).update S (Obj.mapSeq (·.pop))).objs.size = s.heap.objs.size := by rw [(Heap.SameBut.update (s.heap.update S (Obj.mapSeq (·.push Value.none))) S _).1, (Heap.SameBut.update s.heap S _).1]
  exact Nat.le_of_eq this.symm
theorem LzG.low {xs ys : Array Value} {lo lo' : Addr} {h : Heap} {as : List Addr} (g : LzG xs ys lo h as) (hl : lo' ≤ lo) : LzG xs ys lo' h as := ⟨g.rise, fun a ha => Nat.le_trans hl (g.above a ha), g.pairs⟩
theorem lz_call {Q : Value → Shared → Prop} (hh : A.handled = none) (D : ZipApart z TI TO i1 i2 l1 l2) (hz : IsZip s.heap z TI TO .none) (hTI : IsPair s.heap TI (.ref i1) (.ref i2)) (hTO : ∃ a b, IsPair s.heap TO a b) (h1 : s.heap.IsListIter i1 l1 0) (h2 : s.heap.IsListIter i2 l2 0) (hl1 : s.heap.IsList l1 xs) (hl2 : s.heap.IsList l2 ys) (hn : min xs.size ys.size ≤ sizeLine)
    (hQ : ∀ h' tk acc c as, (∀ b o, b ≠ z → b ≠ TO → b ≠ i1 → b ≠ i2 → s.heap.get? b = some o → h'.get? b = some o) → h'.get? s.heap.objs.size = some { cls := .type "list", dict := none, data := .seq acc c, slots := #[] } → as.length = min xs.size ys.size → LzG xs ys (s.heap.objs.size + 1) h' as →
      acc.toList = as.map Value.ref → Q (.ref s.heap.objs.size) { s with heap := h', toks := tk }) :
    wpAny (model prog w) A (call (.type "list") [.ref z]) Q E s := by
  refine callType_codes (Q₁ := fun obj s₁ => obj = .ref s.heap.objs.size ∧ s₁ = { s with heap := s.heap.push { cls := .type "list", data := .seq #[] } }) PySem.F.called_list (PySem.F.typeCall_list_1 _) PySem.F.entry_list_init
    (code_list_new _ ⟨rfl, rfl⟩) fun obj s₁ h₁ => ?_
  obtain ⟨rfl, rfl⟩ := h₁
  have hS : (s.heap.push { cls := .type "list", data := .seq #[] }).get? s.heap.objs.size = some { cls := .type "list", data := .seq #[] } := Heap.get?_push_size _ rfl
  have ltn : ∀ {c o}, s.heap.get? c = some o → s.heap.objs.size ≠ c := fun e => Nat.ne_of_gt (Heap.lt_size e)
  have n1 : s.heap.objs.size ≠ i1 := let ⟨_, e, _⟩ := h1; ltn e
  have n2 : s.heap.objs.size ≠ i2 := let ⟨_, e, _⟩ := h2; ltn e
  have n3 : s.heap.objs.size ≠ l1 := let ⟨_, e, _⟩ := hl1; ltn e
  have n4 : s.heap.objs.size ≠ l2 := let ⟨_, e, _⟩ := hl2; ltn e
  have n5 : s.heap.objs.size ≠ TO := let ⟨_, _, e⟩ := hTO; ltn e
  have hSS : s.heap.objs.size ≠ z ∧ s.heap.objs.size ≠ TI ∧ s.heap.objs.size ≠ TO ∧ s.heap.objs.size ≠ i1 ∧ s.heap.objs.size ≠ i2 := ⟨ltn hz, ltn hTI, n5, n1, n2⟩
  refine ⟨⟨_, hS, rfl⟩, PySem.F.args_list_init_2 _ _, ?_⟩
  generalize hh0 : s.heap.push { cls := .type "list", data := .seq #[] } = h0 at *
  have psh : ∀ b o, s.heap.get? b = some o → h0.get? b = some o := fun b o e => by rw [← hh0]; exact Heap.get?_push_of_some _ e
  have psz : h0.objs.size = s.heap.objs.size + 1 := by rw [← hh0]; exact Heap.size_push ..
  show wpAny _ _ (do let old ← Builtin.List.listItems (.ref s.heap.objs.size); Builtin.List.listUpdate (.ref s.heap.objs.size) (fun _ => #[]); letGo old.toList.reverse; Builtin.List.listExtendWith (.ref s.heap.objs.size) (.ref z) .none) _ _ _
  refine wpAny_bind ?_
  unfold Builtin.List.listItems
  refine wpAny_bind (wpAny_seqItems hS rfl (wpAny_pure ?_))
  show wpAny _ _ (updateSeq s.heap.objs.size (fun _ => #[]) >>= fun _ => letGo (#[] : Array Value).toList.reverse >>= fun _ => Builtin.List.listExtendWith (.ref s.heap.objs.size) (.ref z) .none) _ _ _
  refine wpAny_bind (wpAny_updateSeq hS rfl ?_)
  have hS₂ := Heap.get?_update_self (Obj.mapSeq (fun _ => (#[] : Array Value))) hS rfl
  have oth : ∀ b o, s.heap.get? b = some o → (h0.update s.heap.objs.size (Obj.mapSeq (fun _ => (#[] : Array Value)))).get? b = some o :=
    fun b o e => (Heap.get?_update_other _ _ (ltn e)).trans (psh b o e)
  have usz : (h0.update s.heap.objs.size (Obj.mapSeq (fun _ => (#[] : Array Value)))).objs.size = s.heap.objs.size + 1 := by rw [(Heap.SameBut.update h0 s.heap.objs.size _).1, psz]
  refine wpAny_bind (wpAny_letGo ?_)
  refine lz_extend (prog := prog) (w := w) (A := A.in1) (R := wants (fun r s₂ => r = Value.none ∧ Q (Value.ref s.heap.objs.size) s₂) E) (s := { s with heap := h0.update s.heap.objs.size (Obj.mapSeq (fun _ => (#[] : Array Value))) }) (S := s.heap.objs.size) hh D (oth _ _ hz) (oth _ _ hTI) (let ⟨a, b, e⟩ := hTO; ⟨a, b, oth _ _ e⟩) (h1.at fun o e => oth _ o e) (h2.at fun o e => oth _ o e) (hl1.at fun o e => oth _ o e) (hl2.at fun o e => oth _ o e) hSS ⟨n3, n4⟩ .none _ hS₂ hn (fun h' tk acc c as hk hS' hl hG hacc => ?_)
  exact ⟨rfl, hQ h' tk acc c as (fun b o c1 c2 c3 c4 e => hk b o (ltn e).symm c1 c2 c3 c4 (oth b o e)) hS' hl (hG.low (Nat.le_of_eq (by dsimp only; rw [usz]))) hacc⟩
end
end HP.LZ
namespace HP
open PySem PySem.Spec PyProof.Rows L2
namespace LZ
/-- the tuples tracked at their addresses -/
def putP : Hp → List Addr → List (V × V) → Hp
  | H, a :: as, p :: ps => putP (upd H a (.tup [p.1, p.2])) as ps
  | H, _, _ => H
theorem putP_off {b : Addr} : ∀ (as : List Addr) (ps : List (V × V)) (H : Hp), b ∉ as → putP H as ps b = H b
  | [], _, _, _ => rfl
  | _ :: _, [], _, _ => rfl
  | a :: as, p :: ps, H, h => by
    show putP (upd H a (.tup [p.1, p.2])) as ps b = H b
    rw [putP_off as ps _ (fun z => h (List.mem_cons_of_mem _ z)), upd_ne (fun z => h (by rw [z]; exact List.mem_cons_self))]
theorem putP_at : ∀ (as : List Addr) (ps : List (V × V)) (H : Hp), as.length = ps.length → as.Nodup → Paired (fun (t : Addr) (p : V × V) => putP H as ps t = some (.tup [p.1, p.2])) as ps
  | [], [], _, _, _ => .nil
  | [], _ :: _, _, h, _ => by cases h
  | _ :: _, [], _, h, _ => by cases h
  | a :: as, p :: ps, H, h, hn => by
    have hn' := List.nodup_cons.mp hn
    have ih := putP_at as ps (upd H a (.tup [p.1, p.2])) (Nat.succ.inj h) hn'.2
    refine .cons ?_ ih
    show putP (upd H a (.tup [p.1, p.2])) as ps a = some (.tup [p.1, p.2])
    rw [putP_off as ps _ hn'.1, upd_same]
/-- what list(zip(..)) of two lists makes -/
def rZipL (K : PySem.W.Frag) : List V → Hp → VK → Prop := fun vs H Q => ∃ (a b : Addr) (xs ys : List V), vs = [.ref a, .ref b] ∧ SqL K H a xs ∧ SqL K H b ys ∧ (xs.zip ys).length ≤ sizeLine ∧
  ∀ (as : List Addr) (S : Addr), as.length = (xs.zip ys).length → (∀ t ∈ as, H t = none) → as.Nodup → H S = none → S ∉ as → Q (.ref S) (upd (putP H as (xs.zip ys)) S (.lst (as.map V.ref)))
section
variable {X : Cx} {e e2 : Expr} {ta : TA} {p p2 pos pos2 : Pos}
theorem laid {pins : List (Addr × Obj)} {σ : L2.St} {H : Hp} {s : Shared} {h' : Heap} {tk : Nat} {xs ys : List V} {us ws : List Value} {acc : Array Value} {c : Nat} {as : List Addr} {S : Addr} (I : Inv X pins σ H s) (hz : (xs.zip ys).length ≤ sizeLine) (rx : Vals xs us) (ry : Vals ys ws) (hge : s.heap.objs.size ≤ S)
    (hk : ∀ b o, s.heap.get? b = some o → h'.get? b = some o) (hS : h'.get? S = some { cls := .type "list", dict := none, data := .seq acc c, slots := #[] }) (hl : as.length = (xs.zip ys).length) (hG : LzG us.toArray ws.toArray (S + 1) h' as) (hacc : acc.toList = as.map Value.ref) :
    (∀ t ∈ as, H t = none) ∧ as.Nodup ∧ H S = none ∧ S ∉ as ∧ Inv X pins σ (upd (putP H as (xs.zip ys)) S (.lst (as.map V.ref))) { s with heap := h', toks := tk } := by
  have hSn : S ∉ as := fun z => Nat.not_succ_le_self _ (hG.above _ z)
  have hab : ∀ t ∈ as, s.heap.objs.size ≤ t := fun t ht => Nat.le_trans hge (Nat.le_of_succ_le (hG.above t ht))
  have nd : as.Nodup := List.Pairwise.imp (fun {a b} (h : a < b) => Nat.ne_of_lt h) hG.rise
  have new : ∀ t ∈ as, H t = none := fun t ht => I.hok.fresh (hab t ht)
  have newS : H S = none := I.hok.fresh hge
  have atP := putP_at as (xs.zip ys) H hl nd
  have atP' : ∀ {t : Addr} {q : V × V}, t ∈ as → putP H as (xs.zip ys) t = some (.tup [q.1, q.2]) → upd (putP H as (xs.zip ys)) S (.lst (as.map V.ref)) t = some (.tup [q.1, q.2]) := fun {t q} ht e => by
    rw [upd_ne (fun z => hSn (by rw [← z]; exact ht))]; exact e
  have off : ∀ b, b ∉ as → b ≠ S → upd (putP H as (xs.zip ys)) S (.lst (as.map V.ref)) b = H b := fun b h1 h2 => by rw [upd_ne h2, putP_off as _ _ h1]
  have low : ∀ b o, s.heap.get? b = some o → b ∉ as ∧ b ≠ S := fun b o e => ⟨fun z => absurd (Heap.lt_size e) (Nat.not_lt.mpr (hab b z)), Nat.ne_of_lt (Nat.lt_of_lt_of_le (Heap.lt_size e) hge)⟩
  have kp : ∀ b u, H b = some u → (upd (putP H as (xs.zip ys)) S (.lst (as.map V.ref))) b = some u := fun b u e => by
    rw [off b (fun z => by rw [new b z] at e; cases e) (fun z => by rw [z, newS] at e; cases e)]
    exact e
  have eS : upd (putP H as (xs.zip ys)) S (.lst (as.map V.ref)) S = some (.lst (as.map V.ref)) := upd_same
  refine ⟨new, nd, newS, hSn, ?_⟩
  refine I.call' (ch := []) rfl ⟨fun b o q _ _ _ => hk b o q, fun b o q _ _ _ => ⟨o.slots, hk b o q⟩, fun b o q n _ => ?_, fun b o q _ => ⟨o, hk b o q⟩, fun b xs q => kp b _ q, fun b o u q => kp b _ q, fun b ps q => ⟨#[], by rw [kp b _ q]; simp⟩⟩ (fun b u q => ?_) I.bare fun b z => by simp at z
  · obtain ⟨z1, z2⟩ := low b o q
    rw [off b z1 z2]
    exact n
  · by_cases hb : b ∈ as
    · obtain ⟨j, pk, e1, e2, e3⟩ := LiI.paired_ix atP hb
      rw [atP' hb e3] at q
      cases q
      obtain ⟨x, y, f1, f2, f3⟩ := hG.pairs j b e1
      obtain ⟨g1, g2⟩ := List.getElem?_zip_eq_some.1 e2
      obtain ⟨u1, q1, r1⟩ := rx.get g1
      obtain ⟨u2, q2, r2⟩ := ry.get g2
      rw [List.getElem?_toArray, q1] at f1
      rw [List.getElem?_toArray, q2] at f2
      cases f1
      cases f2
      exact ⟨by show 2 ≤ sizeLine; decide, [x, y], .cons r1 (.cons r2 .nil), ⟨_, f3, rfl, _, rfl⟩⟩
    · by_cases hb2 : b = S
      · rw [hb2] at q ⊢
        rw [eS] at q
        cases q
        refine ⟨by rw [List.length_map]; omega, acc.toList, c, by rw [hacc]; exact LiI.vals_refs as, ?_⟩
        rw [Array.toArray_toList]
        exact hS
      · rw [off b hb hb2] at q
        exact (I.hok b u q).stay (fun d v _ y => hk d v y) (fun d y => kp d _ y) fun d xs y => kp d _ y
/-- list(zip(e, e2)) -/
theorem pe_listZip (hc : X.calm = true) (hg : Gl X "list") (hm : X.mg "list" = none) (hgz : Gl X "zip") (hmz : X.mg "zip" = none) (ha : PA X [e, e2] ta)
    (hs : starEach [e, e2] X.env = (false, eval e X.env) :: starEach [e2] X.env) (hpl : (backTo pos2 (starEach [e2] X.env)).any (·.1) = false) :
    PE X (.Call (.Name "list" p) [.Call (.Name "zip" p2) [e, e2] [] pos2] [] pos) (fun σ H Q => ta σ H fun vs H1 => rZipL X.K vs H1 Q) := by
  refine ⟨fun pins s σ H Q I h => ?_⟩
  have na : starEach [.Call (.Name "zip" p2) [e, e2] [] pos2] X.env = (false, eval (.Call (.Name "zip" p2) [e, e2] [] pos2) X.env) :: starEach [] X.env := rfl
  refine Call_ (ld_blt I hg hm boot_list (PyProof.Rows.callWith_type1 (args_cons (Call_ (ld_blt I hgz hmz PyProof.Rows.boot_zip (PyProof.Rows.callWith_type1 (thn (ha.run pos2 pins s σ H _ I h) fun us s1 ⟨vs, H1, I1, r1, q1⟩ => ?_) hs hpl))) na) na))
  obtain ⟨a, b, xs, ys, ex, hqx, hqy, hz, q⟩ := q1
  subst ex
  cases r1 with
  | cons r rr =>
    cases rr with
    | cons r' rr =>
      cases rr
      cases r
      cases r'
      obtain ⟨its, rv, p1, _⟩ := I1.list hqx
      obtain ⟨its2, rv2, p3, _⟩ := I1.list hqy
      refine call_zip_2 p1.isList p3.isList fun h' hz' hTI hTO h1 h2 hsz hk => ?_
      have I2 : Inv X pins σ H1 { s1 with heap := h' } := I1.kept (t' := s1.toks) hk
      refine args_nil ?_
      have D := PySem.W.ktu_apart s1.heap.objs.size a b p1.lt p3.lt
      have hmin : min its.toArray.size its2.toArray.size = (xs.zip ys).length := by
        rw [List.length_zip, ← rv.length.symm, ← rv2.length.symm]; simp
      refine lz_call (s := { s1 with heap := h' }) (I1.ok.hd hc) D hz' hTI ⟨_, _, hTO⟩ h1 h2 (p1.isList.at fun o e => hk _ o e) (p3.isList.at fun o e => hk _ o e) (by rw [hmin]; exact hz) fun h'' tk acc cc as hk2 hS hl hG hacc => ?_
      have hk3 : ∀ b o, s1.heap.get? b = some o → h''.get? b = some o := fun b o e => by
        have hb := Heap.lt_size e
        exact hk2 b o (Nat.ne_of_lt (Nat.lt_of_lt_of_le hb (Nat.le_add_right _ _))) (Nat.ne_of_lt (Nat.lt_of_lt_of_le hb (Nat.le_add_right _ _))) (Nat.ne_of_lt hb) (Nat.ne_of_lt (Nat.lt_of_lt_of_le hb (Nat.le_add_right _ _))) (hk b o e)
      obtain ⟨k1, k2, k3, k4, J⟩ := laid (tk := tk) I1 hz rv rv2 (S := h'.objs.size) (by rw [hsz]; exact Nat.le_add_right _ _) hk3 hS (hl.trans hmin) hG hacc
      exact ⟨.ref _, _, J, rfl, q as _ (hl.trans hmin) k1 k2 k3 k4⟩
end
end LZ
end HP
namespace HP
open PySem L2 PySem.Spec PyProof.Rows
mutual
def D.eqb : D → D → Bool
  | .non, .non => true
  | .bl a, .bl b => a == b
  | .int a, .int b => a == b
  | .str a, .str b => a == b
  | .tup a, .tup b => D.eqbs a b
  | .frl a, .frl b => D.eqbs a b
  | .ty a, .ty b => a == b
  | .cls a, .cls b => a == b
  | .kd a, .kd b => a == b
  | _, _ => false
def D.eqbs : List D → List D → Bool
  | [], [] => true
  | a :: as, b :: bs => D.eqb a b && D.eqbs as bs
  | _, _ => false
end
mutual
theorem D.eqb_eq : ∀ {a b : D}, D.eqb a b = true → a = b
  | .non, b, h => by cases b <;> simp [D.eqb] at h ⊢
  | .bl a, b, h => by cases b <;> simp [D.eqb] at h ⊢; exact h
  | .int a, b, h => by cases b <;> simp [D.eqb] at h ⊢; exact h
  | .str a, b, h => by cases b <;> simp [D.eqb] at h ⊢; exact h
  | .tup a, b, h => by cases b <;> simp [D.eqb] at h ⊢; exact D.eqbs_eq h
  | .frl a, b, h => by cases b <;> simp [D.eqb] at h ⊢; exact D.eqbs_eq h
  | .ty a, b, h => by cases b <;> simp [D.eqb] at h ⊢; exact h
  | .cls a, b, h => by cases b <;> simp [D.eqb] at h ⊢; exact h
  | .loc _, b, h => by cases b <;> simp [D.eqb] at h
  | .exc _ _, b, h => by cases b <;> simp [D.eqb] at h
  | .kd a, b, h => by cases b <;> simp [D.eqb] at h ⊢; exact h
theorem D.eqbs_eq : ∀ {a b : List D}, D.eqbs a b = true → a = b
  | [], [], _ => rfl
  | a :: as, b :: bs, h => by
    simp only [D.eqbs, Bool.and_eq_true] at h
    rw [D.eqb_eq h.1, D.eqbs_eq h.2]
  | [], _ :: _, h => by simp [D.eqbs] at h
  | _ :: _, [], h => by simp [D.eqbs] at h
end
/-- what the checker knows -/
structure Cc where
  N : List Str
  sc : Scope
  fnB : Str → Bool
  hot : Bool
  fns : List (Str × Nat × Nat)
  cons : List (Str × D)
  blt : List Str
  cls : List (Str × Nat × Bool)
def visB (sc : Scope) (x : Str) : Bool := match sc.names.lookup x with
  | some .local => true | some .cell => true | some .free => true | _ => false
def locB (sc : Scope) (x : Str) : Bool := match sc.names.lookup x with
  | some .local => true | some .cell => true | _ => false
def lclB (sc : Scope) (x : Str) : Bool := match sc.names.lookup x with
  | some .local => true | _ => false
def glbB (sc : Scope) (x : Str) : Bool := match sc.names.lookup x with
  | some .globalImplicit => true | _ => false
def dbgB (x : Str) : Bool := !(x == ("__debug__" : Str)) && !(x == ("__classdict__" : Str)) && decide (x ≠ ("__name__" : Str))
def bopB : Bop → Operator → Bool
  | .add, .Add => true | .sub, .Sub => true | .mul, .Mult => true | .fdiv, .FloorDiv => true | .mod, .Mod => true | .pow, .Pow => true | _, _ => false
def copB : Cop → CmpOp → Bool
  | .eq, .Eq => true | .ne, .NotEq => true | .lt, .Lt => true | .le, .LtE => true | .gt, .Gt => true | .ge, .GtE => true | .is, .Is => true | .isn, .IsNot => true | .inn, .In => true | .nin, .NotIn => true | _, _ => false
theorem bopB_eq {o : Bop} {p : Operator} (h : bopB o p = true) : p = bopO o := by cases o <;> cases p <;> first | rfl | (cases h)
theorem copB_eq {o : Cop} {p : CmpOp} (h : copB o p = true) : p = copO o := by cases o <;> cases p <;> first | rfl | (cases h)
def btS (b : Bt) : Str := Str.ofString b.name
/-- a name that is called or read of the module -/
def namB (C : Cc) (x : Str) : Bool := glbB C.sc x && dbgB x
def slotB (C : Cc) (i : Nat) (x : Str) : Bool := decide (C.N[i]? = some x)
def setB (C : Cc) (i : Nat) (x : Str) : Bool := slotB C i x && locB C.sc x && (C.fnB x || lclB C.sc x)
/-- what may stand ahead of .name( .. ) -/
def recvB : Expr → Bool
  | .Call (.Name _ _) [] [] _ => false
  | _ => true
/-- no comprehension -/
def nocoB : Expr → Bool
  | .ListComp _ _ _ _ => false | .SetComp _ _ _ _ => false | .DictComp _ _ _ _ _ => false | _ => true
def ownP (N : List Str) (own : List Nat) : List (Str × Nat) := own.filterMap fun i => (N[i]?).map fun x => (x, i)
def blkCc (C : Cc) (scope : Scope) : Cc := { C with sc := relS scope C.sc, fnB := fun x => scope.names.lookup x == some .cell }
mutual
def okTg : Tg → Cc → List Nat → Expr → Bool
  | .name i, C, own, e => match e with
    | .Name x _ => setB C i x && own.contains i
    | _ => false
  | .tup ts, C, own, e => match e with
    | .Tuple es _ _ => !C.hot && okTgs ts C own es
    | _ => false
def okTgs : Tgs → Cc → List Nat → List Expr → Bool
  | .nil, _, _, es => es.isEmpty
  | .cons t ts, C, own, es => match es with
    | e :: r => okTg t C own e && okTgs ts C own r
    | [] => false
end
/-- the classes that are raised -/
def knOf (cls : List (Str × Nat × Bool)) : List Nat := (cls.filter (·.2.2)).map (·.2.1)
def clsB (C : Cc) (j : Nat) (x : Str) : Bool := namB C x && (C.cls.lookup x).any (fun p => p.1 == j)
def clsesB (C : Cc) : List Nat → List Expr → Bool
  | [], [] => true
  | j :: js, .Name x _ :: es => clsB C j x && clsesB C js es
  | _, _ => false
def noFld (k : Nat) : Bool := !([3, 4, 5, 8, 12].contains k)
def isTupE : Expr → Bool
  | .Tuple _ _ _ => true
  | _ => false
mutual
def Es.len : Es → Nat
  | .nil => 0
  | .cons _ r => r.len + 1
end
mutual
def okE : E → Cc → Expr → Bool
  | .var i, C, e => match e with
    | .Name x _ => slotB C i x && visB C.sc x && dbgB x
    | _ => false
  | .con d, C, e => match e with
    | .Name x _ => namB C x && (match C.cons.lookup x with
      | some d' => D.eqb d' d
      | none => match d with
        | .ty b => (x == btS b) && !(decide (b = .non)) && C.blt.contains x
        | _ => false)
    | _ => false
  | .int i, _, e => match e with
    | .Constant (.int j) _ _ => i == j
    | _ => false
  | .bl i, _, e => match e with
    | .Constant (.bool j) _ _ => i == j
    | _ => false
  | .str i, _, e => match e with
    | .Constant (.str j) _ _ => i == j
    | _ => false
  | .non, _, e => match e with
    | .Constant .none _ _ => true
    | _ => false
  | .tup es, C, e => match e with
    | .Tuple xs _ _ => okEs es C xs && decide (xs.length ≤ 1000)
    | _ => false
  | .lst es, C, e => match e with
    | .List xs _ => okEs es C xs && decide (xs.length ≤ 1000)
    | _ => false
  | .dic0, _, e => match e with
    | .Dict [] [] _ => true
    | _ => false
  | .bin o a b, C, e => match e with
    | .BinOp x p y _ => bopB o p && okE a C x && okE b C y
    | _ => false
  | .neg a, C, e => match e with
    | .UnaryOp .USub x _ => okE a C x
    | _ => false
  | .cmp o a b, C, e => match e with
    | .Compare x [p] [y] _ => copB o p && okE a C x && okE b C y
    | _ => false
  | .chain o o2 a b d, C, e => match e with
    | .Compare x [p, p2] [y, z] _ => copB o p && copB o2 p2 && okE a C x && okE b C y && okE d C z
    | _ => false
  | .band es, C, e => match e with
    | .BoolOp .And xs _ => okEs es C xs
    | _ => false
  | .bor es, C, e => match e with
    | .BoolOp .Or xs _ => okEs es C xs
    | _ => false
  | .bnot a, C, e => match e with
    | .UnaryOp .Not x _ => okE a C x
    | _ => false
  | .ife t a b, C, e => match e with
    | .IfExp u x y _ => okE t C u && okE a C x && okE b C y
    | _ => false
  | .call f es, C, e => match e with
    | .Call (.Name x _) xs [] _ => !C.hot && namB C x && decide (C.fns.lookup x = some (f, es.len)) && okEs es C xs
    | _ => false
  | .bcall f es, C, e => match e with
    | .Call (.Name x _) xs [] _ => (!bfCalm f || !C.hot) && namB C x && (x == bfS f) && C.blt.contains x && okEs es C xs && !xs.isEmpty
    | _ => false
  | .meth m o es, C, e => match e with
    | .Call (.Attribute u x ap) xs [] cp => (x == mtS m) && recvB u && (ap.endLine == cp.line) && okE o C u && okEs es C xs && decide (xs.length < 20)
    | _ => false
  | .ix a b, C, e => match e with
    | .Subscript x y _ => okE a C x && okE b C y
    | _ => false
  | .sl a lo hi, C, e => match e with
    | .Subscript x (.Slice l h none _) _ => okE a C x && okO lo C l && okO hi C h
    | _ => false
  | .rev a, C, e => match e with
    | .Subscript x (.Slice none none (some (.UnaryOp .USub (.Constant (.int j) _ _) _)) _) _ => (j == 1) && okE a C x
    | _ => false
  | .dic1 k v, C, x => match x with
    | .Dict [some (.Constant a _ _)] [.Constant (.int j) _ _] _ => (match k, a with
      | .inl i, .int i' => i == i' && j == v
      | .inr t, .str t' => t == t' && j == v
      | _, _ => false)
    | _ => false
  | .joinS s e, C, x => match x with
    | .Call (.Attribute (.Constant (.str t) _ _) n ap) [a] [] cp => (t == s) && (n == ("join" : Str)) && (ap.endLine == cp.line) && okE e C a
    | _ => false
  | .dicT, _, e => match e with
    | .Dict [] [] _ => true
    | _ => false
  | .kin neg a kvs, C, e => match e with
    | .Compare x [op] [.Name y _] _ => (match neg, op with
        | true, .NotIn => true
        | false, .In => true
        | _, _ => false) && namB C y && (match C.cons.lookup y with
        | some d => D.eqb d (.kd kvs)
        | none => false) && okE a C x
    | _ => false
  | .kix kvs a, C, e => match e with
    | .Subscript (.Name y _) x _ => namB C y && (match C.cons.lookup y with
        | some d => D.eqb d (.kd kvs)
        | none => false) && okE a C x
    | _ => false
  | .din neg a b, C, e => match e with
    | .Compare x [op] [y] _ => (match neg, op with
        | true, .NotIn => true
        | false, .In => true
        | _, _ => false) && okE a C x && okE b C y
    | _ => false
  | .lstR e, C, x => match x with
    | .Call (.Name n _) [.Call (.Name m _) [a] [] _] [] _ => !C.hot && namB C n && (n == ("list" : Str)) && C.blt.contains n && namB C m && (m == ("range" : Str)) && C.blt.contains m && okE e C a
    | _ => false
  | .lstZ a b, C, x => match x with
    | .Call (.Name n _) [.Call (.Name m _) [u, v] [] _] [] _ => !C.hot && namB C n && (n == ("list" : Str)) && C.blt.contains n && namB C m && (m == ("zip" : Str)) && C.blt.contains m && okE a C u && okE b C v
    | _ => false
  | .lc x tg it cd own, C, e => match e with
    | .ListComp elt [⟨t, iter, ifs, z⟩] scope _ => (z == 0) && !C.hot && okI it C (isTupE t) iter && blkC C.N C.sc scope (ownP C.N own) && decide ((ownP C.N own).map (·.2) = own) &&
        okTg tg (blkCc C scope) own t && okC cd (blkCc C scope) ifs && okE x (blkCc C scope) elt
    | _ => false
  | .exIs i tp cs kn, C, e => match e with
    | .Call (.Name x _) [.Name n _, u] [] _ => C.hot && namB C x && (x == ("isinstance" : Str)) && C.blt.contains x && slotB C i n && visB C.sc n && dbgB n && kn.all (fun k => (knOf C.cls).contains k) && (match tp, u with
      | true, .Tuple es _ _ => clsesB C cs es && decide (es.length ≤ 1000)
      | false, u => clsesB C cs [u]
      | _, _ => false)
    | _ => false
  | .exVe i kn, C, e => match e with
    | .Call (.Name x _) [.Name n _, .Name y _] [] _ => C.hot && namB C x && (x == ("isinstance" : Str)) && C.blt.contains x && slotB C i n && visB C.sc n && dbgB n && kn.all (fun k => (knOf C.cls).contains k) && namB C y && (y == ("ValueError" : Str)) && C.blt.contains y
    | _ => false
  | .exFld _ _, _, _ => false
def okEs : Es → Cc → List Expr → Bool
  | .nil, _, xs => xs.isEmpty
  | .cons e es, C, xs => match xs with
    | x :: r => okE e C x && okEs es C r
    | [] => false
def okO : Eo → Cc → Option Expr → Bool
  | .none, _, o => o.isNone
  | .some e, C, o => match o with
    | some x => okE e C x
    | none => false
def okC : Eo → Cc → List Expr → Bool
  | .none, _, xs => xs.isEmpty
  | .some e, C, xs => match xs with
    | [x] => okE e C x
    | _ => false
def okI : It → Cc → Bool → Expr → Bool
  | .seq e, C, _, x => okE e C x
  | .rng1 e, C, _, x => match x with
    | .Call (.Name n _) [a] [] _ => namB C n && (n == ("range" : Str)) && C.blt.contains n && okE e C a
    | _ => false
  | .rng2 e f, C, _, x => match x with
    | .Call (.Name n _) [a, b] [] _ => namB C n && (n == ("range" : Str)) && C.blt.contains n && okE e C a && okE f C b
    | _ => false
  | .rng3 e f g, C, _, x => match x with
    | .Call (.Name n _) [a, b, d] [] _ => namB C n && (n == ("range" : Str)) && C.blt.contains n && okE e C a && okE f C b && okE g C d
    | _ => false
  | .enm e, C, t, x => match x with
    | .Call (.Name n _) [a] [] _ => t && namB C n && (n == ("enumerate" : Str)) && C.blt.contains n && okE e C a
    | _ => false
  | .zip e f, C, t, x => match x with
    | .Call (.Name n _) [a, b] [] _ => t && namB C n && (n == ("zip" : Str)) && C.blt.contains n && okE e C a && okE f C b
    | _ => false
end
section
variable (K : PySem.W.Frag) (ca : Nat → Addr) (hd : Hd) (c : Call) (W : WX)
/-- the reading of an evaluation -/
def rdX {A B : Type} (rel : List Addr → Hp → A → B → Prop) (ev : Ev → Sto → R A) : L2.St → Hp → (B → Hp → Prop) → Prop := fun sg H Q =>
  ∃ th S r, Sim K ca hd th H S r sg ∧ Po K ca th H rel (fun cls dd H' => W cls dd sg H') Q (ev r S)
abbrev relEq {A : Type} : List Addr → Hp → A → A → Prop := fun _ _ a b => a = b
abbrev rdE (m : E) : TE := rdX K ca hd W (RV K ca) (evE c m)
abbrev rdEs (m : Es) : TA := rdX K ca hd W (RVs K ca) (evEs c m)
abbrev rdT (m : E) : TT := rdX K ca hd W relEq (evT c m)
/-- a def's promise -/
def spOf (f n : Nat) : Sp := fun vs H Q E => ∃ th S ds, Rep K ca th H S ∧ RVs K ca th H ds vs ∧ ds.length = n ∧ Po K ca th H (RV K ca) (fun cls dd H' => E cls dd H') Q (c f ds S)
end
/-- a class that is named -/
structure ClF (K : PySem.W.Frag) (mg : Str → Option Value) (C : Addr) (x : Str) : Prop where
  m : mg x = some (.ref C)
  hd : PySem.W.hasDictIn K C = true
  ty : PySem.W.typeIn K (.ref C) = some (.type "type")
  ex : PySem.W.subIn K (.ref C) (.type "BaseException") = some true
/-- a class that is raised -/
structure KnF (K : PySem.W.Frag) (ca : Nat → Addr) (cls : List (Str × Nat × Bool)) (k : Nat) : Prop where
  ec : ExcC K (ca k)
  kp : PySem.W.keepIn K (.ref (ca k)) = true
  own : noFld k = true → PySem.W.excIn K (ca k) [.type "ValueError", .type "Exception", .type "BaseException", .type "object"] "ValueError.__new__" = true
  ty : PySem.W.typeIn K (.ref (ca k)) = some (.type "type")
  ex : PySem.W.subIn K (.ref (ca k)) (.type "BaseException") = some true
  ve : PySem.W.subIn K (.ref (ca k)) (.type "ValueError") = some true
  self : PySem.W.subIn K (.ref (ca k)) (.ref (ca k)) = some true
  rel : ∀ y j b, cls.lookup y = some (j, b) → PySem.W.subIn K (.ref (ca k)) (.ref (ca j)) = some (subC k j)
/-- isinstance(e, c), isinstance(e, (c, ..)) of the exception at a -/
def rIsEX (K : PySem.W.Frag) (D a : Addr) : List V → Hp → VK → Prop := fun xs H Q =>
  (∃ (c : V) (cv : Value) (b : Bool), xs = [.ref a, c] ∧ ClsV c cv ∧ PySem.W.kitOne K (.ref D) cv = some b ∧ Q (.bl b) H) ∨
    ∃ (tp : Addr) (cs : List V) (us : List Value) (b : Bool), xs = [.ref a, .ref tp] ∧ SqT K H tp cs ∧ Paired ClsV cs us ∧ PySem.W.kitAny K (.ref D) us = some b ∧ Q (.bl b) H
/-- a dict of the module: what it tells -/
def KdF (K : PySem.W.Frag) (w : World) (d : D) (v : V) : Prop := ∀ kvs, d = .kd kvs → ∃ a es n, v = .ref a ∧ KDict K w a es n ∧ ∀ z i, kvs.lookup z = some i → ∃ u, PySem.W.nsIn K a z = some (some u) ∧ RelV (.int i) u
/-- the context is as the checker knows it -/
structure XC (X : Cx) (C : Cc) (c : Call) (ca : Nat → Addr) (W : WX) (hd : Hd) : Prop where
  hN : X.N = C.N
  nd : X.N.Nodup
  sc : X.env.scope = C.sc
  calm : C.hot = false → X.calm = true
  fn : ∀ x, C.fnB x = true → X.fn x = true
  fns : C.hot = false → ∀ x f n, C.fns.lookup x = some (f, n) → ∃ k fA fd ps, Room k X.A ∧ X.mg x = some (.ref fA) ∧ PySem.W.keepIn X.K (.ref fA) = true ∧ Binds X.K fd ps [] ∧ ps.length = n ∧
    FnOk X.prog X.w X.K X.mg X.base (L2.CX X.prog X.w) k fA fd ps (spOf X.K ca c f n)
  cons : ∀ x d, C.cons.lookup x = some d → ∃ u v, X.mg x = some u ∧ RelV v u ∧ (∀ th H, RV X.K ca th H d v) ∧ KdF X.K X.w d v
  blt : ∀ x, C.blt.contains x = true → X.mg x = none
  takes : Takes X W
  un : X.A.units + 65 < cLine
  cold : C.hot = false → hd = none
  hotI : ∀ a D, hd = some (a, .ref D, none) → ExcC X.K D → CallR X (.builtin "isinstance") (rIsEX X.K D a)
  clf : ∀ y j b, C.cls.lookup y = some (j, b) → ClF X.K X.mg (ca j) y
  knf : ∀ k, k ∈ knOf C.cls → KnF X.K ca C.cls k
theorem PE.imp {X : Cx} {e : Expr} {t t' : TE} (h : PE X e t) (k : ∀ s H Q, t' s H Q → t s H Q) : PE X e t' := ⟨fun pins s sg H Q I q => h.run pins s sg H Q I (k _ _ _ q)⟩
theorem PT.imp {X : Cx} {e : Expr} {t t' : TT} (h : PT X e t) (k : ∀ s H Q, t' s H Q → t s H Q) : PT X e t' := ⟨fun pins s sg H Q I q => h.run pins s sg H Q I (k _ _ _ q)⟩
theorem PW.imp {X : Cx} {e : Expr} {t t' : TT} (h : PW X e t) (k : ∀ s H Q, t' s H Q → t s H Q) : PW X e t' := ⟨fun w pins s sg H Q I q => h.run w pins s sg H Q I (k _ _ _ q)⟩
theorem PA.imp {X : Cx} {e : List Expr} {t t' : TA} (h : PA X e t) (k : ∀ s H Q, t' s H Q → t s H Q) : PA X e t' := ⟨fun p pins s sg H Q I q => h.run p pins s sg H Q I (k _ _ _ q)⟩
theorem PTs.imp {X : Cx} {e : List Expr} {t t' : TT} (h : PTs X e t) (k : ∀ s H Q, t' s H Q → t s H Q) : PTs X e t' := ⟨fun pins s sg H Q I q => h.run pins s sg H Q I (k _ _ _ q)⟩
theorem PO.imp {X : Cx} {e : Option Expr} {t t' : TO} (h : PO X e t) (k : ∀ s H Q, t' s H Q → t s H Q) : PO X e t' := ⟨fun pins s sg H Q I q => h.run pins s sg H Q I (k _ _ _ q)⟩
theorem PI.imp {X : Cx} {tg e : Expr} {t t' : TI} (h : PI X tg e t) (k : ∀ s H Q, t' s H Q → t s H Q) : PI X tg e t' := ⟨fun pins s sg H Q I q => h.run pins s sg H Q I (k _ _ _ q)⟩
theorem PG.imp {X : Cx} {e : Expr} {t t' : TG} (h : PG X e t) (k : ∀ v s H Q, t' v s H Q → t v s H Q) : PG X e t' := ⟨fun pins s sg H v u Q I r q => h.run pins s sg H v u Q I r (k _ _ _ _ q)⟩
theorem PGs.imp {X : Cx} {e : List Expr} {t t' : TGs} (h : PGs X e t) (k : ∀ v s H Q, t' v s H Q → t v s H Q) : PGs X e t' := ⟨fun pins s sg H v u Q I r q => h.run pins s sg H v u Q I r (k _ _ _ _ q)⟩
theorem PS.imp {X : Cx} {e : Stmt} {t t' : TS} (h : PS X e t) (k : ∀ D s H, t' D s H → t D s H) : PS X e t' := ⟨fun pins s sg H D I q => h.run pins s sg H D I (k _ _ _ q)⟩
theorem PSs.imp {X : Cx} {e : List Stmt} {t t' : TS} (h : PSs X e t) (k : ∀ D s H, t' D s H → t D s H) : PSs X e t' := ⟨fun pins s sg H D I q => h.run pins s sg H D I (k _ _ _ q)⟩
theorem visB_ok {sc : Scope} {x : Str} (h : visB sc x = true) : Vis sc x := by
  unfold visB at h
  split at h
  · rename_i e; exact .inl e
  · rename_i e; exact .inr (.inl e)
  · rename_i e; exact .inr (.inr e)
  · cases h
theorem locB_ok {sc : Scope} {x : Str} (h : locB sc x = true) : Loc sc x := by
  unfold locB at h
  split at h
  · rename_i e; exact .inl e
  · rename_i e; exact .inr e
  · cases h
theorem lclB_ok {sc : Scope} {x : Str} (h : lclB sc x = true) : sc.names.lookup x = some .local := by
  unfold lclB at h
  split at h
  · assumption
  · cases h
theorem glbB_ok {sc : Scope} {x : Str} (h : glbB sc x = true) : sc.names.lookup x = some .globalImplicit := by
  unfold glbB at h
  split at h
  · assumption
  · cases h
theorem dbgB_ok {x : Str} (h : dbgB x = true) : (x == ("__debug__" : Str)) = false ∧ (x == ("__classdict__" : Str)) = false ∧ x ≠ ("__name__" : Str) := by
  unfold dbgB at h
  simp only [Bool.and_eq_true, Bool.not_eq_true', decide_eq_true_eq] at h
  exact ⟨h.1.1, h.1.2, h.2⟩
section
variable {X : Cx} {C : Cc} {c : Call} {ca : Nat → Addr} {W : WX}
variable {hd : Hd}
theorem XC.gl (h : XC X C c ca W hd) {x : Str} (n : namB C x = true) : Gl X x ∧ (x == ("__debug__" : Str)) = false ∧ x ≠ ("__name__" : Str) := by
  unfold namB at n
  rw [Bool.and_eq_true] at n
  refine ⟨?_, (dbgB_ok n.2).1, (dbgB_ok n.2).2.2⟩
  have q := glbB_ok n.1
  rw [← h.sc] at q
  exact q
theorem XC.slot (h : XC X C c ca W hd) {i : Nat} {x : Str} (n : slotB C i x = true) : X.N[i]? = some x := by
  rw [h.hN]
  exact of_decide_eq_true n
theorem XC.setOk (h : XC X C c ca W hd) {i : Nat} {x : Str} (n : setB C i x = true) : X.N[i]? = some x ∧ Loc X.env.scope x ∧ (X.fn x = true ∨ X.env.scope.names.lookup x = some .local) := by
  unfold setB at n
  rw [Bool.and_eq_true, Bool.and_eq_true, Bool.or_eq_true] at n
  refine ⟨h.slot n.1.1, by rw [h.sc]; exact locB_ok n.1.2, ?_⟩
  rcases n.2 with q | q
  · exact .inl (h.fn x q)
  · exact .inr (by rw [h.sc]; exact lclB_ok q)
end
theorem okE_star {m : E} {C : Cc} {e : Expr} (h : okE m C e = true) (es : List Expr) (env : Env) : starEach (e :: es) env = (false, eval e env) :: starEach es env := by
  cases e with
  | Starred v p => cases m <;> simp [okE] at h
  | _ => rfl
theorem okEs_plain : ∀ {ms : Es} {C : Cc} {es : List Expr}, okEs ms C es = true → ∀ (pos : Pos) (env : Env), (backTo pos (starEach es env)).any (·.1) = false
  | .nil, C, es, h, pos, env => by
    simp only [okEs, List.isEmpty_iff] at h
    subst h
    rfl
  | .cons m ms, C, es, h, pos, env => by
    cases es with
    | nil => simp [okEs] at h
    | cons e r =>
      simp only [okEs, Bool.and_eq_true] at h
      rw [okE_star h.1]
      have q := okEs_plain h.2 pos env
      simp only [backTo, List.map_cons, List.any_cons] at q ⊢
      simpa using q
theorem okEs_len : ∀ {ms : Es} {C : Cc} {es : List Expr}, okEs ms C es = true → es.length = ms.len
  | .nil, C, es, h => by
    simp only [okEs, List.isEmpty_iff] at h
    subst h
    rfl
  | .cons m ms, C, es, h => by
    cases es with
    | nil => simp [okEs] at h
    | cons e r =>
      simp only [okEs, Bool.and_eq_true] at h
      simp only [List.length_cons, Es.len, okEs_len h.2]
theorem okEs_all : ∀ {ms : Es} {C : Cc} {es : List Expr}, okEs ms C es = true → ∀ (pos : Pos) (env : Env), (backTo pos (starEach es env)).all (fun x => !x.1) = true
  | .nil, C, es, h, pos, env => by
    simp only [okEs, List.isEmpty_iff] at h
    subst h
    rfl
  | .cons m ms, C, es, h, pos, env => by
    cases es with
    | nil => simp [okEs] at h
    | cons e r =>
      simp only [okEs, Bool.and_eq_true] at h
      rw [okE_star h.1]
      have q := okEs_all h.2 pos env
      simp only [backTo, List.map_cons, List.all_cons] at q ⊢
      simpa using q
theorem okE_mark {m : E} {C : Cc} {e : Expr} (h : okE m C e = true) (op : CmpOp) : behindInMarks op e = false := by
  cases e with
  | Set a b p => cases m <;> simp [okE] at h
  | _ => rfl
theorem okE_plainIx {m : E} {C : Cc} {e : Expr} (h : okE m C e = true) : PlainIx e := by
  intro o i
  cases e with
  | Slice a b d p => cases m <;> simp [okE] at h
  | _ => rfl
theorem okE_set {m : E} {C : Cc} {e : Expr} (h : okE m C e = true) (env : Env) (x : Value) : foldedSetIterable e env x = pure x := by
  cases e with
  | Set a b p => cases m <;> simp [okE] at h
  | _ => rfl
theorem recvB_ok {e : Expr} (h : recvB e = true) (x : Str) (env : Env) : attributeBase e x env (eval e env) = eval e env := by
  unfold attributeBase
  split
  · simp [recvB] at h
  · rfl
theorem nocoB_ok {e : Expr} (h : nocoB e = true) (t : Option Expr) (l : Nat) (env : Env) : swapsWith e t l env = pure false := by
  cases e <;> first | rfl | (cases h)
section
variable {X : Cx} {ca : Nat → Addr} {Wx : Value → Option Addr → Hp → Prop}
def rKin (K : PySem.W.Frag) (ca : Nat → Addr) (Wx : Value → Option Addr → Hp → Prop) (neg : Bool) (kvs : List (Str × Int)) (dd : Addr) : R2 := fun x y H Q =>
  ∃ th S a, Rep K ca th H S ∧ RV K ca th H a x ∧ y = .ref dd ∧ Po K ca th H (RV K ca) Wx Q (kinD S neg kvs a)
theorem op_kin (neg : Bool) {kvs : List (Str × Int)} {dd : Addr} {es : Array DictEntry} {n : Nat} (D : KDict X.K X.w dd es n) (hz : ∀ z i, kvs.lookup z = some i → ∃ u, PySem.W.nsIn X.K dd z = some (some u) ∧ RelV (.int i) u) :
    OpR X (compareOp (if neg = true then .NotIn else .In)) (rKin X.K ca Wx neg kvs dd) := by
  intro pins s sg H x y v u Q I rx ry h
  obtain ⟨th, S, a, R, ha, rfl, h⟩ := h
  unfold kinD at h
  split at h
  · rename_i z
    split at h
    · rename_i i hi
      obtain ⟨u0, h1, h2⟩ := hz z i hi
      cases ha.str_inv
      cases neg with
      | true => exact op_notIn_kd D pins s sg H _ _ v u Q I rx ry ⟨z, some u0, rfl, rfl, h1, h.ok R (.bl _)⟩
      | false => exact op_in_kd D pins s sg H _ _ v u Q I rx ry ⟨z, some u0, rfl, rfl, h1, h.ok R (.bl _)⟩
    · exact h.elim
  · exact h.elim
def rKix (K : PySem.W.Frag) (ca : Nat → Addr) (Wx : Value → Option Addr → Hp → Prop) (kvs : List (Str × Int)) (dd : Addr) : R2 := fun x y H Q =>
  ∃ th S a, Rep K ca th H S ∧ x = .ref dd ∧ RV K ca th H a y ∧ Po K ca th H (RV K ca) Wx Q (kixD S kvs a)
theorem ix_kix {kvs : List (Str × Int)} {dd : Addr} {es : Array DictEntry} {n : Nat} (D : KDict X.K X.w dd es n) (hz : ∀ z i, kvs.lookup z = some i → ∃ u, PySem.W.nsIn X.K dd z = some (some u) ∧ RelV (.int i) u) :
    IxR X (rKix X.K ca Wx kvs dd) := by
  intro value slice pins s sg H x y v u Q I rx ry h hs
  obtain ⟨th, S, a, R, rfl, ha, h⟩ := h
  unfold kixD at h
  split at h
  · rename_i z
    split at h
    · rename_i i hi
      obtain ⟨u0, h1, h2⟩ := hz z i hi
      cases ha.str_inv
      exact ix_kdict value slice pins s sg H _ _ v u Q I rx ry ⟨dd, z, .int i, rfl, rfl, ⟨es, n, u0, D.at_, D.lit, h1, h2⟩, h.ok R (.int i)⟩ hs
    · exact h.elim
  · exact h.elim
end
end HP
namespace HP
open PySem L2 PySem.Spec PyProof.Rows
mutual
def Tg.slots : Tg → List Nat
  | .name i => [i]
  | .tup ts => ts.slots
def Tgs.slots : Tgs → List Nat
  | .nil => []
  | .cons t ts => t.slots ++ ts.slots
end
/-- the same but for these slots -/
def Off (ss : List Nat) (sg sg' : L2.St) : Prop := sg'.length = sg.length ∧ ∀ i, i ∉ ss → sg'[i]? = sg[i]?
theorem Off.refl (sg : L2.St) : Off [] sg sg := ⟨rfl, fun _ _ => rfl⟩
theorem Off.trans {a b : List Nat} {s1 s2 s3 : L2.St} (h : Off a s1 s2) (k : Off b s2 s3) : Off (a ++ b) s1 s3 :=
  ⟨k.1.trans h.1, fun i hi => by
    rw [List.mem_append, not_or] at hi
    rw [k.2 i hi.2, h.2 i hi.1]⟩
theorem Off.set (sg : L2.St) (i : Nat) (v : Option V) : Off [i] sg (sg.set i v) := ⟨by simp, fun j hj => by
  have : i ≠ j := fun z => hj (by simp [z])
  rw [List.getElem?_set_ne this]⟩
theorem wipe_get {sg : L2.St} : ∀ {vs : List Nat} {i : Nat}, (L2.wipe sg vs)[i]? = if i ∈ vs then (if i < sg.length then some none else none) else sg[i]?
  | [], i => by simp [L2.wipe]
  | v :: vs, i => by
    unfold L2.wipe
    by_cases h : v = i
    · subst h
      by_cases hl : v < sg.length
      · rw [List.getElem?_set_self (by rw [wipe_length]; exact hl)]
        simp [hl]
      · rw [List.getElem?_eq_none (by rw [List.length_set, wipe_length]; omega)]
        simp [hl]
    · rw [List.getElem?_set_ne h, wipe_get]
      have : i ≠ v := fun z => h z.symm
      simp [this]
theorem wipe_off {a vs : List Nat} {s1 s2 : L2.St} (h : Off a (L2.wipe s1 vs) s2) (k : ∀ i ∈ a, i ∈ vs) : L2.wipe s2 vs = L2.wipe s1 vs := by
  have hl := h.1
  rw [wipe_length] at hl
  apply List.ext_getElem?
  intro i
  rw [wipe_get, wipe_get]
  by_cases hi : i ∈ vs
  · rw [if_pos hi, if_pos hi, hl]
  · rw [if_neg hi, if_neg hi, h.2 i (fun z => hi (k i z)), wipe_get, if_neg hi]
section
variable {K : PySem.W.Frag} {ca : Nat → Addr} {hd : Hd}
def rdG (K : PySem.W.Frag) (ca : Nat → Addr) (hd : Hd) (t : Tg) : TG := fun v sg H Q => ∃ th S r d r', Sim K ca hd th H S r sg ∧ RV K ca th H d v ∧ asgT t d r = some r' ∧ ∀ sg', Sim K ca hd th H S r' sg' → Off t.slots sg sg' → Q sg' H
def rdGs (K : PySem.W.Frag) (ca : Nat → Addr) (hd : Hd) (t : Tgs) : TGs := fun vs sg H Q => ∃ th S r ds r', Sim K ca hd th H S r sg ∧ RVs K ca th H ds vs ∧ asgTs t ds r = some r' ∧ ∀ sg', Sim K ca hd th H S r' sg' → Off t.slots sg sg' → Q sg' H
end
section
variable {X : Cx} {c : Call} {ca : Nat → Addr} {W : WX} {hd : Hd}
theorem assignEach_one {t : Tg} {C : Cc} {own : List Nat} {e : Expr} (h : okTg t C own e = true) (es : List Expr) (env : Env) : (assignEach (e :: es) env).map (·.2) = assign e env :: (assignEach es env).map (·.2) := by
  cases e with
  | Starred v p => cases t <;> simp [okTg] at h
  | _ => rfl
theorem assignEach_len {t : Tgs} {C : Cc} {own : List Nat} : ∀ {es : List Expr}, okTgs t C own es = true → ∀ env : Env, (assignEach es env).length = es.length ∧ (assignEach es env).findIdx? (·.1) = none := by
  cases t with
  | nil =>
    intro es h env
    simp only [okTgs, List.isEmpty_iff] at h
    subst h
    exact ⟨rfl, rfl⟩
  | cons t ts =>
    intro es h env
    cases es with
    | nil => simp [okTgs] at h
    | cons e r =>
      simp only [okTgs, Bool.and_eq_true] at h
      obtain ⟨h1, h2⟩ := assignEach_len h.2 env
      have e1 : assignEach (e :: r) env = (false, assign e env) :: assignEach r env := by
        cases e with
        | Starred v p => cases t <;> simp [okTg] at h
        | _ => rfl
      rw [e1]
      refine ⟨by simp [h1], ?_⟩
      rw [List.findIdx?_cons]
      simp [h2]
termination_by structural t
mutual
theorem soundG : ∀ (t : Tg) {C : Cc} {own : List Nat} {e : Expr}, XC X C c ca W hd → okTg t C own e = true → PG X e (rdG X.K ca hd t)
  | .name i, C, own, e, hX, h => by
    cases e with
    | Name x p =>
      simp only [okTg, Bool.and_eq_true] at h
      obtain ⟨h1, h2, h3⟩ := hX.setOk h.1
      refine PG.imp (pg_name (i := i) hX.nd h1 h2 h3) fun v sg H Q q => ?_
      obtain ⟨th, S, r, d, r', m, rv, e1, q⟩ := q
      cases e1
      exact q _ (m.set (.inl rv)) (Off.set _ _ _)
    | _ => simp [okTg] at h
  | .tup ts, C, own, e, hX, h => by
    cases e with
    | Tuple es k p =>
      simp only [okTg, Bool.and_eq_true, Bool.not_eq_true'] at h
      obtain ⟨h1, h2⟩ := assignEach_len h.2 X.env
      refine PG.imp (pg_tup (hX.calm h.1) (soundGs ts hX h.2) h1 h2) fun v sg H Q q => ?_
      obtain ⟨th, S, r, d, r', m, rv, e1, q⟩ := q
      cases d with
      | tup ds =>
        simp only [asgT] at e1
        obtain ⟨a, vs, rfl, hs, hr⟩ := rv.tup_inv
        refine ⟨a, vs, rfl, hs, ?_, th, S, _, ds, r', m, hr, e1, q⟩
        rw [← hr.length]
        exact (asgTs_len ts ds _ r' e1 h.2).symm
      | _ => simp [asgT] at e1
    | _ => simp [okTg] at h
theorem asgTs_len : ∀ (ts : Tgs) (ds : List D) (r r' : Ev), asgTs ts ds r = some r' → ∀ {C : Cc} {own : List Nat} {es : List Expr}, okTgs ts C own es = true → es.length = ds.length
  | .nil, ds, r, r', e, C, own, es, h => by
    simp only [okTgs, List.isEmpty_iff] at h
    subst h
    cases ds with
    | nil => rfl
    | cons d ds => simp [asgTs] at e
  | .cons t ts, ds, r, r', e, C, own, es, h => by
    cases es with
    | nil => simp [okTgs] at h
    | cons x xs =>
      simp only [okTgs, Bool.and_eq_true] at h
      cases ds with
      | nil => simp [asgTs] at e
      | cons d ds =>
        simp only [asgTs] at e
        split at e
        · rename_i r1 e1
          rw [List.length_cons, List.length_cons, asgTs_len ts ds r1 r' e h.2]
        · cases e
theorem soundGs : ∀ (ts : Tgs) {C : Cc} {own : List Nat} {es : List Expr}, XC X C c ca W hd → okTgs ts C own es = true → PGs X es (rdGs X.K ca hd ts)
  | .nil, C, own, es, hX, h => by
    simp only [okTgs, List.isEmpty_iff] at h
    subst h
    refine PGs.imp pgs_nil fun vs sg H Q q => ?_
    obtain ⟨th, S, r, ds, r', m, rv, e1, q⟩ := q
    cases ds with
    | nil =>
      cases e1
      exact ⟨rv.nil_inv, q _ m (Off.refl _)⟩
    | cons d ds => simp [asgTs] at e1
  | .cons t ts, C, own, es, hX, h => by
    cases es with
    | nil => simp [okTgs] at h
    | cons e r =>
      simp only [okTgs, Bool.and_eq_true] at h
      refine PGs.imp (pgs_cons (soundG t hX h.1) (soundGs ts hX h.2) (assignEach_one h.1 _ _)) fun vs sg H Q q => ?_
      obtain ⟨th, S, r, ds, r', m, rv, e1, q⟩ := q
      cases ds with
      | nil => simp [asgTs] at e1
      | cons d ds =>
        simp only [asgTs] at e1
        split at e1
        · rename_i r1 e2
          cases rv with
          | cons h1 h2 =>
            rename_i v vs
            exact ⟨v, vs, rfl, th, S, r, d, r1, m, h1, e2, fun sg' m' o => ⟨th, S, r1, ds, r', m', h2, e1, fun sg2 m2 o2 => q sg2 m2 (o.trans o2)⟩⟩
        · cases e1
end
/-- .. a list taken apart -/
def rdGL (K : PySem.W.Frag) (ca : Nat → Addr) (hd : Hd) (t : Tg) : TG := fun v sg H Q => ∃ th S r d r', Sim K ca hd th H S r sg ∧ RV K ca th H d v ∧ asgT t (unL S d) r = some r' ∧ ∀ sg', Sim K ca hd th H S r' sg' → Off t.slots sg sg' → Q sg' H
theorem soundGL (ts : Tgs) {C : Cc} {own : List Nat} {e : Expr} (hX : XC X C c ca W hd) (h : okTg (.tup ts) C own e = true) : PG X e (rdGL X.K ca hd (.tup ts)) := by
  refine ⟨fun pins s sg H v u Q I ru q => ?_⟩
  have hG := soundG (.tup ts) (hd := hd) hX h
  obtain ⟨th, S, r, d, r', m, rv, e1, q⟩ := q
  cases d with
  | loc l =>
    simp only [unL] at e1
    split at e1
    · rename_i ds he
      obtain ⟨a, vs, rfl, h0, h1, hr⟩ := rv.lst_inv m.rep he
      cases e with
      | Tuple es k p =>
        simp only [okTg, Bool.and_eq_true, Bool.not_eq_true'] at h
        obtain ⟨g1, g2⟩ := assignEach_len h.2 X.env
        simp only [asgT] at e1
        refine (pg_lst (hX.calm h.1) (soundGs ts (hd := hd) hX h.2) g1 g2).run pins s sg H _ u Q I ru ⟨a, vs, rfl, .inl (.inl h1), ?_, th, S, _, ds, r', m, hr, e1, q⟩
        rw [← hr.length]
        exact (asgTs_len (X := X) (c := c) (ca := ca) (W := W) (hd := hd) ts ds _ r' e1 h.2).symm
      | _ => simp [okTg] at h
    · simp [asgT] at e1
  | _ => exact hG.run pins s sg H v u Q I ru ⟨th, S, r, _, r', m, rv, e1, q⟩
end
end HP
namespace HP
open PySem L2 PySem.Spec PyProof.Rows
section
variable {K : PySem.W.Frag} {ca : Nat → Addr} {hd : Hd}
/-- the iterator J walks ds, as long as the lists ck stand still -/
structure ItOk (K : PySem.W.Frag) (ca : Nat → Addr) (th : List Addr) (H : Hp) (p : List D × Ck) (J : L2.It) : Prop where
  go : ∀ th' H' S', Go th H th' H' → Rep K ca th' H' S' → Still p.2 S' → ∀ (i : Nat) (d : D), p.1[i]? = some d → J.go i H' ∧ ∀ x H2, J.yld i H' x H2 → Go th' H' th' H2 ∧ Rep K ca th' H2 S' ∧ RV K ca th' H2 d x
  stop : ∀ th' H' S', Go th H th' H' → Rep K ca th' H' S' → Still p.2 S' → J.stop p.1.length H'
theorem ItOk.later {th th1 : List Addr} {H H1 : Hp} {p : List D × Ck} {J : L2.It} (g : Go th H th1 H1) (h : ItOk K ca th H p J) : ItOk K ca th1 H1 p J :=
  ⟨fun th' H' S' g' => h.go th' H' S' (g.trans g'), fun th' H' S' g' => h.stop th' H' S' (g.trans g')⟩
abbrev relI (K : PySem.W.Frag) (ca : Nat → Addr) : List Addr → Hp → List D × Ck → L2.It → Prop := fun th H p J => ItOk K ca th H p J
section
variable {X : Cx} {pins : List (Addr × Obj)} {sg : L2.St} {H : Hp} {s : Shared}
theorem still_one {S : Sto} {l : Nat} {ds : List D} (h : Still [(l, ds)] S) : S[l]? = some (.lst ds) := h (l, ds) (by simp)
theorem still_app {S : Sto} {a b : Ck} (h : Still (a ++ b) S) : Still a S ∧ Still b S := ⟨fun p hp => h p (List.mem_append_left _ hp), fun p hp => h p (List.mem_append_right _ hp)⟩
end
/-- a list that is walked: what its items are at any turn -/
def LstAt (K : PySem.W.Frag) (ca : Nat → Addr) (th : List Addr) (H : Hp) (a : Addr) (p : List D × Ck) : Prop :=
  ∀ th' H' S', Go th H th' H' → Rep K ca th' H' S' → Still p.2 S' → ∃ vs, SqL K H' a vs ∧ RVs K ca th' H' p.1 vs
theorem itLst_ok {th : List Addr} {H : Hp} {S : Sto} {d : D} {v : V} {p : List D × Ck} (R : Rep K ca th H S) (rv : RV K ca th H d v) (e : itLst S d = some p) : ∃ a vs, v = .ref a ∧ SqL K H a vs ∧ LstAt K ca th H a p := by
  cases d with
  | frl ds =>
    cases e
    obtain ⟨a, vs, rfl, h1, h2⟩ := rv.frl_inv
    exact ⟨a, vs, rfl, h1.sq, fun th' H' S' g R' _ => ⟨vs, (g.frm.fz h1).sq, h2.go g⟩⟩
  | loc l =>
    unfold itLst at e
    dsimp only at e
    split at e
    · rename_i ds he
      cases e
      obtain ⟨a, vs, rfl, h0, h1, h2⟩ := rv.lst_inv R he
      refine ⟨a, vs, rfl, .inl (.inl h1), fun th' H' S' g R' st => ?_⟩
      obtain ⟨ws, h3, h4⟩ := R'.obj l a _ (g.at h0) (still_one st)
      exact ⟨ws, .inl (.inl h3), h4⟩
    · cases e
  | _ => cases e
variable {X : Cx}
theorem itl_ok {th : List Addr} {H : Hp} {a : Addr} {p : List D × Ck} (h : LstAt K ca th H a p) : ItOk K ca th H p (Itl K a) := by
  refine ⟨fun th' H' S' g R st i d hd => ?_, fun th' H' S' g R st => ?_⟩
  · obtain ⟨vs, h1, h2⟩ := h th' H' S' g R st
    obtain ⟨v, h3, h4⟩ := h2.get hd
    refine ⟨⟨vs, v, h1, h3⟩, fun x H2 y => ?_⟩
    obtain ⟨rfl, y⟩ := y
    have e : x = v := Option.some.inj ((y vs h1).symm.trans h3)
    subst e
    exact ⟨Go.refl _ _, R, h4⟩
  · obtain ⟨vs, h1, h2⟩ := h th' H' S' g R st
    exact ⟨vs, h1, by rw [h2.length]; exact Nat.le_refl _⟩
theorem itt_ok {th : List Addr} {H : Hp} {a : Addr} {ds : List D} {vs : List V} (h1 : SqT K H a vs) (h2 : RVs K ca th H ds vs) : ItOk K ca th H (ds, []) (Itt K a) := by
  refine ⟨fun th' H' S' g R st i d hd => ?_, fun th' H' S' g R st => ?_⟩
  · obtain ⟨v, h3, h4⟩ := (h2.go g).get hd
    have h1' := g.frm.sqT h1
    refine ⟨⟨vs, v, h1', h3⟩, fun x H2 y => ?_⟩
    obtain ⟨rfl, y⟩ := y
    have e : x = v := Option.some.inj ((y vs h1').symm.trans h3)
    subst e
    exact ⟨Go.refl _ _, R, h4⟩
  · exact ⟨vs, g.frm.sqT h1, by rw [← h2.length]; exact Nat.le_refl _⟩
theorem its_ok {th : List Addr} {H : Hp} {z : Str} : ItOk K ca th H (z.cps.toList.map fun c => D.str ⟨#[c]⟩, []) (Its z) := by
  refine ⟨fun th' H' S' g R st i d hd => ?_, fun th' H' S' g R st => ?_⟩
  · have hd' : (z.cps.toList.map fun c => D.str ⟨#[c]⟩)[i]? = some d := hd
    rw [List.getElem?_map] at hd'
    obtain ⟨c, h1, h2⟩ := map_some hd'
    have hc : z.cps[i]? = some c := by rw [← h1, Array.getElem?_toList]
    refine ⟨(Array.getElem?_eq_some_iff.mp hc).1, fun x H2 y => ?_⟩
    obtain ⟨rfl, c', h3, h4⟩ := y
    rw [hc] at h3
    cases h3
    subst h2 h4
    exact ⟨Go.refl _ _, R, .str _⟩
  · show z.cps.size ≤ _
    simp
theorem rngL_get {lo : Int} {n i : Nat} {d : D} (h : (rngL lo n)[i]? = some d) : i < n ∧ d = .int (lo + (i : Nat)) := by
  unfold rngL at h
  rw [List.getElem?_map] at h
  obtain ⟨j, h1, h2⟩ := map_some h
  obtain ⟨h3, h4⟩ := List.getElem?_eq_some_iff.mp h1
  rw [List.length_range] at h3
  rw [List.getElem_range] at h4
  subst h4
  exact ⟨h3, h2.symm⟩
theorem rngL_len {lo : Int} {n : Nat} : (rngL lo n).length = n := by simp [rngL]
theorem itr_ok {th : List Addr} {H : Hp} {lo : Int} {n : Nat} : ItOk K ca th H (rngL lo n, []) (Itr lo n) := by
  refine ⟨fun th' H' S' g R st i d hd => ?_, fun th' H' S' g R st => ?_⟩
  · obtain ⟨h1, h2⟩ := rngL_get hd
    refine ⟨h1, fun x H2 y => ?_⟩
    obtain ⟨rfl, rfl⟩ := y
    subst h2
    exact ⟨Go.refl _ _, R, .int _⟩
  · show n ≤ _
    rw [rngL_len]
    exact Nat.le_refl _
theorem itrC_ok {th : List Addr} {H : Hp} {lo c : Int} {n : Nat} : ItOk K ca th H (rngC lo c n, []) (Itc lo c n) := by
  refine ⟨fun th' H' S' g R st i d hd => ?_, fun th' H' S' g R st => ?_⟩
  · have hd' : (rngC lo c n)[i]? = some d := hd
    unfold rngC at hd'
    rw [List.getElem?_map] at hd'
    obtain ⟨j, h1, h2⟩ := map_some hd'
    obtain ⟨h3, h4⟩ := List.getElem?_eq_some_iff.mp h1
    rw [List.length_range] at h3
    rw [List.getElem_range] at h4
    subst h4
    refine ⟨h3, fun x H2 y => ?_⟩
    obtain ⟨rfl, rfl⟩ := y
    subst h2
    exact ⟨Go.refl _ _, R, .int _⟩
  · show n ≤ _
    simp [rngC]
theorem enmL_get : ∀ {ds : List D} {n i : Nat} {d : D}, (enmL n ds)[i]? = some d → ∃ e, ds[i]? = some e ∧ d = .tup [.int ((n + i : Nat) : Int), e]
  | [], n, i, d, h => by simp [enmL] at h
  | x :: ds, n, 0, d, h => by
    simp [enmL] at h
    exact ⟨x, by simp, by rw [← h]; simp⟩
  | x :: ds, n, i + 1, d, h => by
    simp only [enmL, List.getElem?_cons_succ] at h
    obtain ⟨e, h1, h2⟩ := enmL_get h
    refine ⟨e, by simpa using h1, ?_⟩
    rw [h2]
    have : n + 1 + i = n + (i + 1) := by omega
    rw [this]
theorem enmL_len : ∀ {ds : List D} {n : Nat}, (enmL n ds).length = ds.length
  | [], n => rfl
  | x :: ds, n => by simp [enmL, enmL_len]
theorem ite_ok {th : List Addr} {H : Hp} {a : Addr} {ds : List D} {ck : Ck} (h : LstAt K ca th H a (ds, ck)) : ItOk K ca th H (enmL 0 ds, ck) (Ite K a) := by
  refine ⟨fun th' H' S' g R st i d hd => ?_, fun th' H' S' g R st => ?_⟩
  · obtain ⟨vs, h1, h2⟩ := h th' H' S' g R st
    obtain ⟨e, h5, h6⟩ := enmL_get hd
    obtain ⟨v, h3, h4⟩ := h2.get h5
    refine ⟨⟨vs, v, h1, h3⟩, fun x H2 y => ?_⟩
    obtain ⟨T, w, rfl, hT, rfl, y⟩ := y
    have e1 : w = v := Option.some.inj ((y vs h1).symm.trans h3)
    subst e1
    subst h6
    refine ⟨Go.lay hT, R.lay hT, .tup (.inl (.inl upd_same)) (.inr upd_same) (.cons ?_ (.one (h4.go (Go.lay hT))))⟩
    rw [Nat.zero_add]
    exact .int _
  · obtain ⟨vs, h1, h2⟩ := h th' H' S' g R st
    refine ⟨vs, h1, ?_⟩
    show vs.length ≤ (enmL 0 ds).length
    have q : ds.length = vs.length := h2.length
    rw [enmL_len, q]
    exact Nat.le_refl _
theorem zipL_get : ∀ {as bs : List D} {i : Nat} {d : D}, (zipL as bs)[i]? = some d → ∃ x y, as[i]? = some x ∧ bs[i]? = some y ∧ d = .tup [x, y]
  | [], bs, i, d, h => by simp [zipL] at h
  | a :: as, [], i, d, h => by simp [zipL] at h
  | a :: as, b :: bs, 0, d, h => by
    simp [zipL] at h
    exact ⟨a, b, by simp, by simp, h.symm⟩
  | a :: as, b :: bs, i + 1, d, h => by
    simp only [zipL, List.getElem?_cons_succ] at h
    obtain ⟨x, y, h1, h2, h3⟩ := zipL_get h
    exact ⟨x, y, by simpa using h1, by simpa using h2, h3⟩
theorem zipL_len : ∀ {as bs : List D}, (zipL as bs).length = min as.length bs.length
  | [], bs => by simp [zipL]
  | a :: as, [] => by simp [zipL]
  | a :: as, b :: bs => by simp [zipL, zipL_len]
theorem itz_ok {th : List Addr} {H : Hp} {a b : Addr} {xs ys : List D} {ck ck2 : Ck} (h : LstAt K ca th H a (xs, ck)) (k : LstAt K ca th H b (ys, ck2)) : ItOk K ca th H (zipL xs ys, ck ++ ck2) (Itz K a b) := by
  refine ⟨fun th' H' S' g R st i d hd => ?_, fun th' H' S' g R st => ?_⟩
  · obtain ⟨vs, h1, h2⟩ := h th' H' S' g R (still_app st).1
    obtain ⟨ws, k1, k2⟩ := k th' H' S' g R (still_app st).2
    obtain ⟨x, y, h5, h6, h7⟩ := zipL_get hd
    obtain ⟨v, h3, h4⟩ := h2.get h5
    obtain ⟨w, k3, k4⟩ := k2.get h6
    refine ⟨⟨vs, ws, v, w, h1, k1, h3, k3⟩, fun z H2 y => ?_⟩
    obtain ⟨T, v', w', rfl, hT, rfl, y1, y2⟩ := y
    have e1 : v' = v := Option.some.inj ((y1 vs h1).symm.trans h3)
    have e2 : w' = w := Option.some.inj ((y2 ws k1).symm.trans k3)
    subst e1 e2 h7
    exact ⟨Go.lay hT, R.lay hT, .tup (.inl (.inl upd_same)) (.inr upd_same) (.cons (h4.go (Go.lay hT)) (.one (k4.go (Go.lay hT))))⟩
  · obtain ⟨vs, h1, h2⟩ := h th' H' S' g R (still_app st).1
    obtain ⟨ws, k1, k2⟩ := k th' H' S' g R (still_app st).2
    refine ⟨vs, ws, h1, k1, ?_⟩
    show vs.length ≤ (zipL xs ys).length ∨ ws.length ≤ (zipL xs ys).length
    have q1 : xs.length = vs.length := h2.length
    have q2 : ys.length = ws.length := k2.length
    rw [zipL_len]
    omega
theorem itzT_ok {th : List Addr} {H : Hp} {a b : Addr} {xs ys : List D} {vs ws : List V} (h1 : SqT K H a vs) (h2 : RVs K ca th H xs vs) (k1 : SqT K H b ws) (k2 : RVs K ca th H ys ws) : ItOk K ca th H (zipL xs ys, []) (RZ.ItzT K a b) := by
  refine ⟨fun th' H' S' g R st i d hd => ?_, fun th' H' S' g R st => ?_⟩
  · obtain ⟨x, y, h5, h6, h7⟩ := zipL_get hd
    obtain ⟨v, h3, h4⟩ := (h2.go g).get h5
    obtain ⟨w, k3, k4⟩ := (k2.go g).get h6
    have h1' := g.frm.sqT h1
    have k1' := g.frm.sqT k1
    refine ⟨⟨vs, ws, v, w, h1', k1', h3, k3⟩, fun z H2 y => ?_⟩
    obtain ⟨T, v', w', rfl, hT, rfl, y1, y2⟩ := y
    have e1 : v' = v := Option.some.inj ((y1 vs h1').symm.trans h3)
    have e2 : w' = w := Option.some.inj ((y2 ws k1').symm.trans k3)
    subst e1 e2 h7
    exact ⟨Go.lay hT, R.lay hT, .tup (.inl (.inl upd_same)) (.inr upd_same) (.cons (h4.go (Go.lay hT)) (.one (k4.go (Go.lay hT))))⟩
  · refine ⟨vs, ws, g.frm.sqT h1, g.frm.sqT k1, ?_⟩
    show vs.length ≤ (zipL xs ys).length ∨ ws.length ≤ (zipL xs ys).length
    have q1 := h2.length
    have q2 := k2.length
    rw [zipL_len]
    omega
end
abbrev W0 : WX := fun _ _ _ _ => False
theorem drop_get {A : Type} {l : List A} {i : Nat} {x : A} (h : l[i]? = some x) : l.drop i = x :: l.drop (i + 1) := by
  obtain ⟨h1, h2⟩ := List.getElem?_eq_some_iff.mp h
  rw [List.drop_eq_getElem_cons h1, h2]
section
variable {K : PySem.W.Frag} {ca : Nat → Addr} {hd : Hd} {c : Call} {W : WX}
abbrev rdC (K : PySem.W.Frag) (ca : Nat → Addr) (hd : Hd) (c : Call) (W : WX) (m : Eo) : TT := rdX K ca hd W relEq (evC c m)
abbrev rdI (K : PySem.W.Frag) (ca : Nat → Addr) (hd : Hd) (c : Call) (W : WX) (m : It) : TI := rdX K ca hd W (relI K ca) (evI c m)
abbrev rdO (K : PySem.W.Frag) (ca : Nat → Addr) (hd : Hd) (c : Call) (W : WX) (m : Eo) : TO := rdX K ca hd W relEq (evO c m)
theorem tLc_of {x : E} {tg : Tg} {it : It} {cd : Eo} {own : List Nat} (hs : ∀ i ∈ tg.slots, i ∈ own) {sg : L2.St} {H : Hp} {Q : VK} (h : rdE K ca hd c W (.lc x tg it cd own) sg H Q) :
    tLc (rdI K ca hd c W it) (rdG K ca hd tg) (rdC K ca hd c W0 cd) (rdE K ca hd c W0 x) own sg H Q := by
  obtain ⟨th, S, r, m, h⟩ := h
  simp only [evE] at h
  refine ⟨th, S, r, m, Po.bnd h fun p S1 th1 H1 J g1 R1 it1 q D hD => ?_⟩
  obtain ⟨ds, ck⟩ := p
  dsimp only at q
  generalize hf : (fun d S2 => match asgT tg d (wipeD r own) with
        | none => (.bad : R (Option HP.D))
        | some r2 => (evC c cd r2 S2).bnd fun k S3 => if k = true then (evE c x r2 S3).bnd fun y S4 => .ok (some y) S4 else .ok none S3) = f at q
  have hl0 : (th1 ++ [D])[S1.length]? = some D := by rw [← R1.len, List.getElem?_append_right (Nat.le_refl _)]; simp
  refine ⟨fun i n Hc => n + i = ds.length ∧ ∃ th' S', Go (th1 ++ [D]) (upd H1 D (.lst [])) th' Hc ∧ Rep K ca th' Hc S' ∧ Po K ca th' Hc (RV K ca) (fun cls dd H' => W cls dd sg H') Q (compL ck S1.length f (ds.drop i) S'),
    ⟨ds.length, rfl, th1 ++ [D], S1 ++ [O.lst []], Go.refl _ _, R1.new hD (o := O.lst []) (RO.lstI upd_same .nil), by rw [List.drop_zero]; exact Po.later (Go.new hD) q⟩, ?_⟩
  rintro i n Hc ⟨en, th', S', g', R', q'⟩
  have gI : Go th1 H1 th' Hc := (Go.new hD).trans g'
  have hl : th'[S1.length]? = some D := g'.at hl0
  cases e : ds[i]? with
  | none =>
    have hi : ds.length ≤ i := List.getElem?_eq_none_iff.mp e
    have hi' : i = ds.length := by omega
    rw [List.drop_eq_nil_iff.mpr hi] at q'
    unfold compL at q'
    split at q'
    · rename_i st
      refine .inl ⟨?_, q'.ok R' (.loc hl)⟩
      rw [hi']
      exact it1.stop th' Hc S' gI R' st
    · exact q'.elim
  | some d =>
    have hi : i < ds.length := (List.getElem?_eq_some_iff.mp e).1
    rw [drop_get e] at q'
    unfold compL at q'
    split at q'
    · rename_i st
      obtain ⟨g0, y0⟩ := it1.go th' Hc S' gI R' st i d e
      refine .inr ⟨g0, fun H' => (n - 1) + (i + 1) = ds.length ∧ ∃ th2 S2, Go (th1 ++ [D]) (upd H1 D (.lst [])) th2 H' ∧ Rep K ca th2 H' S2 ∧ Po K ca th2 H' (RV K ca) (fun cls dd H' => W cls dd sg H') Q (compL ck S1.length f (ds.drop (i + 1)) S2),
        fun H' hN => ⟨n - 1, by omega, hN⟩, fun v H2 y => ?_⟩
      obtain ⟨g2, R2, rv⟩ := y0 v H2 y
      have ef : f d S' = (match asgT tg d (wipeD r own) with
        | none => (.bad : R (Option HP.D))
        | some r2 => (evC c cd r2 S').bnd fun k S3 => if k = true then (evE c x r2 S3).bnd fun y S4 => .ok (some y) S4 else .ok none S3) := by rw [← hf]
      cases ea : asgT tg d (wipeD r own) with
      | none => rw [ef, ea] at q'; exact q'.elim
      | some r2 =>
        rw [ea] at ef
        dsimp only at ef
        have gA : Go th H th' H2 := (g1.trans gI).trans g2
        have m2 : Sim K ca hd th' H2 S' (wipeD r own) (L2.wipe sg own) := (m.go R2 gA).wipe own
        refine ⟨th', S', _, d, r2, m2, rv, ea, fun sg2 m3 off => ⟨wipe_off off hs, ?_⟩⟩
        have gB : Go (th1 ++ [D]) (upd H1 D (.lst [])) th' H2 := g'.trans g2
        refine ⟨th', S', r2, m3, ?_⟩
        cases ec : evC c cd r2 S' with
        | bad => rw [ef, ec] at q'; exact q'.elim
        | exn y S3 => rw [ef, ec] at q'; exact q'.elim
        | ok k S3 =>
          rw [ec] at ef
          dsimp only [R.bnd] at ef
          refine fun th3 H3 b g3 R3 eb => ?_
          subst eb
          have gC : Go (th1 ++ [D]) (upd H1 D (.lst [])) th3 H3 := gB.trans g3
          cases k with
          | false =>
            rw [if_neg Bool.false_ne_true] at ef
            rw [if_neg Bool.false_ne_true]
            rw [ef] at q'
            exact ⟨by omega, th3, S3, gC, R3, Po.later (g2.trans g3) q'⟩
          | true =>
            rw [if_pos rfl] at ef
            rw [if_pos rfl]
            refine ⟨th3, S3, r2, m3.go R3 g3, ?_⟩
            cases ex : evE c x r2 S3 with
            | bad => rw [ef, ex] at q'; exact q'.elim
            | exn y S3 => rw [ef, ex] at q'; exact q'.elim
            | ok z S4 =>
              rw [ex] at ef
              dsimp only [R.bnd] at ef
              refine fun th4 H4 u g4 R4 ru => ?_
              have gD : Go (th1 ++ [D]) (upd H1 D (.lst [])) th4 H4 := gC.trans g4
              rw [ef] at q'
              dsimp only at q'
              split at q'
              · rename_i acc hacc
                split at q'
                · rename_i hlen
                  have hl4 : th4[S1.length]? = some D := gD.at hl0
                  obtain ⟨vs, h3, h4⟩ := R4.obj _ D _ hl4 hacc
                  have hs : sizeLine = szL := sizeLine_eq
                  have gP : Go th4 H4 th4 (upd H4 D (.lst (vs ++ [u]))) := R4.goPut hl4
                  refine ⟨vs, h3, by rw [hs, ← h4.length]; exact hlen, by omega, th4, _, gD.trans gP, R4.put hl4 (RO.lstI upd_same ((h4.append (.one ru)).go gP)), Po.later (((g2.trans g3).trans g4).trans gP) q'⟩
                · exact q'.elim
              · exact q'.elim
    · exact q'.elim
end
end HP
namespace HP
open PySem L2 PySem.Spec PyProof.Rows
theorem R.bnd_assoc {A B C : Type} (x : R A) (f : A → Sto → R B) (g : B → Sto → R C) : (x.bnd f).bnd g = x.bnd fun a S => (f a S).bnd g := by
  cases x <;> rfl
theorem R.bnd_ok {A B : Type} (a : A) (S : Sto) (f : A → Sto → R B) : (R.ok a S).bnd f = f a S := rfl
theorem boot_bf : ∀ f : Bf, bootBuiltins (bfS f) = some (bfV f) := by
  intro f
  cases f <;> decide +kernel
theorem boot_bt : ∀ b : Bt, b ≠ .non → bootBuiltins (btS b) = some (.type b.name) := by
  intro b h
  cases b <;> first | decide +kernel | exact absurd rfl h
theorem cmpD_bl {S S' : Sto} {o : Cop} {a b d : D} (h : cmpD S o a b = .ok d S') : ∃ k, d = .bl k := by
  have rb : ∀ o, resB S o = .ok d S' → ∃ k, d = .bl k := fun o h => by
    cases o with
    | none => cases h
    | some k => cases h; exact ⟨k, rfl⟩
  unfold cmpD at h
  split at h
  all_goals first
    | exact rb _ h
    | (cases h; exact ⟨_, rfl⟩)
    | cases h
theorem evEs_len {c : Call} : ∀ (es : Es) (r : Ev) (S S' : Sto) (ds : List D), evEs c es r S = .ok ds S' → ds.length = es.len
  | .nil, r, S, S', ds, h => by simp only [evEs] at h; cases h; rfl
  | .cons e es, r, S, S', ds, h => by
    simp only [evEs] at h
    cases h1 : evE c e r S with
    | ok d S1 =>
      rw [h1] at h
      dsimp only [R.bnd] at h
      cases h2 : evEs c es r S1 with
      | ok ds2 S2 =>
        rw [h2] at h
        dsimp only [R.bnd] at h
        cases h
        rw [List.length_cons, Es.len, evEs_len es r S1 _ _ h2]
      | _ => rw [h2] at h; cases h
    | _ => rw [h1] at h; cases h
theorem szL1000 {n : Nat} (h : n ≤ 1000) : n ≤ sizeLine := Nat.le_trans h (by decide)
section
variable {X : Cx} {C : Cc} {c : Call} {ca : Nat → Addr} {W : WX} {hd : Hd}
theorem XC.blk (h : XC X C c ca W hd) (hh : C.hot = false) (s : Shared) (H : Hp) (scope : Scope) (D : Addr) (cl : List (Str × Addr)) (fp : List Addr) :
    XC (X.blk s H scope (compEnvC scope cl D X.env) fp) (blkCc C scope) c ca W0 hd where
  hN := h.hN
  nd := h.nd
  sc := by
    have e : (compEnvC scope cl D X.env).scope = relS scope X.env.scope := rfl
    show (compEnvC scope cl D X.env).scope = relS scope C.sc
    rw [e, h.sc]
  calm := h.calm
  fn := fun x q => q
  fns := h.fns
  cons := h.cons
  blt := h.blt
  takes := takes0
  un := h.un
  cold := h.cold
  hotI := fun a D e => by rw [h.cold hh] at e; cases e
  clf := h.clf
  knf := h.knf
theorem okI_set {m : It} {t : Bool} {e : Expr} (h : okI m C t e = true) (env : Env) (x : Value) : foldedSetIterable e env x = pure x := by
  cases e with
  | Set a b p =>
    cases m with
    | seq a => exact okE_set (show okE a C _ = true from h) env x
    | _ => simp [okI] at h
  | _ => rfl
theorem okTg_slots {C : Cc} {own : List Nat} : ∀ {t : Tg} {e : Expr}, okTg t C own e = true → ∀ i ∈ t.slots, i ∈ own := by
  intro t
  have both : (∀ (t : Tg) (e : Expr), okTg t C own e = true → ∀ i ∈ t.slots, i ∈ own) := by
    intro t
    exact Tg.rec (motive_1 := fun t => ∀ e, okTg t C own e = true → ∀ i ∈ t.slots, i ∈ own) (motive_2 := fun t => ∀ es, okTgs t C own es = true → ∀ i ∈ t.slots, i ∈ own)
      (fun i e h j hj => by
        cases e <;> simp [okTg] at h
        simp only [Tg.slots, List.mem_singleton] at hj
        subst hj
        exact h.2)
      (fun ts ih e h j hj => by
        cases e <;> simp only [okTg, Bool.and_eq_true] at h <;> try (cases h; done)
        exact ih _ h.2 j hj)
      (fun es h j hj => by simp [Tgs.slots] at hj)
      (fun t ts ih1 ih2 es h j hj => by
        cases es with
        | nil => simp [okTgs] at h
        | cons e r =>
          simp only [okTgs, Bool.and_eq_true] at h
          simp only [Tgs.slots, List.mem_append] at hj
          rcases hj with hj | hj
          · exact ih1 e h.1 j hj
          · exact ih2 r h.2 j hj) t
  exact fun {e} h => both t e h
/-- a value's truth as a test -/
theorem pt_tru {m : E} {e : Expr} (h : PE X e (rdE X.K ca hd c W m)) (he : ∀ whole, isTrue e X.env whole = (do let v ← whole; standAt e.pos; holding [v] (truthy v)))
    (ev : ∀ r S, evT c m r S = (evE c m r S).bnd fun d S1 => truR S1 d) : PT X e (rdT X.K ca hd c W m) := by
  refine PT.imp (pt_truth h he) fun sg H Q q => ?_
  obtain ⟨th, S, r, mm, q⟩ := q
  rw [ev] at q
  refine ⟨th, S, r, mm, Po.bnd q fun d S1 th1 H1 v g R1 rv q1 => ?_⟩
  unfold truR at q1
  split at q1
  · rename_i b e1
    exact ⟨b, truD_ok R1 rv e1, q1.ok R1 rfl⟩
  · exact q1.elim
theorem pe_bf {f : Bf} {x : Str} {p pos : Pos} {e : Expr} {es : List Expr} {t : TA} (hx : x = bfS f) (hc : bfCalm f = true → X.calm = true) (hg : Gl X x) (hm : X.mg x = none) (ha : PA X (e :: es) t) (hn : x ≠ "__name__") (hdb : (x == ("__debug__" : Str)) = false)
    (he : starEach (e :: es) X.env = (false, eval e X.env) :: starEach es X.env) (hpl : (backTo pos (starEach es X.env)).any (·.1) = false) {Wx : Value → Option Addr → Hp → Prop} :
    PE X (.Call (.Name x p) (e :: es) [] pos) (tCB (rDs X.K ca Wx fun S => bfD S f) t) := by
  have hv := boot_bf f
  have hf := call_bfD (X := X) (ca := ca) (Wx := Wx) f hc
  rw [← hx] at hv
  cases f <;> first
    | exact pe_callB hf hg hm hv ha hn hdb he hpl
    | exact pe_callTy hf hg hm hv ha hn hdb he hpl
theorem pe_call0SD {CX : CXT} {k : Nat} {f : Addr} {fd : FuncData} {ps : List Str} {sp : Sp} {E : L2.St → XK} {x : Str} {p pos : Pos} (F : FnOk X.prog X.w X.K X.mg X.base CX k f fd ps sp) (hr : Room k X.A) (hg : Gl X x) (hm : X.mg x = some (.ref f)) (hk : PySem.W.keepIn X.K (.ref f) = true) (hb : Binds X.K fd ps []) (hx : ∀ sg, PassesAt CX X sg (E sg))
    (hdb : (x == ("__debug__" : Str)) = false) : PE X (.Call (.Name x p) [] [] pos) (tCallSD sp [] E tNil) := by
  refine ⟨fun pins s sg H Q I h => ?_⟩
  refine wpAny_Call_Name_kw (ld_glob I hg hm ?_ hdb)
  exact PySem.W.callWith_K0 I.kIn hk (run_fnSD (us := []) F hr hb .nil (hx sg) I .nil h)
theorem pe_mt {m : Mt} {o e : Expr} {es : List Expr} {to : TE} {t : TA} {apos cpos : Pos} {r : V → List V → Hp → VK → Prop} (hm : MtR X (mtI m) r) (ho : PE X o to) (ha : PA X (e :: es) t) (hbase : attributeBase o (mtS m) X.env (eval o X.env) = eval o X.env)
    (hfew : ((backTo cpos (starEach (e :: es) X.env)).all (fun x => !x.1) && (backToKw cpos (keywordEach [] X.env)).all (fun x => x.1.isSome)
      && decide ((e :: es).length + ([] : List Keyword).length + (if ([] : List Keyword).isEmpty then 0 else 1) < 30)) = true)
    (hline : (apos.endLine == cpos.line) = true) (hs : starEach (e :: es) X.env = (false, eval e X.env) :: starEach es X.env) (hplain : (backTo cpos (starEach es X.env)).any (·.1) = false) :
    PE X (.Call (.Attribute o (mtS m) apos) (e :: es) [] cpos) (tBM X.K "list" r to t) := by
  cases m
  · exact pe_bm PySem.F.plainAttrs_list PySem.F.slot_list_append PySem.F.type_list_append hm ho ha hbase hfew hline hs hplain
  · exact pe_bm PySem.F.plainAttrs_list PySem.F.slot_list_pop PySem.F.type_list_pop hm ho ha hbase hfew hline hs hplain
  · exact pe_bm PySem.F.plainAttrs_list PySem.F.slot_list_clear PySem.F.type_list_clear hm ho ha hbase hfew hline hs hplain
  · exact pe_bm PySem.F.plainAttrs_list PySem.F.slot_list_extend PySem.F.type_list_extend hm ho ha hbase hfew hline hs hplain
  · exact pe_bm PySem.F.plainAttrs_list PySem.F.slot_list_index PySem.F.type_list_index hm ho ha hbase hfew hline hs hplain
theorem pe_mt0 {m : Mt} {o : Expr} {to : TE} {apos cpos : Pos} {r : V → List V → Hp → VK → Prop} (hm : MtR X (mtI m) r) (ho : PE X o to) (hbase : attributeBase o (mtS m) X.env (eval o X.env) = eval o X.env)
    (hline : (apos.endLine == cpos.line) = true) :
    PE X (.Call (.Attribute o (mtS m) apos) [] [] cpos) (tBM0 X.K "list" r to) := by
  cases m
  · exact pe_bm0 PySem.F.plainAttrs_list PySem.F.slot_list_append PySem.F.type_list_append hm ho hbase hline
  · exact pe_bm0 PySem.F.plainAttrs_list PySem.F.slot_list_pop PySem.F.type_list_pop hm ho hbase hline
  · exact pe_bm0 PySem.F.plainAttrs_list PySem.F.slot_list_clear PySem.F.type_list_clear hm ho hbase hline
  · exact pe_bm0 PySem.F.plainAttrs_list PySem.F.slot_list_extend PySem.F.type_list_extend hm ho hbase hline
  · exact pe_bm0 PySem.F.plainAttrs_list PySem.F.slot_list_index PySem.F.type_list_index hm ho hbase hline
theorem isL_ty {th : List Addr} {H : Hp} {S : Sto} {K : PySem.W.Frag} {a : D} {x : V} (R : Rep K ca th H S) (ha : RV K ca th H a x) (h : isL S a = true) : tyV K "list" x H := by
  unfold isL at h
  split at h
  · split at h
    · rename_i ds he
      obtain ⟨a1, ws, rfl, h0, h1, r1⟩ := ha.lst_inv R he
      exact .inl ⟨rfl, ws, .inl (.inl h1)⟩
    · cases h
  · cases h
end
end HP
namespace HP
open PySem L2 PySem.Spec PyProof.Rows
theorem call_isEX {X : Cx} {a D : Addr} {oe : Obj} {pn : List (Addr × Obj)} (C : ExcC X.K D) (hz : Zc (.ref D) none oe) (hf : ∃ vs, oe.data = .fields vs) : CallR (X.suite a ((a, oe) :: pn)) (.builtin "isinstance") (rIsEX X.K D a) := by
  intro pins s σ H xs us Q I r h
  have inst : PySem.W.InstAt s.heap a oe D none := by
    obtain ⟨hget, _⟩ := I.pin (a, oe) (List.mem_append.mpr (.inl List.mem_cons_self))
    obtain ⟨vs, hv⟩ := hf
    obtain ⟨oc, od, oda, osl⟩ := oe
    obtain ⟨h1, h2⟩ := hz
    dsimp only at h1 h2 hv
    subst h1 h2 hv
    exact ⟨hget, rfl, rfl, trivial⟩
  rcases h with ⟨c, cv, b, rfl, k, e, q⟩ | ⟨tp, cs, ws, b, rfl, hT, k, e, q⟩
  · obtain ⟨u1, u2, rfl, r1, r2⟩ := vals2 r
    cases (show u1 = Value.ref a from r1)
    have e2 := k.eq r2
    subst e2
    exact PySem.W.kia_one (PySem.W.handS_kitx_exc C.hg C.hk C.hs C.hd C.ha C.hn C.ht C.hm) I.kIn inst e (fun z => nomatch z) fun tk => ⟨.bl b, H, I.kept (t' := tk) fun _ _ z => z, rfl, q⟩
  · obtain ⟨u1, u2, rfl, r1, r2⟩ := vals2 r
    cases (show u1 = Value.ref a from r1)
    cases (show u2 = Value.ref tp from r2)
    obtain ⟨dd, its, n, sl, h5, h6⟩ := sqT_look I hT
    have e3 := ClsV.all k h6
    subst e3
    exact PySem.W.kia_tup (PySem.W.handS_kitx_exc C.hg C.hk C.hs C.hd C.ha C.hn C.ht C.hm) I.kIn inst h5 e (fun z => nomatch z) fun tk => ⟨.bl b, H, I.kept (t' := tk) fun _ _ z => z, rfl, q⟩
section
variable {X : Cx} {C : Cc} {c : Call} {ca : Nat → Addr} {W : WX} {hd : Hd}
theorem isSome_any {A : Type} {o : Option A} {p : A → Bool} (h : o.any p = true) : o.isSome = true := by
  cases o with
  | none => cases h
  | some a => rfl
theorem ClF.some {K : PySem.W.Frag} {mg : Str → Option Value} {D : Addr} {x : Str} (h : ClF K mg D x) : (PySem.W.clsIn K D).isSome = true := isSome_any h.hd
theorem kit_ref {K : PySem.W.Frag} {mg : Str → Option Value} {D E : Addr} {x : Str} {b : Bool} (h : ClF K mg E x) (hs : PySem.W.subIn K (.ref D) (.ref D) = some true) (e : PySem.W.subIn K (.ref D) (.ref E) = some b) : PySem.W.kitOne K (.ref D) (.ref E) = some b := by
  unfold PySem.W.kitOne
  split
  · rename_i z
    have z2 : Value.ref D = Value.ref E := by simpa using z
    rw [← z2] at e
    rw [hs] at e
    exact e
  · unfold PySem.W.kitCls
    dsimp only
    rw [if_pos (by rw [h.some, h.ty]; rfl)]
    exact e
theorem clsB_ok (hX : XC X C c ca W hd) {j : Nat} {x : Str} (h : clsB C j x = true) : ∃ b, C.cls.lookup x = some (j, b) ∧ Gl X x ∧ (x == ("__debug__" : Str)) = false := by
  unfold clsB at h
  rw [Bool.and_eq_true] at h
  obtain ⟨g1, g2, g3⟩ := hX.gl h.1
  have h2 := h.2
  cases e : C.cls.lookup x with
  | none => rw [e] at h2; cases h2
  | some p =>
    rw [e] at h2
    obtain ⟨j', b⟩ := p
    have : j' = j := by simpa using h2
    subst this
    exact ⟨b, rfl, g1, g2⟩
theorem pe_cls (hX : XC X C c ca W hd) {j : Nat} {x : Str} {p : Pos} (h : clsB C j x = true) : PE X (.Name x p) (tC (.ref (ca j))) := by
  obtain ⟨b, e, g1, g2⟩ := clsB_ok hX h
  exact pe_glob g1 (hX.clf _ _ _ e).m rfl g2
/-- names of classes, one behind the other -/
theorem pa_clses (hX : XC X C c ca W hd) : ∀ {cs : List Nat} {es : List Expr}, clsesB C cs es = true → PA X es (fun sg H Q => Q (cs.map fun j => V.ref (ca j)) H)
  | [], [], _ => ⟨fun p pins s sg H Q I q => pa_nil.run p pins s sg H Q I q⟩
  | [], _ :: _, h => by simp [clsesB] at h
  | _ :: _, [], h => by simp [clsesB] at h
  | j :: js, e :: es, h => by
    cases e with
    | Name x p =>
      simp only [clsesB, Bool.and_eq_true] at h
      exact ⟨fun p pins s sg H Q I q => (pa_cons (pe_cls hX h.1) (pa_clses hX h.2) rfl).run p pins s sg H Q I q⟩
    | _ => simp [clsesB] at h
theorem clses_mem (hX : XC X C c ca W hd) : ∀ {cs : List Nat} {es : List Expr}, clsesB C cs es = true → ∀ j ∈ cs, ∃ y b, C.cls.lookup y = some (j, b)
  | [], [], _, j, m => by cases m
  | [], _ :: _, h, _, _ => by simp [clsesB] at h
  | _ :: _, [], h, _, _ => by simp [clsesB] at h
  | i :: js, e :: es, h, j, m => by
    cases e with
    | Name x p =>
      simp only [clsesB, Bool.and_eq_true] at h
      rcases List.mem_cons.1 m with rfl | m
      · obtain ⟨b, e, _⟩ := clsB_ok hX h.1
        exact ⟨x, b, e⟩
      · exact clses_mem hX h.2 j m
    | _ => simp [clsesB] at h
theorem paired_cls : ∀ cs : List Nat, Paired ClsV (cs.map fun j => V.ref (ca j)) (cs.map fun j => Value.ref (ca j))
  | [] => .nil
  | j :: js => .cons (.own _) (paired_cls js)
theorem any_cls (hX : XC X C c ca W hd) {k : Nat} (K : KnF X.K ca C.cls k) : ∀ cs : List Nat, (∀ j ∈ cs, ∃ y b, C.cls.lookup y = some (j, b)) → PySem.W.kitAny X.K (.ref (ca k)) (cs.map fun j => Value.ref (ca j)) = some (cs.any (subC k))
  | [], _ => kitAny_nil
  | j :: js, h => by
    obtain ⟨y, b, e⟩ := h j List.mem_cons_self
    refine kitAny_cons (kit_ref (hX.clf _ _ _ e) K.self (K.rel _ _ _ e)) ?_ ?_
    · intro z
      rw [any_cls hX K js fun i m => h i (List.mem_cons_of_mem _ m), List.any_cons, z]
      rfl
    · intro z
      rw [List.any_cons, z]
      rfl
theorem kn_mem {kn : List Nat} {k : Nat} (h : (kn.all fun k => (knOf C.cls).contains k) = true) (m : k ∈ kn) : k ∈ knOf C.cls := by
  have := List.all_eq_true.1 h k m
  simpa using this
theorem exc_at {th : List Addr} {H : Hp} {S : Sto} {r : Ev} {sg : L2.St} {i k : Nat} {fs : List (Str × D)} (m : Sim X.K ca hd th H S r sg) (e : r[i]? = some (some (.exc k fs))) (hf : fs = []) : ∃ a, sg[i]? = some (some (.ref a)) ∧ hd = some (a, .ref (ca k), none) := by
  obtain ⟨v, h1, h2⟩ := m.env i _ e
  rcases h2 with h2 | ⟨k', fs', a, cls, dd, h3, h4, h5, h6⟩
  · cases h2
  · cases h3
    subst h4
    obtain ⟨h6, h7 | ⟨h7, _⟩⟩ := h6
    · rw [h6, h7.2] at h5
      exact ⟨a, h1, h5⟩
    · exact absurd hf h7
theorem pe_exIs {i : Nat} {tp : Bool} {cs kn : List Nat} {e : Expr} (hX : XC X C c ca W hd) (h : okE (.exIs i tp cs kn) C e = true) : PE X e (rdE X.K ca hd c W (.exIs i tp cs kn)) := by
  simp only [okE] at h
  split at h
  · rename_i x p n pn u pos
    simp only [Bool.and_eq_true, beq_iff_eq] at h
    obtain ⟨⟨⟨⟨⟨⟨⟨⟨h0, h1⟩, h2⟩, h3⟩, h4⟩, h5⟩, h6⟩, h7⟩, h8⟩ := h
    obtain ⟨g1, g2, g3⟩ := hX.gl h1
    obtain ⟨d1, d2, d3⟩ := dbgB_ok h6
    have hv : bootBuiltins x = some (.builtin "isinstance") := by rw [h2]; decide +kernel
    have pn1 : PE X (.Name n pn) (tVar i) := pe_var (hX.slot h4) (by rw [hX.sc]; exact visB_ok h5) d1 d2
    refine ⟨fun pins s sg H Q I q => ?_⟩
    obtain ⟨th, S, r, m, q⟩ := q
    simp only [evE] at q
    split at q
    · rename_i k fs hr
      split at q
      · rename_i hk
        obtain ⟨a, ea, ehd⟩ := exc_at m hr hk.2
        have K := hX.knf k (kn_mem h7 hk.1)
        have hI := hX.hotI a (ca k) ehd K.ec
        split at h8
        · rename_i es kk p2
          simp only [Bool.and_eq_true, decide_eq_true_eq] at h8
          refine (pe_callB hI g1 (hX.blt x h3) hv (pa_cons pn1 (pa_cons (pe_tup (pa_clses hX h8.1)) pa_nil)) g3 g2 rfl rfl).run pins s sg H Q I ?_
          refine ⟨_, ea, ⟨?_, fun p hp => .inr ⟨p, _, _, _, rfl, .inl (.inl upd_same), paired_cls cs, any_cls hX K cs (clses_mem hX h8.1), ?_⟩⟩⟩
          · rw [List.length_map]
            refine szL1000 ?_
            have : ∀ {cs : List Nat} {es : List Expr}, clsesB C cs es = true → cs.length = es.length := by
              intro cs
              induction cs with
              | nil => intro es h; cases es with
                | nil => rfl
                | cons _ _ => simp [clsesB] at h
              | cons j js ih => intro es h; cases es with
                | nil => simp [clsesB] at h
                | cons e es => cases e with
                  | Name x p => simp only [clsesB, Bool.and_eq_true] at h; rw [List.length_cons, List.length_cons, ih h.2]
                  | _ => simp [clsesB] at h
            rw [this h8.1]
            exact h8.2
          · exact q th _ _ (Go.lay hp) (m.rep.lay hp) (.bl _)
        · have hc := clses_mem hX h8
          cases cs with
          | nil => simp [clsesB] at h8
          | cons j js =>
            have : js = [] := by
              cases u with
              | Name y py =>
                cases js with
                | nil => rfl
                | cons _ _ => simp [clsesB] at h8
              | _ => simp [clsesB] at h8
            subst this
            cases u with
            | Name y py =>
              simp only [clsesB, Bool.and_eq_true] at h8
              obtain ⟨y2, b2, e2⟩ := hc j List.mem_cons_self
              refine (pe_callB hI g1 (hX.blt x h3) hv (pa_cons pn1 (pa_cons (pe_cls hX h8.1) pa_nil)) g3 g2 rfl rfl).run pins s sg H Q I ?_
              refine ⟨_, ea, .inl ⟨_, _, _, rfl, .own _, kit_ref (hX.clf _ _ _ e2) K.self (K.rel _ _ _ e2), ?_⟩⟩
              have eb : [j].any (subC k) = subC k j := by simp
              rw [eb] at q
              exact q.ok m.rep (.bl _)
            | _ => simp [clsesB] at h8
        · cases h8
      · exact q.elim
    · exact q.elim
  · cases h
theorem pe_exVe {i : Nat} {kn : List Nat} {e : Expr} (hX : XC X C c ca W hd) (h : okE (.exVe i kn) C e = true) : PE X e (rdE X.K ca hd c W (.exVe i kn)) := by
  simp only [okE] at h
  split at h
  · rename_i x p n pn y py pos
    simp only [Bool.and_eq_true, beq_iff_eq] at h
    obtain ⟨⟨⟨⟨⟨⟨⟨⟨⟨⟨h0, h1⟩, h2⟩, h3⟩, h4⟩, h5⟩, h6⟩, h7⟩, h8⟩, h9⟩, h10⟩ := h
    obtain ⟨g1, g2, g3⟩ := hX.gl h1
    obtain ⟨d1, d2, d3⟩ := dbgB_ok h6
    obtain ⟨k1, k2, k3⟩ := hX.gl h8
    have hv : bootBuiltins x = some (.builtin "isinstance") := by rw [h2]; decide +kernel
    have hw : bootBuiltins y = some (.type "ValueError") := by rw [h9]; decide +kernel
    have pn1 : PE X (.Name n pn) (tVar i) := pe_var (hX.slot h4) (by rw [hX.sc]; exact visB_ok h5) d1 d2
    refine ⟨fun pins s sg H Q I q => ?_⟩
    obtain ⟨th, S, r, m, q⟩ := q
    simp only [evE] at q
    split at q
    · rename_i k fs hr
      split at q
      · rename_i hk
        obtain ⟨a, ea, ehd⟩ := exc_at m hr hk.2
        have K := hX.knf k (kn_mem h7 hk.1)
        have hI := hX.hotI a (ca k) ehd K.ec
        refine (pe_callB hI g1 (hX.blt x h3) hv (pa_cons pn1 (pa_cons (pe_bltn (v := .ty "ValueError") k1 (hX.blt y h10) hw rfl k3 k2) pa_nil)) g3 g2 rfl rfl).run pins s sg H Q I ?_
        refine ⟨_, ea, .inl ⟨_, _, _, rfl, .ty _, ?_, q.ok m.rep (.bl _)⟩⟩
        unfold PySem.W.kitOne
        rw [if_neg (by simp)]
        unfold PySem.W.kitCls
        dsimp only
        rw [if_pos (by decide +kernel)]
        exact K.ve
      · exact q.elim
    · exact q.elim
  · cases h
end
end HP
namespace HP
open PySem L2 PySem.Spec PyProof.Rows
section
variable {c : Call} {ca : Nat → Addr}
/-- a truth value steers -/
theorem onB_of {K : PySem.W.Frag} {W : Value → Option Addr → Hp → Prop} {Q : V → Hp → Prop} {th : List Addr} {H : Hp} {S : Sto} {d : D} {v : V} {t f : Sto → R D} (rv : RV K ca th H d v) (h : Po K ca th H (RV K ca) W Q (onB S d t f)) :
    ∃ k, v = .bl k ∧ Po K ca th H (RV K ca) W Q (if k = true then t S else f S) := by
  unfold onB at h
  split at h
  · exact ⟨true, rv.bl_inv, h⟩
  · exact ⟨false, rv.bl_inv, h⟩
  · exact h.elim
theorem strsD_ok {K : PySem.W.Frag} {th : List Addr} {H : Hp} : ∀ {ds : List D} {vs : List V} {ys : List Str}, RVs K ca th H ds vs → strsD ds = some ys → vs = ys.map V.str
  | [], _, _, r, e => by
    cases r
    cases e
    rfl
  | d :: ds, _, _, r, e => by
    cases r with
    | cons r1 r2 =>
      cases d with
      | str s =>
        simp only [strsD] at e
        split at e
        · rename_i ys' e2
          cases e
          rw [strsD_ok r2 e2, r1.str_inv]
          rfl
        · cases e
      | _ => simp [strsD] at e
theorem rvs_rng {K : PySem.W.Frag} {th : List Addr} {H : Hp} (j : Int) : RVs K ca th H (rngL 0 j.toNat) (rgV 0 j) := by
  unfold rngL rgV
  rw [Int.sub_zero]
  generalize List.range j.toNat = l
  induction l with
  | nil => exact .nil
  | cons x l ih => exact .cons (.int _) ih
theorem kinD_bl {S S' : Sto} {neg : Bool} {kvs : List (Str × Int)} {x d : D} (h : kinD S neg kvs x = .ok d S') : ∃ k, d = .bl k := by
  unfold kinD at h
  split at h
  · split at h
    · cases h; exact ⟨_, rfl⟩
    · cases h
  · cases h
theorem dinD_bl {S S' : Sto} {neg : Bool} {x y d : D} (h : dinD S neg x y = .ok d S') : ∃ k, d = .bl k := by
  unfold dinD at h
  split at h
  · split at h
    · cases h; exact ⟨_, rfl⟩
    · cases h
  · cases h
theorem zipV : ∀ {K : PySem.W.Frag} {th : List Addr} {H : Hp} {ds es : List D} {vs us : List V}, RVs K ca th H ds vs → RVs K ca th H es us → (zipL ds es).length = (vs.zip us).length
  | _, _, _, _, _, _, _, .nil, _ => rfl
  | _, _, _, _, _, _, _, .cons _ _, .nil => rfl
  | _, _, _, _, _, _, _, .cons _ r, .cons _ s => by rw [zipL, List.zip_cons_cons, List.length_cons, List.length_cons, zipV r s]
theorem lay_zip {K : PySem.W.Frag} {th : List Addr} {S : Sto} : ∀ {ds es : List D} {vs us : List V} {as : List Addr} {H : Hp}, Rep K ca th H S → RVs K ca th H ds vs → RVs K ca th H es us → as.length = (vs.zip us).length → (∀ t ∈ as, H t = none) → as.Nodup →
    Rep K ca th (LZ.putP H as (vs.zip us)) S ∧ Go th H th (LZ.putP H as (vs.zip us)) ∧ RVs K ca th (LZ.putP H as (vs.zip us)) (zipL ds es) (as.map V.ref)
  | _, _, _, _, [], H, R, .nil, _, _, _, _ => ⟨R, Go.refl _ _, .nil⟩
  | _, _, _, _, [], H, R, .cons _ _, .nil, _, _, _ => ⟨R, Go.refl _ _, .nil⟩
  | _, _, _, _, a :: as, H, R, .nil, _, h, _, _ => by cases h
  | _, _, _, _, a :: as, H, R, .cons _ _, .nil, h, _, _ => by cases h
  | _, _, _, _, [], H, R, .cons _ _, .cons _ _, h, _, _ => by cases h
  | _, _, v :: vs, u :: us, a :: as, H, R, .cons h1 r1, .cons h2 r2, h, hn, nd => by
    have nd' := List.nodup_cons.mp nd
    have ha := hn a List.mem_cons_self
    have g0 : Go th H th (upd H a (.tup [v, u])) := Go.lay ha
    obtain ⟨R', g', rv'⟩ := lay_zip (as := as) (R.lay ha (o := .tup [v, u])) (r1.go g0) (r2.go g0) (Nat.succ.inj h) (fun t ht => by
      rw [upd_ne (fun z => nd'.1 (by rw [← z]; exact ht))]; exact hn t (List.mem_cons_of_mem _ ht)) nd'.2
    refine ⟨R', g0.trans g', .cons ?_ rv'⟩
    have e1 : (LZ.putP (upd H a (.tup [v, u])) as (vs.zip us)) a = some (.tup [v, u]) := g'.frm _ _ upd_same rfl
    exact .tup (.inl (.inl e1)) (.inr e1) (.cons ((h1.go g0).go g') (.cons ((h2.go g0).go g') .nil))
theorem lstZ_of {K : PySem.W.Frag} {W : Value → Option Addr → Hp → Prop} {Q : V → Hp → Prop} {th : List Addr} {H : Hp} {S : Sto} {x y : D} {v u : V} (R : Rep K ca th H S) (rv : RV K ca th H x v) (ru : RV K ca th H y u) (q : Po K ca th H (RV K ca) W Q (lstZD S x y)) : LZ.rZipL K [v, u] H Q := by
  unfold lstZD at q
  split at q
  · rename_i xs ys e1 e2
    split at q
    · rename_i hl
      obtain ⟨a, vs, rfl, h1, r1⟩ := lstOf_ok R rv e1
      obtain ⟨b, us, rfl, h2, r2⟩ := lstOf_ok R ru e2
      refine ⟨a, b, vs, us, rfl, h1, h2, by rw [← zipV r1 r2, ← szL_eq]; exact hl, fun as p has hn nd hp hpa => ?_⟩
      obtain ⟨R', g', rv'⟩ := lay_zip R r1 r2 has hn nd
      have hp' : LZ.putP H as (vs.zip us) p = none := by rw [LZ.putP_off as _ _ hpa]; exact hp
      exact (Po.later g' q).newLst R' rv' p hp'
    · exact q.elim
  · exact q.elim
mutual
theorem soundE : ∀ (m : E) {X : Cx} {C : Cc} {W : WX} {hd : Hd} {e : Expr}, XC X C c ca W hd → okE m C e = true → PE X e (rdE X.K ca hd c W m)
  | .var i, X, C, W, hd, e, hX, h => by
    cases e with
    | Name x p =>
      simp only [okE, Bool.and_eq_true] at h
      obtain ⟨d1, d2, d3⟩ := dbgB_ok h.2
      refine PE.imp (pe_var (hX.slot h.1.1) (by rw [hX.sc]; exact visB_ok h.1.2) d1 d2) fun sg H Q q => ?_
      obtain ⟨th, S, r, m, q⟩ := q
      simp only [evE] at q
      split at q
      · exact q.elim
      · rename_i d hne hr
        obtain ⟨v, h1, h2⟩ := m.env i d hr
        rcases h2 with h2 | ⟨k, fs, a, cls, dd, h3, _⟩
        · exact ⟨v, h1, q.ok m.rep h2⟩
        · exact absurd h3 (fun z => hne k fs z)
      · exact q.elim
    | _ => simp [okE] at h
  | .con d, X, C, W, hd, e, hX, h => by
    cases e with
    | Name x p =>
      simp only [okE, Bool.and_eq_true] at h
      obtain ⟨g1, g2, g3⟩ := hX.gl h.1
      have h2 := h.2
      split at h2
      · rename_i d' hc
        have e1 := D.eqb_eq h2
        subst e1
        obtain ⟨u, v, m1, m2, m3, _⟩ := hX.cons x d' hc
        refine PE.imp (pe_glob g1 m1 m2 g2) fun sg H Q q => ?_
        obtain ⟨th, S, r, m, q⟩ := q
        simp only [evE] at q
        exact q.ok m.rep (m3 _ _)
      · split at h2
        · rename_i b
          simp only [Bool.and_eq_true, beq_iff_eq, Bool.not_eq_true', decide_eq_false_iff_not] at h2
          obtain ⟨⟨h2, hb⟩, h3⟩ := h2
          have hv := boot_bt b (by simpa using hb)
          rw [← h2] at hv
          refine PE.imp (pe_bltn (v := .ty b.name) g1 (hX.blt x h3) hv rfl g3 g2) fun sg H Q q => ?_
          obtain ⟨th, S, r, m, q⟩ := q
          simp only [evE] at q
          exact q.ok m.rep (.ty b)
        · cases h2
    | _ => simp [okE] at h
  | .int i, X, C, W, hd, e, hX, h => by
    cases e with
    | Constant k n p =>
      cases k <;> simp [okE] at h
      subst h
      exact PE.imp pe_int fun sg H Q q => by obtain ⟨th, S, r, m, q⟩ := q; simp only [evE] at q; exact q.ok m.rep (.int _)
    | _ => simp [okE] at h
  | .bl i, X, C, W, hd, e, hX, h => by
    cases e with
    | Constant k n p =>
      cases k <;> simp [okE] at h
      subst h
      exact PE.imp pe_bl fun sg H Q q => by obtain ⟨th, S, r, m, q⟩ := q; simp only [evE] at q; exact q.ok m.rep (.bl _)
    | _ => simp [okE] at h
  | .str i, X, C, W, hd, e, hX, h => by
    cases e with
    | Constant k n p =>
      cases k <;> simp [okE] at h
      subst h
      exact PE.imp pe_str fun sg H Q q => by obtain ⟨th, S, r, m, q⟩ := q; simp only [evE] at q; exact q.ok m.rep (.str _)
    | _ => simp [okE] at h
  | .non, X, C, W, hd, e, hX, h => by
    cases e with
    | Constant k n p =>
      cases k <;> simp [okE] at h
      exact PE.imp pe_non fun sg H Q q => by obtain ⟨th, S, r, m, q⟩ := q; simp only [evE] at q; exact q.ok m.rep .non
    | _ => simp [okE] at h
  | .tup es, X, C, W, hd, e, hX, h => by
    cases e with
    | Tuple xs k p =>
      simp only [okE, Bool.and_eq_true, decide_eq_true_eq] at h
      refine PE.imp (pe_tup (soundEs es (hd := hd) hX h.1)) fun sg H Q q => ?_
      obtain ⟨th, S, r, m, q⟩ := q
      simp only [evE] at q
      refine ⟨th, S, r, m, ?_⟩
      cases ev : evEs c es r S with
      | ok ds S1 =>
        have hl := evEs_len es r S S1 ds ev
        rw [ev] at q
        refine fun th1 H1 vs g R1 rv => ⟨szL1000 ?_, (Po.later g q).tup R1 rv⟩
        rw [← rv.length, hl, ← okEs_len h.1]
        exact h.2
      | _ => rw [ev] at q; exact q
    | _ => simp [okE] at h
  | .lst es, X, C, W, hd, e, hX, h => by
    cases e with
    | List xs p =>
      simp only [okE, Bool.and_eq_true, decide_eq_true_eq] at h
      refine PE.imp (pe_lst (soundEs es (hd := hd) hX h.1)) fun sg H Q q => ?_
      obtain ⟨th, S, r, m, q⟩ := q
      simp only [evE] at q
      refine ⟨th, S, r, m, ?_⟩
      cases ev : evEs c es r S with
      | ok ds S1 =>
        have hl := evEs_len es r S S1 ds ev
        rw [ev] at q
        refine fun th1 H1 vs g R1 rv => ⟨szL1000 ?_, (Po.later g q).newLst R1 rv⟩
        rw [← rv.length, hl, ← okEs_len h.1]
        exact h.2
      | _ => rw [ev] at q; exact q
    | _ => simp [okE] at h
  | .dic0, X, C, W, hd, e, hX, h => by
    cases e with
    | Dict ks vs p =>
      cases ks <;> cases vs <;> simp [okE] at h
      exact PE.imp pe_dnewK fun sg H Q q => by obtain ⟨th, S, r, m, q⟩ := q; simp only [evE] at q; exact Po.newDic m.rep q
    | _ => simp [okE] at h
  | .bin o a b, X, C, W, hd, e, hX, h => by
    cases e with
    | BinOp x op y p =>
      simp only [okE, Bool.and_eq_true] at h
      have e1 := bopB_eq h.1.1
      subst e1
      refine ⟨fun pins s sg H Q I q => ?_⟩
      refine (pe_op (r := rD2 X.K ca (fun cls dd H' => W cls dd sg H') fun S => binD S o) (op_binD o) (soundE a (hd := hd) hX h.1.2) (soundE b (hd := hd) hX h.2)).run pins s sg H Q I ?_
      obtain ⟨th, S, r, m, q⟩ := q
      simp only [evE] at q
      refine ⟨th, S, r, m, Po.bnd q fun x S1 th1 H1 v g1 R1 rv q1 => ⟨th1, S1, r, m.go R1 g1, Po.bnd q1 fun y S2 th2 H2 u g2 R2 ru q2 => ⟨th2, S2, x, y, R2, rv.go g2, ru, q2⟩⟩⟩
    | _ => simp [okE] at h
  | .neg a, X, C, W, hd, e, hX, h => by
    cases e with
    | UnaryOp op x p =>
      cases op <;> simp [okE] at h
      refine PE.imp (pe_un un_neg (soundE a (hd := hd) hX h)) fun sg H Q q => ?_
      obtain ⟨th, S, r, m, q⟩ := q
      simp only [evE] at q
      refine ⟨th, S, r, m, Po.bnd q fun x S1 th1 H1 v g1 R1 rv q1 => ?_⟩
      unfold negD at q1
      split at q1
      · cases rv.int_inv
        exact ⟨_, rfl, q1.ok R1 (.int _)⟩
      · exact q1.elim
    | _ => simp [okE] at h
  | .cmp o a b, X, C, W, hd, e, hX, h => by
    cases e with
    | Compare x ops ys p =>
      match ops, ys, h with
      | [op], [y], h =>
        simp only [okE, Bool.and_eq_true] at h
        have e1 := copB_eq h.1.1
        subst e1
        refine ⟨fun pins s sg H Q I q => ?_⟩
        refine (pe_cmpR (r := rD2 X.K ca (fun cls dd H' => W cls dd sg H') fun S => cmpD S o) (op_cmpD o hX.un) (soundE a (hd := hd) hX h.1.2) (soundE b (hd := hd) hX h.2) (okE_mark h.2 _)).run pins s sg H Q I ?_
        obtain ⟨th, S, r, m, q⟩ := q
        simp only [evE] at q
        refine ⟨th, S, r, m, Po.bnd q fun x S1 th1 H1 v g1 R1 rv q1 => ⟨th1, S1, r, m.go R1 g1, Po.bnd q1 fun y S2 th2 H2 u g2 R2 ru q2 => ⟨th2, S2, x, y, R2, rv.go g2, ru, q2⟩⟩⟩
      | [], _, h => simp [okE] at h
      | _ :: _ :: _, _, h => simp [okE] at h
      | [_], [], h => simp [okE] at h
      | [_], _ :: _ :: _, h => simp [okE] at h
    | _ => simp [okE] at h
  | .chain o o2 a b d, X, C, W, hd, e, hX, h => by
    cases e with
    | Compare x ops ys p =>
      match ops, ys, h with
      | [op, op2], [y, z], h =>
        simp only [okE, Bool.and_eq_true] at h
        have e1 := copB_eq h.1.1.1.1
        have e2 := copB_eq h.1.1.1.2
        subst e1 e2
        refine ⟨fun pins s sg H Q I q => ?_⟩
        refine (pe_chain (r := rD2 X.K ca (fun cls dd H' => W cls dd sg H') fun S => cmpD S o) (r' := rD2 X.K ca (fun cls dd H' => W cls dd sg H') fun S => cmpD S o2) (op_cmpD o hX.un) (op_cmpD o2 hX.un) (soundE a (hd := hd) hX h.1.1.2) (soundE b (hd := hd) hX h.1.2) (soundE d (hd := hd) hX h.2) (okE_mark h.2 _)).run pins s sg H Q I ?_
        obtain ⟨th, S, r, m, q⟩ := q
        simp only [evE] at q
        refine ⟨th, S, r, m, Po.bnd q fun x S1 th1 H1 v g1 R1 rv q1 => ⟨th1, S1, r, m.go R1 g1, Po.bnd q1 fun y S2 th2 H2 u g2 R2 ru q2 => ⟨th2, S2, x, y, R2, rv.go g2, ru, Po.bnd q2 fun k S3 th3 H3 w g3 R3 rw q3 => ?_⟩⟩⟩
        obtain ⟨kk, rfl, q3⟩ := onB_of rw q3
        refine ⟨kk, rfl, ?_⟩
        cases kk with
        | true =>
          rw [if_pos rfl] at q3 ⊢
          exact ⟨th3, S3, r, m.go R3 ((g1.trans g2).trans g3), Po.bnd q3 fun z S4 th4 H4 w g4 R4 rw q4 => ⟨th4, S4, y, z, R4, ru.go (g3.trans g4), rw, q4⟩⟩
        | false =>
          rw [if_neg Bool.false_ne_true] at q3 ⊢
          exact q3.ok R3 (.bl _)
      | [], _, h => simp [okE] at h
      | [_], _, h => simp [okE] at h
      | _ :: _ :: _ :: _, _, h => simp [okE] at h
      | [_, _], [], h => simp [okE] at h
      | [_, _], [_], h => simp [okE] at h
      | [_, _], _ :: _ :: _ :: _, h => simp [okE] at h
    | _ => simp [okE] at h
  | .band es, X, C, W, hd, e, hX, h => by
    cases e with
    | BoolOp op xs p =>
      cases op <;> simp [okE] at h
      exact PE.imp (soundAnd es (hd := hd) hX h) fun sg H Q q => by obtain ⟨th, S, r, m, q⟩ := q; simp only [evE] at q; exact ⟨th, S, r, m, q⟩
    | _ => simp [okE] at h
  | .bor es, X, C, W, hd, e, hX, h => by
    cases e with
    | BoolOp op xs p =>
      cases op <;> simp [okE] at h
      exact PE.imp (soundOr es (hd := hd) hX h) fun sg H Q q => by obtain ⟨th, S, r, m, q⟩ := q; simp only [evE] at q; exact ⟨th, S, r, m, q⟩
    | _ => simp [okE] at h
  | .bnot a, X, C, W, hd, e, hX, h => by
    cases e with
    | UnaryOp op x p =>
      cases op <;> simp [okE] at h
      refine PE.imp (pe_notT (soundE a (hd := hd) hX h)) fun sg H Q q => ?_
      obtain ⟨th, S, r, m, q⟩ := q
      simp only [evE] at q
      refine ⟨th, S, r, m, Po.bnd q fun x S1 th1 H1 v g1 R1 rv q1 => ?_⟩
      unfold truR at q1
      split at q1
      · rename_i b e1
        exact ⟨b, truD_ok R1 rv e1, Po.ok R1 (RV.bl _) q1⟩
      · exact q1.elim
    | _ => simp [okE] at h
  | .ife t a b, X, C, W, hd, e, hX, h => by
    cases e with
    | IfExp u x y p =>
      simp only [okE, Bool.and_eq_true] at h
      refine PE.imp (pe_ifExp (soundT t (hd := hd) hX h.1.1) (soundE a (hd := hd) hX h.1.2) (soundE b (hd := hd) hX h.2)) fun sg H Q q => ?_
      obtain ⟨th, S, r, m, q⟩ := q
      simp only [evE] at q
      refine ⟨th, S, r, m, Po.bnd q fun k S1 th1 H1 v g1 R1 rv q1 => ?_⟩
      subst rv
      cases k with
      | true => rw [if_pos rfl] at q1 ⊢; exact ⟨th1, S1, r, m.go R1 g1, q1⟩
      | false => rw [if_neg Bool.false_ne_true] at q1 ⊢; exact ⟨th1, S1, r, m.go R1 g1, q1⟩
    | _ => simp [okE] at h
  | .call f es, X, C, W, hd, e, hX, h => by
    cases e with
    | Call u xs kws p =>
      cases u with
      | Name x px =>
        cases kws with
        | nil =>
          simp only [okE, Bool.and_eq_true, Bool.not_eq_true', decide_eq_true_eq] at h
          obtain ⟨⟨⟨h1, h2⟩, h3⟩, h4⟩ := h
          obtain ⟨g1, g2, g3⟩ := hX.gl h2
          obtain ⟨k, fA, fd, ps, hr, hm, hk, hb, hl, F⟩ := hX.fns h1 x f es.len h3
          have hx : ∀ sg, PassesAt (L2.CX X.prog X.w) X sg (WE W sg) := fun sg => passAt hX.takes sg
          have hA := soundEs es (hd := hd) hX h4
          have fin : ∀ sg H Q, rdE X.K ca hd c W (.call f es) sg H Q → tCallSD (spOf X.K ca c f es.len) [] (WE W) (rdEs X.K ca hd c W es) sg H Q := fun sg H Q q => by
            obtain ⟨th, S, r, m, q⟩ := q
            simp only [evE] at q
            refine ⟨th, S, r, m, ?_⟩
            cases ev : evEs c es r S with
            | ok ds S1 =>
              have hl := evEs_len es r S S1 ds ev
              rw [ev] at q
              refine fun th1 H1 vs g R1 rv => ⟨th1, S1, ds, R1, by rw [List.append_nil]; exact rv, hl, Po.later g q⟩
            | _ => rw [ev] at q; exact q
          cases xs with
          | nil =>
            refine PE.imp (pe_call0SD F hr g1 hm hk hb hx g2) fun sg H Q q => ?_
            cases es with
            | nil =>
              obtain ⟨th, S, r, m, q⟩ := q
              simp only [evE, evEs, R.bnd_ok] at q
              exact ⟨th, S, [], m.rep, .nil, rfl, q⟩
            | cons e es => simp [okEs] at h4
          | cons x1 xs =>
            have st : starEach (x1 :: xs) X.env = (false, eval x1 X.env) :: starEach xs X.env := by
              cases es with
              | nil => simp [okEs] at h4
              | cons e es =>
                simp only [okEs, Bool.and_eq_true] at h4
                exact okE_star h4.1 _ _
            have pl : (backTo p (starEach xs X.env)).any (·.1) = false := by
              cases es with
              | nil => simp [okEs] at h4
              | cons e es =>
                simp only [okEs, Bool.and_eq_true] at h4
                exact okEs_plain h4.2 _ _
            exact PE.imp (pe_callSD F hr g1 hm hk hb .nil hx hA g2 st pl) fin
        | cons _ _ => simp [okE] at h
      | _ => simp [okE] at h
    | _ => simp [okE] at h
  | .bcall f es, X, C, W, hd, e, hX, h => by
    cases e with
    | Call u xs kws p =>
      cases u with
      | Name x px =>
        cases kws with
        | nil =>
          simp only [okE, Bool.and_eq_true, Bool.not_eq_true', Bool.or_eq_true, beq_iff_eq] at h
          obtain ⟨⟨⟨⟨⟨h0, h1⟩, h2⟩, h3⟩, h4⟩, h5⟩ := h
          obtain ⟨g1, g2, g3⟩ := hX.gl h1
          cases xs with
          | nil => simp at h5
          | cons x1 xs =>
            have st : starEach (x1 :: xs) X.env = (false, eval x1 X.env) :: starEach xs X.env := by
              cases es with
              | nil => simp [okEs] at h4
              | cons e es =>
                simp only [okEs, Bool.and_eq_true] at h4
                exact okE_star h4.1 _ _
            have pl : (backTo p (starEach xs X.env)).any (·.1) = false := by
              cases es with
              | nil => simp [okEs] at h4
              | cons e es =>
                simp only [okEs, Bool.and_eq_true] at h4
                exact okEs_plain h4.2 _ _
            refine ⟨fun pins s sg H Q I q => ?_⟩
            refine (pe_bf (ca := ca) (Wx := fun cls dd H' => W cls dd sg H') h2 (fun z => ?_) g1 (hX.blt x h3) (soundEs es (hd := hd) hX h4) g3 g2 st pl).run pins s sg H Q I ?_
            · rcases h0 with h0 | h0
              · rw [h0] at z; cases z
              · exact hX.calm h0
            · obtain ⟨th, S, r, m, q⟩ := q
              simp only [evE] at q
              exact ⟨th, S, r, m, Po.bnd q fun ds S1 th1 H1 vs g R1 rv q1 => ⟨th1, S1, ds, R1, rv, q1⟩⟩
        | cons _ _ => simp [okE] at h
      | _ => simp [okE] at h
    | _ => simp [okE] at h
  | .meth k o es, X, C, W, hd, e, hX, h => by
    cases e with
    | Call u xs kws p =>
      cases u with
      | Attribute u x px =>
        cases kws with
        | nil =>
          simp only [okE, Bool.and_eq_true, beq_iff_eq, decide_eq_true_eq] at h
          obtain ⟨⟨⟨⟨⟨h0, h1⟩, h2⟩, h3⟩, h4⟩, h5⟩ := h
          subst h0
          have hb := recvB_ok h1 (mtS k) X.env
          have hl : (px.endLine == p.line) = true := by rw [h2]; simp
          refine ⟨fun pins s sg H Q I q => ?_⟩
          have hm := mt_mtD (X := X) (ca := ca) (Wx := fun cls dd H' => W cls dd sg H') k hX.un
          cases xs with
          | nil =>
            refine (pe_mt0 hm (soundE o (hd := hd) hX h3) hb hl).run pins s sg H Q I ?_
            cases es with
            | nil =>
              obtain ⟨th, S, r, m, q⟩ := q
              simp only [evE, evEs, R.bnd_ok] at q
              refine ⟨th, S, r, m, Po.bnd q fun d S1 th1 H1 v g R1 rv q1 => ?_⟩
              split at q1
              · rename_i hi
                exact ⟨isL_ty R1 rv hi, th1, S1, d, [], R1, rv, .nil, q1⟩
              · exact q1.elim
            | cons e es => simp [okEs] at h4
          | cons x1 xs =>
            have st : starEach (x1 :: xs) X.env = (false, eval x1 X.env) :: starEach xs X.env := by
              cases es with
              | nil => simp [okEs] at h4
              | cons e es =>
                simp only [okEs, Bool.and_eq_true] at h4
                exact okE_star h4.1 _ _
            have pl : (backTo p (starEach xs X.env)).any (·.1) = false := by
              cases es with
              | nil => simp [okEs] at h4
              | cons e es =>
                simp only [okEs, Bool.and_eq_true] at h4
                exact okEs_plain h4.2 _ _
            have fw : ((backTo p (starEach (x1 :: xs) X.env)).all (fun x => !x.1) && (backToKw p (keywordEach [] X.env)).all (fun x => x.1.isSome)
                && decide ((x1 :: xs).length + ([] : List Keyword).length + (if ([] : List Keyword).isEmpty then 0 else 1) < 30)) = true := by
              rw [okEs_all h4, Bool.true_and, Bool.and_eq_true]
              refine ⟨rfl, decide_eq_true ?_⟩
              simp only [List.length_nil, List.isEmpty_nil, if_true]
              omega
            refine (pe_mt hm (soundE o (hd := hd) hX h3) (soundEs es (hd := hd) hX h4) hb fw hl st pl).run pins s sg H Q I ?_
            obtain ⟨th, S, r, m, q⟩ := q
            simp only [evE] at q
            refine ⟨th, S, r, m, Po.bnd q fun d S1 th1 H1 v g R1 rv q1 => ?_⟩
            split at q1
            · rename_i hi
              exact ⟨isL_ty R1 rv hi, th1, S1, r, m.go R1 g, Po.bnd q1 fun ds S2 th2 H2 vs g2 R2 rvs q2 => ⟨th2, S2, d, ds, R2, rv.go g2, rvs, q2⟩⟩
            · exact q1.elim
        | cons _ _ => simp [okE] at h
      | _ => simp [okE] at h
    | _ => simp [okE] at h
  | .ix a b, X, C, W, hd, e, hX, h => by
    cases e with
    | Subscript x y p =>
      simp only [okE, Bool.and_eq_true] at h
      refine ⟨fun pins s sg H Q I q => ?_⟩
      refine (pe_ix (r := rD2 X.K ca (fun cls dd H' => W cls dd sg H') ixD) ix_ixD (soundE a (hd := hd) hX h.1) (soundE b (hd := hd) hX h.2) (okE_plainIx h.2)).run pins s sg H Q I ?_
      obtain ⟨th, S, r, m, q⟩ := q
      simp only [evE] at q
      exact ⟨th, S, r, m, Po.bnd q fun x S1 th1 H1 v g1 R1 rv q1 => ⟨th1, S1, r, m.go R1 g1, Po.bnd q1 fun y S2 th2 H2 u g2 R2 ru q2 => ⟨th2, S2, x, y, R2, rv.go g2, ru, q2⟩⟩⟩
    | _ => simp [okE] at h
  | .sl a lo hi, X, C, W, hd, e, hX, h => by
    cases e with
    | Subscript x y p =>
      cases y with
      | Slice l hh st p2 =>
        cases st with
        | none =>
          simp only [okE, Bool.and_eq_true] at h
          refine ⟨fun pins s sg H Q I q => ?_⟩
          refine (pe_slice (r := rSl X.K ca (fun cls dd H' => W cls dd sg H')) sl_slD (soundE a (hd := hd) hX h.1.1) (soundO lo (hd := hd) hX h.1.2) (soundO hi (hd := hd) hX h.2)).run pins s sg H Q I ?_
          obtain ⟨th, S, r, m, q⟩ := q
          simp only [evE] at q
          refine ⟨th, S, r, m, Po.bnd q fun x S1 th1 H1 v g1 R1 rv q1 => ⟨th1, S1, r, m.go R1 g1, Po.bnd q1 fun l S2 th2 H2 l' g2 R2 rl q2 => ⟨th2, S2, r, m.go R2 (g1.trans g2), Po.bnd q2 fun hh S3 th3 H3 h' g3 R3 rh q3 => ?_⟩⟩⟩
          subst rl rh
          exact ⟨th3, S3, x, R3, rv.go (g2.trans g3), q3⟩
        | some _ => simp [okE] at h
      | _ => simp [okE] at h
    | _ => simp [okE] at h
  | .rev a, X, C, W, hd, e, hX, h => by
    simp only [okE] at h
    split at h
    · rename_i x j n p1 p2 p3 p4
      simp only [Bool.and_eq_true, beq_iff_eq] at h
      obtain ⟨h1, h2⟩ := h
      subst h1
      refine PE.imp (pe_revL (soundE a (hd := hd) hX h2)) fun sg H Q q => ?_
      obtain ⟨th, S, r, m, q⟩ := q
      simp only [evE] at q
      refine ⟨th, S, r, m, Po.bnd q fun x S1 th1 H1 v g1 R1 rv q1 => ?_⟩
      unfold revD at q1
      split at q1
      · rename_i ds he
        obtain ⟨a, vs, rfl, h3, h4⟩ := lstOf_ok R1 rv he
        exact ⟨a, vs, rfl, h3, q1.newLst R1 h4.reverse⟩
      · exact q1.elim
    · cases h
  | .lc x tg it cd own, X, C, W, hd, e, hX, h => by
    simp only [okE] at h
    split at h
    · rename_i elt t iter ifs z scope p
      simp only [Bool.and_eq_true, beq_iff_eq, Bool.not_eq_true', decide_eq_true_eq] at h
      obtain ⟨⟨⟨⟨⟨⟨⟨h1, h2⟩, h3⟩, h4⟩, h5⟩, h6⟩, h7⟩, h8⟩ := h
      subst h1
      refine PE.imp (pe_lc (own := ownP C.N own) (te := rdE X.K ca hd c W0 x) (g := rdG X.K ca hd tg) (tt := rdC X.K ca hd c W0 cd) (wi := rdI X.K ca hd c W it) (hX.calm h2) hX.nd (soundI it (hd := hd) hX h3) (blkOk_by (by rw [hX.hN, hX.sc]; exact h4)) (fun s H D cl fp => soundG tg (hX.blk h2 s H scope D cl fp) h6)
        (fun s H D cl fp => soundC cd (hX.blk h2 s H scope D cl fp) h7) (fun s H D cl fp => soundE x (hX.blk h2 s H scope D cl fp) h8) (okI_set h3 _)) fun sg H Q q => ?_
      rw [h5]
      exact tLc_of (okTg_slots h6) q
    · cases h
  | .dic1 k v, X, C, W, hd, e, hX, h => by
    simp only [okE] at h
    split at h
    · rename_i a n1 p1 j n2 p2 p3
      have key : ∀ (kv : Key × V) (ek : Expr), PE X ek (tC (kV kv.1)) → kv = (k, .int v) → PE X (.Dict [some ek] [.Constant (.int v) n2 p2] p3) (rdE X.K ca hd c W (.dic1 k v)) := by
        intro kv ek pk hkv
        refine PE.imp (pe_disp (pps_cons pk pe_int pps_nil) rfl rfl (by simp) (by simp)) fun sg H Q q => ?_
        obtain ⟨th, S, r, m, q⟩ := q
        simp only [evE] at q
        intro p hp
        refine ⟨upd_same, [kv], ?_, by simp, ?_⟩
        · rw [hkv]; rfl
        · rw [upd_upd, hkv]
          exact q (th ++ [p]) _ (.ref p) (Go.new hp) (m.rep.new hp ⟨[(k, .int v)], upd_same, rfl, .cons (.int v) .nil⟩) (.loc (by rw [← m.rep.len, List.getElem?_append_right (Nat.le_refl _)]; simp))
      split at h
      · simp only [Bool.and_eq_true, beq_iff_eq] at h
        obtain ⟨h1, h2⟩ := h
        subst h1 h2
        exact key (_, _) _ pe_int rfl
      · simp only [Bool.and_eq_true, beq_iff_eq] at h
        obtain ⟨h1, h2⟩ := h
        subst h1 h2
        exact key (_, _) _ pe_str rfl
      · cases h
    · cases h
  | .joinS s a, X, C, W, hd, e, hX, h => by
    simp only [okE] at h
    split at h
    · rename_i t k q n ap x cp
      simp only [Bool.and_eq_true, beq_iff_eq] at h
      obtain ⟨⟨⟨h1, h2⟩, h3⟩, h4⟩ := h
      subst h1 h2
      refine PE.imp (pe_join pe_str (soundE a (hd := hd) hX h4) (okE_star h4 _ _) rfl (by rw [h3]; simp)) fun sg H Q q => ?_
      obtain ⟨th, S, r, m, q⟩ := q
      simp only [evE] at q
      refine ⟨⟨_, rfl⟩, th, S, r, m, Po.bnd q fun x S1 th1 H1 v g1 R1 rv q1 => ?_⟩
      unfold joinD at q1
      split at q1
      · rename_i ds he
        split at q1
        · rename_i ys hy
          split at q1
          · rename_i hl
            obtain ⟨p, vs, rfl, h5, h6⟩ := seqOf_ok R1 rv he
            have hv := strsD_ok h6 hy
            subst hv
            exact ⟨_, p, ys, rfl, rfl, h5, hl, q1.ok R1 (.str _)⟩
          · exact q1.elim
        · exact q1.elim
      · exact q1.elim
    · cases h
  | .dicT, X, C, W, hd, e, hX, h => by
    cases e with
    | Dict ks vs p =>
      cases ks <;> cases vs <;> simp [okE] at h
      exact PE.imp pe_dnewT fun sg H Q q => by obtain ⟨th, S, r, m, q⟩ := q; simp only [evE] at q; exact Po.newDct m.rep q
    | _ => simp [okE] at h
  | .kin neg a kvs, X, C, W, hd, e, hX, h => by
    simp only [okE] at h
    split at h
    · rename_i x op y yp p
      simp only [Bool.and_eq_true] at h
      obtain ⟨⟨⟨h1, h2⟩, h3⟩, h4⟩ := h
      obtain ⟨g1, g2, g3⟩ := hX.gl h2
      have e1 : op = if neg = true then .NotIn else .In := by cases neg <;> cases op <;> first | rfl | (cases h1)
      subst e1
      split at h3
      · rename_i d hc
        have e2 := D.eqb_eq h3
        subst e2
        obtain ⟨v, u, m1, m2, m3, m4⟩ := hX.cons y _ hc
        obtain ⟨dd, es, n, rfl, D, hz⟩ := m4 kvs rfl
        refine ⟨fun pins s sg H Q I q => ?_⟩
        refine (pe_cmpR (r := rKin X.K ca (fun cls dd H' => W cls dd sg H') neg kvs dd) (op_kin neg D hz) (soundE a (hd := hd) hX h4) (pe_glob g1 m1 m2 g2) rfl).run pins s sg H Q I ?_
        obtain ⟨th, S, r, m, q⟩ := q
        simp only [evE] at q
        exact ⟨th, S, r, m, Po.bnd q fun x S1 th1 H1 v g1 R1 rv q1 => ⟨th1, S1, x, R1, rv, rfl, q1⟩⟩
      · cases h3
    · cases h
  | .kix kvs a, X, C, W, hd, e, hX, h => by
    simp only [okE] at h
    split at h
    · rename_i y yp x p
      simp only [Bool.and_eq_true] at h
      obtain ⟨⟨h2, h3⟩, h4⟩ := h
      obtain ⟨g1, g2, g3⟩ := hX.gl h2
      split at h3
      · rename_i d hc
        have e2 := D.eqb_eq h3
        subst e2
        obtain ⟨v, u, m1, m2, m3, m4⟩ := hX.cons y _ hc
        obtain ⟨dd, es, n, rfl, D, hz⟩ := m4 kvs rfl
        refine ⟨fun pins s sg H Q I q => ?_⟩
        refine (pe_ix (r := rKix X.K ca (fun cls dd H' => W cls dd sg H') kvs dd) (ix_kix D hz) (pe_glob g1 m1 m2 g2) (soundE a (hd := hd) hX h4) (okE_plainIx h4)).run pins s sg H Q I ?_
        obtain ⟨th, S, r, m, q⟩ := q
        simp only [evE] at q
        exact ⟨th, S, r, m, Po.bnd q fun x S1 th1 H1 v g1 R1 rv q1 => ⟨th1, S1, x, R1, rfl, rv, q1⟩⟩
      · cases h3
    · cases h
  | .din neg a b, X, C, W, hd, e, hX, h => by
    simp only [okE] at h
    split at h
    · rename_i x op y p
      simp only [Bool.and_eq_true] at h
      obtain ⟨⟨h1, h2⟩, h3⟩ := h
      have e1 : op = if neg = true then .NotIn else .In := by cases neg <;> cases op <;> first | rfl | (cases h1)
      subst e1
      refine ⟨fun pins s sg H Q I q => ?_⟩
      refine (pe_cmpR (r := rD2 X.K ca (fun cls dd H' => W cls dd sg H') fun S => fun x y => dinD S neg x y) (op_dinD neg hX.un) (soundE a (hd := hd) hX h2) (soundE b (hd := hd) hX h3) (okE_mark h3 _)).run pins s sg H Q I ?_
      obtain ⟨th, S, r, m, q⟩ := q
      simp only [evE] at q
      exact ⟨th, S, r, m, Po.bnd q fun x S1 th1 H1 v g1 R1 rv q1 => ⟨th1, S1, r, m.go R1 g1, Po.bnd q1 fun y S2 th2 H2 u g2 R2 ru q2 => ⟨th2, S2, x, y, R2, rv.go g2, ru, q2⟩⟩⟩
    · cases h
  | .lstR a, X, C, W, hd, e, hX, h => by
    simp only [okE] at h
    split at h
    · rename_i n p1 m p2 x p3 p4
      simp only [Bool.and_eq_true, beq_iff_eq, Bool.not_eq_true'] at h
      obtain ⟨⟨⟨⟨⟨⟨⟨h0, h1⟩, h2⟩, h3⟩, h4⟩, h5⟩, h6⟩, h7⟩ := h
      have g1 := (hX.gl h1).1
      have hb1 := hX.blt n h3
      have g2 := (hX.gl h4).1
      have hb2 := hX.blt m h6
      subst h2 h5
      refine PE.imp (pe_listRg (hX.calm h0) g1 hb1 (prg_1 g2 hb2 (soundE a (hd := hd) hX h7) (okE_star h7 _ _)) rfl) fun sg H Q q => ?_
      obtain ⟨th, S, r, m, q⟩ := q
      simp only [evE] at q
      refine ⟨th, S, r, m, Po.bnd q fun x S1 th1 H1 v g1 R1 rv q1 => ?_⟩
      unfold lstRD at q1
      split at q1
      · split at q1
        · rename_i hr
          cases rv.int_inv
          obtain ⟨hr, hl⟩ := hr
          unfold okRng at hr
          simp only [Bool.and_eq_true, decide_eq_true_eq] at hr
          refine ⟨_, rfl, ⟨by decide, by decide, hr.1, hr.2, by simpa using hl⟩, ?_⟩
          refine q1.newLst R1 ?_
          exact rvs_rng _
        · exact q1.elim
      · exact q1.elim
    · cases h
  | .lstZ a b, X, C, W, hd, e, hX, h => by
    simp only [okE] at h
    split at h
    · rename_i n p1 m p2 x y p3 p4
      simp only [Bool.and_eq_true, beq_iff_eq, Bool.not_eq_true'] at h
      obtain ⟨⟨⟨⟨⟨⟨⟨⟨h0, h1⟩, h2⟩, h3⟩, h4⟩, h5⟩, h6⟩, h7⟩, h8⟩ := h
      have g1 := (hX.gl h1).1
      have hb1 := hX.blt n h3
      have g2 := (hX.gl h4).1
      have hb2 := hX.blt m h6
      subst h2 h5
      have pl : (backTo p3 (starEach [y] X.env)).any (·.1) = false := by rw [okE_star h8]; rfl
      refine PE.imp (LZ.pe_listZip (hX.calm h0) g1 hb1 g2 hb2 (pa_cons (soundE a (hd := hd) hX h7) (pa_cons (soundE b (hd := hd) hX h8) pa_nil (okE_star h8 _ _)) (okE_star h7 _ _)) (okE_star h7 _ _) pl) fun sg H Q q => ?_
      obtain ⟨th, S, r, m, q⟩ := q
      simp only [evE] at q
      refine ⟨th, S, r, m, Po.bnd q fun d S1 th1 H1 v g1 R1 rv q1 => ⟨th1, S1, r, m.go R1 g1, Po.bnd q1 fun d2 S2 th2 H2 v2 g2 R2 rv2 q2 => ?_⟩⟩
      exact lstZ_of R2 (rv.go g2) rv2 q2
    · cases h
  | .exIs i tp cs kn, X, C, W, hd, e, hX, h => pe_exIs hX h
  | .exVe i kn, X, C, W, hd, e, hX, h => pe_exVe hX h
  | .exFld _ _, X, C, W, hd, e, hX, h => by simp [okE] at h
theorem soundEs : ∀ (m : Es) {X : Cx} {C : Cc} {W : WX} {hd : Hd} {es : List Expr}, XC X C c ca W hd → okEs m C es = true → PA X es (rdEs X.K ca hd c W m)
  | .nil, X, C, W, hd, es, hX, h => by
    simp only [okEs, List.isEmpty_iff] at h
    subst h
    exact PA.imp pa_nil fun sg H Q q => by obtain ⟨th, S, r, m, q⟩ := q; simp only [evEs] at q; exact Po.ok m.rep RVs.nil q
  | .cons e es, X, C, W, hd, xs, hX, h => by
    cases xs with
    | nil => simp [okEs] at h
    | cons x xs =>
      simp only [okEs, Bool.and_eq_true] at h
      refine PA.imp (pa_cons (soundE e (hd := hd) hX h.1) (soundEs es (hd := hd) hX h.2) (okE_star h.1 _ _)) fun sg H Q q => ?_
      obtain ⟨th, S, r, m, q⟩ := q
      simp only [evEs] at q
      exact ⟨th, S, r, m, Po.bnd q fun d S1 th1 H1 v g1 R1 rv q1 => ⟨th1, S1, r, m.go R1 g1, Po.bnd q1 fun ds S2 th2 H2 vs g2 R2 rvs q2 => Po.ok R2 (RVs.cons (rv.go g2) rvs) q2⟩⟩
theorem soundAnd : ∀ (m : Es) {X : Cx} {C : Cc} {W : WX} {hd : Hd} {es : List Expr} {p : Pos}, XC X C c ca W hd → okEs m C es = true → PE X (.BoolOp .And es p) (rdX X.K ca hd W (RV X.K ca) (evAnd c m))
  | .nil, X, C, W, hd, es, p, hX, h => ⟨fun pins s sg H Q I q => by obtain ⟨th, S, r, m, q⟩ := q; simp only [evAnd] at q; exact q.elim⟩
  | .cons e .nil, X, C, W, hd, xs, p, hX, h => by
    cases xs with
    | nil => simp [okEs] at h
    | cons x xs =>
      simp only [okEs, Bool.and_eq_true, List.isEmpty_iff] at h
      obtain ⟨h1, rfl⟩ := h
      exact PE.imp (pe_one (soundE e (hd := hd) hX h1)) fun sg H Q q => by obtain ⟨th, S, r, m, q⟩ := q; simp only [evAnd] at q; exact ⟨th, S, r, m, q⟩
  | .cons e (.cons e2 es), X, C, W, hd, xs, p, hX, h => by
    cases xs with
    | nil => simp [okEs] at h
    | cons x xs =>
      have h' : okE e C x = true ∧ okEs (.cons e2 es) C xs = true := by simpa only [okEs, Bool.and_eq_true] using h
      cases xs with
      | nil => simp [okEs] at h'
      | cons x2 xs =>
        refine PE.imp (pe_and (soundE e (hd := hd) hX h'.1) (soundAnd (.cons e2 es) (hd := hd) hX h'.2)) fun sg H Q q => ?_
        obtain ⟨th, S, r, m, q⟩ := q
        simp only [evAnd] at q
        refine ⟨th, S, r, m, Po.bnd q fun d S1 th1 H1 v g1 R1 rv q1 => ?_⟩
        obtain ⟨k, rfl, q1⟩ := onB_of rv q1
        refine ⟨k, rfl, ?_⟩
        cases k with
        | true => rw [if_pos rfl] at q1 ⊢; exact ⟨th1, S1, r, m.go R1 g1, q1⟩
        | false => rw [if_neg Bool.false_ne_true] at q1 ⊢; exact q1.ok R1 (.bl _)
theorem soundOr : ∀ (m : Es) {X : Cx} {C : Cc} {W : WX} {hd : Hd} {es : List Expr} {p : Pos}, XC X C c ca W hd → okEs m C es = true → PE X (.BoolOp .Or es p) (rdX X.K ca hd W (RV X.K ca) (evOr c m))
  | .nil, X, C, W, hd, es, p, hX, h => ⟨fun pins s sg H Q I q => by obtain ⟨th, S, r, m, q⟩ := q; simp only [evOr] at q; exact q.elim⟩
  | .cons e .nil, X, C, W, hd, xs, p, hX, h => by
    cases xs with
    | nil => simp [okEs] at h
    | cons x xs =>
      simp only [okEs, Bool.and_eq_true, List.isEmpty_iff] at h
      obtain ⟨h1, rfl⟩ := h
      exact PE.imp (pe_one (soundE e (hd := hd) hX h1)) fun sg H Q q => by obtain ⟨th, S, r, m, q⟩ := q; simp only [evOr] at q; exact ⟨th, S, r, m, q⟩
  | .cons e (.cons e2 es), X, C, W, hd, xs, p, hX, h => by
    cases xs with
    | nil => simp [okEs] at h
    | cons x xs =>
      have h' : okE e C x = true ∧ okEs (.cons e2 es) C xs = true := by simpa only [okEs, Bool.and_eq_true] using h
      cases xs with
      | nil => simp [okEs] at h'
      | cons x2 xs =>
        refine PE.imp (pe_or (soundE e (hd := hd) hX h'.1) (soundOr (.cons e2 es) (hd := hd) hX h'.2)) fun sg H Q q => ?_
        obtain ⟨th, S, r, m, q⟩ := q
        simp only [evOr] at q
        refine ⟨th, S, r, m, Po.bnd q fun d S1 th1 H1 v g1 R1 rv q1 => ?_⟩
        obtain ⟨k, rfl, q1⟩ := onB_of rv q1
        refine ⟨k, rfl, ?_⟩
        cases k with
        | true => rw [if_pos rfl] at q1 ⊢; exact q1.ok R1 (.bl _)
        | false => rw [if_neg Bool.false_ne_true] at q1 ⊢; exact ⟨th1, S1, r, m.go R1 g1, q1⟩
theorem soundO : ∀ (m : Eo) {X : Cx} {C : Cc} {W : WX} {hd : Hd} {o : Option Expr}, XC X C c ca W hd → okO m C o = true → PO X o (rdO X.K ca hd c W m)
  | .none, X, C, W, hd, o, hX, h => by
    cases o with
    | none => exact PO.imp po_none fun sg H Q q => by obtain ⟨th, S, r, m, q⟩ := q; simp only [evO] at q; exact q.ok m.rep rfl
    | some _ => simp [okO] at h
  | .some e, X, C, W, hd, o, hX, h => by
    cases o with
    | none => simp [okO] at h
    | some x =>
      simp only [okO] at h
      refine PO.imp (po_some (soundE e (hd := hd) hX h)) fun sg H Q q => ?_
      obtain ⟨th, S, r, m, q⟩ := q
      simp only [evO] at q
      refine ⟨th, S, r, m, Po.bnd q fun d S1 th1 H1 v g1 R1 rv q1 => ?_⟩
      unfold partD at q1
      split at q1
      · cases rv.int_inv
        exact ⟨_, rfl, q1.ok R1 rfl⟩
      · exact q1.elim
theorem soundC : ∀ (m : Eo) {X : Cx} {C : Cc} {W : WX} {hd : Hd} {xs : List Expr}, XC X C c ca W hd → okC m C xs = true → PTs X xs (rdC X.K ca hd c W m)
  | .none, X, C, W, hd, xs, hX, h => by
    simp only [okC, List.isEmpty_iff] at h
    subst h
    exact PTs.imp pts_nil fun sg H Q q => by obtain ⟨th, S, r, m, q⟩ := q; simp only [evC] at q; exact q.ok m.rep rfl
  | .some e, X, C, W, hd, xs, hX, h => by
    match xs, h with
    | [x], h =>
      simp only [okC] at h
      exact PTs.imp (pts_one (soundT e (hd := hd) hX h)) fun sg H Q q => by obtain ⟨th, S, r, m, q⟩ := q; simp only [evC] at q; exact ⟨th, S, r, m, q⟩
    | [], h => simp [okC] at h
    | _ :: _ :: _, h => simp [okC] at h
theorem soundT : ∀ (m : E) {X : Cx} {C : Cc} {W : WX} {hd : Hd} {e : Expr}, XC X C c ca W hd → okE m C e = true → PT X e (rdT X.K ca hd c W m)
  | .band es, X, C, W, hd, e, hX, h => by
    cases e with
    | BoolOp op xs p =>
      cases op <;> simp [okE] at h
      exact PT.imp (soundTA es (hd := hd) hX h).pt fun sg H Q q => by obtain ⟨th, S, r, m, q⟩ := q; simp only [evT] at q; exact ⟨th, S, r, m, q⟩
    | _ => simp [okE] at h
  | .bor es, X, C, W, hd, e, hX, h => by
    cases e with
    | BoolOp op xs p =>
      cases op <;> simp [okE] at h
      exact PT.imp (soundTO es (hd := hd) hX h).pt fun sg H Q q => by obtain ⟨th, S, r, m, q⟩ := q; simp only [evT] at q; exact ⟨th, S, r, m, q⟩
    | _ => simp [okE] at h
  | .bnot a, X, C, W, hd, e, hX, h => by
    cases e with
    | UnaryOp op x p =>
      cases op <;> simp [okE] at h
      refine PT.imp (pt_not (soundT a (hd := hd) hX h)) fun sg H Q q => ?_
      obtain ⟨th, S, r, m, q⟩ := q
      simp only [evT] at q
      refine ⟨th, S, r, m, Po.bnd q fun b S1 th1 H1 b' g1 R1 rv q1 => ?_⟩
      subst rv
      exact q1.ok R1 rfl
    | _ => simp [okE] at h
  | .ife _ _ _, X, C, W, hd, e, hX, h => ⟨fun pins s sg H Q I q => by obtain ⟨th, S, r, m, q⟩ := q; simp only [evT] at q; exact q.elim⟩
  | .cmp o a b, X, C, W, hd, e, hX, h => by
    cases e with
    | Compare x ops ys p =>
      match ops, ys, h with
      | [op], [y], h =>
        simp only [okE, Bool.and_eq_true] at h
        have e1 := copB_eq h.1.1
        subst e1
        refine ⟨fun pins s sg H Q I q => ?_⟩
        refine (pt_cmpR (r := rD2 X.K ca (fun cls dd H' => W cls dd sg H') fun S => cmpD S o) (op_cmpD o hX.un) (soundE a (hd := hd) hX h.1.2) (soundE b (hd := hd) hX h.2) (okE_mark h.2 _)).run pins s sg H Q I ?_
        obtain ⟨th, S, r, m, q⟩ := q
        simp only [evT, evE, R.bnd_assoc] at q
        refine ⟨th, S, r, m, Po.bnd q fun x S1 th1 H1 v g1 R1 rv q1 => ⟨th1, S1, r, m.go R1 g1, Po.bnd q1 fun y S2 th2 H2 u g2 R2 ru q2 => ⟨th2, S2, x, y, R2, rv.go g2, ru, ?_⟩⟩⟩
        change Po _ _ _ _ _ _ _ (cmpD S2 o x y)
        cases ev : cmpD S2 o x y with
        | ok d S3 =>
          rw [ev] at q2
          obtain ⟨k, rfl⟩ := cmpD_bl ev
          refine fun th3 H3 v3 g3 R3 r3 => ⟨k, r3.bl_inv, ?_⟩
          exact Po.ok R3 rfl (Po.later g3 q2)
        | _ => rw [ev] at q2; exact q2
      | [], _, h => simp [okE] at h
      | _ :: _ :: _, _, h => simp [okE] at h
      | [_], [], h => simp [okE] at h
      | [_], _ :: _ :: _, h => simp [okE] at h
    | _ => simp [okE] at h
  | .chain o o2 a b d, X, C, W, hd, e, hX, h => by
    cases e with
    | Compare x ops ys p =>
      match ops, ys, h with
      | [op, op2], [y, z], h =>
        simp only [okE, Bool.and_eq_true] at h
        have e1 := copB_eq h.1.1.1.1
        have e2 := copB_eq h.1.1.1.2
        subst e1 e2
        refine ⟨fun pins s sg H Q I q => ?_⟩
        refine (pt_chain (r := rD2 X.K ca (fun cls dd H' => W cls dd sg H') fun S => cmpD S o) (r' := rD2 X.K ca (fun cls dd H' => W cls dd sg H') fun S => cmpD S o2) (op_cmpD o hX.un) (op_cmpD o2 hX.un) (soundE a (hd := hd) hX h.1.1.2) (soundE b (hd := hd) hX h.1.2) (soundE d (hd := hd) hX h.2) (okE_mark h.2 _)).run pins s sg H Q I ?_
        obtain ⟨th, S, r, m, q⟩ := q
        simp only [evT, evE, R.bnd_assoc] at q
        refine ⟨th, S, r, m, Po.bnd q fun x S1 th1 H1 v g1 R1 rv q1 => ⟨th1, S1, r, m.go R1 g1, Po.bnd q1 fun y S2 th2 H2 u g2 R2 ru q2 => ⟨th2, S2, x, y, R2, rv.go g2, ru, Po.bnd q2 fun k S3 th3 H3 w g3 R3 rw q3 => ?_⟩⟩⟩
        cases k with
        | bl kk =>
          cases rw.bl_inv
          refine ⟨kk, rfl, ?_⟩
          cases kk with
          | true =>
            rw [if_pos rfl]
            simp only [onB, R.bnd_assoc] at q3
            refine ⟨th3, S3, r, m.go R3 ((g1.trans g2).trans g3), Po.bnd q3 fun z S4 th4 H4 w g4 R4 rw q4 => ⟨th4, S4, y, z, R4, ru.go (g3.trans g4), rw, ?_⟩⟩
            change Po _ _ _ _ _ _ _ (cmpD S4 o2 y z)
            cases ev : cmpD S4 o2 y z with
            | ok d S5 =>
              rw [ev] at q4
              obtain ⟨k, rfl⟩ := cmpD_bl ev
              refine fun th3 H3 v3 g3 R3 r3 => ⟨k, r3.bl_inv, ?_⟩
              exact Po.ok R3 rfl (Po.later g3 q4)
            | _ => rw [ev] at q4; exact q4
          | false =>
            rw [if_neg Bool.false_ne_true]
            simp only [onB, R.bnd_ok] at q3
            exact ⟨false, rfl, Po.ok R3 rfl q3⟩
        | _ => simp only [onB, R.bnd] at q3; exact q3.elim
      | [], _, h => simp [okE] at h
      | [_], _, h => simp [okE] at h
      | _ :: _ :: _ :: _, _, h => simp [okE] at h
      | [_, _], [], h => simp [okE] at h
      | [_, _], [_], h => simp [okE] at h
      | [_, _], _ :: _ :: _ :: _, h => simp [okE] at h
    | _ => simp [okE] at h
  | .var i, X, C, W, hd, e, hX, h => pt_tru (soundE _ (hd := hd) hX h) (by cases e <;> first | (intro _; rfl) | (exfalso; simp [okE] at h)) fun r S => by simp only [evT]
  | .con d, X, C, W, hd, e, hX, h => pt_tru (soundE _ (hd := hd) hX h) (by cases e <;> first | (intro _; rfl) | (exfalso; simp [okE] at h)) fun r S => by simp only [evT]
  | .int i, X, C, W, hd, e, hX, h => pt_tru (soundE _ (hd := hd) hX h) (by cases e <;> first | (intro _; rfl) | (exfalso; simp [okE] at h)) fun r S => by simp only [evT]
  | .bl i, X, C, W, hd, e, hX, h => pt_tru (soundE _ (hd := hd) hX h) (by cases e <;> first | (intro _; rfl) | (exfalso; simp [okE] at h)) fun r S => by simp only [evT]
  | .str i, X, C, W, hd, e, hX, h => pt_tru (soundE _ (hd := hd) hX h) (by cases e <;> first | (intro _; rfl) | (exfalso; simp [okE] at h)) fun r S => by simp only [evT]
  | .non, X, C, W, hd, e, hX, h => pt_tru (soundE _ (hd := hd) hX h) (by cases e <;> first | (intro _; rfl) | (exfalso; simp [okE] at h)) fun r S => by simp only [evT]
  | .tup es, X, C, W, hd, e, hX, h => pt_tru (soundE _ (hd := hd) hX h) (by cases e <;> first | (intro _; rfl) | (exfalso; simp [okE] at h)) fun r S => by simp only [evT]
  | .lst es, X, C, W, hd, e, hX, h => pt_tru (soundE _ (hd := hd) hX h) (by cases e <;> first | (intro _; rfl) | (exfalso; simp [okE] at h)) fun r S => by simp only [evT]
  | .dic0, X, C, W, hd, e, hX, h => pt_tru (soundE _ (hd := hd) hX h) (by cases e <;> first | (intro _; rfl) | (exfalso; simp [okE] at h)) fun r S => by simp only [evT]
  | .bin o a b, X, C, W, hd, e, hX, h => pt_tru (soundE _ (hd := hd) hX h) (by cases e <;> first | (intro _; rfl) | (exfalso; simp [okE] at h)) fun r S => by simp only [evT]
  | .neg a, X, C, W, hd, e, hX, h => pt_tru (soundE _ (hd := hd) hX h) (by
      cases e with
      | UnaryOp op x p => cases op <;> first | (intro _; rfl) | (exfalso; simp [okE] at h)
      | _ => exfalso; simp [okE] at h) fun r S => by simp only [evT]
  | .call f es, X, C, W, hd, e, hX, h => pt_tru (soundE _ (hd := hd) hX h) (by cases e <;> first | (intro _; rfl) | (exfalso; simp [okE] at h)) fun r S => by simp only [evT]
  | .bcall f es, X, C, W, hd, e, hX, h => pt_tru (soundE _ (hd := hd) hX h) (by cases e <;> first | (intro _; rfl) | (exfalso; simp [okE] at h)) fun r S => by simp only [evT]
  | .meth k o es, X, C, W, hd, e, hX, h => pt_tru (soundE _ (hd := hd) hX h) (by cases e <;> first | (intro _; rfl) | (exfalso; simp [okE] at h)) fun r S => by simp only [evT]
  | .ix a b, X, C, W, hd, e, hX, h => pt_tru (soundE _ (hd := hd) hX h) (by cases e <;> first | (intro _; rfl) | (exfalso; simp [okE] at h)) fun r S => by simp only [evT]
  | .sl a l hh, X, C, W, hd, e, hX, h => pt_tru (soundE _ (hd := hd) hX h) (by cases e <;> first | (intro _; rfl) | (exfalso; simp [okE] at h)) fun r S => by simp only [evT]
  | .rev a, X, C, W, hd, e, hX, h => pt_tru (soundE _ (hd := hd) hX h) (by cases e <;> first | (intro _; rfl) | (exfalso; simp [okE] at h)) fun r S => by simp only [evT]
  | .lc x t i d o, X, C, W, hd, e, hX, h => pt_tru (soundE _ (hd := hd) hX h) (by cases e <;> first | (intro _; rfl) | (exfalso; simp [okE] at h)) fun r S => by simp only [evT]
  | .dic1 k v, X, C, W, hd, e, hX, h => pt_tru (soundE _ (hd := hd) hX h) (by cases e <;> first | (intro _; rfl) | (exfalso; simp [okE] at h)) fun r S => by simp only [evT]
  | .joinS s a, X, C, W, hd, e, hX, h => pt_tru (soundE _ (hd := hd) hX h) (by cases e <;> first | (intro _; rfl) | (exfalso; simp [okE] at h)) fun r S => by simp only [evT]
  | .dicT, X, C, W, hd, e, hX, h => pt_tru (soundE _ (hd := hd) hX h) (by cases e <;> first | (intro _; rfl) | (exfalso; simp [okE] at h)) fun r S => by simp only [evT]
  | .kin neg a kvs, X, C, W, hd, e, hX, h => by
    simp only [okE] at h
    split at h
    · rename_i x op y yp p
      simp only [Bool.and_eq_true] at h
      obtain ⟨⟨⟨h1, h2⟩, h3⟩, h4⟩ := h
      obtain ⟨g1, g2, g3⟩ := hX.gl h2
      have e1 : op = if neg = true then .NotIn else .In := by cases neg <;> cases op <;> first | rfl | (cases h1)
      subst e1
      split at h3
      · rename_i d hc
        have e2 := D.eqb_eq h3
        subst e2
        obtain ⟨v, u, m1, m2, m3, m4⟩ := hX.cons y _ hc
        obtain ⟨dd, es, n, rfl, D, hz⟩ := m4 kvs rfl
        refine ⟨fun pins s sg H Q I q => ?_⟩
        refine (pt_cmpR (r := rKin X.K ca (fun cls dd H' => W cls dd sg H') neg kvs dd) (op_kin neg D hz) (soundE a (hd := hd) hX h4) (pe_glob g1 m1 m2 g2) rfl).run pins s sg H Q I ?_
        obtain ⟨th, S, r, m, q⟩ := q
        simp only [evT, evE, R.bnd_assoc] at q
        refine ⟨th, S, r, m, Po.bnd q fun x S1 th1 H1 v g1 R1 rv q1 => ⟨th1, S1, x, R1, rv, rfl, ?_⟩⟩
        cases ev : kinD S1 neg kvs x with
        | ok d S3 =>
          rw [ev] at q1
          obtain ⟨k, rfl⟩ := kinD_bl ev
          refine fun th3 H3 v3 g3 R3 r3 => ⟨k, r3.bl_inv, ?_⟩
          exact Po.ok R3 rfl (Po.later g3 q1)
        | _ => rw [ev] at q1; exact q1
      · cases h3
    · cases h
  | .kix kvs a, X, C, W, hd, e, hX, h => pt_tru (soundE _ (hd := hd) hX h) (by cases e <;> first | (intro _; rfl) | (exfalso; simp [okE] at h)) fun r S => by simp only [evT]
  | .din neg a b, X, C, W, hd, e, hX, h => by
    simp only [okE] at h
    split at h
    · rename_i x op y p
      simp only [Bool.and_eq_true] at h
      obtain ⟨⟨h1, h2⟩, h3⟩ := h
      have e1 : op = if neg = true then .NotIn else .In := by cases neg <;> cases op <;> first | rfl | (cases h1)
      subst e1
      refine ⟨fun pins s sg H Q I q => ?_⟩
      refine (pt_cmpR (r := rD2 X.K ca (fun cls dd H' => W cls dd sg H') fun S => fun x y => dinD S neg x y) (op_dinD neg hX.un) (soundE a (hd := hd) hX h2) (soundE b (hd := hd) hX h3) (okE_mark h3 _)).run pins s sg H Q I ?_
      obtain ⟨th, S, r, m, q⟩ := q
      simp only [evT, evE, R.bnd_assoc] at q
      refine ⟨th, S, r, m, Po.bnd q fun x S1 th1 H1 v g1 R1 rv q1 => ⟨th1, S1, r, m.go R1 g1, Po.bnd q1 fun y S2 th2 H2 u g2 R2 ru q2 => ⟨th2, S2, x, y, R2, rv.go g2, ru, ?_⟩⟩⟩
      change Po _ _ _ _ _ _ _ (dinD S2 neg x y)
      cases ev : dinD S2 neg x y with
      | ok d S3 =>
        rw [ev] at q2
        obtain ⟨k, rfl⟩ := dinD_bl ev
        refine fun th3 H3 v3 g3 R3 r3 => ⟨k, r3.bl_inv, ?_⟩
        exact Po.ok R3 rfl (Po.later g3 q2)
      | _ => rw [ev] at q2; exact q2
    · cases h
  | .lstR a, X, C, W, hd, e, hX, h => pt_tru (soundE _ (hd := hd) hX h) (by cases e <;> first | (intro _; rfl) | (exfalso; simp [okE] at h)) fun r S => by simp only [evT]
  | .lstZ a b, X, C, W, hd, e, hX, h => pt_tru (soundE _ (hd := hd) hX h) (by cases e <;> first | (intro _; rfl) | (exfalso; simp [okE] at h)) fun r S => by simp only [evT]
  | .exIs i tp cs kn, X, C, W, hd, e, hX, h => pt_tru (soundE _ (hd := hd) hX h) (by cases e <;> first | (intro _; rfl) | (exfalso; simp [okE] at h)) fun r S => by simp only [evT]
  | .exVe i kn, X, C, W, hd, e, hX, h => pt_tru (soundE _ (hd := hd) hX h) (by cases e <;> first | (intro _; rfl) | (exfalso; simp [okE] at h)) fun r S => by simp only [evT]
  | .exFld _ _, X, C, W, hd, e, hX, h => by simp [okE] at h
theorem soundTA : ∀ (m : Es) {X : Cx} {C : Cc} {W : WX} {hd : Hd} {es : List Expr} {p : Pos}, XC X C c ca W hd → okEs m C es = true → PW X (.BoolOp .And es p) (rdX X.K ca hd W relEq (evTA c m))
  | .nil, X, C, W, hd, es, p, hX, h => ⟨fun w pins s sg H Q I q => by obtain ⟨th, S, r, m, q⟩ := q; simp only [evTA] at q; exact q.elim⟩
  | .cons e .nil, X, C, W, hd, xs, p, hX, h => by
    cases xs with
    | nil => simp [okEs] at h
    | cons x xs =>
      simp only [okEs, Bool.and_eq_true, List.isEmpty_iff] at h
      obtain ⟨h1, rfl⟩ := h
      exact PW.imp (pw_and1 (soundT e (hd := hd) hX h1)) fun sg H Q q => by obtain ⟨th, S, r, m, q⟩ := q; simp only [evTA] at q; exact ⟨th, S, r, m, q⟩
  | .cons e (.cons e2 es), X, C, W, hd, xs, p, hX, h => by
    cases xs with
    | nil => simp [okEs] at h
    | cons x xs =>
      have h' : okE e C x = true ∧ okEs (.cons e2 es) C xs = true := by simpa only [okEs, Bool.and_eq_true] using h
      cases xs with
      | nil => simp [okEs] at h'
      | cons x2 xs =>
        refine PW.imp (pw_and (soundT e (hd := hd) hX h'.1) (soundTA (.cons e2 es) (hd := hd) hX h'.2)) fun sg H Q q => ?_
        obtain ⟨th, S, r, m, q⟩ := q
        simp only [evTA] at q
        refine ⟨th, S, r, m, Po.bnd q fun k S1 th1 H1 v g1 R1 rv q1 => ?_⟩
        subst rv
        cases k with
        | true => rw [if_pos rfl] at q1 ⊢; exact ⟨th1, S1, r, m.go R1 g1, q1⟩
        | false => rw [if_neg Bool.false_ne_true] at q1 ⊢; exact q1.ok R1 rfl
theorem soundTO : ∀ (m : Es) {X : Cx} {C : Cc} {W : WX} {hd : Hd} {es : List Expr} {p : Pos}, XC X C c ca W hd → okEs m C es = true → PW X (.BoolOp .Or es p) (rdX X.K ca hd W relEq (evTO c m))
  | .nil, X, C, W, hd, es, p, hX, h => ⟨fun w pins s sg H Q I q => by obtain ⟨th, S, r, m, q⟩ := q; simp only [evTO] at q; exact q.elim⟩
  | .cons e .nil, X, C, W, hd, xs, p, hX, h => by
    cases xs with
    | nil => simp [okEs] at h
    | cons x xs =>
      simp only [okEs, Bool.and_eq_true, List.isEmpty_iff] at h
      obtain ⟨h1, rfl⟩ := h
      exact PW.imp (pw_or1 (soundT e (hd := hd) hX h1)) fun sg H Q q => by obtain ⟨th, S, r, m, q⟩ := q; simp only [evTO] at q; exact ⟨th, S, r, m, q⟩
  | .cons e (.cons e2 es), X, C, W, hd, xs, p, hX, h => by
    cases xs with
    | nil => simp [okEs] at h
    | cons x xs =>
      have h' : okE e C x = true ∧ okEs (.cons e2 es) C xs = true := by simpa only [okEs, Bool.and_eq_true] using h
      cases xs with
      | nil => simp [okEs] at h'
      | cons x2 xs =>
        refine PW.imp (pw_or (soundT e (hd := hd) hX h'.1) (soundTO (.cons e2 es) (hd := hd) hX h'.2)) fun sg H Q q => ?_
        obtain ⟨th, S, r, m, q⟩ := q
        simp only [evTO] at q
        refine ⟨th, S, r, m, Po.bnd q fun k S1 th1 H1 v g1 R1 rv q1 => ?_⟩
        subst rv
        cases k with
        | true => rw [if_pos rfl] at q1 ⊢; exact q1.ok R1 rfl
        | false => rw [if_neg Bool.false_ne_true] at q1 ⊢; exact ⟨th1, S1, r, m.go R1 g1, q1⟩
theorem soundI : ∀ (m : It) {X : Cx} {C : Cc} {W : WX} {hd : Hd} {t e : Expr}, XC X C c ca W hd → okI m C (isTupE t) e = true → PI X t e (rdI X.K ca hd c W m)
  | .seq a, X, C, W, hd, t, e, hX, h => by
    simp only [okI] at h
    refine ⟨fun pins s sg H R I q => ?_⟩
    obtain ⟨th, S, r, m, q⟩ := q
    simp only [evI] at q
    have sE := soundE a (W := W) (hd := hd) hX h
    cases ev : evE c a r S with
    | ok d S1 =>
      rw [ev] at q
      dsimp only [HP.R.bnd] at q
      have pl : ∀ {p}, itLst S1 d = some p → Po X.K ca th H (relI X.K ca) (fun cls dd H' => W cls dd sg H') R (.ok p S1) → wpAny (model X.prog X.w) X.A (eval e X.env) (fun v s1 => wpAny (model X.prog X.w) X.A (pyIter v) (PIE X pins sg t R) X.xe s1) X.xe s := fun {p} e1 q => by
        refine (pi_list sE).run pins s sg H R I ⟨th, S, r, m, ?_⟩
        rw [ev]
        refine fun th1 H1 v g1 R1 rv => ?_
        obtain ⟨a, vs, rfl, h1, h2⟩ := itLst_ok R1 rv e1
        exact ⟨a, rfl, ⟨vs, h1⟩, (Po.later g1 q).ok R1 (itl_ok h2)⟩
      unfold itSeq at q
      split at q
      · refine (pi_tup sE).run pins s sg H R I ⟨th, S, r, m, ?_⟩
        rw [ev]
        refine fun th1 H1 v g1 R1 rv => ?_
        obtain ⟨a, vs, rfl, h1, h2⟩ := rv.tup_inv
        exact ⟨a, rfl, ⟨vs, h1⟩, (Po.later g1 q).ok R1 (itt_ok h1 h2)⟩
      · exact pl rfl q
      · split at q
        · rename_i l ds he
          refine pl ?_ q
          unfold itLst
          dsimp only
          rw [he]
        · exact q.elim
      · refine (pi_str sE).run pins s sg H R I ⟨th, S, r, m, ?_⟩
        rw [ev]
        refine fun th1 H1 v g1 R1 rv => ?_
        cases rv.str_inv
        exact ⟨_, rfl, (Po.later g1 q).ok R1 its_ok⟩
      · exact q.elim
    | exn y S1 =>
      rw [ev] at q
      exact (pi_list sE).run pins s sg H R I ⟨th, S, r, m, by rw [ev]; exact q⟩
    | bad => rw [ev] at q; exact q.elim
  | .rng1 a, X, C, W, hd, t, e, hX, h => by
    simp only [okI] at h
    split at h
    · rename_i n p1 x p2
      simp only [Bool.and_eq_true, beq_iff_eq] at h
      obtain ⟨⟨⟨h1, h2⟩, h3⟩, h4⟩ := h
      have g := (hX.gl h1).1
      have hb := hX.blt n h3
      subst h2
      refine PI.imp (pi_range1 g hb (pa_cons (soundE a (hd := hd) hX h4) pa_nil (okE_star h4 _ _)) (okE_star h4 _ _)) fun sg H Q q => ?_
      obtain ⟨th, S, r, m, q⟩ := q
      simp only [evI] at q
      refine ⟨th, S, r, m, Po.bnd q fun d S1 th1 H1 v g1 R1 rv q1 => ?_⟩
      unfold rng1D at q1
      split at q1
      · split at q1
        · rename_i hr
          cases rv.int_inv
          unfold okRng at hr
          simp only [Bool.and_eq_true, decide_eq_true_eq] at hr
          exact ⟨_, rfl, hr.1, hr.2, q1.ok R1 itr_ok⟩
        · exact q1.elim
      · exact q1.elim
    · cases h
  | .rng2 a b, X, C, W, hd, t, e, hX, h => by
    simp only [okI] at h
    split at h
    · rename_i n p1 x y p2
      simp only [Bool.and_eq_true, beq_iff_eq] at h
      obtain ⟨⟨⟨⟨h1, h2⟩, h3⟩, h4⟩, h5⟩ := h
      have g := (hX.gl h1).1
      have hb := hX.blt n h3
      subst h2
      have st : starEach [x, y] X.env = [(false, eval x X.env), (false, eval y X.env)] := by rw [okE_star h4, okE_star h5]; rfl
      refine PI.imp (pi_range2 g hb (pa_cons (soundE a (hd := hd) hX h4) (pa_cons (soundE b (hd := hd) hX h5) pa_nil (okE_star h5 _ _)) (okE_star h4 _ _)) st (okE_star h5 _ _)) fun sg H Q q => ?_
      obtain ⟨th, S, r, m, q⟩ := q
      simp only [evI] at q
      refine ⟨th, S, r, m, Po.bnd q fun d S1 th1 H1 v g1 R1 rv q1 => ⟨th1, S1, r, m.go R1 g1, Po.bnd q1 fun d2 S2 th2 H2 v2 g2 R2 rv2 q2 => ?_⟩⟩
      unfold rng2D at q2
      split at q2
      · split at q2
        · rename_i hr
          cases rv.int_inv
          cases rv2.int_inv
          unfold okRng at hr
          simp only [Bool.and_eq_true, decide_eq_true_eq] at hr
          exact ⟨_, _, rfl, ⟨hr.1.1, hr.1.2, hr.2.1, hr.2.2⟩, q2.ok R2 itr_ok⟩
        · exact q2.elim
      · exact q2.elim
    · cases h
  | .rng3 a b d, X, C, W, hd, t, e, hX, h => by
    simp only [okI] at h
    split at h
    · rename_i n p1 x y z p2
      simp only [Bool.and_eq_true, beq_iff_eq] at h
      obtain ⟨⟨⟨⟨⟨h1, h2⟩, h3⟩, h4⟩, h5⟩, h6⟩ := h
      have g := (hX.gl h1).1
      have hb := hX.blt n h3
      subst h2
      refine PI.imp (pi_range3 g hb (pa_cons (soundE a (hd := hd) hX h4) (pa_cons (soundE b (hd := hd) hX h5) (pa_cons (soundE d (hd := hd) hX h6) pa_nil (okE_star h6 _ _)) (okE_star h5 _ _)) (okE_star h4 _ _)) (okE_star h4 _ _) (by rw [okE_star h5, okE_star h6]; rfl)) fun sg H Q q => ?_
      obtain ⟨th, S, r, m, q⟩ := q
      simp only [evI] at q
      refine ⟨th, S, r, m, Po.bnd q fun d S1 th1 H1 v g1 R1 rv q1 => ⟨th1, S1, r, m.go R1 g1, Po.bnd q1 fun d2 S2 th2 H2 v2 g2 R2 rv2 q2 => ⟨th2, S2, r, (m.go R1 g1).go R2 g2, Po.bnd q2 fun d3 S3 th3 H3 v3 g3 R3 rv3 q3 => ?_⟩⟩⟩
      unfold rng3D at q3
      split at q3
      · split at q3
        · rename_i hr
          cases rv.int_inv
          cases rv2.int_inv
          cases rv3.int_inv
          exact ⟨_, _, _, _, rfl, hr, q3.ok R3 itrC_ok⟩
        · exact q3.elim
      · exact q3.elim
    · cases h
  | .enm a, X, C, W, hd, t, e, hX, h => by
    simp only [okI] at h
    split at h
    · rename_i n p1 x p2
      simp only [Bool.and_eq_true, beq_iff_eq] at h
      obtain ⟨⟨⟨⟨h0, h1⟩, h2⟩, h3⟩, h4⟩ := h
      have g := (hX.gl h1).1
      have hb := hX.blt n h3
      subst h2
      cases t with
      | Tuple elts kk tpos =>
        refine PI.imp (pi_enum g hb (pa_cons (soundE a (hd := hd) hX h4) pa_nil (okE_star h4 _ _)) (okE_star h4 _ _)) fun sg H Q q => ?_
        obtain ⟨th, S, r, m, q⟩ := q
        simp only [evI] at q
        refine ⟨th, S, r, m, Po.bnd q fun d S1 th1 H1 v g1 R1 rv q1 => ?_⟩
        unfold enmD at q1
        split at q1
        · rename_i ds ck e1
          obtain ⟨a, vs, rfl, h1, h2⟩ := itLst_ok R1 rv e1
          exact ⟨a, vs, rfl, h1, q1.ok R1 (ite_ok h2)⟩
        · exact q1.elim
      | _ => cases h0
    · cases h
  | .zip a b, X, C, W, hd, t, e, hX, h => by
    simp only [okI] at h
    split at h
    · rename_i n p1 x y p2
      simp only [Bool.and_eq_true, beq_iff_eq] at h
      obtain ⟨⟨⟨⟨⟨h0, h1⟩, h2⟩, h3⟩, h4⟩, h5⟩ := h
      have g := (hX.gl h1).1
      have hb := hX.blt n h3
      subst h2
      cases t with
      | Tuple elts kk tpos =>
        have pl : (backTo p2 (starEach [y] X.env)).any (·.1) = false := by rw [okE_star h5]; rfl
        refine PI.imp (RZ.pi_zipA g hb (pa_cons (soundE a (hd := hd) hX h4) (pa_cons (soundE b (hd := hd) hX h5) pa_nil (okE_star h5 _ _)) (okE_star h4 _ _)) (okE_star h4 _ _) pl) fun sg H Q q => ?_
        obtain ⟨th, S, r, m, q⟩ := q
        simp only [evI] at q
        refine ⟨th, S, r, m, Po.bnd q fun d S1 th1 H1 v g1 R1 rv q1 => ⟨th1, S1, r, m.go R1 g1, Po.bnd q1 fun d2 S2 th2 H2 v2 g2 R2 rv2 q2 => ?_⟩⟩
        have rv' := rv.go g2
        unfold zipD at q2
        split at q2
        · obtain ⟨a, vs, rfl, h1, h2⟩ := rv'.tup_inv
          obtain ⟨b, ws, rfl, k1, k2⟩ := rv2.tup_inv
          exact ⟨a, b, vs, ws, rfl, .inr ⟨h1, k1, q2.ok R2 (itzT_ok h1 h2 k1 k2)⟩⟩
        · split at q2
          · rename_i xs ck ys ck2 e1 e2
            obtain ⟨a, vs, rfl, h1, h2⟩ := itLst_ok R2 rv' e1
            obtain ⟨b, ws, rfl, k1, k2⟩ := itLst_ok R2 rv2 e2
            exact ⟨a, b, vs, ws, rfl, .inl ⟨h1, k1, q2.ok R2 (itz_ok h2 k2)⟩⟩
          · exact q2.elim
      | _ => cases h0
    · cases h
end
end
end HP
namespace HP
open PySem L2 PySem.Spec PyProof.Rows
def starB : Expr → Bool
  | .Starred _ _ => true | _ => false
def foldB (es : List Expr) : Bool := !(es.all (foldedForSure 8)) && !(es.all (constantsAlone 8)) && !(es.any starB)
def Es.isNil : Es → Bool
  | .nil => true | _ => false
def Hs.isNil : Hs → Bool
  | .nil => true | _ => false
/-- a name that an inner block reads, too -/
def celB (sc : Scope) (x : Str) : Bool := match sc.names.lookup x with
  | some .cell => true | _ => false
theorem celB_ok {sc : Scope} {x : Str} (h : celB sc x = true) : sc.names.lookup x = some .cell := by
  unfold celB at h
  split at h
  · assumption
  · cases h
theorem sw_cell {elt : Expr} {gs : List Comprehension} {scope : Scope} {pos py : Pos} {y : Str} {l : Nat} {env : Env} (hy : env.scope.names.lookup y = some .cell) : swapsWith (.ListComp elt gs scope pos) (some (.Name y py)) l env = pure false := by
  have ky : env.kindOf y = some .cell := hy
  have kc : (some NameKind.cell == some NameKind.local) = false := by decide
  unfold swapsWith
  simp only [ky, kc, Bool.and_false, Bool.false_and]
mutual
def okS : St → Cc → Stmt → Bool
  | .set i e, C, s => match s with
    | .Assign [.Name x p] v _ => setB C i x && okE e C v && (nocoB v || (match v with
      | .ListComp _ _ scope q => celB C.sc x || (lclB C.sc x && (p.line == q.line) && !(scope.names.any fun (n, k) => n == x && (k == .local || k == .cell)))
      | _ => false))
    | _ => false
  | .asg t e, C, s => match s with
    | .Assign [.Tuple ts k p] v _ => okTg t C t.slots (.Tuple ts k p) && okE e C v && !isTupE v
    | _ => false
  | .setIx o i e, C, s => match s with
    | .Assign [.Subscript u w _] v _ => okE o C u && okE i C w && okE e C v
    | _ => false
  | .setD o i e, C, s => match s with
    | .Assign [.Subscript u w _] v _ => okE o C u && okE i C w && okE e C v
    | _ => false
  | .aug i o e, C, s => match s with
    | .AugAssign (.Name x _) op v _ => setB C i x && visB C.sc x && bopB o op && okE e C v
    | _ => false
  | .expr e, C, s => match s with
    | .Expr v _ => okE e C v && nocoB v
    | _ => false
  | .ret e, C, s => match s with
    | .Return (some v) _ => okE e C v
    | _ => false
  | .retN, _, s => match s with
    | .Return none _ => true
    | _ => false
  | .ite c a b, C, s => match s with
    | .If t x y _ => okE c C t && okSs a C x && okSs b C y
    | _ => false
  | .whl c b, C, s => match s with
    | .While t x [] _ => !C.hot && okE c C t && okSs b C x
    | _ => false
  | .for_ t it b, C, s => match s with
    | .For tg iter x [] _ => !C.hot && okI it C (isTupE tg) iter && okTg t C t.slots tg && okSs b C x
    | _ => false
  | .brk, _, s => match s with
    | .Break _ => true
    | _ => false
  | .cnt, _, s => match s with
    | .Continue _ => true
    | _ => false
  | .pass, _, s => match s with
    | .Pass _ => true
    | _ => false
  | .par i j a b, C, s => match s with
    | .Assign [.Tuple [.Name x px, .Name y py] _ _] (.Tuple [u, v] _ _) _ => !C.hot && slotB C i x && slotB C j y && decide (i ≠ j) && decide (x ≠ y) && lclB C.sc x && lclB C.sc y && (py.line == px.line) && foldB [u, v] && okE a C u && okE b C v
    | _ => false
  | .par3 i j k a b d, C, s => match s with
    | .Assign [.Tuple [.Name x px, .Name y py, .Name z pz] _ _] (.Tuple [u, v, w] _ _) _ => !C.hot && slotB C i x && slotB C j y && slotB C k z && decide (i ≠ j) && decide (i ≠ k) && decide (j ≠ k) && decide (x ≠ y) && decide (x ≠ z) && decide (y ≠ z) &&
        lclB C.sc x && lclB C.sc y && lclB C.sc z && (py.line == px.line) && (pz.line == px.line) && foldB [u, v, w] && okE a C u && okE b C v && okE d C w
    | _ => false
  | .rse k fl es, C, s => match s with
    | .Raise (some (.Call (.Name x _) [.Constant (.str _) _ _] [] _)) none _ => !C.hot && namB C x && decide (C.cls.lookup x = some (k, true)) && noFld k && fl.isEmpty && es.isNil
    | _ => false
  | .try_ b h kn, C, s => match s with
    | .Try body hds [] [] _ => !C.hot && okSs b C body && kn.all (fun k => (knOf C.cls).contains k) && okHs h C hds
    | _ => false
  | .never, _, _ => true
def okSs : Ss → Cc → List Stmt → Bool
  | .nil, _, ss => ss.isEmpty
  | .cons s r, C, ss => match ss with
    | x :: xs => okS s C x && okSs r C xs
    | [] => false
/-- one clause -/
def okHs : Hs → Cc → List ExceptHandler → Bool
  | .nil, _, _ => false
  | .cons k i b r, C, hds => match hds with
    | [.ExceptHandler (some (.Name x _)) nm (b0 :: su) _] => r.isNil && namB C x && (match k with
      | none => (x == ("ValueError" : Str)) && C.blt.contains x
      | some j => clsB C j x) && (match i, nm with
      | none, none => true
      | some i, some n => slotB C i n && lclB C.sc n
      | _, _ => false) && okSs b { C with hot := true } (b0 :: su)
    | _ => false
end
section
variable {K : PySem.W.Frag} {ca : Nat → Addr} {hd : Hd} {c : Call} {W : WX}
/-- what is wanted behind a statement -/
def PoS (K : PySem.W.Frag) (ca : Nat → Addr) (hd : Hd) (th : List Addr) (H : Hp) (D : Ends) (W : WX) : RS → Prop
  | .nx r S => ∀ th' sg' H', Go th H th' H' → Sim K ca hd th' H' S r sg' → D.nx sg' H'
  | .rt d S => ∀ th' H' v, Go th H th' H' → Rep K ca th' H' S → RV K ca th' H' d v → D.rt v H'
  | .bk r S => ∀ th' sg' H', Go th H th' H' → Sim K ca hd th' H' S r sg' → D.bk sg' H'
  | .ct r S => ∀ th' sg' H', Go th H th' H' → Sim K ca hd th' H' S r sg' → D.ct sg' H'
  | .ex x r S => ∀ th' sg' H' cls dd, Go th H th' H' → Sim K ca hd th' H' S r sg' → RX K ca th' H' x.c x.fs cls dd → W cls dd sg' H'
  | .bad => False
theorem PoS.later {th th1 : List Addr} {H H1 : Hp} {D : Ends} {x : RS} (g : Go th H th1 H1) (h : PoS K ca hd th H D W x) : PoS K ca hd th1 H1 D W x := by
  cases x with
  | nx r S => exact fun th' sg' H' g' => h th' sg' H' (g.trans g')
  | rt d S => exact fun th' H' v g' => h th' H' v (g.trans g')
  | bk r S => exact fun th' sg' H' g' => h th' sg' H' (g.trans g')
  | ct r S => exact fun th' sg' H' g' => h th' sg' H' (g.trans g')
  | ex x r S => exact fun th' sg' H' cls dd g' => h th' sg' H' cls dd (g.trans g')
  | bad => exact h
/-- the reading of a statement -/
def rdR (K : PySem.W.Frag) (ca : Nat → Addr) (hd : Hd) (W : WX) (ev : Ev → Sto → RS) : TS := fun D sg H => ∃ th S r, Sim K ca hd th H S r sg ∧ PoS K ca hd th H D W (ev r S)
abbrev rdS (K : PySem.W.Frag) (ca : Nat → Addr) (hd : Hd) (c : Call) (W : WX) (s : St) : TS := rdR K ca hd W (evS c s)
abbrev rdSs (K : PySem.W.Frag) (ca : Nat → Addr) (hd : Hd) (c : Call) (W : WX) (s : Ss) : TS := rdR K ca hd W (evSs c s)
theorem PoS.bnd {A B : Type} {rel : List Addr → Hp → A → B → Prop} {th : List Addr} {H : Hp} {S : Sto} {D : Ends} {sg : L2.St} {r : Ev} {x : R A} {Q : B → Hp → Prop} {f : A → Sto → RS} (m : Sim K ca hd th H S r sg) (h : PoS K ca hd th H D W (x.bndS r f))
    (k : ∀ a S th1 H1 b, Go th H th1 H1 → Rep K ca th1 H1 S → rel th1 H1 a b → PoS K ca hd th1 H1 D W (f a S) → Q b H1) : Po K ca th H rel (fun cls dd H' => W cls dd sg H') Q x := by
  cases x with
  | ok a S => exact fun th' H' b g R e => k a S th' H' b g R e (PoS.later g h)
  | exn y S => exact fun th' H' cls dd g R e => h th' sg H' cls dd g (m.go R g) e
  | bad => exact h
theorem PoS.nx {th : List Addr} {H : Hp} {S : Sto} {D : Ends} {sg : L2.St} {r : Ev} (m : Sim K ca hd th H S r sg) (h : PoS K ca hd th H D W (.nx r S)) : D.nx sg H := h th sg H (Go.refl _ _) m
theorem whN_mono {t : Ev → Sto → R Bool} {b : Ev → Sto → RS} : ∀ {n : Nat} {r : Ev} {S : Sto} {x : RS}, whN t b n r S = some x → whN t b (n + 1) r S = some x
  | 0, r, S, x, h => by cases h
  | n + 1, r, S, x, h => by
    rw [whN] at h ⊢
    cases e : t r S with
    | ok k S1 =>
      rw [e] at h
      cases k with
      | true =>
        dsimp only at h ⊢
        cases e2 : b r S1 with
        | nx r2 S2 => rw [e2] at h; exact whN_mono h
        | ct r2 S2 => rw [e2] at h; exact whN_mono h
        | _ => rw [e2] at h; exact h
      | false => exact h
    | _ => rw [e] at h; exact h
theorem whN_le {t : Ev → Sto → R Bool} {b : Ev → Sto → RS} {n m : Nat} {r : Ev} {S : Sto} {x : RS} (h : whN t b n r S = some x) (k : n ≤ m) : whN t b m r S = some x := by
  induction k with
  | refl => exact h
  | step _ ih => exact whN_mono ih
theorem whN_det {t : Ev → Sto → R Bool} {b : Ev → Sto → RS} {n m : Nat} {r : Ev} {S : Sto} {x y : RS} (h : whN t b n r S = some x) (k : whN t b m r S = some y) : x = y := by
  have h1 := whN_le h (Nat.le_max_left n m)
  have h2 := whN_le k (Nat.le_max_right n m)
  rw [h1] at h2
  exact Option.some.inj h2
theorem whR_of {t : Ev → Sto → R Bool} {b : Ev → Sto → RS} {n : Nat} {r : Ev} {S : Sto} {x : RS} (h : whN t b n r S = some x) : whR t b r S = x := by
  unfold whR
  have hx : ∃ n x, whN t b n r S = some x := ⟨n, x, h⟩
  rw [dif_pos hx]
  exact whN_det (Classical.choose_spec (Classical.choose_spec hx)) h
theorem whR_ex {t : Ev → Sto → R Bool} {b : Ev → Sto → RS} {r : Ev} {S : Sto} (h : whR t b r S ≠ .bad) : ∃ n, whN t b n r S = some (whR t b r S) := by
  by_cases hx : ∃ n x, whN t b n r S = some x
  · obtain ⟨n, x, hn⟩ := hx
    exact ⟨n, by rw [whR_of hn]; exact hn⟩
  · exact absurd (by unfold whR; rw [dif_neg hx]) h
/-- the equation of a while -/
theorem whR_eq {t : Ev → Sto → R Bool} {b : Ev → Sto → RS} {r : Ev} {S : Sto} : whR t b r S = match t r S with
    | .ok true S1 => (match b r S1 with
      | .nx r2 S2 => whR t b r2 S2
      | .ct r2 S2 => whR t b r2 S2
      | .bk r2 S2 => .nx r2 S2
      | x => x)
    | .ok false S1 => .nx r S1
    | .exn x S1 => .ex x r S1
    | .bad => .bad := by
  have go : ∀ r2 S2, (∀ n x, whN t b n r2 S2 = some x → whN t b (n + 1) r S = some x) → (∀ n x, whN t b n r S = some x → ∃ m, whN t b m r2 S2 = some x) → whR t b r S = whR t b r2 S2 := fun r2 S2 h1 h2 => by
    by_cases hx : ∃ n x, whN t b n r2 S2 = some x
    · obtain ⟨n, x, hn⟩ := hx
      rw [whR_of hn, whR_of (h1 n x hn)]
    · have hy : ¬ ∃ n x, whN t b n r S = some x := fun ⟨n, x, hn⟩ => hx (by obtain ⟨m, hm⟩ := h2 n x hn; exact ⟨m, x, hm⟩)
      unfold whR
      rw [dif_neg hx, dif_neg hy]
  have one : ∀ x, whN t b 1 r S = some x → whR t b r S = x := fun x h => whR_of h
  cases e : t r S with
  | ok k S1 =>
    cases k with
    | true =>
      dsimp only
      cases e2 : b r S1 with
      | nx r2 S2 =>
        refine go r2 S2 (fun n x h => by rw [whN, e]; dsimp only; rw [e2]; exact h) fun n x h => ?_
        cases n with
        | zero => cases h
        | succ n => rw [whN, e] at h; dsimp only at h; rw [e2] at h; exact ⟨n, h⟩
      | ct r2 S2 =>
        refine go r2 S2 (fun n x h => by rw [whN, e]; dsimp only; rw [e2]; exact h) fun n x h => ?_
        cases n with
        | zero => cases h
        | succ n => rw [whN, e] at h; dsimp only at h; rw [e2] at h; exact ⟨n, h⟩
      | _ => exact one _ (by rw [whN, e]; dsimp only; rw [e2])
    | false => exact one _ (by rw [whN, e])
  | _ => exact one _ (by rw [whN, e])
theorem tWhile_of {t : E} {b : Ss} {D : Ends} {sg : L2.St} {H : Hp} (h : rdS K ca hd c W (.whl t b) D sg H) : tWhile (rdT K ca hd c W t) (rdSs K ca hd c W b) D sg H := by
  obtain ⟨th, S, r, m, h⟩ := h
  simp only [evS] at h
  have hne : whR (fun r S => evT c t r S) (fun r S => evSs c b r S) r S ≠ .bad := fun z => by rw [z] at h; exact h
  obtain ⟨n, hn⟩ := whR_ex hne
  refine ⟨fun n sg H => ∃ th S r x, Sim K ca hd th H S r sg ∧ whN (fun r S => evT c t r S) (fun r S => evSs c b r S) n r S = some x ∧ PoS K ca hd th H D W x, ⟨n, th, S, r, _, m, hn, h⟩, ?_⟩
  rintro n sg H ⟨th, S, r, x, m, hn, h⟩
  cases n with
  | zero => cases hn
  | succ n =>
    rw [whN] at hn
    refine ⟨th, S, r, m, ?_⟩
    cases e : evT c t r S with
    | ok k S1 =>
      rw [e] at hn
      refine fun th1 H1 k' g1 R1 ek => ?_
      subst ek
      have m1 := m.go R1 g1
      cases k with
      | true =>
        rw [if_pos rfl]
        dsimp only at hn
        refine ⟨fun sg H => ∃ th S r x, Sim K ca hd th H S r sg ∧ whN (fun r S => evT c t r S) (fun r S => evSs c b r S) n r S = some x ∧ PoS K ca hd th H D W x, fun sg' H' hN => ⟨n, Nat.lt_succ_self n, hN⟩, th1, S1, r, m1, ?_⟩
        cases e2 : evSs c b r S1 with
        | nx r2 S2 =>
          rw [e2] at hn
          exact fun th2 sg2 H2 g2 m2 => ⟨th2, S2, r2, x, m2, hn, PoS.later (g1.trans g2) h⟩
        | ct r2 S2 =>
          rw [e2] at hn
          exact fun th2 sg2 H2 g2 m2 => ⟨th2, S2, r2, x, m2, hn, PoS.later (g1.trans g2) h⟩
        | bk r2 S2 =>
          rw [e2] at hn
          cases hn
          exact fun th2 sg2 H2 g2 m2 => h th2 sg2 H2 (g1.trans g2) m2
        | rt d S2 =>
          rw [e2] at hn
          cases hn
          exact fun th2 H2 v g2 => h th2 H2 v (g1.trans g2)
        | ex y r2 S2 =>
          rw [e2] at hn
          cases hn
          exact fun th2 sg2 H2 cls dd g2 => h th2 sg2 H2 cls dd (g1.trans g2)
        | bad =>
          rw [e2] at hn
          cases hn
          exact h
      | false =>
        rw [if_neg Bool.false_ne_true]
        dsimp only at hn
        cases hn
        exact h th1 sg H1 g1 m1
    | exn y S1 =>
      rw [e] at hn
      cases hn
      exact fun th1 H1 cls dd g1 R1 rx => h th1 sg H1 cls dd g1 (m.go R1 g1) rx
    | bad =>
      rw [e] at hn
      cases hn
      exact h
theorem tFor_of {t : Tg} {it : It} {b : Ss} {D : Ends} {sg : L2.St} {H : Hp} (h : rdS K ca hd c W (.for_ t it b) D sg H) : tFor (rdI K ca hd c W it) (rdG K ca hd t) (rdSs K ca hd c W b) D sg H := by
  obtain ⟨th, S, r, m, h⟩ := h
  simp only [evS] at h
  refine ⟨th, S, r, m, PoS.bnd m h fun p S1 th1 H1 J g1 R1 it1 q => ?_⟩
  obtain ⟨ds, ck⟩ := p
  dsimp only at q
  refine ⟨fun i n sg Hc => n + i = ds.length ∧ ∃ th' S' r', Go th1 H1 th' Hc ∧ Sim K ca hd th' Hc S' r' sg ∧ PoS K ca hd th' Hc D W (forL ck (fun d r => asgT t d r) (fun r S => evSs c b r S) (ds.drop i) r' S'),
    ⟨ds.length, rfl, th1, S1, r, Go.refl _ _, m.go R1 g1, by rw [List.drop_zero]; exact q⟩, ?_⟩
  rintro i n sg Hc ⟨en, th', S', r', g', m', q'⟩
  cases e : ds[i]? with
  | none =>
    have hi : ds.length ≤ i := List.getElem?_eq_none_iff.mp e
    have hi' : i = ds.length := by omega
    rw [List.drop_eq_nil_iff.mpr hi] at q'
    unfold forL at q'
    split at q'
    · rename_i st
      refine .inl ⟨?_, PoS.nx m' q'⟩
      rw [hi']
      exact it1.stop th' Hc S' g' m'.rep st
    · exact q'.elim
  | some d =>
    have hi : i < ds.length := (List.getElem?_eq_some_iff.mp e).1
    rw [drop_get e] at q'
    unfold forL at q'
    split at q'
    · rename_i st
      obtain ⟨g0, y0⟩ := it1.go th' Hc S' g' m'.rep st i d e
      refine .inr ⟨g0, fun sg H' => (n - 1) + (i + 1) = ds.length ∧ ∃ th2 S2 r2, Go th1 H1 th2 H' ∧ Sim K ca hd th2 H' S2 r2 sg ∧ PoS K ca hd th2 H' D W (forL ck (fun d r => asgT t d r) (fun r S => evSs c b r S) (ds.drop (i + 1)) r2 S2),
        fun sg' H' hN => ⟨n - 1, by omega, hN⟩, fun v H2 y => ?_⟩
      obtain ⟨g2, R2, rv⟩ := y0 v H2 y
      cases ea : asgT t d r' with
      | none => rw [ea] at q'; exact q'.elim
      | some r2 =>
        rw [ea] at q'
        dsimp only at q'
        have m2 : Sim K ca hd th' H2 S' r' sg := m'.go R2 g2
        refine ⟨th', S', r', d, r2, m2, rv, ea, fun sg2 m3 off => ⟨th', S', r2, m3, ?_⟩⟩
        cases e2 : evSs c b r2 S' with
        | nx r3 S3 =>
          rw [e2] at q'
          exact fun th3 sg3 H3 g3 m4 => ⟨by omega, th3, S3, r3, (g'.trans g2).trans g3, m4, PoS.later (g2.trans g3) q'⟩
        | ct r3 S3 =>
          rw [e2] at q'
          exact fun th3 sg3 H3 g3 m4 => ⟨by omega, th3, S3, r3, (g'.trans g2).trans g3, m4, PoS.later (g2.trans g3) q'⟩
        | bk r3 S3 =>
          rw [e2] at q'
          exact fun th3 sg3 H3 g3 m4 => q' th3 sg3 H3 (g2.trans g3) m4
        | rt d S3 =>
          rw [e2] at q'
          exact fun th3 H3 v g3 => q' th3 H3 v (g2.trans g3)
        | ex y r3 S3 =>
          rw [e2] at q'
          exact fun th3 sg3 H3 cls dd g3 => q' th3 sg3 H3 cls dd (g2.trans g3)
        | bad => rw [e2] at q'; exact q'
    · exact q'.elim
end
theorem pip_aug {X : Cx} {ca : Nat → Addr} {Wx : Value → Option Addr → Hp → Prop} (o : Bop) : PIp X (bopO o) (fun x y H Q => ∃ th S a b, Rep X.K ca th H S ∧ RV X.K ca th H a x ∧ RV X.K ca th H b y ∧ Po X.K ca th H (RV X.K ca) Wx Q (augD S o a b)) := by
  intro pins s sg H x y v u Q I rx ry h
  obtain ⟨th, S, a, b, R, ha, hb, h⟩ := h
  unfold augD at h
  split at h
  · cases ha.int_inv; cases hb.int_inv
    exact ip_add pins s sg H _ _ v u Q I rx ry ⟨_, _, rfl, rfl, h.ok R (.int _)⟩
  · cases ha.int_inv; cases hb.int_inv
    exact ip_sub pins s sg H _ _ v u Q I rx ry ⟨_, _, rfl, rfl, h.ok R (.int _)⟩
  · exact h.elim
theorem swap2 {env : Env} {x y : Str} {px py pt pt2 : Pos} {kt k2 : Nat} {u v : Expr} (hk : env.scope.kind = .function) (hx : env.scope.names.lookup x = some .local) (hy : env.scope.names.lookup y = some .local) (hxy : x ≠ y) (hl : (py.line == px.line) = true) (hf : foldB [u, v] = true) :
    swappedStores [.Tuple [.Name x px, .Name y py] kt pt] (.Tuple [u, v] k2 pt2) env = pure (some [x, y]) := by
  have kx : env.kindOf x = some .local := hx
  have ky : env.kindOf y = some .local := hy
  have hb : env.blockKind = .function := by unfold Env.blockKind; rw [hk]; rfl
  have hyx : (y == x) = false := by simpa using fun z : y = x => hxy z.symm
  have hl' : py.line = px.line := by simpa using hl
  unfold foldB at hf
  simp only [Bool.and_eq_true, Bool.not_eq_true'] at hf
  obtain ⟨⟨h1, h2⟩, h3⟩ := hf
  simp only [List.any_cons, List.any_nil, Bool.or_false, Bool.or_eq_false_iff] at h3
  obtain ⟨su, sv⟩ := h3
  unfold swappedStores
  simp only [hb, kx, ky, h1, h2, List.filterMap_cons, List.filterMap_nil, Expr.pos, List.head?_cons, Option.map_some, Option.getD_some, beq_self_eq_true, hl', Bool.and_self, if_true]
  simp [List.eraseDups_cons, hyx, hxy, hxy.symm, bind, pure]
  refine ⟨?_, ?_⟩
  · cases u <;> first | rfl | exact Bool.noConfusion su
  · cases v <;> first | rfl | exact Bool.noConfusion sv
theorem swap3 {env : Env} {x y z : Str} {px py pz pt pt2 : Pos} {kt k2 : Nat} {u v w : Expr} (hk : env.scope.kind = .function) (hx : env.scope.names.lookup x = some .local) (hy : env.scope.names.lookup y = some .local) (hz : env.scope.names.lookup z = some .local)
    (hxy : x ≠ y) (hxz : x ≠ z) (hyz : y ≠ z) (hl : (py.line == px.line) = true) (hl2 : (pz.line == px.line) = true) (hf : foldB [u, v, w] = true) :
    swappedStores [.Tuple [.Name x px, .Name y py, .Name z pz] kt pt] (.Tuple [u, v, w] k2 pt2) env = pure (some [x, y, z]) := by
  have kx : env.kindOf x = some .local := hx
  have ky : env.kindOf y = some .local := hy
  have kz : env.kindOf z = some .local := hz
  have hb : env.blockKind = .function := by unfold Env.blockKind; rw [hk]; rfl
  have hyx : (y == x) = false := by simpa using fun z : y = x => hxy z.symm
  have hzx : (z == x) = false := by simpa using fun q : z = x => hxz q.symm
  have hzy : (z == y) = false := by simpa using fun q : z = y => hyz q.symm
  have hl' : py.line = px.line := by simpa using hl
  have hl2' : pz.line = px.line := by simpa using hl2
  unfold foldB at hf
  simp only [Bool.and_eq_true, Bool.not_eq_true'] at hf
  obtain ⟨⟨h1, h2⟩, h3⟩ := hf
  simp only [List.any_cons, List.any_nil, Bool.or_false, Bool.or_eq_false_iff] at h3
  obtain ⟨su, sv, sw⟩ := h3
  unfold swappedStores
  simp only [hb, kx, ky, kz, h1, h2, List.filterMap_cons, List.filterMap_nil, Expr.pos, List.head?_cons, Option.map_some, Option.getD_some, beq_self_eq_true, hl', hl2', Bool.and_self, if_true]
  simp [List.eraseDups_cons, hyx, hzx, hzy, hxy, hxy.symm, hxz, hxz.symm, hyz, hyz.symm, bind, pure]
  refine ⟨?_, ?_, ?_⟩
  · cases u <;> first | rfl | exact Bool.noConfusion su
  · cases v <;> first | rfl | exact Bool.noConfusion sv
  · cases w <;> first | rfl | exact Bool.noConfusion sw
end HP
namespace HP
open PySem L2 PySem.Spec PyProof.Rows
/-- the context of statements -/
structure XS (X : Cx) (C : Cc) (c : Call) (ca : Nat → Addr) (W : WX) (hd : Hd) : Prop where
  xc : XC X C c ca W hd
  pass : C.hot = false → PassesOwn (model X.prog X.w) X.A X.env X.xe
  kind : X.env.scope.kind = .function
  stk : X.stack = X.env :: X.outer
  frm : X.env.frame = some X.env.locals
section
variable {c : Call} {ca : Nat → Addr}
theorem kn_of {C : Cc} {x : Str} {k : Nat} (h : C.cls.lookup x = some (k, true)) : k ∈ knOf C.cls := by
  have go : ∀ {l : List (Str × Nat × Bool)}, l.lookup x = some (k, true) → k ∈ knOf l := by
    intro l
    induction l with
    | nil => intro h; cases h
    | cons p l ih =>
      intro h
      obtain ⟨y, j, b⟩ := p
      unfold knOf
      by_cases e : x = y
      · subst e
        simp [List.lookup] at h
        obtain ⟨rfl, rfl⟩ := h
        simp
      · have e' : (x == y) = false := by simpa using e
        simp [List.lookup, e'] at h
        have := ih h
        unfold knOf at this
        cases b with
        | true => rw [List.filter_cons_of_pos rfl, List.map_cons]; exact List.mem_cons_of_mem _ this
        | false => rw [List.filter_cons_of_neg (by simp)]; exact this
  exact go h
/-- behind the suite nothing holds the exception -/
theorem Sim.cool {K : PySem.W.Frag} {ca : Nat → Addr} {hd : Hd} {th : List Addr} {H : Hp} {S : Sto} {r : Ev} {sg : L2.St} (m : Sim K ca hd th H S r sg) (h : noX r = true) : Sim K ca none th H S r sg := by
  refine ⟨m.rep, m.len, fun i d e => ?_⟩
  obtain ⟨v, h1, h2⟩ := m.env i d e
  refine ⟨v, h1, ?_⟩
  rcases h2 with h2 | ⟨c, fs, a, cls, dd, h3, _⟩
  · exact .inl h2
  · subst h3
    have := List.all_eq_true.1 h _ (List.mem_of_getElem? e)
    cases this
theorem Sim.warm {K : PySem.W.Frag} {ca : Nat → Addr} {hd : Hd} {th : List Addr} {H : Hp} {S : Sto} {r : Ev} {sg : L2.St} (m : Sim K ca none th H S r sg) : Sim K ca hd th H S r sg := by
  refine ⟨m.rep, m.len, fun i d e => ?_⟩
  obtain ⟨v, h1, h2⟩ := m.env i d e
  refine ⟨v, h1, ?_⟩
  rcases h2 with h2 | ⟨c, fs, a, cls, dd, h3, h4, h5, _⟩
  · exact .inl h2
  · cases h5
theorem coolR_of {K : PySem.W.Frag} {ca : Nat → Addr} {hd : Hd} {th : List Addr} {H : Hp} {D : Ends} {W : WX} {x : RS} (h : PoS K ca none th H D W (coolR id x)) : PoS K ca hd th H D (fun _ _ _ _ => False) x := by
  cases x with
  | nx r S =>
    simp only [coolR] at h
    split at h
    · rename_i hn
      exact fun th' sg' H' g m => h th' sg' H' g (m.cool hn)
    · exact h.elim
  | bk r S =>
    simp only [coolR] at h
    split at h
    · rename_i hn
      exact fun th' sg' H' g m => h th' sg' H' g (m.cool hn)
    · exact h.elim
  | ct r S =>
    simp only [coolR] at h
    split at h
    · rename_i hn
      exact fun th' sg' H' g m => h th' sg' H' g (m.cool hn)
    · exact h.elim
  | rt d S => exact h
  | ex _ _ _ => exact h.elim
  | bad => exact h
theorem coolS_of {K : PySem.W.Frag} {ca : Nat → Addr} {hd : Hd} {th : List Addr} {H : Hp} {D : Ends} {W : WX} {x : RS} {i : Nat} (h : PoS K ca none th H D W (coolR (fun r => r.set i none) x)) :
    PoS K ca hd th H { nx := fun sg H' => D.nx (sg.set i none) H', rt := D.rt, bk := fun sg H' => D.bk (sg.set i none) H', ct := fun sg H' => D.ct (sg.set i none) H' } (fun _ _ _ _ => False) x := by
  cases x with
  | nx r S =>
    simp only [coolR] at h
    split at h
    · rename_i hn
      exact fun th' sg' H' g m => h th' _ H' g ((m.unset i).cool hn)
    · exact h.elim
  | bk r S =>
    simp only [coolR] at h
    split at h
    · rename_i hn
      exact fun th' sg' H' g m => h th' _ H' g ((m.unset i).cool hn)
    · exact h.elim
  | ct r S =>
    simp only [coolR] at h
    split at h
    · rename_i hn
      exact fun th' sg' H' g m => h th' _ H' g ((m.unset i).cool hn)
    · exact h.elim
  | rt d S => exact h
  | ex _ _ _ => exact h.elim
  | bad => exact h
theorem PSs.seq {X : Cx} {st : Stmt} {rest : List Stmt} {W : WX} {hd : Hd} {s : St} {ss : Ss} (h1 : PS X st (rdS X.K ca hd c W s)) (h2 : PSs X rest (rdSs X.K ca hd c W ss)) : PSs X (st :: rest) (rdSs X.K ca hd c W (.cons s ss)) := by
  refine PSs.imp (pss_cons h1 h2) fun D sg H q => ?_
  obtain ⟨th, S, r, m, q⟩ := q
  simp only [evSs] at q
  refine ⟨th, S, r, m, ?_⟩
  cases e : evS c s r S with
  | nx r1 S1 =>
    rw [e] at q
    exact fun th1 sg1 H1 g1 m1 => ⟨th1, S1, r1, m1, PoS.later g1 q⟩
  | _ => rw [e] at q; exact q
mutual
theorem soundS : ∀ (s : St) {X : Cx} {C : Cc} {W : WX} {hd : Hd} {st : Stmt}, XS X C c ca W hd → okS s C st = true → PS X st (rdS X.K ca hd c W s)
  | .set i e, X, C, W, hd, st, hX, h => by
    simp only [okS] at h
    split at h
    · rename_i x p v ps
      simp only [Bool.and_eq_true, Bool.or_eq_true] at h
      obtain ⟨⟨h1, h2⟩, h3⟩ := h
      obtain ⟨s1, s2, s3⟩ := hX.xc.setOk h1
      have fin : ∀ {te : TE}, (∀ sg H Q, rdE X.K ca hd c W e sg H Q → te sg H Q) → ∀ D sg H, rdS X.K ca hd c W (.set i e) D sg H → tAsg te (gName i) D sg H := fun {te} ht D sg H q => by
        obtain ⟨th, S, r, m, q⟩ := q
        simp only [evS] at q
        exact ht _ _ _ ⟨th, S, r, m, PoS.bnd m q fun d S1 th1 H1 v g1 R1 rv q1 => PoS.nx ((m.go R1 g1).set (.inl rv)) q1⟩
      rcases h3 with h3 | h3
      · exact PS.imp (ps_set (i := i) hX.xc.nd s1 s2 (soundE e (hd := hd) hX.xc h2) (nocoB_ok h3 _ _ _) s3) (fin fun _ _ _ q => q)
      · cases v with
        | ListComp elt gens scope q =>
          simp only [Bool.or_eq_true, Bool.and_eq_true, Bool.not_eq_true'] at h3
          rcases h3 with h3 | ⟨⟨k1, k2⟩, k3⟩
          · exact PS.imp (ps_set (i := i) hX.xc.nd s1 s2 (soundE e (hd := hd) hX.xc h2) (sw_cell (by rw [hX.xc.sc]; exact celB_ok h3)) s3) (fin fun _ _ _ q => q)
          have hy : X.env.scope.names.lookup x = some .local := by rw [hX.xc.sc]; exact lclB_ok k1
          cases e with
          | lc x' tg it cd own =>
            simp only [okE] at h2
            split at h2
            · rename_i elt' t iter ifs z scope' p' he
              cases he
              simp only [Bool.and_eq_true, beq_iff_eq, Bool.not_eq_true', decide_eq_true_eq] at h2
              obtain ⟨⟨⟨⟨⟨⟨⟨h1', h2'⟩, h3'⟩, h4'⟩, h5'⟩, h6'⟩, h7'⟩, h8'⟩ := h2
              subst h1'
              refine PS.imp (ps_setLc (own := ownP C.N own) (te := rdE X.K ca hd c W0 x') (g := rdG X.K ca hd tg) (tt := rdC X.K ca hd c W0 cd) (wi := rdI X.K ca hd c W it) (hX.xc.calm h2') hX.xc.nd s1 hy (sw_true hX.kind hy k2 k3)
                (soundI it (hd := hd) hX.xc h3') (blkOk_by (by rw [hX.xc.hN, hX.xc.sc]; exact h4')) (fun s H D cl fp => soundG tg (hX.xc.blk h2' s H scope D cl fp) h6')
                (fun s H D cl fp => soundC cd (hd := hd) (hX.xc.blk h2' s H scope D cl fp) h7') (fun s H D cl fp => soundE x' (hd := hd) (hX.xc.blk h2' s H scope D cl fp) h8') (okI_set h3' _)) (fin fun sg H Q q => ?_)
              rw [h5']
              exact tLc_of (okTg_slots h6') q
            · cases h2
          | _ => simp [okE] at h2
        | _ => cases h3
    · cases h
  | .asg t e, X, C, W, hd, st, hX, h => by
    simp only [okS] at h
    split at h
    · rename_i ts k p v ps
      simp only [Bool.and_eq_true, Bool.not_eq_true'] at h
      obtain ⟨⟨h1, h2⟩, h3⟩ := h
      cases t with
      | name i => simp [okTg] at h1
      | tup tts =>
        refine PS.imp (ps_asg (soundE e (hd := hd) hX.xc h2) (soundGL tts (hd := hd) hX.xc h1) (by cases v <;> rfl) (by cases v <;> first | rfl | cases h3) rfl) fun D sg H q => ?_
        obtain ⟨th, S, r, m, q⟩ := q
        simp only [evS] at q
        refine ⟨th, S, r, m, PoS.bnd m q fun d S1 th1 H1 v g1 R1 rv q1 => ?_⟩
        cases ea : asgT (.tup tts) (unL S1 d) r with
        | none => rw [ea] at q1; exact q1.elim
        | some r1 =>
          rw [ea] at q1
          exact ⟨th1, S1, r, d, r1, m.go R1 g1, rv, ea, fun sg' m' _ => PoS.nx m' q1⟩
    · cases h
  | .setIx o i e, X, C, W, hd, st, hX, h => by
    simp only [okS] at h
    split at h
    · rename_i u w p v ps
      simp only [Bool.and_eq_true] at h
      obtain ⟨⟨h1, h2⟩, h3⟩ := h
      refine PS.imp (ps_asg (soundE e (hd := hd) hX.xc h3) (pg_sub (soundE o (hd := hd) hX.xc h1) (soundE i (hd := hd) hX.xc h2) (set_setD (ca := ca)) (by
        intro v
        cases w with
        | Slice a b d p => cases i <;> simp [okE] at h2
        | _ => rfl)) (by cases v <;> rfl) (by cases v <;> rfl) rfl) fun D sg H q => ?_
      obtain ⟨th, S, r, m, q⟩ := q
      simp only [evS] at q
      refine ⟨th, S, r, m, PoS.bnd m q fun d S1 th1 H1 v g1 R1 rv q1 => ?_⟩
      have m1 := m.go R1 g1
      refine ⟨th1, S1, r, m1, PoS.bnd m1 q1 fun x S2 th2 H2 vo g2 R2 ro q2 => ?_⟩
      have m2 := m1.go R2 g2
      refine ⟨th2, S2, r, m2, PoS.bnd m2 q2 fun k S3 th3 H3 vk g3 R3 rk q3 => ?_⟩
      have m3 := m2.go R3 g3
      cases es : setIxD S3 x k d with
      | none => rw [es] at q3; exact q3.elim
      | some S4 =>
        rw [es] at q3
        exact ⟨th3, S3, x, k, d, S4, R3, ro.go g3, rk, rv.go (g2.trans g3), es, fun H' g' R' => q3 th3 sg H' g' (m3.go R' g')⟩
    · cases h
  | .setD o i e, X, C, W, hd, st, hX, h => by
    simp only [okS] at h
    split at h
    · rename_i u w p v ps
      simp only [Bool.and_eq_true] at h
      obtain ⟨⟨h1, h2⟩, h3⟩ := h
      refine PS.imp (ps_asg (soundE e (hd := hd) hX.xc h3) (pg_sub (soundE o (hd := hd) hX.xc h1) (soundE i (hd := hd) hX.xc h2) (set_setK (ca := ca) hX.xc.un) (by
        intro v
        cases w with
        | Slice a b d p => cases i <;> simp [okE] at h2
        | _ => rfl)) (by cases v <;> rfl) (by cases v <;> rfl) rfl) fun D sg H q => ?_
      obtain ⟨th, S, r, m, q⟩ := q
      simp only [evS] at q
      refine ⟨th, S, r, m, PoS.bnd m q fun d S1 th1 H1 v g1 R1 rv q1 => ?_⟩
      have m1 := m.go R1 g1
      refine ⟨th1, S1, r, m1, PoS.bnd m1 q1 fun x S2 th2 H2 vo g2 R2 ro q2 => ?_⟩
      have m2 := m1.go R2 g2
      refine ⟨th2, S2, r, m2, PoS.bnd m2 q2 fun k S3 th3 H3 vk g3 R3 rk q3 => ?_⟩
      have m3 := m2.go R3 g3
      cases es : setDD S3 x k d with
      | none => rw [es] at q3; exact q3.elim
      | some S4 =>
        rw [es] at q3
        exact ⟨th3, S3, x, k, d, S4, R3, ro.go g3, rk, rv.go (g2.trans g3), es, fun H' g' R' => q3 th3 sg H' g' (m3.go R' g')⟩
    · cases h
  | .aug i o e, X, C, W, hd, st, hX, h => by
    simp only [okS] at h
    split at h
    · rename_i x p op v ps
      simp only [Bool.and_eq_true] at h
      obtain ⟨⟨⟨h1, h2⟩, h3⟩, h4⟩ := h
      obtain ⟨s1, s2, s3⟩ := hX.xc.setOk h1
      have e1 := bopB_eq h3
      subst e1
      refine ⟨fun pins s sg H D I q => ?_⟩
      refine (ps_aug (i := i) hX.xc.nd s1 s2 (soundE e (hd := hd) hX.xc h4) (pip_aug (ca := ca) (Wx := fun cls dd H' => W cls dd sg H') o) s3).run pins s sg H D I ?_
      obtain ⟨th, S, r, m, q⟩ := q
      simp only [evS, evE] at q
      cases hr : r[i]? with
      | none => rw [hr] at q; exact q.elim
      | some od =>
        cases od with
        | none => rw [hr] at q; exact q.elim
        | some d =>
          obtain ⟨v, v1, v2⟩ := m.env i d hr
          have nx : ∀ k fs, d ≠ .exc k fs := fun k fs z => by subst z; rw [hr] at q; exact q.elim
          have rv : RV X.K ca th H d v := by
            rcases v2 with v2 | ⟨k, fs, _, _, _, z, _⟩
            · exact v2
            · exact absurd z (nx k fs)
          have q' : PoS X.K ca hd th H D W ((R.ok d S).bndS r fun x S1 => (evE c e r S1).bndS r fun y S2 => (augD S2 o x y).bndS r fun z S3 => .nx (r.set i (some z)) S3) := by
            rw [hr] at q
            cases d with
            | exc k fs => exact absurd rfl (nx k fs)
            | _ => exact q
          refine ⟨v, v1, th, S, r, m, PoS.bnd m q' fun y S1 th1 H1 u g1 R1 ru q1 => ?_⟩
          have m1 := m.go R1 g1
          exact ⟨th1, S1, d, y, R1, rv.go g1, ru, PoS.bnd m1 q1 fun z S2 th2 H2 w g2 R2 rz q2 => PoS.nx ((m1.go R2 g2).set (.inl rz)) q2⟩
    · cases h
  | .expr e, X, C, W, hd, st, hX, h => by
    simp only [okS] at h
    split at h
    · rename_i v ps
      simp only [Bool.and_eq_true] at h
      refine PS.imp (ps_expr (soundE e (hd := hd) hX.xc h.1) (nocoB_ok h.2 _ _ _)) fun D sg H q => ?_
      obtain ⟨th, S, r, m, q⟩ := q
      simp only [evS] at q
      exact ⟨th, S, r, m, PoS.bnd m q fun d S1 th1 H1 v g1 R1 rv q1 => PoS.nx (m.go R1 g1) q1⟩
    · cases h
  | .ret e, X, C, W, hd, st, hX, h => by
    simp only [okS] at h
    split at h
    · rename_i v ps
      refine PS.imp (ps_ret (soundE e (hd := hd) hX.xc h)) fun D sg H q => ?_
      obtain ⟨th, S, r, m, q⟩ := q
      simp only [evS] at q
      exact ⟨th, S, r, m, PoS.bnd m q fun d S1 th1 H1 v g1 R1 rv q1 => q1 th1 H1 v (Go.refl _ _) R1 rv⟩
    · cases h
  | .retN, X, C, W, hd, st, hX, h => by
    simp only [okS] at h
    split at h
    · refine PS.imp ps_retN fun D sg H q => ?_
      obtain ⟨th, S, r, m, q⟩ := q
      simp only [evS] at q
      exact q th H _ (Go.refl _ _) m.rep .non
    · cases h
  | .ite t a b, X, C, W, hd, st, hX, h => by
    simp only [okS] at h
    split at h
    · simp only [Bool.and_eq_true] at h
      obtain ⟨⟨h1, h2⟩, h3⟩ := h
      refine PS.imp (ps_if (soundT t (hd := hd) hX.xc h1) (soundSs a (hd := hd) hX h2) (soundSs b (hd := hd) hX h3)) fun D sg H q => ?_
      obtain ⟨th, S, r, m, q⟩ := q
      simp only [evS] at q
      refine ⟨th, S, r, m, PoS.bnd m q fun k S1 th1 H1 v g1 R1 rv q1 => ?_⟩
      subst rv
      cases k with
      | true => rw [if_pos rfl] at q1 ⊢; exact ⟨th1, S1, r, m.go R1 g1, q1⟩
      | false => rw [if_neg Bool.false_ne_true] at q1 ⊢; exact ⟨th1, S1, r, m.go R1 g1, q1⟩
    · cases h
  | .whl t b, X, C, W, hd, st, hX, h => by
    simp only [okS] at h
    split at h
    · simp only [Bool.and_eq_true, Bool.not_eq_true'] at h
      obtain ⟨⟨h1, h2⟩, h3⟩ := h
      exact PS.imp (ps_while (hX.pass h1) (soundT t (hd := hd) hX.xc h2) (soundSs b (hd := hd) hX h3)) fun D sg H q => tWhile_of q
    · cases h
  | .for_ t it b, X, C, W, hd, st, hX, h => by
    simp only [okS] at h
    split at h
    · simp only [Bool.and_eq_true, Bool.not_eq_true'] at h
      obtain ⟨⟨⟨h1, h2⟩, h3⟩, h4⟩ := h
      exact PS.imp (ps_for (hX.pass h1) (hX.xc.calm h1) (soundI it (hd := hd) hX.xc h2) (soundG t (hd := hd) hX.xc h3) (soundSs b (hd := hd) hX h4) (okI_set h2 _)) fun D sg H q => tFor_of q
    · cases h
  | .brk, X, C, W, hd, st, hX, h => by
    simp only [okS] at h
    split at h
    · refine PS.imp ps_break fun D sg H q => ?_
      obtain ⟨th, S, r, m, q⟩ := q
      simp only [evS] at q
      exact q th sg H (Go.refl _ _) m
    · cases h
  | .cnt, X, C, W, hd, st, hX, h => by
    simp only [okS] at h
    split at h
    · refine PS.imp ps_continue fun D sg H q => ?_
      obtain ⟨th, S, r, m, q⟩ := q
      simp only [evS] at q
      exact q th sg H (Go.refl _ _) m
    · cases h
  | .pass, X, C, W, hd, st, hX, h => by
    simp only [okS] at h
    split at h
    · refine PS.imp ps_pass fun D sg H q => ?_
      obtain ⟨th, S, r, m, q⟩ := q
      simp only [evS] at q
      exact q th sg H (Go.refl _ _) m
    · cases h
  | .par i j a b, X, C, W, hd, st, hX, h => by
    simp only [okS] at h
    split at h
    · rename_i x px y py kt pt u v k2 pt2 ps
      simp only [Bool.and_eq_true, Bool.not_eq_true', decide_eq_true_eq] at h
      obtain ⟨⟨⟨⟨⟨⟨⟨⟨⟨⟨h0, h1⟩, h2⟩, h3⟩, h4⟩, h5⟩, h6⟩, h7⟩, h8⟩, h9⟩, h10⟩ := h
      have lx : X.env.scope.names.lookup x = some .local := by rw [hX.xc.sc]; exact lclB_ok h5
      have ly : X.env.scope.names.lookup y = some .local := by rw [hX.xc.sc]; exact lclB_ok h6
      refine PS.imp (ps_par (hX.xc.calm h0) hX.xc.nd (hX.xc.slot h1) (hX.xc.slot h2) h3 lx ly (pa_cons (soundE a (hd := hd) hX.xc h9) (pa_cons (soundE b (hd := hd) hX.xc h10) pa_nil (okE_star h10 _ _)) (okE_star h9 _ _)) (swap2 hX.kind lx ly h4 h7 h8) rfl) fun D sg H q => ?_
      obtain ⟨th, S, r, m, q⟩ := q
      simp only [evS] at q
      refine ⟨th, S, r, m, PoS.bnd m q fun d S1 th1 H1 v g1 R1 rv q1 => ?_⟩
      have m1 := m.go R1 g1
      exact ⟨th1, S1, r, m1, PoS.bnd m1 q1 fun d2 S2 th2 H2 v2 g2 R2 rv2 q2 => ⟨v, v2, rfl, PoS.nx (((m1.go R2 g2).set (.inl (rv.go g2))).set (.inl rv2)) q2⟩⟩
    · cases h
  | .par3 i j k a b d, X, C, W, hd, st, hX, h => by
    simp only [okS] at h
    split at h
    · rename_i x px y py z pz kt pt u v w k2 pt2 ps
      simp only [Bool.and_eq_true, Bool.not_eq_true', decide_eq_true_eq] at h
      obtain ⟨⟨⟨⟨⟨⟨⟨⟨⟨⟨⟨⟨⟨⟨⟨⟨⟨⟨h0, h1⟩, h2⟩, h3⟩, h4⟩, h5⟩, h6⟩, h7⟩, h8⟩, h9⟩, h10⟩, h11⟩, h12⟩, h13⟩, h14⟩, h15⟩, h16⟩, h17⟩, h18⟩ := h
      have lx : X.env.scope.names.lookup x = some .local := by rw [hX.xc.sc]; exact lclB_ok h10
      have ly : X.env.scope.names.lookup y = some .local := by rw [hX.xc.sc]; exact lclB_ok h11
      have lz : X.env.scope.names.lookup z = some .local := by rw [hX.xc.sc]; exact lclB_ok h12
      refine PS.imp (ps_par3 (hX.xc.calm h0) hX.xc.nd (hX.xc.slot h1) (hX.xc.slot h2) (hX.xc.slot h3) h4 h5 h6 lx ly lz (pa_cons (soundE a (hd := hd) hX.xc h16) (pa_cons (soundE b (hd := hd) hX.xc h17) (pa_cons (soundE d (hd := hd) hX.xc h18) pa_nil (okE_star h18 _ _)) (okE_star h17 _ _)) (okE_star h16 _ _)) (swap3 hX.kind lx ly lz h7 h8 h9 h13 h14 h15) rfl) fun D sg H q => ?_
      obtain ⟨th, S, r, m, q⟩ := q
      simp only [evS] at q
      refine ⟨th, S, r, m, PoS.bnd m q fun d S1 th1 H1 v g1 R1 rv q1 => ?_⟩
      have m1 := m.go R1 g1
      refine ⟨th1, S1, r, m1, PoS.bnd m1 q1 fun d2 S2 th2 H2 v2 g2 R2 rv2 q2 => ?_⟩
      have m2 := m1.go R2 g2
      exact ⟨th2, S2, r, m2, PoS.bnd m2 q2 fun d3 S3 th3 H3 v3 g3 R3 rv3 q3 => ⟨v, v2, v3, rfl, PoS.nx ((((m2.go R3 g3).set (.inl (rv.go (g2.trans g3)))).set (.inl (rv2.go g3))).set (.inl rv3)) q3⟩⟩
    · cases h
  | .rse k fl es, X, C, W, hd, st, hX, h => by
    simp only [okS] at h
    split at h
    · rename_i x p m j p2 pos pos'
      simp only [Bool.and_eq_true, Bool.not_eq_true', decide_eq_true_eq, List.isEmpty_iff] at h
      obtain ⟨⟨⟨⟨⟨h1, h2⟩, h3⟩, h4⟩, h5⟩, h6⟩ := h
      obtain ⟨g1, g2, g3⟩ := hX.xc.gl h2
      have F := hX.xc.clf _ _ _ h3
      have K := hX.xc.knf k (kn_of h3)
      refine PS.imp (ps_raise (hX.xc.calm h1) hX.xc.takes (pmk_own PySem.F.excBase_ValueError (K.own h4) F.m K.kp (raises_own K.ex K.ty) g1 g2)) fun D sg H q => ?_
      obtain ⟨th, S, r, m, q⟩ := q
      cases es with
      | cons _ _ => cases h6
      | nil =>
        subst h5
        simp only [evS, evEs] at q
        exact q th sg H _ _ (Go.refl _ _) m ⟨rfl, .inl ⟨rfl, rfl⟩⟩
    · cases h
  | .try_ b h' kn, X, C, W, hd, st, hX, h => by
    simp only [okS] at h
    split at h
    · rename_i body hds pos
      simp only [Bool.and_eq_true, Bool.not_eq_true'] at h
      obtain ⟨⟨⟨h1, h2⟩, h3⟩, h4⟩ := h
      have e0 : hd = none := hX.xc.cold h1
      subst e0
      have hbody : ∀ (W' : WX) (pn : List (Addr × Obj)) (xe : Value → Shared → Prop), Takes (X.tr pn xe) W' → PassesOwn (model X.prog X.w) X.A X.env xe → PSs (X.tr pn xe) body (rdSs X.K ca none c W' b) := fun W' pn xe tk pw =>
        soundSs b (hd := none) (X := X.tr pn xe) (W := W') ⟨⟨hX.xc.hN, hX.xc.nd, hX.xc.sc, hX.xc.calm, hX.xc.fn, hX.xc.fns, hX.xc.cons, hX.xc.blt, tk, hX.xc.un, fun _ => rfl, fun a D e => (by cases e), hX.xc.clf, hX.xc.knf⟩, fun _ => pw, hX.kind, hX.stk, hX.frm⟩ h2
      cases h' with
      | nil => simp [okHs] at h4
      | cons k i su r =>
        simp only [okHs] at h4
        split at h4
        · rename_i x np nm b0 bs pos'
          simp only [Bool.and_eq_true] at h4
          obtain ⟨⟨⟨⟨h5, h6⟩, h7⟩, h8⟩, h9⟩ := h4
          have hr : r = .nil := by cases r with
            | nil => rfl
            | cons _ _ _ _ => cases h5
          subst hr
          obtain ⟨g1, g2, g3⟩ := hX.xc.gl h6
          obtain ⟨cv, hc, hexm⟩ : ∃ cv, Names X x cv ∧ ∀ k' ∈ kn, PySem.W.exmOne X.K (.ref (ca k')) cv = some (k.all (subC k')) := by
            cases k with
            | none =>
              simp only [Bool.and_eq_true, beq_iff_eq] at h7
              refine ⟨.type "ValueError", ⟨g1, g2, .inr ⟨hX.xc.blt x h7.2, by rw [h7.1]; decide +kernel, g3⟩⟩, fun k' m => ?_⟩
              have K := hX.xc.knf k' (kn_mem h3 m)
              unfold PySem.W.exmOne
              have hs : PySem.W.subIn X.K (.type "ValueError") (.type "BaseException") = some true := (show (PySem.fastBuiltinMro "ValueError").map (·.contains (Value.type "BaseException")) = some true from by decide +kernel)
              rw [hs, if_pos (show (some true == some true) = true from rfl)]
              unfold PySem.W.kitCls
              dsimp only
              rw [if_pos (by decide +kernel)]
              exact K.ve
            | some j =>
              obtain ⟨bb, e, _⟩ := clsB_ok hX.xc h7
              have F := hX.xc.clf _ _ _ e
              refine ⟨.ref (ca j), ⟨g1, g2, .inl F.m⟩, fun k' m => ?_⟩
              have K := hX.xc.knf k' (kn_mem h3 m)
              exact PySem.W.exm_ref F.ex F.hd F.ty (K.rel _ _ _ e)
          have hsuite : ∀ (a : Addr) (oe : Obj) (cls : Value) (d : Option Addr) (pn : List (Addr × Obj)), Zc cls d oe → (∃ vs, oe.data = .fields vs) → PSs (X.suite a ((a, oe) :: pn)) (b0 :: bs) (rdSs X.K ca (some (a, cls, d)) c (fun _ _ _ _ => False) su) := fun a oe cls d pn hz hf =>
            soundSs su (hd := some (a, cls, d)) (X := X.suite a ((a, oe) :: pn)) (C := { C with hot := true }) (W := fun _ _ _ _ => False) ⟨⟨hX.xc.hN, hX.xc.nd, hX.xc.sc, fun e => (by cases e), hX.xc.fn, fun e => (by cases e), hX.xc.cons, hX.xc.blt, takes_none5, hX.xc.un, fun e => (by cases e), fun a' D e ec => (by cases e; exact call_isEX ec hz hf), hX.xc.clf, hX.xc.knf⟩, fun e => (by cases e), hX.kind, hX.stk, hX.frm⟩ h9
          cases i with
          | none =>
            cases nm with
            | some _ => cases h8
            | none =>
              refine PS.imp (ps_try_only hX.stk hX.frm hc hX.xc.takes hbody hsuite) fun D sg H q => ?_
              obtain ⟨th, S, r, m, q⟩ := q
              simp only [evS] at q
              refine ⟨th, S, r, m, ?_⟩
              cases e : evSs c b r S with
              | ex x1 r1 S1 =>
                rw [e] at q
                dsimp only at q
                split at q
                · rename_i hk
                  refine fun th1 sg1 H1 cls dd g1 m1 rx => ⟨_, by have := hexm _ hk; rw [← rx.1] at this; exact this, fun ht a ha => ?_, fun hff => ?_⟩
                  · simp only [evH] at q
                    rw [if_pos ht] at q
                    exact ⟨th1, S1, r1, m1.warm, coolR_of (PoS.later g1 q)⟩
                  · simp only [evH] at q
                    rw [if_neg (by rw [hff]; exact Bool.false_ne_true)] at q
                    exact q th1 sg1 H1 cls dd g1 m1 rx
                · exact q.elim
              | _ => rw [e] at q; exact q
          | some i =>
            cases nm with
            | none => cases h8
            | some n =>
              simp only [Bool.and_eq_true] at h8
              refine PS.imp (ps_try_as hX.stk hX.frm hX.xc.nd (hX.xc.slot h8.1) (by show X.env.scope.names.lookup n = some .local; rw [hX.xc.sc]; exact lclB_ok h8.2) hc hX.xc.takes hbody hsuite) fun D sg H q => ?_
              obtain ⟨th, S, r, m, q⟩ := q
              simp only [evS] at q
              refine ⟨th, S, r, m, ?_⟩
              cases e : evSs c b r S with
              | ex x1 r1 S1 =>
                rw [e] at q
                dsimp only at q
                split at q
                · rename_i hk
                  refine fun th1 sg1 H1 cls dd g1 m1 rx => ⟨_, by have := hexm _ hk; rw [← rx.1] at this; exact this, fun ht a ha => ?_, fun hff => ?_⟩
                  · simp only [evH] at q
                    rw [if_pos ht] at q
                    exact ⟨th1, S1, _, m1.warm.set (.inr ⟨_, _, a, cls, dd, rfl, rfl, rfl, rx⟩), coolS_of (PoS.later g1 q)⟩
                  · simp only [evH] at q
                    rw [if_neg (by rw [hff]; exact Bool.false_ne_true)] at q
                    exact q th1 sg1 H1 cls dd g1 m1 rx
                · exact q.elim
              | _ => rw [e] at q; exact q
        · cases h4
    · cases h
  | .never, X, C, W, hd, st, hX, h => PS.imp ps_never fun D sg H q => by obtain ⟨th, S, r, m, q⟩ := q; simp only [evS] at q; exact q
theorem soundSs : ∀ (s : Ss) {X : Cx} {C : Cc} {W : WX} {hd : Hd} {st : List Stmt}, XS X C c ca W hd → okSs s C st = true → PSs X st (rdSs X.K ca hd c W s)
  | .nil, X, C, W, hd, st, hX, h => by
    simp only [okSs, List.isEmpty_iff] at h
    subst h
    refine PSs.imp pss_nil fun D sg H q => ?_
    obtain ⟨th, S, r, m, q⟩ := q
    simp only [evSs] at q
    exact PoS.nx m q
  | .cons s ss, X, C, W, hd, st, hX, h => by
    cases st with
    | nil => simp [okSs] at h
    | cons x xs =>
      simp only [okSs, Bool.and_eq_true] at h
      exact PSs.seq (soundS s (hd := hd) hX h.1) (soundSs ss (hd := hd) hX h.2)
end
end
/-- what the top leaves of the defs, constants and built-in names -/
structure Top (w : World) (K : PySem.W.Frag) (mg : Str → Option Value) (ca : Nat → Addr) (G : Tab) (fns : List (Str × Nat × Nat)) (cons : List (Str × D)) (blt : List Str) (cls : List (Str × Nat × Bool)) : Prop where
  hclf : ∀ y j b, cls.lookup y = some (j, b) → ClF K mg (ca j) y
  hknf : ∀ k, k ∈ knOf cls → KnF K ca cls k
  hcons : ∀ x d, cons.lookup x = some d → ∃ u v, mg x = some u ∧ RelV v u ∧ (∀ th H, RV K ca th H d v) ∧ KdF K w d v
  hblt : ∀ x, blt.contains x = true → mg x = none
  hfns : ∀ x f n, fns.lookup x = some (f, n) → ∃ (st : Stmt) (N ps : List Str) (fn : Fn) (fA : Addr) (fd : FuncData) (qual nm : Str), Fun K nm qual st fA fd ∧ mg x = some (.ref fA) ∧ Binds K fd ps [] ∧ ps.length = n ∧ FnScope N ps (defScope st) ∧
    G f = some fn ∧ fn.ar = n ∧ fn.n = N.length ∧ okSs fn.body ⟨N, defScope st, fun _ => true, false, fns, cons, blt, cls⟩ (defBody st) = true
section
variable {P : Program} {w : World} {K : PySem.W.Frag} {mg : Str → Option Value} {base : Heap} {ca : Nat → Addr} {G : Tab} {fns : List (Str × Nat × Nat)} {cons : List (Str × D)} {blt : List Str} {cls : List (Str × Nat × Bool)}
theorem RVs.start {th : List Addr} {H : Hp} {S : Sto} {hd : Hd} {ds : List D} {vs : List V} {N : List Str} (R : Rep K ca th H S) (r : RVs K ca th H ds vs) : Sim K ca hd th H S (ds.map some ++ List.replicate (N.length - ds.length) none) (L2.start N vs) := by
  have hl := r.length
  refine ⟨R, ?_, fun i d h => ?_⟩
  · unfold L2.start
    simp [hl]
  · have hi : i < ds.length := by
      by_cases hi : i < ds.length
      · exact hi
      · rw [List.getElem?_append_right (by simpa using hi), List.getElem?_replicate] at h
        split at h <;> cases h
    rw [List.getElem?_append_left (by simpa using hi), List.getElem?_map] at h
    obtain ⟨d', h1, h2⟩ := map_some h
    cases h2
    obtain ⟨v, h3, h4⟩ := r.get h1
    refine ⟨v, ?_, .inl h4⟩
    unfold L2.start
    rw [List.getElem?_append_left (by simp; omega), List.getElem?_map, h3]
    rfl
/-- the defs at a level of calls -/
def AllOk (P : Program) (w : World) (K : PySem.W.Frag) (mg : Str → Option Value) (base : Heap) (ca : Nat → Addr) (G : Tab) (fns : List (Str × Nat × Nat)) (k : Nat) : Prop :=
  ∀ (x : Str) (f n : Nat), fns.lookup x = some (f, n) → ∃ (fA : Addr) (fd : FuncData) (ps : List Str), mg x = some (.ref fA) ∧ PySem.W.keepIn K (.ref fA) = true ∧ Binds K fd ps [] ∧ ps.length = n ∧
    FnOk P w K mg base (L2.CX P w) k fA fd ps (spOf K ca (callN G k) f n)
theorem fn_one (T : Top w K mg ca G fns cons blt cls) {k : Nat} (IH : AllOk P w K mg base ca G fns k) {st : Stmt} {N ps : List Str} {fn : Fn} {fA : Addr} {fd : FuncData} {qual nm : Str} {f n : Nat} (F : Fun K nm qual st fA fd) (hl : ps.length = n) (hS : FnScope N ps (defScope st))
    (hG : G f = some fn) (h1 : fn.ar = n) (h2 : fn.n = N.length) (h3 : okSs fn.body ⟨N, defScope st, fun _ => true, false, fns, cons, blt, cls⟩ (defBody st) = true) :
    FnOk P w K mg base (L2.CX P w) (k + 1) fA fd ps (spOf K ca (callN G (k + 1)) f n) := by
  refine F.okX hS (fun vs H Q E q => ?_) fun cdv A outer s H vs Q E hr q => ?_
  · obtain ⟨th, S, ds, R, rv, hn, q⟩ := q
    rw [← rv.length, hn, hl]
  · generalize hXX : cxOf (L2.CX P w) P w K mg base N qual (defScope st) fA cdv A outer s H E = X
    have e1 : X.N = N := by rw [← hXX]; rfl
    have e2 : X.K = K := by rw [← hXX]; rfl
    have e3 : X.mg = mg := by rw [← hXX]; rfl
    have eW : X.w = w := by rw [← hXX]; rfl
    have e4 : X.env.scope = defScope st := by rw [← hXX]; rfl
    have tk : Takes X (fun cls dd _ H' => E cls dd H') := by
      rw [← hXX]
      exact takes_of rfl rfl rfl rfl
    have rm : Room k X.A := by rw [← hXX]; exact hr
    have xc : XC X ⟨N, defScope st, fun _ => true, false, fns, cons, blt, cls⟩ (callN G k) ca (fun cls dd _ H' => E cls dd H') none :=
      { hN := e1
        nd := by rw [e1]; exact hS.nd
        sc := e4
        calm := fun _ => by rw [← hXX]; rfl
        fn := fun _ _ => by rw [← hXX]; rfl
        fns := fun _ y g m hg => by
          obtain ⟨gA, gd, qs, q1, q2, q3, q4, q5⟩ := IH y g m hg
          refine ⟨k, gA, gd, qs, rm, by rw [e3]; exact q1, by rw [e2]; exact q2, by rw [e2]; exact q3, q4, ?_⟩
          rw [← hXX]
          exact q5
        cons := fun y d hy => by
          obtain ⟨u, v, q1, q2, q3, q4⟩ := T.hcons y d hy
          exact ⟨u, v, by rw [e3]; exact q1, q2, by rw [e2]; exact q3, by rw [e2, eW]; exact q4⟩
        blt := fun y hy => by rw [e3]; exact T.hblt y hy
        takes := tk
        un := by have := rm.un; omega
        cold := fun _ => rfl
        hotI := fun a D e => by cases e
        clf := fun y j b hy => by rw [e2, e3]; exact T.hclf y j b hy
        knf := fun k hk => by rw [e2]; exact T.hknf k hk }
    have xs : XS X ⟨N, defScope st, fun _ => true, false, fns, cons, blt, cls⟩ (callN G k) ca (fun cls dd _ H' => E cls dd H') none :=
      ⟨xc, fun _ => by rw [← hXX]; exact passes_of rfl, by rw [e4]; exact hS.kind, by rw [← hXX]; rfl, by rw [← hXX]; rfl⟩
    refine ⟨_, soundSs fn.body (hd := none) xs h3, ?_⟩
    obtain ⟨th, S, ds, R, rv, hn, q⟩ := q
    have q' : Po K ca th H (RV K ca) (fun cls dd H' => E cls dd H') Q (runF (callN G k) fn ds S) := by
      have e : callN G (k + 1) f ds S = runF (callN G k) fn ds S := by
        show (match G f with | some fn => runF (callN G k) fn ds S | none => .bad) = _
        rw [hG]
      rw [← e]
      exact q
    unfold runF at q'
    rw [if_pos (hn.trans h1.symm)] at q'
    rw [e2]
    refine ⟨th, S, _, RVs.start R rv, ?_⟩
    rw [h2] at q'
    rw [h1, ← hn] at q'
    cases ev : evSs (callN G k) fn.body (ds.map some ++ List.replicate (N.length - ds.length) none) S with
    | nx r1 S1 =>
      rw [ev] at q'
      exact fun th1 sg1 H1 g1 m1 => q' th1 H1 _ g1 m1.rep .non
    | rt d S1 =>
      rw [ev] at q'
      exact fun th1 H1 v g1 R1 rv1 => q' th1 H1 v g1 R1 rv1
    | ex y r1 S1 =>
      rw [ev] at q'
      exact fun th1 sg1 H1 cls dd g1 m1 rx => q' th1 H1 cls dd g1 m1.rep rx
    | bk r1 S1 => rw [ev] at q'; exact q'.elim
    | ct r1 S1 => rw [ev] at q'; exact q'.elim
    | bad => rw [ev] at q'; exact q'.elim
theorem fn_ok (T : Top w K mg ca G fns cons blt cls) : ∀ (k : Nat), AllOk P w K mg base ca G fns k
  | 0 => fun x f n h => by
    obtain ⟨st, N, ps, fn, fA, fd, qual, nm, F, hm, hb, hl, hS, hG, h1, h2, h3⟩ := T.hfns x f n h
    refine ⟨fA, fd, ps, hm, F.kp, hb, hl, ⟨fun vs H Q E q => ?_, fun A outer s H args us vs Q E hr e0 hbt hv q => ?_⟩⟩
    · obtain ⟨th, S, ds, R, rv, hn, q⟩ := q
      rw [← rv.length, hn, hl]
    · obtain ⟨th, S, ds, R, rv, hn, q⟩ := q
      exact q.elim
  | k + 1 => fun x f n h => by
    obtain ⟨st, N, ps, fn, fA, fd, qual, nm, F, hm, hb, hl, hS, hG, h1, h2, h3⟩ := T.hfns x f n h
    exact ⟨fA, fd, ps, hm, F.kp, hb, hl, fn_one T (fn_ok T k) F hl hS hG h1 h2 h3⟩
/-- a law's promise: of a script of so many ints it tells True -/
def spLaw (K : PySem.W.Frag) (n : Nat) : Sp := fun vs H Q _ => ∃ (a : Addr) (ns : List Int), vs = [.ref a] ∧ FzL K H a (ns.map V.int) ∧ ns.length ≤ n ∧ ∀ H', Q (.bl true) H'
theorem only_fz {H : Hp} {a : Addr} {xs : List V} (h : Only H) (s : SqL K H a xs) : FzL K H a xs := by
  rcases s with (s | ⟨o, s⟩) | s
  · rcases h a with z | ⟨o, ys, z⟩
    · rw [z] at s; cases s
    · rw [z] at s; cases s
  · exact .inl ⟨o, s⟩
  · exact .inr s
theorem rvs_ints {H : Hp} {th : List Addr} : ∀ ns : List Int, RVs K ca th H (ns.map D.int) (ns.map V.int)
  | [] => .nil
  | n :: ns => .cons (.int n) (rvs_ints ns)
theorem law_imp {CX : CXT} {k f m : Nat} {fA : Addr} {fd : FuncData} {ps : List Str} (F : FnOk P w K mg base CX k fA fd ps (spOf K ca (callN G k) f 1)) (h : ∀ ns : List Int, ns.length ≤ m → ∃ S, callN G k f [.frl (ns.map D.int)] [] = .ok (.bl true) S) :
    FnOk P w K mg base CX k fA fd ps (spLaw K m) := F.imp fun vs H Q E q => by
  obtain ⟨a, ns, rfl, hz, hn, q⟩ := q
  obtain ⟨S, e⟩ := h ns hn
  refine ⟨[], [], [.frl (ns.map D.int)], ⟨rfl, List.nodup_nil, fun l a o h1 _ => by simp at h1⟩, .one (.frl hz (rvs_ints ns)), rfl, ?_⟩
  rw [e]
  exact fun th' H' v _ _ r => by rw [r.bl_inv]; exact q H'
theorem lookup_mem {A : Type} : ∀ {l : List (Str × A)} {x : Str} {a : A}, l.lookup x = some a → (x, a) ∈ l
  | (y, b) :: l, x, a, h => by
    by_cases e : x = y
    · subst e
      simp [List.lookup] at h
      subst h
      simp
    · have e' : (x == y) = false := by simpa using e
      simp [List.lookup, e'] at h
      exact List.mem_cons_of_mem _ (lookup_mem h)
theorem top_of (h01 : ∀ p ∈ cls, ClF K mg (ca p.2.1) p.1) (h02 : ∀ k ∈ knOf cls, KnF K ca cls k) (h1 : ∀ p ∈ cons, ∃ u v, mg p.1 = some u ∧ RelV v u ∧ (∀ th H, RV K ca th H p.2 v) ∧ KdF K w p.2 v) (h2 : ∀ x ∈ blt, mg x = none)
    (h3 : ∀ p ∈ fns, ∃ (st : Stmt) (N ps : List Str) (fn : Fn) (fA : Addr) (fd : FuncData) (qual nm : Str), Fun K nm qual st fA fd ∧ mg p.1 = some (.ref fA) ∧ Binds K fd ps [] ∧ ps.length = p.2.2 ∧ FnScope N ps (defScope st) ∧
      G p.2.1 = some fn ∧ fn.ar = p.2.2 ∧ fn.n = N.length ∧ okSs fn.body ⟨N, defScope st, fun _ => true, false, fns, cons, blt, cls⟩ (defBody st) = true) : Top w K mg ca G fns cons blt cls where
  hclf := fun y j b h => h01 _ (lookup_mem h)
  hknf := fun k h => h02 k h
  hcons := fun x d h => h1 _ (lookup_mem h)
  hblt := fun x h => h2 x (by simpa using h)
  hfns := fun x f n h => h3 _ (lookup_mem h)
theorem kdF_no {K : PySem.W.Frag} {w : World} {d : D} {v : V} (h : ∀ kvs, d ≠ .kd kvs) : KdF K w d v := fun kvs e => absurd e (h kvs)
theorem cx_false {P : Program} {w : World} {H : Hp} {s s' : Shared} {e : Value} (h : L2.CX P w [] H s (fun _ _ _ => False) e s') : False := by
  obtain ⟨_, _, _, _, _, _, _, _, _, _, _, _, z⟩ := h
  exact z
end
end HP
namespace HP
open PySem L2
/-- it ends well, with this -/
def Wp {A : Type} (x : R A) (Q : A → Sto → Prop) : Prop := ∃ a S, x = .ok a S ∧ Q a S
/-- what is wanted behind a statement -/
structure Post where
  nx : Ev → Sto → Prop
  rt : D → Sto → Prop
  bk : Ev → Sto → Prop := fun _ _ => False
  ct : Ev → Sto → Prop := fun _ _ => False
  ex : Xn → Ev → Sto → Prop := fun _ _ _ => False
def WpS (x : RS) (P : Post) : Prop :=
  match x with
  | .nx r S => P.nx r S
  | .rt d S => P.rt d S
  | .bk r S => P.bk r S
  | .ct r S => P.ct r S
  | .ex x r S => P.ex x r S
  | .bad => False
section
variable {A B : Type} {c : Call} {r : Ev} {S : Sto} {Q : A → Sto → Prop} {P : Post}
theorem wp_ok {a : A} (h : Q a S) : Wp (.ok a S) Q := ⟨a, S, rfl, h⟩
theorem wp_bnd {x : R B} {f : B → Sto → R A} (h : Wp x fun b S => Wp (f b S) Q) : Wp (x.bnd f) Q := by
  obtain ⟨b, S1, e, h⟩ := h
  rw [e]
  exact h
theorem wp_mono {x : R A} {Q' : A → Sto → Prop} (h : Wp x Q') (k : ∀ a S, Q' a S → Q a S) : Wp x Q := by
  obtain ⟨b, S1, e, h⟩ := h
  exact ⟨b, S1, e, k _ _ h⟩
theorem wps_bnd {x : R B} {f : B → Sto → RS} (h : Wp x fun b S => WpS (f b S) P) : WpS (x.bndS r f) P := by
  obtain ⟨b, S1, e, h⟩ := h
  rw [e]
  exact h
theorem wps_mono {x : RS} {P' : Post} (h : WpS x P') (h1 : ∀ r S, P'.nx r S → P.nx r S) (h2 : ∀ d S, P'.rt d S → P.rt d S) (h3 : ∀ r S, P'.bk r S → P.bk r S) (h4 : ∀ r S, P'.ct r S → P.ct r S) (h5 : ∀ x r S, P'.ex x r S → P.ex x r S) : WpS x P := by
  cases x with
  | nx r S => exact h1 _ _ h
  | rt d S => exact h2 _ _ h
  | bk r S => exact h3 _ _ h
  | ct r S => exact h4 _ _ h
  | ex x r S => exact h5 _ _ _ h
  | bad => exact h
end
section
variable {c : Call} {r : Ev} {S : Sto} {Q : D → Sto → Prop} {P : Post}
def noExc : D → Bool
  | .exc _ _ => false | _ => true
theorem wp_var {i : Nat} {d : D} (h : r[i]? = some (some d)) (n : noExc d = true) (k : Q d S) : Wp (evE c (.var i) r S) Q := by
  refine ⟨d, S, ?_, k⟩
  simp only [evE]
  rw [h]
  cases d <;> first | rfl | cases n
theorem wp_con {d : D} (k : Q d S) : Wp (evE c (.con d) r S) Q := ⟨d, S, by simp only [evE], k⟩
theorem wp_int {i : Int} (k : Q (.int i) S) : Wp (evE c (.int i) r S) Q := ⟨_, S, by simp only [evE], k⟩
theorem wp_bl {i : Bool} (k : Q (.bl i) S) : Wp (evE c (.bl i) r S) Q := ⟨_, S, by simp only [evE], k⟩
theorem wp_str {i : Str} (k : Q (.str i) S) : Wp (evE c (.str i) r S) Q := ⟨_, S, by simp only [evE], k⟩
theorem wp_non (k : Q .non S) : Wp (evE c .non r S) Q := ⟨_, S, by simp only [evE], k⟩
theorem wp_tup {es : Es} (k : Wp (evEs c es r S) fun ds S1 => Q (.tup ds) S1) : Wp (evE c (.tup es) r S) Q := by
  simp only [evE]; exact wp_bnd (wp_mono k fun a S h => wp_ok h)
theorem wp_lst {es : Es} (k : Wp (evEs c es r S) fun ds S1 => Q (.loc S1.length) (S1 ++ [.lst ds])) : Wp (evE c (.lst es) r S) Q := by
  simp only [evE]; exact wp_bnd (wp_mono k fun a S h => wp_ok h)
theorem wp_dic0 (k : Q (.loc S.length) (S ++ [.dic []])) : Wp (evE c .dic0 r S) Q := by
  simp only [evE]; exact wp_ok k
theorem wp_bin {o : Bop} {a b : E} (k : Wp (evE c a r S) fun x S1 => Wp (evE c b r S1) fun y S2 => Wp (binD S2 o x y) Q) : Wp (evE c (.bin o a b) r S) Q := by
  simp only [evE]; exact wp_bnd (wp_mono k fun a S h => wp_bnd h)
theorem wp_neg {a : E} (k : Wp (evE c a r S) fun x S1 => Wp (negD S1 x) Q) : Wp (evE c (.neg a) r S) Q := by
  simp only [evE]; exact wp_bnd k
theorem wp_cmp {o : Cop} {a b : E} (k : Wp (evE c a r S) fun x S1 => Wp (evE c b r S1) fun y S2 => Wp (cmpD S2 o x y) Q) : Wp (evE c (.cmp o a b) r S) Q := by
  simp only [evE]; exact wp_bnd (wp_mono k fun a S h => wp_bnd h)
theorem wp_chain {o o2 : Cop} {a b d : E} (k : Wp (evE c a r S) fun x S1 => Wp (evE c b r S1) fun y S2 => Wp (cmpD S2 o x y) fun z S3 => ∃ q, z = .bl q ∧ (q = true → Wp (evE c d r S3) fun w S4 => Wp (cmpD S4 o2 y w) Q) ∧ (q = false → Q (.bl false) S3)) :
    Wp (evE c (.chain o o2 a b d) r S) Q := by
  simp only [evE]
  refine wp_bnd (wp_mono k fun a S h => wp_bnd (wp_mono h fun y S h => wp_bnd (wp_mono h fun z S h => ?_)))
  obtain ⟨q, rfl, h1, h2⟩ := h
  cases q with
  | true => exact wp_bnd (h1 rfl)
  | false => exact wp_ok (h2 rfl)
theorem wp_band1 {e : E} (k : Wp (evE c e r S) Q) : Wp (evE c (.band (.cons e .nil)) r S) Q := by simp only [evE, evAnd]; exact k
theorem wp_band2 {e e2 : E} {es : Es} (k : Wp (evE c e r S) fun z S1 => ∃ q, z = .bl q ∧ (q = true → Wp (evE c (.band (.cons e2 es)) r S1) Q) ∧ (q = false → Q (.bl false) S1)) : Wp (evE c (.band (.cons e (.cons e2 es))) r S) Q := by
  simp only [evE, evAnd] at k ⊢
  refine wp_bnd (wp_mono k fun z S h => ?_)
  obtain ⟨q, rfl, h1, h2⟩ := h
  cases q with
  | true => exact h1 rfl
  | false => exact wp_ok (h2 rfl)
theorem wp_bor1 {e : E} (k : Wp (evE c e r S) Q) : Wp (evE c (.bor (.cons e .nil)) r S) Q := by simp only [evE, evOr]; exact k
theorem wp_bor2 {e e2 : E} {es : Es} (k : Wp (evE c e r S) fun z S1 => ∃ q, z = .bl q ∧ (q = true → Q (.bl true) S1) ∧ (q = false → Wp (evE c (.bor (.cons e2 es)) r S1) Q)) : Wp (evE c (.bor (.cons e (.cons e2 es))) r S) Q := by
  simp only [evE, evOr] at k ⊢
  refine wp_bnd (wp_mono k fun z S h => ?_)
  obtain ⟨q, rfl, h1, h2⟩ := h
  cases q with
  | true => exact wp_ok (h1 rfl)
  | false => exact h2 rfl
theorem wp_bnot {a : E} (k : Wp (evE c a r S) fun x S1 => Wp (truR S1 x) fun b S2 => Q (.bl (!b)) S2) : Wp (evE c (.bnot a) r S) Q := by
  simp only [evE]; exact wp_bnd (wp_mono k fun a S h => wp_bnd (wp_mono h fun b S h => wp_ok h))
theorem wp_ife {t a b : E} (k : Wp (evT c t r S) fun q S1 => (q = true → Wp (evE c a r S1) Q) ∧ (q = false → Wp (evE c b r S1) Q)) : Wp (evE c (.ife t a b) r S) Q := by
  simp only [evE]
  refine wp_bnd (wp_mono k fun q S h => ?_)
  cases q with
  | true => rw [if_pos rfl]; exact h.1 rfl
  | false => rw [if_neg Bool.false_ne_true]; exact h.2 rfl
theorem wp_call {f : Nat} {es : Es} (k : Wp (evEs c es r S) fun ds S1 => Wp (c f ds S1) Q) : Wp (evE c (.call f es) r S) Q := by
  simp only [evE]; exact wp_bnd k
theorem wp_bcall {f : Bf} {es : Es} (k : Wp (evEs c es r S) fun ds S1 => Wp (bfD S1 f ds) Q) : Wp (evE c (.bcall f es) r S) Q := by
  simp only [evE]; exact wp_bnd k
theorem wp_meth {m : Mt} {o : E} {es : Es} (k : Wp (evE c o r S) fun x S1 => isL S1 x = true ∧ Wp (evEs c es r S1) fun ds S2 => Wp (mtD S2 m x ds) Q) : Wp (evE c (.meth m o es) r S) Q := by
  simp only [evE]
  refine wp_bnd (wp_mono k fun x S h => ?_)
  rw [if_pos h.1]
  exact wp_bnd h.2
theorem wp_ix {a b : E} (k : Wp (evE c a r S) fun x S1 => Wp (evE c b r S1) fun y S2 => Wp (ixD S2 x y) Q) : Wp (evE c (.ix a b) r S) Q := by
  simp only [evE]; exact wp_bnd (wp_mono k fun a S h => wp_bnd h)
theorem wp_sl {a : E} {lo hi : Eo} (k : Wp (evE c a r S) fun x S1 => Wp (evO c lo r S1) fun l S2 => Wp (evO c hi r S2) fun h S3 => Wp (slD S3 x l h) Q) : Wp (evE c (.sl a lo hi) r S) Q := by
  simp only [evE]; exact wp_bnd (wp_mono k fun a S h => wp_bnd (wp_mono h fun l S h => wp_bnd h))
theorem wp_rev {a : E} (k : Wp (evE c a r S) fun x S1 => Wp (revD S1 x) Q) : Wp (evE c (.rev a) r S) Q := by
  simp only [evE]; exact wp_bnd k
theorem wp_nil {Q : List D → Sto → Prop} (k : Q [] S) : Wp (evEs c .nil r S) Q := by simp only [evEs]; exact wp_ok k
theorem wp_cons {e : E} {es : Es} {Q : List D → Sto → Prop} (k : Wp (evE c e r S) fun d S1 => Wp (evEs c es r S1) fun ds S2 => Q (d :: ds) S2) : Wp (evEs c (.cons e es) r S) Q := by
  simp only [evEs]; exact wp_bnd (wp_mono k fun a S h => wp_bnd (wp_mono h fun ds S h => wp_ok h))
theorem wp_oN {Q : Option Int → Sto → Prop} (k : Q none S) : Wp (evO c .none r S) Q := by simp only [evO]; exact wp_ok k
theorem wp_oS {e : E} {Q : Option Int → Sto → Prop} (k : Wp (evE c e r S) fun d S1 => ∃ i, d = .int i ∧ Q (some i) S1) : Wp (evO c (.some e) r S) Q := by
  simp only [evO]
  refine wp_bnd (wp_mono k fun d S h => ?_)
  obtain ⟨i, rfl, h⟩ := h
  exact wp_ok h
theorem wpt_and1 {e : E} {Q : Bool → Sto → Prop} (k : Wp (evT c e r S) Q) : Wp (evT c (.band (.cons e .nil)) r S) Q := by simp only [evT, evTA]; exact k
theorem wpt_and2 {e e2 : E} {es : Es} {Q : Bool → Sto → Prop} (k : Wp (evT c e r S) fun q S1 => (q = true → Wp (evT c (.band (.cons e2 es)) r S1) Q) ∧ (q = false → Q false S1)) : Wp (evT c (.band (.cons e (.cons e2 es))) r S) Q := by
  simp only [evT, evTA] at k ⊢
  refine wp_bnd (wp_mono k fun q S h => ?_)
  cases q with
  | true => rw [if_pos rfl]; exact h.1 rfl
  | false => rw [if_neg Bool.false_ne_true]; exact wp_ok (h.2 rfl)
theorem wpt_or1 {e : E} {Q : Bool → Sto → Prop} (k : Wp (evT c e r S) Q) : Wp (evT c (.bor (.cons e .nil)) r S) Q := by simp only [evT, evTO]; exact k
theorem wpt_or2 {e e2 : E} {es : Es} {Q : Bool → Sto → Prop} (k : Wp (evT c e r S) fun q S1 => (q = true → Q true S1) ∧ (q = false → Wp (evT c (.bor (.cons e2 es)) r S1) Q)) : Wp (evT c (.bor (.cons e (.cons e2 es))) r S) Q := by
  simp only [evT, evTO] at k ⊢
  refine wp_bnd (wp_mono k fun q S h => ?_)
  cases q with
  | true => rw [if_pos rfl]; exact wp_ok (h.1 rfl)
  | false => rw [if_neg Bool.false_ne_true]; exact h.2 rfl
theorem wpt_not {e : E} {Q : Bool → Sto → Prop} (k : Wp (evT c e r S) fun q S1 => Q (!q) S1) : Wp (evT c (.bnot e) r S) Q := by
  simp only [evT]; exact wp_bnd (wp_mono k fun q S h => wp_ok h)
theorem wpt_cmp {o : Cop} {a b : E} {Q : Bool → Sto → Prop} (k : Wp (evE c (.cmp o a b) r S) fun d S1 => Wp (truR S1 d) Q) : Wp (evT c (.cmp o a b) r S) Q := by simp only [evT]; exact wp_bnd k
theorem wpt_chain {o o2 : Cop} {a b d : E} {Q : Bool → Sto → Prop} (k : Wp (evE c (.chain o o2 a b d) r S) fun d S1 => Wp (truR S1 d) Q) : Wp (evT c (.chain o o2 a b d) r S) Q := by simp only [evT]; exact wp_bnd k
theorem wpt_var {i : Nat} {Q : Bool → Sto → Prop} (k : Wp (evE c (.var i) r S) fun d S1 => Wp (truR S1 d) Q) : Wp (evT c (.var i) r S) Q := by simp only [evT]; exact wp_bnd k
theorem wpt_call {f : Nat} {es : Es} {Q : Bool → Sto → Prop} (k : Wp (evE c (.call f es) r S) fun d S1 => Wp (truR S1 d) Q) : Wp (evT c (.call f es) r S) Q := by simp only [evT]; exact wp_bnd k
theorem wpt_bcall {f : Bf} {es : Es} {Q : Bool → Sto → Prop} (k : Wp (evE c (.bcall f es) r S) fun d S1 => Wp (truR S1 d) Q) : Wp (evT c (.bcall f es) r S) Q := by simp only [evT]; exact wp_bnd k
theorem wpt_meth {m : Mt} {o : E} {es : Es} {Q : Bool → Sto → Prop} (k : Wp (evE c (.meth m o es) r S) fun d S1 => Wp (truR S1 d) Q) : Wp (evT c (.meth m o es) r S) Q := by simp only [evT]; exact wp_bnd k
theorem wpt_ix {a b : E} {Q : Bool → Sto → Prop} (k : Wp (evE c (.ix a b) r S) fun d S1 => Wp (truR S1 d) Q) : Wp (evT c (.ix a b) r S) Q := by simp only [evT]; exact wp_bnd k
theorem wp_tru {d : D} {b : Bool} {Q : Bool → Sto → Prop} (h : truD S d = some b) (k : Q b S) : Wp (truR S d) Q := by unfold truR; rw [h]; exact wp_ok k
theorem wp_truB {b : Bool} {Q : Bool → Sto → Prop} (k : Q b S) : Wp (truR S (.bl b)) Q := wp_tru rfl k
theorem wpi_seq {e : E} {Q : List D × Ck → Sto → Prop} (k : Wp (evE c e r S) fun d S1 => Wp (itSeq S1 d) Q) : Wp (evI c (.seq e) r S) Q := by simp only [evI]; exact wp_bnd k
theorem wpi_rng1 {e : E} {Q : List D × Ck → Sto → Prop} (k : Wp (evE c e r S) fun d S1 => ∃ j, d = .int j ∧ okRng j = true ∧ Q (rngL 0 j.toNat, []) S1) : Wp (evI c (.rng1 e) r S) Q := by
  simp only [evI]
  refine wp_bnd (wp_mono k fun d S h => ?_)
  obtain ⟨j, rfl, h1, h2⟩ := h
  unfold rng1D
  simp only []
  rw [if_pos h1]
  exact wp_ok h2
theorem wpi_rng2 {a b : E} {Q : List D × Ck → Sto → Prop} (k : Wp (evE c a r S) fun x S1 => Wp (evE c b r S1) fun y S2 => ∃ i j, x = .int i ∧ y = .int j ∧ okRng i = true ∧ okRng j = true ∧ Q (rngL i (j - i).toNat, []) S2) : Wp (evI c (.rng2 a b) r S) Q := by
  simp only [evI]
  refine wp_bnd (wp_mono k fun d S h => wp_bnd (wp_mono h fun y S h => ?_))
  obtain ⟨i, j, rfl, rfl, h1, h2, h3⟩ := h
  unfold rng2D
  simp only []
  rw [if_pos ⟨h1, h2⟩]
  exact wp_ok h3
theorem wpi_rng3 {a b d : E} {Q : List D × Ck → Sto → Prop} (k : Wp (evE c a r S) fun x S1 => Wp (evE c b r S1) fun y S2 => Wp (evE c d r S2) fun z S3 => ∃ i j m n, x = .int i ∧ y = .int j ∧ z = .int m ∧ RgC i j m n ∧ Q (rngC i m n, []) S3) : Wp (evI c (.rng3 a b d) r S) Q := by
  simp only [evI]
  refine wp_bnd (wp_mono k fun x S1 k => ?_)
  refine wp_bnd (wp_mono k fun y S2 k => ?_)
  refine wp_bnd (wp_mono k fun z S3 k => ?_)
  obtain ⟨i, j, m, n, rfl, rfl, rfl, h, q⟩ := k
  unfold rng3D
  have e : rngN i j m = n := by unfold rngN; rw [h.2.2.2]; simp
  dsimp only
  rw [if_pos ⟨h.1, h.2.1, h.2.2.1, by rw [e]; exact h.2.2.2⟩, e]
  exact wp_ok q
theorem wp_dicT (k : Q (.loc S.length) (S ++ [.dct []])) : Wp (evE c .dicT r S) Q := by
  simp only [evE]; exact wp_ok k
theorem wp_kin {neg : Bool} {e : E} {kvs : List (Str × Int)} (k : Wp (evE c e r S) fun d S1 => Wp (kinD S1 neg kvs d) Q) : Wp (evE c (.kin neg e kvs) r S) Q := by simp only [evE]; exact wp_bnd k
theorem wp_kix {e : E} {kvs : List (Str × Int)} (k : Wp (evE c e r S) fun d S1 => Wp (kixD S1 kvs d) Q) : Wp (evE c (.kix kvs e) r S) Q := by simp only [evE]; exact wp_bnd k
theorem wp_din {neg : Bool} {a b : E} (k : Wp (evE c a r S) fun x S1 => Wp (evE c b r S1) fun y S2 => Wp (dinD S2 neg x y) Q) : Wp (evE c (.din neg a b) r S) Q := by
  simp only [evE]; exact wp_bnd (wp_mono k fun a S h => wp_bnd h)
theorem wpt_kin {neg : Bool} {e : E} {kvs : List (Str × Int)} {Q : Bool → Sto → Prop} (k : Wp (evE c (.kin neg e kvs) r S) fun d S1 => Wp (truR S1 d) Q) : Wp (evT c (.kin neg e kvs) r S) Q := by simp only [evT]; exact wp_bnd k
theorem wpt_din {neg : Bool} {a b : E} {Q : Bool → Sto → Prop} (k : Wp (evE c (.din neg a b) r S) fun d S1 => Wp (truR S1 d) Q) : Wp (evT c (.din neg a b) r S) Q := by simp only [evT]; exact wp_bnd k
theorem wp_dic1 {k : Key} {v : Int} (q : Q (.loc S.length) (S ++ [.dic [(k, .int v)]])) : Wp (evE c (.dic1 k v) r S) Q := ⟨_, _, by simp only [evE]; rfl, q⟩
theorem wm_popAt {l : Nat} {i : Nat} {ds : List D} {y : D} (h : S[l]? = some (.lst ds)) (hy : ds[i]? = some y) (hi : i < 2 ^ 62) (k : Q y (S.set l (.lst (ds.eraseIdx i)))) : Wp (mtD S .pop (.loc l) [.int (i : Nat)]) Q := by
  unfold mtD
  dsimp only
  rw [h]
  dsimp only
  rw [Int.toNat_natCast, hy]
  dsimp only
  rw [if_pos ⟨by omega, by omega⟩]
  exact wp_ok k
theorem wp_joinS {s : Str} {e : E} (k : Wp (evE c e r S) fun d S1 => Wp (joinD S1 s d) Q) : Wp (evE c (.joinS s e) r S) Q := by simp only [evE]; exact wp_bnd k
theorem wp_lstR {e : E} (k : Wp (evE c e r S) fun d S1 => Wp (lstRD S1 d) Q) : Wp (evE c (.lstR e) r S) Q := by simp only [evE]; exact wp_bnd k
theorem wj_join {s : Str} {d : D} {ds : List D} {ys : List Str} (h1 : seqOf S d = some ds) (h2 : strsD ds = some ys) (h3 : (ys.map (·.length)).sum + ys.length * s.length ≤ 16777216) (k : Q (.str (Txt.join s ys)) S) : Wp (joinD S s d) Q := by
  unfold joinD
  rw [h1]
  dsimp only
  rw [h2]
  dsimp only
  rw [if_pos h3]
  exact wp_ok k
theorem wp_lstZ {a b : E} (k : Wp (evE c a r S) fun x S1 => Wp (evE c b r S1) fun y S2 => Wp (lstZD S2 x y) Q) : Wp (evE c (.lstZ a b) r S) Q := by
  simp only [evE]; exact wp_bnd (wp_mono k fun _ _ h => wp_bnd h)
theorem wl_lstZ {x y : D} {xs ys : List D} (h1 : lstOf S x = some xs) (h2 : lstOf S y = some ys) (h3 : (zipL xs ys).length ≤ szL) (k : Q (.loc S.length) (S ++ [.lst (zipL xs ys)])) : Wp (lstZD S x y) Q := by
  unfold lstZD; rw [h1, h2]; dsimp only; rw [if_pos h3]; exact wp_ok k
theorem wl_lstR {j : Int} (h : okRng j = true ∧ j.toNat ≤ 2 ^ 24) (k : Q (.loc S.length) (S ++ [.lst (rngL 0 j.toNat)])) : Wp (lstRD S (.int j)) Q := by
  unfold lstRD
  dsimp only
  rw [if_pos h]
  exact wp_ok k
theorem wpi_enm {e : E} {Q : List D × Ck → Sto → Prop} (k : Wp (evE c e r S) fun d S1 => ∃ p, itLst S1 d = some p ∧ Q (enmL 0 p.1, p.2) S1) : Wp (evI c (.enm e) r S) Q := by
  simp only [evI]
  refine wp_bnd (wp_mono k fun d S h => ?_)
  obtain ⟨p, h1, h2⟩ := h
  unfold enmD
  rw [h1]
  exact wp_ok h2
theorem wpi_zip {a b : E} {Q : List D × Ck → Sto → Prop} (k : Wp (evE c a r S) fun x S1 => Wp (evE c b r S1) fun y S2 => Wp (zipD S2 x y) Q) : Wp (evI c (.zip a b) r S) Q := by
  simp only [evI]; exact wp_bnd (wp_mono k fun d S h => wp_bnd h)
theorem wp_zipL {x y : D} {p q : List D × Ck} {Q : List D × Ck → Sto → Prop} (h1 : itLst S x = some p) (h2 : itLst S y = some q) (k : Q (zipL p.1 q.1, p.2 ++ q.2) S) : Wp (zipD S x y) Q := by
  unfold zipD
  split
  · cases h1
  · rw [h1, h2]
    exact wp_ok k
theorem wp_zipT {xs ys : List D} {Q : List D × Ck → Sto → Prop} (k : Q (zipL xs ys, []) S) : Wp (zipD S (.tup xs) (.tup ys)) Q := wp_ok k
variable {nx : Ev → Sto → Prop} {rt : D → Sto → Prop} {bk ct : Ev → Sto → Prop} {ex : Xn → Ev → Sto → Prop}
theorem wps_set {i : Nat} {e : E} (k : Wp (evE c e r S) fun d S1 => nx (r.set i (some d)) S1) : WpS (evS c (.set i e) r S) ⟨nx, rt, bk, ct, ex⟩ := by simp only [evS]; exact wps_bnd k
theorem wps_asg {t : Tg} {e : E} (k : Wp (evE c e r S) fun d S1 => ∃ r1, asgT t (unL S1 d) r = some r1 ∧ nx r1 S1) : WpS (evS c (.asg t e) r S) ⟨nx, rt, bk, ct, ex⟩ := by
  simp only [evS]
  refine wps_bnd (wp_mono k fun d S h => ?_)
  obtain ⟨r1, h1, h2⟩ := h
  rw [h1]
  exact h2
theorem wps_setIx {o i e : E} (k : Wp (evE c e r S) fun d S1 => Wp (evE c o r S1) fun x S2 => Wp (evE c i r S2) fun j S3 => ∃ S4, setIxD S3 x j d = some S4 ∧ nx r S4) : WpS (evS c (.setIx o i e) r S) ⟨nx, rt, bk, ct, ex⟩ := by
  simp only [evS]
  refine wps_bnd (wp_mono k fun d S h => wps_bnd (wp_mono h fun d S h => wps_bnd (wp_mono h fun d S h => ?_)))
  obtain ⟨S4, h1, h2⟩ := h
  rw [h1]
  exact h2
theorem wps_setD {o i e : E} (k : Wp (evE c e r S) fun d S1 => Wp (evE c o r S1) fun x S2 => Wp (evE c i r S2) fun j S3 => ∃ S4, setDD S3 x j d = some S4 ∧ nx r S4) : WpS (evS c (.setD o i e) r S) ⟨nx, rt, bk, ct, ex⟩ := by
  simp only [evS]
  refine wps_bnd (wp_mono k fun d S h => wps_bnd (wp_mono h fun d S h => wps_bnd (wp_mono h fun d S h => ?_)))
  obtain ⟨S4, h1, h2⟩ := h
  rw [h1]
  exact h2
theorem wps_aug {i : Nat} {o : Bop} {e : E} (k : Wp (evE c (.var i) r S) fun x S1 => Wp (evE c e r S1) fun y S2 => Wp (augD S2 o x y) fun z S3 => nx (r.set i (some z)) S3) : WpS (evS c (.aug i o e) r S) ⟨nx, rt, bk, ct, ex⟩ := by
  simp only [evS]
  exact wps_bnd (wp_mono k fun d S h => wps_bnd (wp_mono h fun d S h => wps_bnd h))
theorem wps_expr {e : E} (k : Wp (evE c e r S) fun _ S1 => nx r S1) : WpS (evS c (.expr e) r S) ⟨nx, rt, bk, ct, ex⟩ := by simp only [evS]; exact wps_bnd k
theorem wps_ret {e : E} (k : Wp (evE c e r S) fun d S1 => rt d S1) : WpS (evS c (.ret e) r S) ⟨nx, rt, bk, ct, ex⟩ := by simp only [evS]; exact wps_bnd k
theorem wps_retN (k : rt .non S) : WpS (evS c .retN r S) ⟨nx, rt, bk, ct, ex⟩ := by simp only [evS]; exact k
theorem wps_ite {t : E} {a b : Ss} (k : Wp (evT c t r S) fun q S1 => (q = true → WpS (evSs c a r S1) ⟨nx, rt, bk, ct, ex⟩) ∧ (q = false → WpS (evSs c b r S1) ⟨nx, rt, bk, ct, ex⟩)) : WpS (evS c (.ite t a b) r S) ⟨nx, rt, bk, ct, ex⟩ := by
  simp only [evS]
  refine wps_bnd (wp_mono k fun q S h => ?_)
  cases q with
  | true => rw [if_pos rfl]; exact h.1 rfl
  | false => rw [if_neg Bool.false_ne_true]; exact h.2 rfl
theorem wps_brk (k : bk r S) : WpS (evS c .brk r S) ⟨nx, rt, bk, ct, ex⟩ := by simp only [evS]; exact k
theorem wps_cnt (k : ct r S) : WpS (evS c .cnt r S) ⟨nx, rt, bk, ct, ex⟩ := by simp only [evS]; exact k
theorem wps_pass (k : nx r S) : WpS (evS c .pass r S) ⟨nx, rt, bk, ct, ex⟩ := by simp only [evS]; exact k
theorem wps_par {i j : Nat} {a b : E} (k : Wp (evE c a r S) fun x S1 => Wp (evE c b r S1) fun y S2 => nx ((r.set i (some x)).set j (some y)) S2) : WpS (evS c (.par i j a b) r S) ⟨nx, rt, bk, ct, ex⟩ := by
  simp only [evS]; exact wps_bnd (wp_mono k fun d S h => wps_bnd h)
theorem wps_par3 {i j l : Nat} {a b d : E} (k : Wp (evE c a r S) fun x S1 => Wp (evE c b r S1) fun y S2 => Wp (evE c d r S2) fun z S3 => nx (((r.set i (some x)).set j (some y)).set l (some z)) S3) : WpS (evS c (.par3 i j l a b d) r S) ⟨nx, rt, bk, ct, ex⟩ := by
  simp only [evS]; exact wps_bnd (wp_mono k fun d S h => wps_bnd (wp_mono h fun d S h => wps_bnd h))
theorem wps_rse {n : Nat} {fl : List Str} {es : Es} (k : Wp (evEs c es r S) fun ds S1 => fl.length = ds.length ∧ ex ⟨n, fl.zip ds⟩ r S1) : WpS (evS c (.rse n fl es) r S) ⟨nx, rt, bk, ct, ex⟩ := by
  simp only [evS]
  refine wps_bnd (wp_mono k fun d S h => ?_)
  rw [if_pos h.1]
  exact h.2
theorem wps_nil (k : nx r S) : WpS (evSs c .nil r S) ⟨nx, rt, bk, ct, ex⟩ := by simp only [evSs]; exact k
theorem wps_cons {s : St} {ss : Ss} (k : WpS (evS c s r S) ⟨fun r1 S1 => WpS (evSs c ss r1 S1) ⟨nx, rt, bk, ct, ex⟩, rt, bk, ct, ex⟩) : WpS (evSs c (.cons s ss) r S) ⟨nx, rt, bk, ct, ex⟩ := by
  simp only [evSs]
  cases e : evS c s r S with
  | nx r1 S1 => rw [e] at k; exact k
  | rt d S1 => rw [e] at k; exact k
  | bk r1 S1 => rw [e] at k; exact k
  | ct r1 S1 => rw [e] at k; exact k
  | ex x r1 S1 => rw [e] at k; exact k
  | bad => rw [e] at k; exact k
theorem wps_whl (I : Nat → Ev → Sto → Prop) {t : E} {b : Ss} {n : Nat} (h0 : I n r S)
    (hs : ∀ n r S, I n r S → Wp (evT c t r S) fun q S1 => (q = true → WpS (evSs c b r S1) ⟨fun r2 S2 => ∃ m, m < n ∧ I m r2 S2, rt, nx, fun r2 S2 => ∃ m, m < n ∧ I m r2 S2, ex⟩) ∧ (q = false → nx r S1)) : WpS (evS c (.whl t b) r S) ⟨nx, rt, bk, ct, ex⟩ := by
  simp only [evS]
  induction n using Nat.strongRecOn generalizing r S with
  | _ n ih =>
    rw [whR_eq]
    obtain ⟨q, S1, e, h⟩ := hs n r S h0
    rw [e]
    cases q with
    | true =>
      have h1 := h.1 rfl
      dsimp only
      cases e2 : evSs c b r S1 with
      | nx r2 S2 => rw [e2] at h1; obtain ⟨m, hm, h1⟩ := h1; exact ih m hm h1
      | ct r2 S2 => rw [e2] at h1; obtain ⟨m, hm, h1⟩ := h1; exact ih m hm h1
      | bk r2 S2 => rw [e2] at h1; exact h1
      | rt d S2 => rw [e2] at h1; exact h1
      | ex x r2 S2 => rw [e2] at h1; exact h1
      | bad => rw [e2] at h1; exact h1
    | false => exact h.2 rfl
/-- a for over what was walked -/
noncomputable def forE (c : Call) (t : Tg) (b : Ss) (p : List D × Ck) (r : Ev) (S : Sto) : RS := forL p.2 (fun d r => asgT t d r) (fun r S => evSs c b r S) p.1 r S
theorem wps_for {t : Tg} {it : It} {b : Ss} (k : Wp (evI c it r S) fun p S1 => WpS (forE c t b p r S1) ⟨nx, rt, bk, ct, ex⟩) : WpS (evS c (.for_ t it b) r S) ⟨nx, rt, bk, ct, ex⟩ := by
  simp only [evS]; exact wps_bnd k
theorem forE_inv (I : Nat → Ev → Sto → Prop) {t : Tg} {b : Ss} {p : List D × Ck} (h0 : I 0 r S) (hk : ∀ i r S, i ≤ p.1.length → I i r S → Still p.2 S)
    (hs : ∀ i d r S, p.1[i]? = some d → I i r S → ∃ r1, asgT t d r = some r1 ∧ WpS (evSs c b r1 S) ⟨I (i + 1), rt, nx, I (i + 1), ex⟩) (hd : ∀ r S, I p.1.length r S → nx r S) : WpS (forE c t b p r S) ⟨nx, rt, bk, ct, ex⟩ := by
  unfold forE
  have go : ∀ (n i : Nat) (r : Ev) (S : Sto), i + n = p.1.length → I i r S → WpS (forL p.2 (fun d r => asgT t d r) (fun r S => evSs c b r S) (p.1.drop i) r S) ⟨nx, rt, bk, ct, ex⟩ := by
    intro n
    induction n with
    | zero =>
      intro i r S hi h
      have e : i = p.1.length := by omega
      subst e
      rw [List.drop_length]
      unfold forL
      rw [if_pos (hk _ r S (Nat.le_refl _) h)]
      exact hd r S h
    | succ n ih =>
      intro i r S hi h
      have hl : i < p.1.length := by omega
      have e : p.1[i]? = some p.1[i] := List.getElem?_eq_getElem hl
      rw [drop_get e]
      unfold forL
      rw [if_pos (hk _ r S (Nat.le_of_lt hl) h)]
      obtain ⟨r1, e1, h1⟩ := hs i _ r S e h
      rw [e1]
      dsimp only
      cases e2 : evSs c b r1 S with
      | nx r2 S2 => rw [e2] at h1; exact ih (i + 1) r2 S2 (by omega) h1
      | ct r2 S2 => rw [e2] at h1; exact ih (i + 1) r2 S2 (by omega) h1
      | bk r2 S2 => rw [e2] at h1; exact h1
      | rt d S2 => rw [e2] at h1; exact h1
      | ex x r2 S2 => rw [e2] at h1; exact h1
      | bad => rw [e2] at h1; exact h1
  have q := go p.1.length 0 r S (by omega) h0
  rw [List.drop_zero] at q
  exact q
/-- a comprehension over what was walked -/
noncomputable def compE (c : Call) (x : E) (tg : Tg) (cd : Eo) (own : List Nat) (r : Ev) (l : Nat) (p : List D × Ck) (S : Sto) : R D :=
  compL p.2 l (fun d S2 => match asgT tg d (wipeD r own) with
        | none => .bad
        | some r2 => (evC c cd r2 S2).bnd fun k S3 => if k = true then (evE c x r2 S3).bnd fun y S4 => .ok (some y) S4 else .ok none S3) p.1 S
theorem wp_lc {x : E} {tg : Tg} {it : It} {cd : Eo} {own : List Nat} (k : Wp (evI c it r S) fun p S1 => Wp (compE c x tg cd own r S1.length p (S1 ++ [.lst []])) Q) : Wp (evE c (.lc x tg it cd own) r S) Q := by
  simp only [evE]; exact wp_bnd k
theorem compE_inv (I : Nat → Sto → Prop) {x : E} {tg : Tg} {cd : Eo} {own : List Nat} {l : Nat} {p : List D × Ck} (h0 : I 0 S) (hk : ∀ i S, i ≤ p.1.length → I i S → Still p.2 S)
    (hs : ∀ i d S, p.1[i]? = some d → I i S → ∃ r1, asgT tg d (wipeD r own) = some r1 ∧ Wp (evC c cd r1 S) fun q S1 => (q = true → Wp (evE c x r1 S1) fun y S2 => ∃ acc, S2[l]? = some (.lst acc) ∧ acc.length < szL ∧ I (i + 1) (S2.set l (.lst (acc ++ [y])))) ∧ (q = false → I (i + 1) S1))
    (hd : ∀ S, I p.1.length S → Q (.loc l) S) : Wp (compE c x tg cd own r l p S) Q := by
  unfold compE
  generalize hf : (fun d S2 => match asgT tg d (wipeD r own) with
        | none => (.bad : R (Option D))
        | some r2 => (evC c cd r2 S2).bnd fun k S3 => if k = true then (evE c x r2 S3).bnd fun y S4 => .ok (some y) S4 else .ok none S3) = f
  have go : ∀ (n i : Nat) (S : Sto), i + n = p.1.length → I i S → Wp (compL p.2 l f (p.1.drop i) S) Q := by
    intro n
    induction n with
    | zero =>
      intro i S hi h
      have e : i = p.1.length := by omega
      subst e
      rw [List.drop_length]
      unfold compL
      rw [if_pos (hk _ S (Nat.le_refl _) h)]
      exact wp_ok (hd S h)
    | succ n ih =>
      intro i S hi h
      have hl : i < p.1.length := by omega
      have e : p.1[i]? = some p.1[i] := List.getElem?_eq_getElem hl
      rw [drop_get e]
      unfold compL
      rw [if_pos (hk _ S (Nat.le_of_lt hl) h)]
      obtain ⟨r1, e1, q, S1, e2, h1, h2⟩ := hs i _ S e h
      have ef : f p.1[i] S = (evC c cd r1 S).bnd fun k S3 => if k = true then (evE c x r1 S3).bnd fun y S4 => .ok (some y) S4 else .ok none S3 := by rw [← hf]; dsimp only; rw [e1]
      rw [ef, e2]
      dsimp only [R.bnd]
      cases q with
      | true =>
        rw [if_pos rfl]
        obtain ⟨y, S2, e3, acc, h3, h4, h5⟩ := h1 rfl
        rw [e3]
        dsimp only
        rw [h3]
        dsimp only
        rw [if_pos h4]
        exact ih (i + 1) _ (by omega) h5
      | false =>
        rw [if_neg Bool.false_ne_true]
        exact ih (i + 1) _ (by omega) (h2 rfl)
  have q := go p.1.length 0 S (by omega) h0
  rw [List.drop_zero] at q
  exact q
theorem wpc_none {Q : Bool → Sto → Prop} (k : Q true S) : Wp (evC c .none r S) Q := by simp only [evC]; exact wp_ok k
theorem wpc_some {e : E} {Q : Bool → Sto → Prop} (k : Wp (evT c e r S) Q) : Wp (evC c (.some e) r S) Q := by simp only [evC]; exact k
theorem wp_run {fn : Fn} {ds : List D} (h : ds.length = fn.ar) (k : WpS (evSs c fn.body (ds.map some ++ List.replicate (fn.n - fn.ar) none) S) { nx := fun _ S1 => Q .non S1, rt := Q }) : Wp (runF c fn ds S) Q := by
  unfold runF
  rw [if_pos h]
  cases e : evSs c fn.body (ds.map some ++ List.replicate (fn.n - fn.ar) none) S with
  | nx r1 S1 => rw [e] at k; exact wp_ok k
  | rt d S1 => rw [e] at k; exact wp_ok k
  | bk r1 S1 => rw [e] at k; exact k.elim
  | ct r1 S1 => rw [e] at k; exact k.elim
  | ex x r1 S1 => rw [e] at k; exact k.elim
  | bad => rw [e] at k; exact k.elim
theorem callN_succ {G : Tab} {k f : Nat} {fn : Fn} {ds : List D} {S : Sto} (h : G f = some fn) : callN G (k + 1) f ds S = runF (callN G k) fn ds S := by
  show (match G f with | some fn => runF (callN G k) fn ds S | none => .bad) = _
  rw [h]
/-- a def is entered -/
theorem wp_def {G : Tab} {k f : Nat} {fn : Fn} {ds : List D} (hG : G f = some fn) (h : ds.length = fn.ar) (q : WpS (evSs (callN G k) fn.body (ds.map some ++ List.replicate (fn.n - fn.ar) none) S) { nx := fun _ S1 => Q .non S1, rt := Q }) : Wp (callN G (k + 1) f ds S) Q := by
  rw [callN_succ hG]
  exact wp_run h q
/-- a call whose value is known -/
theorem wp_val {x : R D} {d : D} (e : x = .ok d S) (k : Q d S) : Wp x Q := ⟨d, S, e, k⟩
theorem wp_eq {x : R D} {d : D} {S' : Sto} (h : Wp x fun a S1 => a = d ∧ S1 = S') : x = .ok d S' := by
  obtain ⟨a, S1, e, rfl, rfl⟩ := h
  exact e
theorem wb_add {i j : Int} (k : Q (.int (i + j)) S) : Wp (binD S .add (.int i) (.int j)) Q := wp_ok k
theorem wb_sub {i j : Int} (k : Q (.int (i - j)) S) : Wp (binD S .sub (.int i) (.int j)) Q := wp_ok k
theorem wb_mul {i j : Int} (h : okMul i j = true) (k : Q (.int (i * j)) S) : Wp (binD S .mul (.int i) (.int j)) Q := by
  unfold binD; dsimp only; rw [if_pos h]; exact wp_ok k
theorem wb_fdiv {i j : Int} (h : okDiv i j = true) (k : Q (.int (i.fdiv j)) S) : Wp (binD S .fdiv (.int i) (.int j)) Q := by
  unfold binD; dsimp only; rw [if_pos h]; exact wp_ok k
theorem wb_mod {i j : Int} (h : j ≠ 0) (k : Q (.int (i.fmod j)) S) : Wp (binD S .mod (.int i) (.int j)) Q := by
  unfold binD; dsimp only; rw [if_pos h]; exact wp_ok k
theorem wb_pow {i j : Int} (h : okPow i j = true) (k : Q (.int (i ^ j.toNat)) S) : Wp (binD S .pow (.int i) (.int j)) Q := by
  unfold binD; dsimp only; rw [if_pos h]; exact wp_ok k
theorem wb_addl {l m : Nat} {x y : List D} (h1 : S[l]? = some (.lst x)) (h2 : S[m]? = some (.lst y)) (h3 : x.length + y.length ≤ szL) (k : Q (.loc S.length) (S ++ [.lst (x ++ y)])) : Wp (binD S .add (.loc l) (.loc m)) Q := by
  unfold binD; dsimp only; rw [h1, h2]; dsimp only; rw [if_pos h3]; exact wp_ok k
theorem wb_rep {l : Nat} {j : Int} {x : List D} (h1 : S[l]? = some (.lst x)) (h2 : -(2 ^ 63) ≤ j ∧ j < 2 ^ 63 ∧ x.length * j.toNat ≤ szL) (k : Q (.loc S.length) (S ++ [.lst (List.replicate j.toNat x).flatten])) : Wp (binD S .mul (.loc l) (.int j)) Q := by
  unfold binD; dsimp only; rw [h1]; dsimp only; rw [if_pos h2]; exact wp_ok k
theorem wn_neg {i : Int} (k : Q (.int (-i)) S) : Wp (negD S (.int i)) Q := wp_ok k
theorem wg_add {i j : Int} (k : Q (.int (i + j)) S) : Wp (augD S .add (.int i) (.int j)) Q := wp_ok k
theorem wg_sub {i j : Int} (k : Q (.int (i - j)) S) : Wp (augD S .sub (.int i) (.int j)) Q := wp_ok k
theorem wc_lt {i j : Int} (k : Q (.bl (decide (i < j))) S) : Wp (cmpD S .lt (.int i) (.int j)) Q := wp_ok k
theorem wc_le {i j : Int} (k : Q (.bl (decide (i ≤ j))) S) : Wp (cmpD S .le (.int i) (.int j)) Q := wp_ok k
theorem wc_gt {i j : Int} (k : Q (.bl (decide (j < i))) S) : Wp (cmpD S .gt (.int i) (.int j)) Q := wp_ok k
theorem wc_ge {i j : Int} (k : Q (.bl (decide (j ≤ i))) S) : Wp (cmpD S .ge (.int i) (.int j)) Q := wp_ok k
theorem wc_eqI {i j : Int} (k : Q (.bl (decide (i = j))) S) : Wp (cmpD S .eq (.int i) (.int j)) Q := wp_ok k
theorem wc_neI {i j : Int} (k : Q (.bl (!decide (i = j))) S) : Wp (cmpD S .ne (.int i) (.int j)) Q := wp_ok k
theorem wc_eqS {i j : Str} (k : Q (.bl (decide (i = j))) S) : Wp (cmpD S .eq (.str i) (.str j)) Q := wp_ok k
theorem wc_neS {i j : Str} (k : Q (.bl (!decide (i = j))) S) : Wp (cmpD S .ne (.str i) (.str j)) Q := wp_ok k
theorem wc_eq {a b : D} {q : Bool} (h : eqD S a b = some q) (k : Q (.bl q) S) : Wp (cmpD S .eq a b) Q := by
  unfold cmpD; dsimp only; rw [h]; exact wp_ok k
theorem wc_ne {a b : D} {q : Bool} (h : eqD S a b = some q) (k : Q (.bl (!q)) S) : Wp (cmpD S .ne a b) Q := by
  unfold cmpD; dsimp only; rw [h]; exact wp_ok k
theorem wc_is {a b : D} {q : Bool} (h : isD S a b = some q) (k : Q (.bl q) S) : Wp (cmpD S .is a b) Q := by
  unfold cmpD; dsimp only; rw [h]; exact wp_ok k
theorem wc_isn {a b : D} {q : Bool} (h : isD S a b = some q) (k : Q (.bl (!q)) S) : Wp (cmpD S .isn a b) Q := by
  unfold cmpD; dsimp only; rw [h]; exact wp_ok k
theorem wc_in {a b : D} {q : Bool} (h : inD S a b = some q) (k : Q (.bl q) S) : Wp (cmpD S .inn a b) Q := by
  unfold cmpD; dsimp only; rw [h]; exact wp_ok k
theorem wc_nin {a b : D} {q : Bool} (h : inD S a b = some q) (k : Q (.bl (!q)) S) : Wp (cmpD S .nin a b) Q := by
  unfold cmpD; dsimp only; rw [h]; exact wp_ok k
theorem wx_ix {d : D} {ds : List D} {i : Int} {v : D} (h : seqOf S d = some ds) (h2 : atI ds i = some v) (k : Q v S) : Wp (ixD S d (.int i)) Q := by
  unfold ixD
  split
  · cases h
  · rename_i e heq
    cases heq
    rw [h]
    dsimp only
    rw [h2]
    exact wp_ok k
  · rename_i z _
    exact absurd rfl (z _)
theorem wf_len {d : D} {ds : List D} (h : seqOf S d = some ds) (k : Q (.int ds.length) S) : Wp (bfD S .len [d]) Q := by
  cases d
  case str => cases h
  all_goals
    unfold bfD
    dsimp only
    rw [h]
    exact wp_ok k
theorem seq_loc {S : Sto} {l : Nat} {ds : List D} (h : S[l]? = some (.lst ds)) : seqOf S (.loc l) = some ds := by
  unfold seqOf lstOf; dsimp only; rw [h]
theorem lst_loc {S : Sto} {l : Nat} {ds : List D} (h : S[l]? = some (.lst ds)) : lstOf S (.loc l) = some ds := by
  unfold lstOf; dsimp only; rw [h]
theorem wq_dec {p : Prop} [Decidable p] {A B : Prop} (h1 : p → A) (h2 : ¬p → B) : (decide p = true → A) ∧ (decide p = false → B) :=
  ⟨fun h => h1 (of_decide_eq_true h), fun h => h2 (of_decide_eq_false h)⟩
theorem wq_ndec {p : Prop} [Decidable p] {A B : Prop} (h1 : ¬p → A) (h2 : p → B) : ((!decide p) = true → A) ∧ ((!decide p) = false → B) := by
  by_cases h : p
  · exact ⟨fun q => by simp [h] at q, fun _ => h2 h⟩
  · exact ⟨fun _ => h1 h, fun q => by simp [h] at q⟩
theorem wq_tt {A B : Prop} (h : A) : (true = true → A) ∧ (true = false → B) := ⟨fun _ => h, fun h => nomatch h⟩
theorem wq_ff {A B : Prop} (h : B) : (false = true → A) ∧ (false = false → B) := ⟨fun h => (nomatch h), fun _ => h⟩
theorem wq_ntt {A B : Prop} (h : B) : ((!true) = true → A) ∧ ((!true) = false → B) := ⟨fun h => (nomatch h), fun _ => h⟩
theorem wq_nff {A B : Prop} (h : A) : ((!false) = true → A) ∧ ((!false) = false → B) := ⟨fun _ => h, fun h => (nomatch h)⟩
theorem wq_et {b : Bool} {A B : Prop} (e : b = true) (h : A) : (b = true → A) ∧ (b = false → B) := ⟨fun _ => h, fun k => by rw [e] at k; cases k⟩
theorem wq_ef {b : Bool} {A B : Prop} (e : b = false) (h : B) : (b = true → A) ∧ (b = false → B) := ⟨fun k => by (rw [e] at k; cases k), fun _ => h⟩
theorem wz_bl {q : Bool} {X : Bool → Prop} (h : X q) : ∃ k, D.bl q = .bl k ∧ X k := ⟨_, rfl, h⟩
theorem wz_int {q : Int} {X : Int → Prop} (h : X q) : ∃ k, D.int q = .int k ∧ X k := ⟨_, rfl, h⟩
theorem wz_some {A : Type} {x : Option A} {a : A} {X : A → Prop} (e : x = some a) (h : X a) : ∃ k, x = some k ∧ X k := ⟨_, e, h⟩
theorem wf_isin {d : D} {b t : Bt} (h : tyD S d = some t) (k : Q (.bl (isTy t b)) S) : Wp (bfD S .isin [d, .ty b]) Q := by
  unfold bfD
  dsimp only
  rw [h]
  exact wp_ok k
theorem wf_abs {i : Int} (k : Q (.int (if i < 0 then -i else i)) S) : Wp (bfD S .abs [.int i]) Q := wp_ok k
theorem wf_min {i j : Int} (k : Q (.int (if j < i then j else i)) S) : Wp (bfD S .min [.int i, .int j]) Q := wp_ok k
theorem wf_max {i j : Int} (k : Q (.int (if j > i then j else i)) S) : Wp (bfD S .max [.int i, .int j]) Q := wp_ok k
theorem wf_int {i : Int} (k : Q (.int i) S) : Wp (bfD S .int [.int i]) Q := wp_ok k
theorem wf_intB {b : Bool} (k : Q (.int (if b then 1 else 0)) S) : Wp (bfD S .int [.bl b]) Q := wp_ok k
theorem wf_list {d : D} {ds : List D} (h : seqOf S d = some ds) (k : Q (.loc S.length) (S ++ [.lst ds])) : Wp (bfD S .list [d]) Q := by
  cases d
  case str => cases h
  all_goals
    unfold bfD
    dsimp only
    rw [h]
    exact wp_ok k
theorem wm_append {l : Nat} {y : D} {ds : List D} (h : S[l]? = some (.lst ds)) (h2 : ds.length < szL) (k : Q .non (S.set l (.lst (ds ++ [y])))) : Wp (mtD S .append (.loc l) [y]) Q := by
  unfold mtD; dsimp only; rw [h]; dsimp only; rw [if_pos h2]; exact wp_ok k
theorem ws_lst {d : D} {ds : List D} {lo hi : Option Int} (h : lstOf S d = some ds) (k : Q (.loc S.length) (S ++ [.lst (cutL ds lo hi)])) : Wp (slD S d lo hi) Q := by
  unfold slD
  split
  · cases h
  · rw [h]; exact wp_ok k
theorem wi_tup {ds : List D} {Q : List D × Ck → Sto → Prop} (k : Q (ds, []) S) : Wp (itSeq S (.tup ds)) Q := wp_ok k
theorem wi_frl {ds : List D} {Q : List D × Ck → Sto → Prop} (k : Q (ds, []) S) : Wp (itSeq S (.frl ds)) Q := wp_ok k
theorem wi_loc {l : Nat} {ds : List D} {Q : List D × Ck → Sto → Prop} (h : S[l]? = some (.lst ds)) (k : Q (ds, [(l, ds)]) S) : Wp (itSeq S (.loc l)) Q := by
  unfold itSeq; dsimp only; rw [h]; exact wp_ok k
end
end HP
namespace HP
open PySem L2
section
variable {S : Sto} {Q : D → Sto → Prop}
theorem wf_isinT {d : D} {ts : List D} {t : Bt} {bs : List Bt} (h : tyD S d = some t) (h2 : allOf tyOf ts = some bs) (k : Q (.bl (bs.any (isTy t))) S) : Wp (bfD S .isin [d, .tup ts]) Q := by
  unfold bfD
  dsimp only
  rw [h, h2]
  exact wp_ok k
end
/-- a fraction as the program has it -/
def q (x : Rat) : D := .tup [.int x.num, .int x.den]
/-- its size: at most 2^a on either side, the bottom at most 2^b -/
structure Sz (a b : Nat) (x : Rat) : Prop where
  v : x.num.natAbs ≤ 2 ^ a * x.den
  d : x.den ≤ 2 ^ b
theorem Sz.mono {a b a' b' : Nat} {x : Rat} (h : Sz a b x) (ha : a ≤ a') (hb : b ≤ b') : Sz a' b' x :=
  ⟨Nat.le_trans h.v (Nat.mul_le_mul_right _ (Nat.pow_le_pow_right (by decide) ha)), Nat.le_trans h.d (Nat.pow_le_pow_right (by decide) hb)⟩
theorem Sz.num {a b : Nat} {x : Rat} (h : Sz a b x) : x.num.natAbs ≤ 2 ^ (a + b) := by
  refine Nat.le_trans h.v ?_
  rw [Nat.pow_add]
  exact Nat.mul_le_mul_left _ h.d
theorem log2_le {n k : Nat} (h : n ≤ 2 ^ k) : n.log2 ≤ k := by
  by_cases e : n = 0
  · subst e; exact Nat.zero_le _
  · have := (Nat.log2_lt e (k := k + 1)).2 (Nat.lt_of_le_of_lt h (Nat.pow_lt_pow_right (by decide) (by omega)))
    omega
theorem okMul_of {i j : Int} {a b : Nat} (h1 : i.natAbs ≤ 2 ^ a) (h2 : j.natAbs ≤ 2 ^ b) (h : a + b < 1000000) : okMul i j = true := by
  unfold okMul
  have := log2_le h1
  have := log2_le h2
  exact decide_eq_true (by omega)
theorem okDiv_of {i j : Int} (h0 : j ≠ 0) (h : j.natAbs ≤ 2 ^ 8900) : okDiv i j = true := by
  unfold okDiv
  have := log2_le h
  have e : Builtin.divisionGoesByPylong i j = false := by
    unfold Builtin.divisionGoesByPylong
    simp only []
    rw [Bool.and_eq_false_iff]
    left
    refine decide_eq_false ?_
    split <;> omega
  rw [e, decide_eq_true h0]
  rfl
theorem okDiv_s {i j : Int} (h0 : j ≠ 0) (h : j.natAbs ≤ 2 ^ 200) : okDiv i j = true := okDiv_of h0 (Nat.le_trans h (Nat.pow_le_pow_right (by decide) (by decide)))
theorem sz_mkRat {n : Int} {d : Nat} {a b : Nat} (h0 : d ≠ 0) (h1 : n.natAbs ≤ 2 ^ a * d) (h2 : d ≤ 2 ^ b) : Sz a b (mkRat n d) := by
  have hg : 0 < d.gcd n.natAbs := Nat.gcd_pos_of_pos_left _ (Nat.pos_of_ne_zero h0)
  have e1 : (mkRat n d).num = n / ((d.gcd n.natAbs : Nat) : Int) := by rw [Rat.num_mkRat, if_neg h0]
  have e2 : (mkRat n d).den = d / d.gcd n.natAbs := by rw [Rat.den_mkRat, if_neg h0]
  obtain ⟨k, hk⟩ := Nat.gcd_dvd_left d n.natAbs
  have hn : ((d.gcd n.natAbs : Nat) : Int) ∣ n := Int.ofNat_dvd_left.2 (Nat.gcd_dvd_right _ _)
  obtain ⟨m, hm⟩ := hn
  generalize hG : d.gcd n.natAbs = g at *
  have e3 : n / (g : Int) = m := by rw [hm]; exact Int.mul_ediv_cancel_left _ (by omega)
  have e4 : d / g = k := by rw [hk]; exact Nat.mul_div_cancel_left _ hg
  constructor
  · rw [e1, e2, e3, e4]
    have e5 : n.natAbs = g * m.natAbs := by rw [hm, Int.natAbs_mul]; rfl
    rw [e5] at h1
    have : g * m.natAbs ≤ g * (2 ^ a * k) := by
      calc g * m.natAbs ≤ 2 ^ a * d := h1
        _ = 2 ^ a * (g * k) := by rw [← hk]
        _ = g * (2 ^ a * k) := by rw [Nat.mul_left_comm]
    exact Nat.le_of_mul_le_mul_left this hg
  · rw [e2, e4]
    exact Nat.le_trans (by rw [hk]; exact Nat.le_mul_of_pos_left _ hg) h2
theorem Sz.add {a b c d : Nat} {x y : Rat} (h : Sz a b x) (k : Sz c d y) : Sz (max a c + 1) (b + d) (x + y) := by
  rw [Rat.add_def']
  have hx := x.den_pos
  have hy := y.den_pos
  refine sz_mkRat (Nat.mul_ne_zero (by omega) (by omega)) ?_ ?_
  · refine Nat.le_trans (Int.natAbs_add_le _ _) ?_
    rw [Int.natAbs_mul, Int.natAbs_mul]
    simp only [Int.natAbs_natCast]
    have h1 : x.num.natAbs ≤ 2 ^ (max a c) * x.den := (h.mono (Nat.le_max_left a c) (Nat.le_refl _)).v
    have h2 : y.num.natAbs ≤ 2 ^ (max a c) * y.den := (k.mono (Nat.le_max_right a c) (Nat.le_refl _)).v
    have h3 := Nat.mul_le_mul_right y.den h1
    have h4 := Nat.mul_le_mul_right x.den h2
    rw [Nat.pow_succ]
    generalize 2 ^ (max a c) = p at *
    rw [Nat.mul_assoc] at h3 h4
    rw [Nat.mul_comm y.den x.den] at h4
    generalize x.num.natAbs * y.den = u at *
    generalize y.num.natAbs * x.den = w at *
    rw [Nat.mul_assoc, Nat.mul_comm 2, ← Nat.mul_assoc]
    omega
  · rw [Nat.pow_add]; exact Nat.mul_le_mul h.d k.d
theorem Sz.neg {a b : Nat} {x : Rat} (h : Sz a b x) : Sz a b (-x) := ⟨by simpa using h.v, by simpa using h.d⟩
theorem Sz.sub {a b c d : Nat} {x y : Rat} (h : Sz a b x) (k : Sz c d y) : Sz (max a c + 1) (b + d) (x - y) := by
  rw [Rat.sub_eq_add_neg]; exact h.add k.neg
theorem Sz.mul {a b c d : Nat} {x y : Rat} (h : Sz a b x) (k : Sz c d y) : Sz (a + c) (b + d) (x * y) := by
  rw [Rat.mul_def']
  have hx := x.den_pos
  have hy := y.den_pos
  refine sz_mkRat (Nat.mul_ne_zero (by omega) (by omega)) ?_ ?_
  · rw [Int.natAbs_mul, Nat.pow_add]
    have := Nat.mul_le_mul h.v k.v
    rw [Nat.mul_mul_mul_comm] at this
    exact this
  · rw [Nat.pow_add]; exact Nat.mul_le_mul h.d k.d
theorem fmod_natAbs_lt {a b : Int} (h : b ≠ 0) : (a.fmod b).natAbs < b.natAbs := by
  rcases Int.lt_or_gt_of_ne h with g | g
  · have h1 := Int.fmod_lt_of_pos (-a) (b := -b) (by omega)
    have h2 := Int.fmod_nonneg_of_pos (-a) (b := -b) (by omega)
    rw [Int.neg_fmod_neg] at h1 h2
    omega
  · have h1 := Int.fmod_lt_of_pos a g
    have h2 := Int.fmod_nonneg_of_pos a g
    omega
theorem gcd_fmod (a b : Int) : b.gcd (a.fmod b) = a.gcd b := by
  rw [Int.fmod_def, Int.gcd_comm]
  have := Int.gcd_sub_mul_right_left b a (a.fdiv b)
  rw [Int.mul_comm b]
  exact this
/-- what in_lowest tells of a top, a bottom and their divisor -/
theorem low_eq {a b g : Int} (h : b ≠ 0) (hg : g = if b < 0 then 0 - (a.gcd b : Int) else (a.gcd b : Int)) :
    D.tup [.int (a.fdiv g), .int (b.fdiv g)] = q (Rat.divInt a b) := by
  have hp : 0 < a.gcd b := Int.gcd_pos_iff.2 (Or.inr h)
  obtain ⟨m, hm⟩ := Int.gcd_dvd_left a b
  obtain ⟨k, hk⟩ := Int.gcd_dvd_right a b
  unfold q
  rw [Rat.num_divInt, Rat.den_divInt, if_neg h, Int.gcd_comm b a]
  generalize hG : a.gcd b = G at *
  have hG0 : (G : Int) ≠ 0 := by omega
  by_cases hb : b < 0
  · have eg : g = -(G : Int) := by rw [hg, if_pos hb]; omega
    have e1 : a.fdiv g = -m := by
      rw [eg, Int.fdiv_eq_ediv_of_dvd ⟨-m, by rw [hm]; grind⟩, Int.ediv_neg]
      conv => lhs; rw [hm]
      rw [Int.mul_ediv_cancel_left _ hG0]
    have e2 : b.fdiv g = -k := by
      rw [eg, Int.fdiv_eq_ediv_of_dvd ⟨-k, by rw [hk]; grind⟩, Int.ediv_neg]
      conv => lhs; rw [hk]
      rw [Int.mul_ediv_cancel_left _ hG0]
    have e3 : b.sign * a / (G : Int) = -m := by
      rw [Int.sign_eq_neg_one_of_neg hb]
      have : -1 * a = (G : Int) * (-m) := by rw [hm]; grind
      rw [this, Int.mul_ediv_cancel_left _ hG0]
    have e4 : ((b.natAbs / G : Nat) : Int) = -k := by
      rw [Int.natCast_ediv, Int.ofNat_natAbs_of_nonpos (by omega)]
      have : -b = (G : Int) * (-k) := by rw [hk]; grind
      rw [this, Int.mul_ediv_cancel_left _ hG0]
    rw [e1, e2, e3, e4]
  · have hb2 : 0 < b := by omega
    have eg : g = (G : Int) := by rw [hg, if_neg hb]
    have e1 : a.fdiv g = m := by
      rw [eg, Int.fdiv_eq_ediv_of_dvd ⟨m, hm⟩]
      conv => lhs; rw [hm]
      rw [Int.mul_ediv_cancel_left _ hG0]
    have e2 : b.fdiv g = k := by
      rw [eg, Int.fdiv_eq_ediv_of_dvd ⟨k, hk⟩]
      conv => lhs; rw [hk]
      rw [Int.mul_ediv_cancel_left _ hG0]
    have e3 : b.sign * a / (G : Int) = m := by
      rw [Int.sign_eq_one_of_pos hb2, Int.one_mul]
      conv => lhs; rw [hm]
      rw [Int.mul_ediv_cancel_left _ hG0]
    have e4 : ((b.natAbs / G : Nat) : Int) = k := by
      rw [Int.natCast_ediv, Int.natAbs_of_nonneg (by omega)]
      conv => lhs; rw [hk]
      rw [Int.mul_ediv_cancel_left _ hG0]
    rw [e1, e2, e3, e4]
end HP
namespace HP
open PySem L2
def F_none : Fn := ⟨0, 0, .nil⟩
def F_alone_of : Fn := ⟨4, 14,
 (.cons (.asg (.tup (.cons (.name 4) (.cons (.name 5) .nil))) (.ix (.var 1) (.var 3)))
 (.cons (.set 6 (.call 164 (.cons (.var 4) (.cons (.var 5) .nil))))
 (.cons (.set 7 (.call 126 (.cons (.var 2) (.cons (.var 6) .nil))))
 (.cons (.for_ (.tup (.cons (.name 8) (.cons (.name 9) (.cons (.name 10) .nil)))) (.seq (.ix (.var 0) (.int 1))) (.cons (.ite (.cmp .eq (.var 8) (.var 3)) (.cons (.set 7 (.call 210 (.cons (.var 7) (.cons (.call 126 (.cons (.call 126 (.cons (.ix (.ix (.var 1) (.var 9)) (.int 0)) (.cons (.var 6) .nil))) (.cons (.var 10) .nil))) .nil))))
 .nil) .nil)
 .nil))
 (.cons (.for_ (.tup (.cons (.name 11) (.cons (.name 12) (.cons (.name 13) .nil)))) (.seq (.ix (.var 0) (.int 2))) (.cons (.ite (.band (.cons (.cmp .eq (.var 12) (.var 3)) (.cons (.cmp .eq (.var 11) (.str "till")) .nil))) (.cons (.set 7 (.call 210 (.cons (.var 7) (.cons (.call 126 (.cons (.var 13) (.cons (.var 4) .nil))) .nil))))
 .nil) (.cons (.ite (.band (.cons (.cmp .eq (.var 12) (.var 3)) (.cons (.cmp .eq (.var 11) (.str "by")) .nil))) (.cons (.set 7 (.call 210 (.cons (.var 7) (.cons (.call 126 (.cons (.var 13) (.cons (.var 6) .nil))) .nil))))
 .nil) .nil)
 .nil))
 .nil))
 (.cons (.ret (.var 7))
 .nil))))))⟩
def F_amounts_of : Fn := ⟨2, 2,
 (.cons (.expr (.call 118 (.cons (.var 0) (.cons (.var 1) .nil))))
 (.cons (.ret (.call 56 (.cons (.var 0) (.cons (.var 1) .nil))))
 .nil))⟩
def F_are_corners : Fn := ⟨1, 3,
 (.cons (.ite (.bor (.cons (.bnot (.bcall .isin (.cons (.var 0) (.cons (.con (.ty .list)) .nil)))) (.cons (.bnot (.chain .le .le (.int 1) (.bcall .len (.cons (.var 0) .nil)) (.con (.int 5)))) .nil))) (.cons (.ret (.bl false))
 .nil) .nil)
 (.cons (.ite (.bnot (.bcall .all (.cons (.lc (.call 70 (.cons (.var 1) .nil)) (.name 1) (.seq (.var 0)) .none [1]) .nil))) (.cons (.ret (.bl false))
 .nil) .nil)
 (.cons (.for_ (.tup (.cons (.name 1) (.cons (.name 2) .nil))) (.zip (.var 0) (.sl (.var 0) (.some (.int 1)) .none)) (.cons (.ite (.bor (.cons (.bnot (.call 74 (.cons (.ix (.var 2) (.int 0)) (.cons (.ix (.var 1) (.int 0)) .nil)))) (.cons (.bnot (.call 74 (.cons (.ix (.var 1) (.int 1)) (.cons (.ix (.var 2) (.int 1)) .nil)))) .nil))) (.cons (.ret (.bl false))
 .nil) .nil)
 .nil))
 (.cons (.ret (.bl true))
 .nil))))⟩
def F_are_hollow : Fn := ⟨1, 4,
 (.cons (.set 1 (.lc (.call 176 (.cons (.var 2) (.cons (.var 3) .nil))) (.tup (.cons (.name 2) (.cons (.name 3) .nil))) (.zip (.var 0) (.sl (.var 0) (.some (.int 1)) .none)) .none [2, 3]))
 (.cons (.ret (.bcall .all (.cons (.lc (.call 74 (.cons (.var 2) (.cons (.var 3) .nil))) (.tup (.cons (.name 2) (.cons (.name 3) .nil))) (.zip (.var 1) (.sl (.var 1) (.some (.int 1)) .none)) .none [2, 3]) .nil)))
 .nil))⟩
def F_bars : Fn := ⟨3, 6,
 (.cons (.asg (.tup (.cons (.name 3) (.cons (.name 4) (.cons (.name 5) .nil)))) (.call 37 (.cons (.var 0) (.cons (.var 1) .nil))))
 (.cons (.ret (.call 74 (.cons (.call 169 (.cons (.var 4) (.cons (.var 2) .nil))) (.cons (.var 5) .nil))))
 .nil))⟩
def F_broken_group : Fn := ⟨2, 6,
 (.cons (.for_ (.tup (.cons (.name 2) (.cons (.name 3) .nil))) (.enm (.ix (.var 0) (.int 3))) (.cons (.set 4 (.lc (.call 43 (.cons (.var 0) (.cons (.var 1) (.cons (.var 5) .nil)))) (.name 5) (.seq (.var 3)) .none [5]))
 (.cons (.ite (.cmp .ne (.var 4) (.bin .mul (.lst (.cons (.ix (.var 4) (.int 0)) .nil)) (.bcall .len (.cons (.var 4) .nil)))) (.cons (.ret (.tup (.cons (.str "group") (.cons (.var 2) .nil))))
 .nil) .nil)
 .nil)))
 (.cons (.ret .non)
 .nil))⟩
def F_broken_hold : Fn := ⟨3, 8,
 (.cons (.for_ (.tup (.cons (.name 3) (.cons (.tup (.cons (.name 4) (.cons (.name 5) (.cons (.name 6) .nil)))) .nil))) (.enm (.ix (.var 0) (.int 2))) (.cons (.set 7 (.bor (.cons (.band (.cons (.cmp .eq (.var 4) (.str "till")) (.cons (.call 74 (.cons (.var 6) (.cons (.ix (.ix (.var 1) (.var 5)) (.int 0)) .nil))) .nil))) (.cons (.band (.cons (.cmp .eq (.var 4) (.str "by")) (.cons (.call 74 (.cons (.var 6) (.cons (.ix (.var 2) (.var 5)) .nil))) .nil))) .nil))))
 (.cons (.ite (.bor (.cons (.var 7) (.cons (.band (.cons (.cmp .eq (.var 4) (.str "from")) (.cons (.call 74 (.cons (.ix (.ix (.var 1) (.var 5)) (.int 0)) (.cons (.var 6) .nil))) .nil))) .nil))) (.cons (.ret (.tup (.cons (.str "hold") (.cons (.var 3) .nil))))
 .nil) .nil)
 .nil)))
 (.cons (.ret .non)
 .nil))⟩
def F_broken_start : Fn := ⟨1, 3,
 (.cons (.for_ (.tup (.cons (.name 1) (.cons (.name 2) .nil))) (.enm (.var 0)) (.cons (.ite (.call 74 (.cons (.ix (.var 2) (.int 0)) (.cons (.con (.tup [(.int 0), (.int 1)])) .nil))) (.cons (.ret (.tup (.cons (.str "start") (.cons (.var 1) .nil))))
 .nil) .nil)
 .nil))
 (.cons (.ret .non)
 .nil))⟩
def F_broken_time : Fn := ⟨2, 5,
 (.cons (.for_ (.tup (.cons (.name 2) (.cons (.tup (.cons (.name 3) (.cons (.name 4) .nil))) .nil))) (.enm (.ix (.var 0) (.int 0))) (.cons (.ite (.bnot (.call 82 (.cons (.var 4) (.cons (.ix (.ix (.var 1) (.var 2)) (.int 1)) .nil)))) (.cons (.ret (.tup (.cons (.str "time") (.cons (.var 2) .nil))))
 .nil) .nil)
 .nil))
 (.cons (.ret .non)
 .nil))⟩
def F_broken_wait : Fn := ⟨3, 7,
 (.cons (.for_ (.tup (.cons (.name 3) (.cons (.tup (.cons (.name 4) (.cons (.name 5) (.cons (.name 6) .nil)))) .nil))) (.enm (.ix (.var 0) (.int 1))) (.cons (.ite (.call 74 (.cons (.ix (.ix (.var 1) (.var 5)) (.int 0)) (.cons (.call 164 (.cons (.ix (.var 2) (.var 4)) (.cons (.var 6) .nil))) .nil))) (.cons (.ret (.tup (.cons (.str "wait") (.cons (.var 3) .nil))))
 .nil) .nil)
 .nil))
 (.cons (.ret .non)
 .nil))⟩
def F_broken_whole : Fn := ⟨2, 4,
 (.cons (.for_ (.tup (.cons (.name 2) (.cons (.name 3) .nil))) (.enm (.var 0)) (.cons (.ite (.call 74 (.cons (.var 1) (.cons (.var 3) .nil))) (.cons (.ret (.tup (.cons (.str "whole") (.cons (.var 2) .nil))))
 .nil) .nil)
 .nil))
 (.cons (.ret .non)
 .nil))⟩
def F_claimed : Fn := ⟨3, 6,
 (.cons (.asg (.tup (.cons (.name 3) (.cons (.name 4) (.cons (.name 5) .nil)))) (.call 37 (.cons (.var 0) (.cons (.var 1) .nil))))
 (.cons (.ret (.call 126 (.cons (.var 3) (.cons (.call 169 (.cons (.var 4) (.cons (.var 2) .nil))) .nil))))
 .nil))⟩
def F_claims_of : Fn := ⟨2, 8,
 (.cons (.set 2 (.call 5 (.cons (.var 0) (.cons (.var 1) .nil))))
 (.cons (.set 3 (.call 230 (.cons (.var 0) (.cons (.var 1) .nil))))
 (.cons (.set 4 (.var 3))
 (.cons (.for_ (.tup (.cons (.name 5) (.cons (.name 6) .nil))) (.enm (.var 2)) (.cons (.set 7 (.ix (.ix (.ix (.var 0) (.int 0)) (.var 5)) (.int 1)))
 (.cons (.set 3 (.call 164 (.cons (.var 3) (.cons (.call 105 (.cons (.var 7) (.cons (.var 6) .nil))) .nil))))
 (.cons (.set 4 (.call 164 (.cons (.var 4) (.cons (.call 169 (.cons (.var 6) (.cons (.ix (.ix (.ix (.var 7) (.int 1)) (.neg (.int 1))) (.int 0)) .nil))) .nil))))
 .nil))))
 (.cons (.ret (.tup (.cons (.var 3) (.cons (.call 177 (.cons (.var 1) .nil)) (.cons (.var 4) .nil)))))
 .nil)))))⟩
def F_corner_of : Fn := ⟨3, 5,
 (.cons (.set 3 (.lc (.ix (.var 4) (.int 0)) (.name 4) (.seq (.ix (.ix (.ix (.ix (.var 0) (.int 0)) (.var 2)) (.int 1)) (.int 1))) .none [4]))
 (.cons (.ret (.meth .index (.var 3) (.cons (.ix (.ix (.var 1) (.var 2)) (.int 1)) .nil)))
 .nil))⟩
def F_cut_at : Fn := ⟨2, 6,
 (.cons (.asg (.tup (.cons (.name 2) (.cons (.name 3) .nil))) (.var 0))
 (.cons (.ite (.call 74 (.cons (.ix (.ix (.var 3) (.int 0)) (.int 0)) (.cons (.var 1) .nil))) (.cons (.ret (.tup (.cons (.var 2) (.cons (.lst (.cons (.tup (.cons (.var 1) (.cons (.ix (.ix (.var 3) (.int 0)) (.int 1)) .nil))) .nil)) .nil))))
 .nil) .nil)
 (.cons (.ite (.cmp .eq (.var 2) (.str "steps")) (.cons (.ret (.tup (.cons (.var 2) (.cons (.lc (.var 5) (.name 5) (.seq (.var 3)) (.some (.bnot (.call 74 (.cons (.ix (.var 5) (.int 0)) (.cons (.var 1) .nil))))) [5]) .nil))))
 .nil) .nil)
 (.cons (.ite (.bnot (.call 74 (.cons (.ix (.ix (.var 3) (.neg (.int 1))) (.int 0)) (.cons (.var 1) .nil)))) (.cons (.ret (.tup (.cons (.var 2) (.cons (.bcall .list (.cons (.var 3) .nil)) .nil))))
 .nil) .nil)
 (.cons (.set 4 (.lc (.var 5) (.name 5) (.seq (.var 3)) (.some (.call 74 (.cons (.var 1) (.cons (.ix (.var 5) (.int 0)) .nil)))) [5]))
 (.cons (.ret (.tup (.cons (.var 2) (.cons (.bin .add (.var 4) (.lst (.cons (.tup (.cons (.var 1) (.cons (.call 167 (.cons (.var 0) (.cons (.var 1) .nil))) .nil))) .nil))) .nil))))
 .nil))))))⟩
def F_divisor : Fn := ⟨2, 2,
 (.cons (.whl (.cmp .ne (.var 1) (.int 0)) (.cons (.par 0 1 (.var 1) (.bin .mod (.var 0) (.var 1)))
 .nil))
 (.cons (.ret (.bcall .abs (.cons (.var 0) .nil)))
 .nil))⟩
def F_earliest : Fn := ⟨2, 9,
 (.cons (.set 0 (.call 222 (.cons (.var 0) (.cons (.var 1) .nil))))
 (.cons (.set 2 (.call 213 (.cons (.var 0) .nil)))
 (.cons (.set 3 .non)
 (.cons (.for_ (.name 4) (.rng1 (.bcall .len (.cons (.var 1) .nil))) (.cons (.set 3 (.call 171 (.cons (.var 0) (.cons (.var 1) (.cons (.var 2) .nil)))))
 .nil))
 (.cons (.ite (.cmp .isn (.var 3) .non) (.cons (.ret (.tup (.cons (.str "ring") (.cons (.call 149 (.cons (.call 187 (.cons (.var 0) (.cons (.var 2) (.cons (.var 3) (.cons (.int 0) .nil))))) .nil)) .nil))))
 .nil) .nil)
 (.cons (.for_ (.tup (.cons (.name 5) (.cons (.name 6) .nil))) (.enm (.call 99 (.cons (.var 0) (.cons (.var 1) (.cons .non .nil))))) (.cons (.ite (.band (.cons (.cmp .isn (.var 6) .non) (.cons (.call 74 (.cons (.ix (.var 6) (.int 0)) (.cons (.ix (.ix (.var 2) (.var 5)) (.int 0)) .nil))) .nil))) (.cons (.ret (.tup (.cons (.str "ring") (.cons (.call 149 (.cons (.bin .add (.call 229 (.cons (.var 0) (.cons (.var 2) (.cons (.var 5) (.cons (.int 0) .nil))))) (.lst (.cons (.ix (.var 6) (.int 1)) .nil))) .nil)) .nil))))
 .nil) .nil)
 .nil))
 (.cons (.ret (.tup (.cons (.str "starts") (.cons (.lc (.var 7) (.tup (.cons (.name 7) (.cons (.name 8) .nil))) (.seq (.var 2)) .none [7, 8]) .nil))))
 .nil)))))))⟩
def F_ends_of : Fn := ⟨1, 3,
 (.cons (.ret (.lc (.call 164 (.cons (.var 1) (.cons (.var 2) .nil))) (.tup (.cons (.name 1) (.cons (.name 2) .nil))) (.seq (.var 0)) .none [1, 2]))
 .nil)⟩
def F_fall_of : Fn := ⟨2, 2,
 (.cons (.ret (.call 152 (.cons (.call 126 (.cons (.ix (.var 0) (.int 1)) (.cons (.ix (.var 1) (.int 1)) .nil))) (.cons (.call 126 (.cons (.ix (.var 1) (.int 0)) (.cons (.ix (.var 0) (.int 0)) .nil))) .nil))))
 .nil)⟩
def F_first_broken : Fn := ⟨3, 5,
 (.cons (.set 3 (.call 18 (.cons (.var 0) (.cons (.var 1) .nil))))
 (.cons (.ite (.cmp .is (.var 3) .non) (.cons (.set 3 (.call 15 (.cons (.var 0) (.cons (.var 1) .nil))))
 .nil) .nil)
 (.cons (.ite (.cmp .is (.var 3) .non) (.cons (.set 3 (.call 17 (.cons (.var 1) .nil)))
 .nil) .nil)
 (.cons (.set 4 (.call 50 (.cons (.var 1) .nil)))
 (.cons (.ite (.cmp .is (.var 3) .non) (.cons (.set 3 (.call 19 (.cons (.var 0) (.cons (.var 1) (.cons (.var 4) .nil)))))
 .nil) .nil)
 (.cons (.ite (.cmp .is (.var 3) .non) (.cons (.set 3 (.call 16 (.cons (.var 0) (.cons (.var 1) (.cons (.var 4) .nil)))))
 .nil) .nil)
 (.cons (.ite (.band (.cons (.cmp .is (.var 3) .non) (.cons (.cmp .isn (.var 2) .non) .nil))) (.cons (.set 3 (.call 20 (.cons (.var 4) (.cons (.var 2) .nil))))
 .nil) .nil)
 (.cons (.ret (.var 3))
 .nil))))))))⟩
def F_gone_in : Fn := ⟨2, 7,
 (.cons (.set 2 (.lc (.con (.tup [(.int 0), (.int 1)])) (.name 6) (.seq (.ix (.var 0) (.int 0))) .none [6]))
 (.cons (.for_ (.tup (.cons (.tup (.cons (.name 3) (.cons (.name 4) .nil))) (.cons (.name 5) .nil))) (.seq (.var 1)) (.cons (.ite (.cmp .eq (.var 3) (.str "start")) (.cons (.setIx (.var 2) (.var 4) (.call 164 (.cons (.ix (.var 2) (.var 4)) (.cons (.var 5) .nil))))
 .nil) (.cons (.ite (.cmp .eq (.var 3) (.str "wait")) (.cons (.setIx (.var 2) (.ix (.ix (.ix (.var 0) (.int 1)) (.var 4)) (.int 1)) (.call 164 (.cons (.ix (.var 2) (.ix (.ix (.ix (.var 0) (.int 1)) (.var 4)) (.int 1))) (.cons (.var 5) .nil))))
 .nil) (.cons (.ite (.band (.cons (.cmp .eq (.var 3) (.str "hold")) (.cons (.cmp .eq (.ix (.ix (.ix (.var 0) (.int 2)) (.var 4)) (.int 0)) (.str "from")) .nil))) (.cons (.setIx (.var 2) (.ix (.ix (.ix (.var 0) (.int 2)) (.var 4)) (.int 1)) (.call 164 (.cons (.ix (.var 2) (.ix (.ix (.ix (.var 0) (.int 2)) (.var 4)) (.int 1))) (.cons (.var 5) .nil))))
 .nil) (.cons (.ite (.band (.cons (.cmp .eq (.var 3) (.str "hold")) (.cons (.cmp .eq (.ix (.ix (.ix (.var 0) (.int 2)) (.var 4)) (.int 0)) (.str "till")) .nil))) (.cons (.setIx (.var 2) (.ix (.ix (.ix (.var 0) (.int 2)) (.var 4)) (.int 1)) (.call 126 (.cons (.ix (.var 2) (.ix (.ix (.ix (.var 0) (.int 2)) (.var 4)) (.int 1))) (.cons (.var 5) .nil))))
 .nil) .nil)
 .nil))
 .nil))
 .nil))
 .nil))
 (.cons (.ret (.var 2))
 .nil)))⟩
def F_gone_off : Fn := ⟨2, 7,
 (.cons (.set 2 (.lc (.con (.tup [(.int 0), (.int 1)])) (.name 6) (.seq (.ix (.var 0) (.int 0))) .none [6]))
 (.cons (.for_ (.tup (.cons (.tup (.cons (.name 3) (.cons (.name 4) .nil))) (.cons (.name 5) .nil))) (.seq (.var 1)) (.cons (.ite (.cmp .eq (.var 3) (.str "end")) (.cons (.setIx (.var 2) (.var 4) (.call 164 (.cons (.ix (.var 2) (.var 4)) (.cons (.var 5) .nil))))
 .nil) (.cons (.ite (.cmp .eq (.var 3) (.str "wait")) (.cons (.setIx (.var 2) (.ix (.ix (.ix (.var 0) (.int 1)) (.var 4)) (.int 0)) (.call 164 (.cons (.ix (.var 2) (.ix (.ix (.ix (.var 0) (.int 1)) (.var 4)) (.int 0))) (.cons (.var 5) .nil))))
 .nil) (.cons (.ite (.band (.cons (.cmp .eq (.var 3) (.str "hold")) (.cons (.cmp .eq (.ix (.ix (.ix (.var 0) (.int 2)) (.var 4)) (.int 0)) (.str "by")) .nil))) (.cons (.setIx (.var 2) (.ix (.ix (.ix (.var 0) (.int 2)) (.var 4)) (.int 1)) (.call 164 (.cons (.ix (.var 2) (.ix (.ix (.ix (.var 0) (.int 2)) (.var 4)) (.int 1))) (.cons (.var 5) .nil))))
 .nil) .nil)
 .nil))
 .nil))
 .nil))
 (.cons (.ret (.var 2))
 .nil)))⟩
def F_in_lowest : Fn := ⟨2, 3,
 (.cons (.set 2 (.call 46 (.cons (.var 0) (.cons (.var 1) .nil))))
 (.cons (.ite (.cmp .lt (.var 1) (.int 0)) (.cons (.set 2 (.bin .sub (.int 0) (.var 2)))
 .nil) .nil)
 (.cons (.ret (.tup (.cons (.bin .fdiv (.var 0) (.var 2)) (.cons (.bin .fdiv (.var 1) (.var 2)) .nil))))
 .nil)))⟩
def F_is_amount : Fn := ⟨1, 1,
 (.cons (.ret (.band (.cons (.call 88 (.cons (.var 0) .nil)) (.cons (.cmp .ge (.ix (.var 0) (.int 0)) (.int 0)) .nil))))
 .nil)⟩
def F_is_arc : Fn := ⟨2, 2,
 (.cons (.ite (.bor (.cons (.bnot (.bcall .isin (.cons (.var 1) (.cons (.con (.ty .tuple)) .nil)))) (.cons (.cmp .ne (.bcall .len (.cons (.var 1) .nil)) (.int 2)) (.cons (.bnot (.bcall .isin (.cons (.ix (.var 1) (.int 0)) (.cons (.con (.ty .str)) .nil)))) .nil)))) (.cons (.ret (.bl false))
 .nil) .nil)
 (.cons (.ite (.bor (.cons (.kin true (.ix (.var 1) (.int 0)) [(("start" : Str), 0), (("end" : Str), 0), (("wait" : Str), 1), (("hold" : Str), 2)]) (.cons (.bnot (.call 95 (.cons (.ix (.var 1) (.int 1)) .nil))) .nil))) (.cons (.ret (.bl false))
 .nil) .nil)
 (.cons (.ret (.chain .le .lt (.int 0) (.ix (.var 1) (.int 1)) (.bcall .len (.cons (.ix (.var 0) (.kix [(("start" : Str), 0), (("end" : Str), 0), (("wait" : Str), 1), (("hold" : Str), 2)] (.ix (.var 1) (.int 0)))) .nil))))
 .nil)))⟩
def F_is_corner : Fn := ⟨1, 1,
 (.cons (.ret (.band (.cons (.bcall .isin (.cons (.var 0) (.cons (.con (.ty .tuple)) .nil))) (.cons (.cmp .eq (.bcall .len (.cons (.var 0) .nil)) (.int 2)) (.cons (.call 62 (.cons (.ix (.var 0) (.int 0)) .nil)) (.cons (.call 62 (.cons (.ix (.var 0) (.int 1)) .nil)) .nil))))))
 .nil)⟩
def F_is_group : Fn := ⟨3, 7,
 (.cons (.ite (.bor (.cons (.bnot (.bcall .isin (.cons (.var 0) (.cons (.con (.ty .list)) .nil)))) (.cons (.cmp .lt (.bcall .len (.cons (.var 0) .nil)) (.int 2)) .nil))) (.cons (.ret (.bl false))
 .nil) .nil)
 (.cons (.for_ (.tup (.cons (.name 3) (.cons (.name 4) .nil))) (.enm (.var 0)) (.cons (.ite (.bor (.cons (.bnot (.call 80 (.cons (.var 4) (.cons (.bcall .len (.cons (.var 1) .nil)) .nil)))) (.cons (.cmp .inn (.var 4) (.sl (.var 0) .none (.some (.var 3)))) (.cons (.cmp .inn (.var 4) (.var 2)) .nil)))) (.cons (.ret (.bl false))
 .nil) .nil)
 .nil))
 (.cons (.set 5 (.lc (.ix (.ix (.var 1) (.var 4)) (.int 1)) (.name 4) (.seq (.var 0)) .none [4]))
 (.cons (.ret (.bcall .all (.cons (.lc (.band (.cons (.cmp .eq (.ix (.var 6) (.int 0)) (.str "steps")) (.cons (.cmp .eq (.bcall .len (.cons (.ix (.var 6) (.int 1)) .nil)) (.bcall .len (.cons (.ix (.ix (.var 5) (.int 0)) (.int 1)) .nil))) .nil))) (.name 6) (.seq (.var 5)) .none [6]) .nil)))
 .nil))))⟩
def F_is_less : Fn := ⟨2, 2,
 (.cons (.ret (.cmp .lt (.bin .mul (.ix (.var 0) (.int 0)) (.ix (.var 1) (.int 1))) (.bin .mul (.ix (.var 1) (.int 0)) (.ix (.var 0) (.int 1)))))
 .nil)⟩
def F_is_name : Fn := ⟨1, 2,
 (.cons (.ite (.bor (.cons (.bnot (.bcall .isin (.cons (.var 0) (.cons (.con (.ty .str)) .nil)))) (.cons (.cmp .eq (.var 0) (.str "")) (.cons (.cmp .gt (.bcall .len (.cons (.var 0) .nil)) (.con (.int 8))) .nil)))) (.cons (.ret (.bl false))
 .nil) .nil)
 (.cons (.ret (.bcall .all (.cons (.lc (.cmp .inn (.var 1) (.con (.str "abcdefghijklmnopqrstuvwxyz"))) (.name 1) (.seq (.var 0)) .none [1]) .nil)))
 .nil))⟩
def F_is_number_of : Fn := ⟨2, 2,
 (.cons (.ret (.band (.cons (.call 95 (.cons (.var 0) .nil)) (.cons (.chain .le .lt (.int 0) (.var 0) (.var 1)) .nil))))
 .nil)⟩
def F_is_offer : Fn := ⟨1, 3,
 (.cons (.ite (.bor (.cons (.bnot (.bcall .isin (.cons (.var 0) (.cons (.con (.ty .tuple)) .nil)))) (.cons (.cmp .ne (.bcall .len (.cons (.var 0) .nil)) (.int 2)) .nil))) (.cons (.ret (.bl false))
 .nil) .nil)
 (.cons (.asg (.tup (.cons (.name 1) (.cons (.name 2) .nil))) (.var 0))
 (.cons (.ite (.bor (.cons (.bnot (.bcall .isin (.cons (.var 1) (.cons (.con (.ty .str)) .nil)))) (.cons (.cmp .nin (.var 1) (.con (.tup [(.str "straight"), (.str "steps")]))) (.cons (.bnot (.call 6 (.cons (.var 2) .nil))) .nil)))) (.cons (.ret (.bl false))
 .nil) .nil)
 (.cons (.ret (.bor (.cons (.cmp .eq (.var 1) (.str "steps")) (.cons (.call 7 (.cons (.var 2) .nil)) .nil))))
 .nil))))⟩
def F_is_offered : Fn := ⟨2, 5,
 (.cons (.asg (.tup (.cons (.name 2) (.cons (.name 3) .nil))) (.var 0))
 (.cons (.ite (.cmp .eq (.var 2) (.str "steps")) (.cons (.ret (.cmp .inn (.var 1) (.lc (.ix (.var 4) (.int 0)) (.name 4) (.seq (.var 3)) .none [4])))
 .nil) .nil)
 (.cons (.ret (.band (.cons (.bnot (.call 74 (.cons (.var 1) (.cons (.ix (.ix (.var 3) (.neg (.int 1))) (.int 0)) .nil)))) (.cons (.bnot (.call 74 (.cons (.ix (.ix (.var 3) (.int 0)) (.int 0)) (.cons (.var 1) .nil)))) .nil))))
 .nil)))⟩
def F_is_ratio : Fn := ⟨1, 3,
 (.cons (.ite (.bor (.cons (.bnot (.bcall .isin (.cons (.var 0) (.cons (.con (.ty .tuple)) .nil)))) (.cons (.cmp .ne (.bcall .len (.cons (.var 0) .nil)) (.int 2)) .nil))) (.cons (.ret (.bl false))
 .nil) .nil)
 (.cons (.asg (.tup (.cons (.name 1) (.cons (.name 2) .nil))) (.var 0))
 (.cons (.ite (.bor (.cons (.bnot (.call 95 (.cons (.var 1) .nil))) (.cons (.bnot (.call 95 (.cons (.var 2) .nil))) .nil))) (.cons (.ret (.bl false))
 .nil) .nil)
 (.cons (.ret (.band (.cons (.cmp .gt (.var 2) (.int 0)) (.cons (.cmp .eq (.call 46 (.cons (.var 1) (.cons (.var 2) .nil))) (.int 1)) .nil))))
 .nil))))⟩
def F_is_share : Fn := ⟨2, 2,
 (.cons (.ite (.bor (.cons (.bnot (.bcall .isin (.cons (.var 1) (.cons (.con (.ty .tuple)) .nil)))) (.cons (.cmp .ne (.bcall .len (.cons (.var 1) .nil)) (.int 2)) (.cons (.bnot (.call 63 (.cons (.var 0) (.cons (.ix (.var 1) (.int 0)) .nil)))) .nil)))) (.cons (.ret (.bl false))
 .nil) .nil)
 (.cons (.ret (.band (.cons (.call 88 (.cons (.ix (.var 1) (.int 1)) .nil)) (.cons (.call 74 (.cons (.con (.tup [(.int 0), (.int 1)])) (.cons (.ix (.var 1) (.int 1)) .nil))) .nil))))
 .nil))⟩
def F_is_straight : Fn := ⟨1, 3,
 (.cons (.ret (.bcall .all (.cons (.lc (.cmp .eq (.ix (.var 2) (.int 0)) (.str "straight")) (.tup (.cons (.name 1) (.cons (.name 2) .nil))) (.seq (.ix (.var 0) (.int 0))) .none [1, 2]) .nil)))
 .nil)⟩
def F_is_whole : Fn := ⟨1, 1,
 (.cons (.ret (.band (.cons (.bcall .isin (.cons (.var 0) (.cons (.con (.ty .int)) .nil))) (.cons (.bnot (.bcall .isin (.cons (.var 0) (.cons (.con (.ty .bool)) .nil)))) .nil))))
 .nil)⟩
def F_is_work : Fn := ⟨1, 1,
 (.cons (.ret (.band (.cons (.bcall .isin (.cons (.var 0) (.cons (.con (.ty .tuple)) .nil))) (.cons (.cmp .eq (.bcall .len (.cons (.var 0) .nil)) (.int 2)) (.cons (.call 76 (.cons (.ix (.var 0) (.int 0)) .nil)) (.cons (.call 81 (.cons (.ix (.var 0) (.int 1)) .nil)) .nil))))))
 .nil)⟩
def F_larger : Fn := ⟨2, 2,
 (.cons (.ite (.call 74 (.cons (.var 0) (.cons (.var 1) .nil))) (.cons (.ret (.var 1))
 .nil) .nil)
 (.cons (.ret (.var 0))
 .nil))⟩
def F_latest : Fn := ⟨3, 10,
 (.cons (.set 0 (.call 222 (.cons (.var 0) (.cons (.var 1) .nil))))
 (.cons (.set 3 (.call 99 (.cons (.var 0) (.cons (.var 1) (.cons (.var 2) .nil)))))
 (.cons (.set 4 .non)
 (.cons (.for_ (.name 5) (.rng1 (.bcall .len (.cons (.var 1) .nil))) (.cons (.set 4 (.call 170 (.cons (.var 0) (.cons (.var 1) (.cons (.var 3) .nil)))))
 .nil))
 (.cons (.ite (.cmp .isn (.var 4) .non) (.cons (.ret (.tup (.cons (.str "bar") (.cons (.call 149 (.cons (.call 187 (.cons (.var 0) (.cons (.var 3) (.cons (.var 4) (.cons (.int 1) .nil))))) .nil)) .nil))))
 .nil) .nil)
 (.cons (.for_ (.tup (.cons (.name 6) (.cons (.name 7) .nil))) (.enm (.call 213 (.cons (.var 0) .nil))) (.cons (.ite (.call 74 (.cons (.ix (.ix (.var 3) (.var 6)) (.int 0)) (.cons (.ix (.var 7) (.int 0)) .nil))) (.cons (.ret (.tup (.cons (.str "bar") (.cons (.call 149 (.cons (.bin .add (.lst (.cons (.ix (.var 7) (.int 1)) .nil)) (.call 229 (.cons (.var 0) (.cons (.var 3) (.cons (.var 6) (.cons (.int 1) .nil)))))) .nil)) .nil))))
 .nil) .nil)
 .nil))
 (.cons (.ret (.tup (.cons (.str "starts") (.cons (.lc (.var 8) (.tup (.cons (.name 8) (.cons (.name 9) .nil))) (.seq (.var 3)) .none [8, 9]) .nil))))
 .nil)))))))⟩
def F_latest_let : Fn := ⟨3, 9,
 (.cons (.set 3 (.lc .non (.name 6) (.seq (.var 1)) .none [6]))
 (.cons (.ite (.cmp .isn (.var 2) .non) (.cons (.set 3 (.lc (.tup (.cons (.call 126 (.cons (.var 2) (.cons (.var 8) .nil))) (.cons (.tup (.cons (.str "end") (.cons (.var 6) .nil))) .nil))) (.tup (.cons (.name 6) (.cons (.name 8) .nil))) (.enm (.var 1)) .none [6, 8]))
 .nil) .nil)
 (.cons (.for_ (.tup (.cons (.name 4) (.cons (.tup (.cons (.name 5) (.cons (.name 6) (.cons (.name 7) .nil)))) .nil))) (.enm (.ix (.var 0) (.int 2))) (.cons (.ite (.cmp .ne (.var 5) (.str "from")) (.cons (.ite (.cmp .eq (.var 5) (.str "by")) (.cons (.set 7 (.call 126 (.cons (.var 7) (.cons (.ix (.var 1) (.var 6)) .nil))))
 .nil) .nil)
 (.cons (.ite (.bor (.cons (.cmp .is (.ix (.var 3) (.var 6)) .non) (.cons (.call 74 (.cons (.var 7) (.cons (.ix (.ix (.var 3) (.var 6)) (.int 0)) .nil))) .nil))) (.cons (.setIx (.var 3) (.var 6) (.tup (.cons (.var 7) (.cons (.tup (.cons (.str "hold") (.cons (.var 4) .nil))) .nil))))
 .nil) .nil)
 .nil)) .nil)
 .nil))
 (.cons (.ret (.var 3))
 .nil))))⟩
def F_least_with : Fn := ⟨2, 6,
 (.cons (.set 2 .non)
 (.cons (.for_ (.tup (.cons (.name 3) (.cons (.name 4) .nil))) (.seq (.ix (.var 0) (.int 1))) (.cons (.set 5 (.call 164 (.cons (.var 4) (.cons (.call 169 (.cons (.var 1) (.cons (.var 3) .nil))) .nil))))
 (.cons (.ite (.cmp .is (.var 2) .non) (.cons (.set 2 (.var 5))
 .nil) .nil)
 (.cons (.set 2 (.call 210 (.cons (.var 2) (.cons (.var 5) .nil))))
 .nil))))
 (.cons (.ret (.var 2))
 .nil)))⟩
def F_look_at_groups : Fn := ⟨2, 5,
 (.cons (.expr (.call 116 (.cons (.str "groups") (.cons (.var 0) (.cons (.int 0) (.cons (.con (.int 4)) .nil))))))
 (.cons (.set 2 (.lst .nil))
 (.cons (.for_ (.tup (.cons (.name 3) (.cons (.name 4) .nil))) (.enm (.var 0)) (.cons (.ite (.bnot (.call 72 (.cons (.var 4) (.cons (.var 1) (.cons (.var 2) .nil))))) (.cons .never
 .nil) .nil)
 (.cons (.set 2 (.bin .add (.var 2) (.var 4)))
 .nil)))
 .nil)))⟩
def F_look_at_holds : Fn := ⟨2, 4,
 (.cons (.expr (.call 116 (.cons (.str "holds") (.cons (.var 0) (.cons (.int 0) (.cons (.con (.int 40)) .nil))))))
 (.cons (.for_ (.tup (.cons (.name 2) (.cons (.name 3) .nil))) (.enm (.var 0)) (.cons (.ite (.bor (.cons (.bnot (.bcall .isin (.cons (.var 3) (.cons (.con (.ty .tuple)) .nil)))) (.cons (.cmp .ne (.bcall .len (.cons (.var 3) .nil)) (.int 3)) (.cons (.bnot (.bcall .isin (.cons (.ix (.var 3) (.int 0)) (.cons (.con (.ty .str)) .nil)))) .nil)))) (.cons .never
 .nil) .nil)
 (.cons (.ite (.bor (.cons (.cmp .nin (.ix (.var 3) (.int 0)) (.con (.tup [(.str "from"), (.str "till"), (.str "by")]))) (.cons (.bnot (.call 80 (.cons (.ix (.var 3) (.int 1)) (.cons (.var 1) .nil)))) (.cons (.bnot (.call 88 (.cons (.ix (.var 3) (.int 2)) .nil))) .nil)))) (.cons .never
 .nil) .nil)
 .nil)))
 .nil))⟩
def F_look_at_list : Fn := ⟨4, 4,
 (.cons (.ite (.bor (.cons (.bnot (.bcall .isin (.cons (.var 1) (.cons (.con (.ty .list)) .nil)))) (.cons (.bnot (.chain .le .le (.var 2) (.bcall .len (.cons (.var 1) .nil)) (.var 3))) .nil))) (.cons .never
 .nil) .nil)
 .nil)⟩
def F_look_at_net : Fn := ⟨1, 5,
 (.cons (.ite (.bor (.cons (.bnot (.bcall .isin (.cons (.var 0) (.cons (.con (.ty .tuple)) .nil)))) (.cons (.cmp .ne (.bcall .len (.cons (.var 0) .nil)) (.int 4)) .nil))) (.cons .never
 .nil) .nil)
 (.cons (.asg (.tup (.cons (.name 1) (.cons (.name 2) (.cons (.name 3) (.cons (.name 4) .nil))))) (.var 0))
 (.cons (.expr (.call 121 (.cons (.var 1) .nil)))
 (.cons (.expr (.call 120 (.cons (.var 2) (.cons (.bcall .len (.cons (.var 1) .nil)) .nil))))
 (.cons (.expr (.call 115 (.cons (.var 3) (.cons (.bcall .len (.cons (.var 1) .nil)) .nil))))
 (.cons (.expr (.call 114 (.cons (.var 4) (.cons (.var 1) .nil))))
 .nil))))))⟩
def F_look_at_paper : Fn := ⟨2, 8,
 (.cons (.ite (.bnot (.bcall .isin (.cons (.var 1) (.cons (.con (.ty .list)) .nil)))) (.cons .never
 .nil) .nil)
 (.cons (.set 2 .dicT)
 (.cons (.for_ (.tup (.cons (.name 3) (.cons (.name 4) .nil))) (.enm (.var 1)) (.cons (.ite (.bor (.cons (.bnot (.call 91 (.cons (.var 0) (.cons (.var 4) .nil)))) (.cons (.din false (.ix (.var 4) (.int 0)) (.var 2)) .nil))) (.cons .never
 .nil) .nil)
 (.cons (.setD (.var 2) (.ix (.var 4) (.int 0)) (.bl true))
 .nil)))
 (.cons (.set 5 (.call 57 (.cons (.var 0) (.cons (.var 1) .nil))))
 (.cons (.for_ (.tup (.cons (.name 6) (.cons (.name 7) .nil))) (.enm (.call 56 (.cons (.var 0) (.cons (.var 1) .nil)))) (.cons (.ite (.bor (.cons (.call 74 (.cons (.var 7) (.cons (.con (.tup [(.int 0), (.int 1)])) .nil))) (.cons (.cmp .ne (.var 7) (.ix (.var 5) (.var 6))) .nil))) (.cons .never
 .nil) .nil)
 .nil))
 .nil)))))⟩
def F_look_at_waits : Fn := ⟨2, 4,
 (.cons (.expr (.call 116 (.cons (.str "waits") (.cons (.var 0) (.cons (.int 0) (.cons (.con (.int 40)) .nil))))))
 (.cons (.for_ (.tup (.cons (.name 2) (.cons (.name 3) .nil))) (.enm (.var 0)) (.cons (.ite (.bor (.cons (.bnot (.bcall .isin (.cons (.var 3) (.cons (.con (.ty .tuple)) .nil)))) (.cons (.cmp .ne (.bcall .len (.cons (.var 3) .nil)) (.int 3)) (.cons (.bnot (.call 88 (.cons (.ix (.var 3) (.int 2)) .nil))) .nil)))) (.cons .never
 .nil) .nil)
 (.cons (.ite (.bor (.cons (.bnot (.call 80 (.cons (.ix (.var 3) (.int 0)) (.cons (.var 1) .nil)))) (.cons (.bnot (.call 80 (.cons (.ix (.var 3) (.int 1)) (.cons (.var 1) .nil)))) (.cons (.cmp .eq (.ix (.var 3) (.int 0)) (.ix (.var 3) (.int 1))) .nil)))) (.cons .never
 .nil) .nil)
 .nil)))
 .nil))⟩
def F_look_at_works : Fn := ⟨1, 4,
 (.cons (.expr (.call 116 (.cons (.str "works") (.cons (.var 0) (.cons (.int 1) (.cons (.con (.int 10)) .nil))))))
 (.cons (.set 1 (.lst .nil))
 (.cons (.for_ (.tup (.cons (.name 2) (.cons (.name 3) .nil))) (.enm (.var 0)) (.cons (.ite (.bor (.cons (.bnot (.call 96 (.cons (.var 3) .nil))) (.cons (.cmp .inn (.ix (.var 3) (.int 0)) (.var 1)) .nil))) (.cons .never
 .nil) .nil)
 (.cons (.expr (.meth .append (.var 1) (.cons (.ix (.var 3) (.int 0)) .nil)))
 .nil)))
 .nil)))⟩
def F_minus : Fn := ⟨2, 2,
 (.cons (.ret (.call 60 (.cons (.bin .sub (.bin .mul (.ix (.var 0) (.int 0)) (.ix (.var 1) (.int 1))) (.bin .mul (.ix (.var 1) (.int 0)) (.ix (.var 0) (.int 1)))) (.cons (.bin .mul (.ix (.var 0) (.int 1)) (.ix (.var 1) (.int 1))) .nil))))
 .nil)⟩
def F_paper_of : Fn := ⟨1, 2,
 (.cons (.ret (.lc (.tup (.cons (.var 1) (.cons (.con (.tup [(.int 1), (.int 1)])) .nil))) (.name 1) (.seq (.var 0)) .none [1]))
 .nil)⟩
def F_parted : Fn := ⟨2, 2,
 (.cons (.ite (.cmp .eq (.ix (.var 1) (.int 0)) (.int 0)) (.cons (.rse 1 [] .nil)
 .nil) .nil)
 (.cons (.ret (.call 60 (.cons (.bin .mul (.ix (.var 0) (.int 0)) (.ix (.var 1) (.int 1))) (.cons (.bin .mul (.ix (.var 0) (.int 1)) (.ix (.var 1) (.int 0))) .nil))))
 .nil))⟩
def F_plus : Fn := ⟨2, 2,
 (.cons (.ret (.call 60 (.cons (.bin .add (.bin .mul (.ix (.var 0) (.int 0)) (.ix (.var 1) (.int 1))) (.bin .mul (.ix (.var 1) (.int 0)) (.ix (.var 0) (.int 1)))) (.cons (.bin .mul (.ix (.var 0) (.int 1)) (.ix (.var 1) (.int 1))) .nil))))
 .nil)⟩
def F_price_of_time : Fn := ⟨2, 6,
 (.cons (.ite (.bnot (.call 82 (.cons (.var 0) (.cons (.var 1) .nil)))) (.cons (.rse 2 [] .nil)
 .nil) .nil)
 (.cons (.set 2 (.ix (.var 0) (.int 1)))
 (.cons (.for_ (.name 3) (.seq (.var 2)) (.cons (.ite (.cmp .eq (.ix (.var 3) (.int 0)) (.var 1)) (.cons (.ret (.ix (.var 3) (.int 1)))
 .nil) .nil)
 .nil))
 (.cons (.set 4 (.bcall .len (.cons (.lc (.var 3) (.name 3) (.seq (.var 2)) (.some (.call 74 (.cons (.var 1) (.cons (.ix (.var 3) (.int 0)) .nil)))) [3]) .nil)))
 (.cons (.set 5 (.ix (.var 2) (.bin .sub (.var 4) (.int 1))))
 (.cons (.ret (.call 164 (.cons (.ix (.var 5) (.int 1)) (.cons (.call 169 (.cons (.call 176 (.cons (.var 5) (.cons (.ix (.var 2) (.var 4)) .nil))) (.cons (.call 126 (.cons (.ix (.var 5) (.int 0)) (.cons (.var 1) .nil))) .nil))) .nil))))
 .nil))))))⟩
def F_product : Fn := ⟨2, 2,
 (.cons (.ret (.call 60 (.cons (.bin .mul (.ix (.var 0) (.int 0)) (.ix (.var 1) (.int 0))) (.cons (.bin .mul (.ix (.var 0) (.int 1)) (.ix (.var 1) (.int 1))) .nil))))
 .nil)⟩
def F_pulled : Fn := ⟨3, 9,
 (.cons (.set 3 .non)
 (.cons (.for_ (.tup (.cons (.name 4) (.cons (.tup (.cons (.name 5) (.cons (.name 6) (.cons (.name 7) .nil)))) .nil))) (.enm (.ix (.var 0) (.int 1))) (.cons (.set 8 (.call 126 (.cons (.call 126 (.cons (.ix (.ix (.var 2) (.var 6)) (.int 0)) (.cons (.var 7) .nil))) (.cons (.ix (.var 1) (.var 5)) .nil))))
 (.cons (.ite (.call 74 (.cons (.var 8) (.cons (.ix (.ix (.var 2) (.var 5)) (.int 0)) .nil))) (.cons (.setIx (.var 2) (.var 5) (.tup (.cons (.var 8) (.cons (.tup (.cons (.str "wait") (.cons (.var 4) .nil))) .nil))))
 (.cons (.set 3 (.var 5))
 .nil)) .nil)
 .nil)))
 (.cons (.ret (.var 3))
 .nil)))⟩
def F_pushed : Fn := ⟨3, 9,
 (.cons (.set 3 .non)
 (.cons (.for_ (.tup (.cons (.name 4) (.cons (.tup (.cons (.name 5) (.cons (.name 6) (.cons (.name 7) .nil)))) .nil))) (.enm (.ix (.var 0) (.int 1))) (.cons (.set 8 (.call 164 (.cons (.call 164 (.cons (.ix (.ix (.var 2) (.var 5)) (.int 0)) (.cons (.ix (.var 1) (.var 5)) .nil))) (.cons (.var 7) .nil))))
 (.cons (.ite (.call 74 (.cons (.ix (.ix (.var 2) (.var 6)) (.int 0)) (.cons (.var 8) .nil))) (.cons (.setIx (.var 2) (.var 6) (.tup (.cons (.var 8) (.cons (.tup (.cons (.str "wait") (.cons (.var 4) .nil))) .nil))))
 (.cons (.set 3 (.var 6))
 .nil)) .nil)
 .nil)))
 (.cons (.ret (.var 3))
 .nil)))⟩
def F_rate_between : Fn := ⟨2, 2,
 (.cons (.ret (.call 152 (.cons (.call 126 (.cons (.ix (.var 1) (.int 1)) (.cons (.ix (.var 0) (.int 1)) .nil))) (.cons (.call 126 (.cons (.ix (.var 0) (.int 0)) (.cons (.ix (.var 1) (.int 0)) .nil))) .nil))))
 .nil)⟩
def F_rate_of : Fn := ⟨1, 5,
 (.cons (.set 1 (.con (.tup [(.int 0), (.int 1)])))
 (.cons (.for_ (.tup (.cons (.tup (.cons (.name 2) (.cons (.name 3) .nil))) (.cons (.name 4) .nil))) (.seq (.var 0)) (.cons (.ite (.cmp .eq (.var 2) (.str "end")) (.cons (.set 1 (.call 164 (.cons (.var 1) (.cons (.var 4) .nil))))
 .nil) .nil)
 .nil))
 (.cons (.ret (.var 1))
 .nil)))⟩
def F_ratio : Fn := ⟨2, 2,
 (.cons (.ite (.bor (.cons (.bnot (.call 95 (.cons (.var 0) .nil))) (.cons (.bnot (.call 95 (.cons (.var 1) .nil))) .nil))) (.cons (.rse 1 [] .nil)
 .nil) .nil)
 (.cons (.ite (.cmp .eq (.var 1) (.int 0)) (.cons (.rse 1 [] .nil)
 .nil) .nil)
 (.cons (.ret (.call 60 (.cons (.var 0) (.cons (.var 1) .nil))))
 .nil)))⟩
def F_ring_from : Fn := ⟨4, 7,
 (.cons (.for_ (.name 4) (.rng1 (.bcall .len (.cons (.var 1) .nil))) (.cons (.set 2 (.ix (.ix (.ix (.var 0) (.int 1)) (.ix (.ix (.ix (.var 1) (.var 2)) (.int 1)) (.int 1))) (.var 3)))
 .nil))
 (.cons (.set 5 (.lst (.cons (.ix (.ix (.var 1) (.var 2)) (.int 1)) .nil)))
 (.cons (.set 6 (.ix (.ix (.ix (.var 0) (.int 1)) (.ix (.ix (.var 5) (.int 0)) (.int 1))) (.var 3)))
 (.cons (.whl (.cmp .ne (.var 6) (.var 2)) (.cons (.expr (.meth .append (.var 5) (.cons (.ix (.ix (.var 1) (.var 6)) (.int 1)) .nil)))
 (.cons (.set 6 (.ix (.ix (.ix (.var 0) (.int 1)) (.ix (.ix (.var 5) (.neg (.int 1))) (.int 1))) (.var 3)))
 .nil)))
 (.cons (.ret (.var 5))
 .nil)))))⟩
def F_slips_of : Fn := ⟨3, 9,
 (.cons (.set 3 (.ix (.call 98 (.cons (.var 0) (.cons (.lc (.var 8) (.tup (.cons (.name 7) (.cons (.name 8) .nil))) (.seq (.var 1)) .none [7, 8]) (.cons (.var 2) .nil)))) (.int 1)))
 (.cons (.set 4 (.lst .nil))
 (.cons (.for_ (.tup (.cons (.name 5) (.cons (.name 6) .nil))) (.enm (.var 1)) (.cons (.expr (.meth .append (.var 4) (.cons (.tup (.cons (.call 2 (.cons (.var 0) (.cons (.var 1) (.cons (.var 2) (.cons (.var 5) .nil))))) (.cons (.call 126 (.cons (.ix (.var 3) (.var 5)) (.cons (.ix (.var 6) (.int 0)) .nil))) .nil))) .nil)))
 .nil))
 (.cons (.ret (.var 4))
 .nil))))⟩
def F_smaller : Fn := ⟨2, 2,
 (.cons (.ite (.call 74 (.cons (.var 1) (.cons (.var 0) .nil))) (.cons (.ret (.var 1))
 .nil) .nil)
 (.cons (.ret (.var 0))
 .nil))⟩
def F_smoothed : Fn := ⟨1, 3,
 (.cons (.set 1 (.lst .nil))
 (.cons (.for_ (.name 2) (.seq (.ix (.var 0) (.int 1))) (.cons (.whl (.band (.cons (.cmp .gt (.bcall .len (.cons (.var 1) .nil)) (.int 1)) (.cons (.bnot (.call 74 (.cons (.call 176 (.cons (.ix (.var 1) (.neg (.int 2))) (.cons (.ix (.var 1) (.neg (.int 1))) .nil))) (.cons (.call 176 (.cons (.ix (.var 1) (.neg (.int 1))) (.cons (.var 2) .nil))) .nil)))) .nil))) (.cons (.expr (.meth .pop (.var 1) .nil))
 .nil))
 (.cons (.expr (.meth .append (.var 1) (.cons (.var 2) .nil)))
 .nil)))
 (.cons (.ret (.tup (.cons (.str "straight") (.cons (.var 1) .nil))))
 .nil)))⟩
def F_smoothed_net : Fn := ⟨1, 7,
 (.cons (.asg (.tup (.cons (.name 1) (.cons (.name 2) (.cons (.name 3) (.cons (.name 4) .nil))))) (.var 0))
 (.cons (.ret (.tup (.cons (.lc (.tup (.cons (.var 5) (.cons (.call 211 (.cons (.var 6) .nil)) .nil))) (.tup (.cons (.name 5) (.cons (.name 6) .nil))) (.seq (.var 1)) .none [5, 6]) (.cons (.bcall .list (.cons (.var 2) .nil)) (.cons (.bcall .list (.cons (.var 3) .nil)) (.cons (.lst .nil) .nil))))))
 .nil))⟩
def F_soonest : Fn := ⟨1, 6,
 (.cons (.set 1 (.lc (.tup (.cons (.con (.tup [(.int 0), (.int 1)])) (.cons (.tup (.cons (.str "start") (.cons (.var 4) .nil))) .nil))) (.name 4) (.rng1 (.bcall .len (.cons (.ix (.var 0) (.int 0)) .nil))) .none [4]))
 (.cons (.for_ (.tup (.cons (.name 2) (.cons (.tup (.cons (.name 3) (.cons (.name 4) (.cons (.name 5) .nil)))) .nil))) (.enm (.ix (.var 0) (.int 2))) (.cons (.ite (.band (.cons (.cmp .eq (.var 3) (.str "from")) (.cons (.call 74 (.cons (.ix (.ix (.var 1) (.var 4)) (.int 0)) (.cons (.var 5) .nil))) .nil))) (.cons (.setIx (.var 1) (.var 4) (.tup (.cons (.var 5) (.cons (.tup (.cons (.str "hold") (.cons (.var 2) .nil))) .nil))))
 .nil) .nil)
 .nil))
 (.cons (.ret (.var 1))
 .nil)))⟩
def F_sum_of : Fn := ⟨1, 3,
 (.cons (.set 1 (.con (.tup [(.int 0), (.int 1)])))
 (.cons (.for_ (.name 2) (.seq (.var 0)) (.cons (.set 1 (.call 164 (.cons (.var 1) (.cons (.var 2) .nil))))
 .nil))
 (.cons (.ret (.var 1))
 .nil)))⟩
def F_timed : Fn := ⟨2, 6,
 (.cons (.set 2 (.lst .nil))
 (.cons (.for_ (.tup (.cons (.tup (.cons (.name 3) (.cons (.name 4) .nil))) (.cons (.name 5) .nil))) (.zip (.ix (.var 0) (.int 0)) (.var 1)) (.cons (.expr (.meth .append (.var 2) (.cons (.tup (.cons (.var 3) (.cons (.tup (.cons (.str "straight") (.cons (.lst (.cons (.tup (.cons (.var 5) (.cons (.call 167 (.cons (.var 4) (.cons (.var 5) .nil))) .nil))) .nil)) .nil))) .nil))) .nil)))
 .nil))
 (.cons (.ret (.tup (.cons (.var 2) (.cons (.bcall .list (.cons (.ix (.var 0) (.int 1)) .nil)) (.cons (.bcall .list (.cons (.ix (.var 0) (.int 2)) .nil)) (.cons (.lst .nil) .nil))))))
 .nil)))⟩
def F_way_from : Fn := ⟨4, 5,
 (.cons (.set 4 (.lst (.cons (.ix (.ix (.var 1) (.var 2)) (.int 1)) .nil)))
 (.cons (.whl (.cmp .eq (.ix (.ix (.var 4) (.neg (.int 1))) (.int 0)) (.str "wait")) (.cons (.set 2 (.ix (.ix (.ix (.var 0) (.int 1)) (.ix (.ix (.var 4) (.neg (.int 1))) (.int 1))) (.var 3)))
 (.cons (.expr (.meth .append (.var 4) (.cons (.ix (.ix (.var 1) (.var 2)) (.int 1)) .nil)))
 .nil)))
 (.cons (.ret (.var 4))
 .nil)))⟩
def F_weight_of : Fn := ⟨2, 6,
 (.cons (.set 2 (.con (.tup [(.int 0), (.int 1)])))
 (.cons (.for_ (.tup (.cons (.tup (.cons (.name 3) (.cons (.name 4) .nil))) (.cons (.name 5) .nil))) (.seq (.var 1)) (.cons (.ite (.cmp .eq (.var 3) (.str "wait")) (.cons (.set 2 (.call 164 (.cons (.var 2) (.cons (.call 169 (.cons (.var 5) (.cons (.ix (.ix (.ix (.var 0) (.int 1)) (.var 4)) (.int 2)) .nil))) .nil))))
 .nil) (.cons (.ite (.band (.cons (.cmp .eq (.var 3) (.str "hold")) (.cons (.cmp .eq (.ix (.ix (.ix (.var 0) (.int 2)) (.var 4)) (.int 0)) (.str "from")) .nil))) (.cons (.set 2 (.call 164 (.cons (.var 2) (.cons (.call 169 (.cons (.var 5) (.cons (.ix (.ix (.ix (.var 0) (.int 2)) (.var 4)) (.int 2)) .nil))) .nil))))
 .nil) (.cons (.ite (.cmp .eq (.var 3) (.str "hold")) (.cons (.set 2 (.call 126 (.cons (.var 2) (.cons (.call 169 (.cons (.var 5) (.cons (.ix (.ix (.ix (.var 0) (.int 2)) (.var 4)) (.int 2)) .nil))) .nil))))
 .nil) .nil)
 .nil))
 .nil))
 .nil))
 (.cons (.ret (.var 2))
 .nil)))⟩
/-- the defs that are reached -/
def progL : List Fn := [F_none, F_none, F_alone_of, F_none, F_none, F_amounts_of, F_are_corners, F_are_hollow, F_none, F_none, F_bars, F_none, F_none, F_none, F_none, F_broken_group, F_broken_hold, F_broken_start, F_broken_time, F_broken_wait, F_broken_whole, F_none, F_none, F_none, F_none, F_none, F_none, F_none, F_none, F_none, F_none, F_none, F_none, F_none, F_none, F_claimed, F_none, F_claims_of, F_none, F_none, F_none, F_none, F_none, F_corner_of, F_none, F_cut_at, F_divisor, F_none, F_earliest, F_none, F_ends_of, F_fall_of, F_none, F_first_broken, F_none, F_none, F_gone_in, F_gone_off, F_none, F_none, F_in_lowest, F_none, F_is_amount, F_is_arc, F_none, F_none, F_none, F_none, F_none, F_none, F_is_corner, F_none, F_is_group, F_none, F_is_less, F_none, F_is_name, F_none, F_none, F_none, F_is_number_of, F_is_offer, F_is_offered, F_none, F_none, F_none, F_none, F_none, F_is_ratio, F_none, F_none, F_is_share, F_is_straight, F_none, F_none, F_is_whole, F_is_work, F_larger, F_latest, F_latest_let, F_none, F_none, F_none, F_none, F_none, F_least_with, F_none, F_none, F_none, F_none, F_none, F_none, F_none, F_none, F_look_at_groups, F_look_at_holds, F_look_at_list, F_look_at_net, F_look_at_paper, F_none, F_look_at_waits, F_look_at_works, F_none, F_none, F_none, F_none, F_minus, F_none, F_none, F_none, F_none, F_none, F_none, F_none, F_none, F_none, F_none, F_none, F_none, F_none, F_none, F_none, F_none, F_none, F_none, F_none, F_none, F_none, F_none, F_paper_of, F_none, F_none, F_parted, F_none, F_none, F_none, F_none, F_none, F_none, F_none, F_none, F_none, F_none, F_none, F_plus, F_none, F_none, F_price_of_time, F_none, F_product, F_pulled, F_pushed, F_none, F_none, F_none, F_none, F_rate_between, F_rate_of, F_none, F_ratio, F_none, F_none, F_none, F_none, F_none, F_none, F_none, F_ring_from, F_none, F_none, F_none, F_none, F_none, F_none, F_none, F_none, F_none, F_none, F_none, F_none, F_none, F_none, F_none, F_none, F_none, F_none, F_none, F_none, F_none, F_slips_of, F_smaller, F_smoothed, F_smoothed_net, F_soonest, F_none, F_none, F_none, F_none, F_none, F_none, F_sum_of, F_none, F_timed, F_none, F_none, F_none, F_none, F_none, F_none, F_way_from, F_weight_of, F_none, F_none, F_none, F_none]
/-- these, and a law's own from 1000 on -/
def Gof (L : List Fn) : Tab := fun n => if n < 1000 then progL[n]? else L[n - 1000]?
end HP
local macro_rules | `(tactic| walk_at "hp1") => `(tactic| with_reducible first
  | refine HP.wps_cons ?_ | refine HP.wps_set ?_ | refine HP.wp_var rfl rfl ?_ | refine HP.wp_int ?_ | refine HP.wp_bin ?_ | refine HP.wp_cmp ?_
  | refine HP.wb_add ?_ | refine HP.wb_sub ?_ | refine HP.wc_lt ?_ | refine HP.wc_le ?_ | refine HP.wc_gt ?_ | refine HP.wc_ge ?_ | refine HP.wc_eqI ?_ | refine HP.wc_neI ?_
  | refine HP.wp_ix ?_ | refine HP.wx_ix rfl rfl ?_ | refine HP.wp_call ?_ | refine HP.wp_cons ?_ | refine HP.wp_nil ?_ | refine HP.wp_bcall ?_
  | refine HP.wps_ite ?_ | refine HP.wpt_cmp ?_ | refine HP.wp_truB ?_ | refine HP.wps_ret ?_ | refine HP.wps_nil ?_
  | refine HP.wpt_bcall ?_ | refine HP.wpt_call ?_ | refine HP.wpt_var ?_ | refine HP.wpt_not ?_ | refine HP.wpt_and1 ?_ | refine HP.wpt_and2 ?_ | refine HP.wpt_or1 ?_ | refine HP.wpt_or2 ?_ | refine HP.wpt_meth ?_ | refine HP.wpt_ix ?_ | refine HP.wpt_chain ?_
  | refine HP.wp_tup ?_ | refine HP.wp_lst ?_ | refine HP.wp_neg ?_ | refine HP.wn_neg ?_ | refine HP.wp_bl ?_ | refine HP.wp_str ?_ | refine HP.wp_non ?_ | refine HP.wp_con ?_
  | refine HP.wp_bnot ?_ | refine HP.wp_ife ?_ | refine HP.wp_meth ?_ | refine HP.wp_sl ?_ | refine HP.wp_rev ?_ | refine HP.wp_oN ?_ | refine HP.wp_oS ?_
  | refine HP.wp_band1 ?_ | refine HP.wp_band2 ?_ | refine HP.wp_bor1 ?_ | refine HP.wp_bor2 ?_ | refine HP.wp_chain ?_ | refine HP.wp_lc ?_ | refine HP.wp_dic0 ?_
  | refine HP.wps_par ?_ | refine HP.wps_par3 ?_ | refine HP.wps_expr ?_ | refine HP.wps_retN ?_ | refine HP.wps_pass ?_ | refine HP.wps_brk ?_ | refine HP.wps_cnt ?_ | refine HP.wps_aug ?_ | refine HP.wg_add ?_ | refine HP.wg_sub ?_
  | refine HP.wps_asg ?_ | refine HP.wps_setIx ?_ | refine HP.wps_for ?_ | refine HP.wb_mod (by decide) ?_ | refine HP.wb_pow (by decide) ?_ | refine HP.wb_fdiv (HP.okDiv_s (by decide) (by decide)) ?_ | refine HP.wb_mul (by decide) ?_ | refine HP.wpi_seq ?_ | refine HP.wpi_rng1 ?_ | refine HP.wpi_rng2 ?_ | refine HP.wpi_enm ?_ | refine HP.wpi_rng3 ?_ | refine HP.wp_joinS ?_ | refine HP.wp_dic1 ?_ | refine HP.wp_lstR ?_ | refine HP.wp_lstZ ?_ | refine HP.wp_dicT ?_ | refine HP.wp_kin ?_ | refine HP.wp_kix ?_ | refine HP.wp_din ?_ | refine HP.wpt_kin ?_ | refine HP.wpt_din ?_ | refine HP.wps_setD ?_ | refine HP.wpi_zip ?_ | refine HP.wpc_none ?_ | refine HP.wpc_some ?_
  | refine HP.wq_tt ?_ | refine HP.wq_ff ?_ | refine HP.wq_ntt ?_ | refine HP.wq_nff ?_ | refine HP.wz_bl ?_ | refine HP.wz_int ?_ | refine HP.wz_some rfl ?_ | refine HP.wf_isin rfl ?_ | refine HP.wf_abs ?_ | refine HP.wf_min ?_ | refine HP.wf_max ?_ | refine HP.wf_int ?_ | refine HP.wf_intB ?_ | refine HP.wi_tup ?_ | refine HP.wi_frl ?_
  | refine HP.wc_eqS ?_ | refine HP.wc_neS ?_)
local macro_rules | `(tactic| walk_at "hp0") => `(tactic| dsimp only [List.map, List.replicate, Nat.reduceSub, Nat.reduceAdd, List.cons_append, List.nil_append, List.append_nil, Option.map, List.append])
local macro_rules | `(tactic| walk_at "hp") => `(tactic| (repeat' walk_at "hp1"))
local macro_rules | `(tactic| walk_at "hq1") => `(tactic| first
  | walk_at "hp1"
  | (with_reducible first | refine HP.wq_et (by decide) ?_ | refine HP.wq_ef (by decide) ?_ | refine HP.wf_len rfl ?_ | refine HP.wf_len (HP.seq_loc (by assumption)) ?_ | refine HP.wx_ix (HP.seq_loc (by assumption)) rfl ?_)
  | refine HP.wq_et rfl ?_ | refine HP.wq_ef rfl ?_)
local macro_rules | `(tactic| walk_at "hq") => `(tactic| (repeat' walk_at "hq1"))
local macro_rules | `(tactic| walk_at "hs") => `(tactic| (repeat' ((fail_if_success (with_reducible refine HP.wps_ite ?_)); walk_at "hq1")))
local macro_rules | `(tactic| walk_at "hr1") => `(tactic| first
  | walk_at "hq1"
  | (with_reducible first | refine HP.wp_var rfl (by assumption) ?_ | refine HP.wf_isin (by assumption) ?_ | refine HP.wf_isinT (by assumption) rfl ?_ | refine HP.wf_len (by assumption) ?_ | refine HP.wf_isinT rfl rfl ?_))
local macro_rules | `(tactic| walk_at "hr") => `(tactic| (repeat' walk_at "hr1"))
namespace HP
open PySem L2
section
variable {L : List Fn} {k : Nat} {S : Sto}
theorem divisor_ok {a b : Int} : callN (Gof L) (k + 1) 46 [.int a, .int b] S = .ok (.int (a.gcd b : Nat)) S := by
  refine wp_eq (wp_def (fn := F_divisor) rfl rfl ?_)
  unfold F_divisor
  walk_at "hp0"
  refine wps_cons (wps_whl (fun n r S' => S' = S ∧ ∃ x y : Int, r = [some (.int x), some (.int y)] ∧ n = y.natAbs ∧ x.gcd y = a.gcd b) ⟨rfl, a, b, rfl, rfl, rfl⟩ ?_)
  rintro n r S' ⟨rfl, x, y, rfl, rfl, hg⟩
  walk_at "hp"
  refine wq_ndec (fun h => ?_) (fun h => ?_)
  · walk_at "hp"
    refine wb_mod h ?_
    walk_at "hp"
    exact ⟨_, fmod_natAbs_lt h, rfl, _, _, rfl, rfl, by rw [gcd_fmod]; exact hg⟩
  · subst h
    walk_at "hp"
    refine ⟨?_, rfl⟩
    rw [Int.gcd_zero_right] at hg
    rw [← hg]
    congr 1
    omega
theorem in_lowest_ok {a b : Int} (hb : b ≠ 0) (hs : b.natAbs ≤ 2 ^ 8900) : callN (Gof L) (k + 2) 60 [.int a, .int b] S = .ok (q (Rat.divInt a b)) S := by
  refine wp_eq (wp_def (fn := F_in_lowest) rfl rfl ?_)
  unfold F_in_lowest
  walk_at "hp0"
  walk_at "hp"
  refine wp_val divisor_ok ?_
  walk_at "hp"
  have hp : 0 < a.gcd b := Int.gcd_pos_iff.2 (Or.inr hb)
  have hl : a.gcd b ≤ 2 ^ 8900 := Nat.le_trans (Nat.le_of_dvd (by omega) (Int.gcd_dvd_natAbs_right a b)) hs
  refine wq_dec (fun h => ?_) (fun h => ?_)
  · walk_at "hp"
    have ho : okDiv a (0 - (a.gcd b : Nat)) = true := okDiv_of (by omega) (by omega)
    have ho2 : okDiv b (0 - (a.gcd b : Nat)) = true := okDiv_of (by omega) (by omega)
    refine wb_fdiv ho ?_
    walk_at "hp"
    refine wb_fdiv ho2 ?_
    walk_at "hp"
    exact ⟨low_eq hb (by rw [if_pos h]), rfl⟩
  · walk_at "hp"
    have ho : okDiv a ((a.gcd b : Nat) : Int) = true := okDiv_of (by omega) (by omega)
    have ho2 : okDiv b ((a.gcd b : Nat) : Int) = true := okDiv_of (by omega) (by omega)
    refine wb_fdiv ho ?_
    walk_at "hp"
    refine wb_fdiv ho2 ?_
    walk_at "hp"
    exact ⟨low_eq hb (by rw [if_neg h]), rfl⟩
end
end HP
namespace HP
open PySem L2
section
variable {L : List Fn} {k : Nat} {S : Sto} {x y : Rat} {a b c d : Nat}
theorem den_abs {x : Rat} {b : Nat} (h : x.den ≤ 2 ^ b) : ((x.den : Nat) : Int).natAbs ≤ 2 ^ b := by simpa using h
/-- at most 2^a on either side -/
def V (a : Nat) (x : Rat) : Prop := x.num.natAbs ≤ 2 ^ a * x.den
theorem V.mono {x : Rat} {a a' : Nat} (h : V a x) (k : a ≤ a') : V a' x := Nat.le_trans h (Nat.mul_le_mul_right _ (Nat.pow_le_pow_right (by decide) k))
theorem V.num {x : Rat} {a b : Nat} (h : V a x) (k : x.den ≤ 2 ^ b) : x.num.natAbs ≤ 2 ^ (a + b) := Sz.num ⟨h, k⟩
theorem den2 {x y : Rat} {b d : Nat} (h : x.den ≤ 2 ^ b) (k : y.den ≤ 2 ^ d) (e : b + d ≤ 8900) : x.den * y.den ≤ 2 ^ 8900 := by
  refine Nat.le_trans (Nat.mul_le_mul h k) ?_
  rw [← Nat.pow_add]
  exact Nat.pow_le_pow_right (by decide) e
theorem sz_den (x : Rat) (h : V a x) : Sz a x.den x := ⟨h, Nat.le_of_lt Nat.lt_two_pow_self⟩
theorem V.add {x y : Rat} {a c : Nat} (h : V a x) (k : V c y) : V (max a c + 1) (x + y) := ((sz_den x h).add (sz_den y k)).v
theorem V.sub {x y : Rat} {a c : Nat} (h : V a x) (k : V c y) : V (max a c + 1) (x - y) := ((sz_den x h).sub (sz_den y k)).v
theorem V.mul {x y : Rat} {a c : Nat} (h : V a x) (k : V c y) : V (a + c) (x * y) := ((sz_den x h).mul (sz_den y k)).v
theorem plus_okV (hx : V a x) (hy : V c y) (h : x.den * y.den ≤ 2 ^ 8900) (h2 : a + c ≤ 400000) : callN (Gof L) (k + 3) 164 [q x, q y] S = .ok (q (x + y)) S := by
  have hd := x.den_pos
  have hd2 := y.den_pos
  have hb1 : x.den ≤ 2 ^ 8900 := Nat.le_trans (Nat.le_mul_of_pos_right _ hd2) h
  have hb2 : y.den ≤ 2 ^ 8900 := Nat.le_trans (Nat.le_mul_of_pos_left _ hd) h
  refine wp_eq (wp_def (fn := F_plus) rfl rfl ?_)
  unfold F_plus
  walk_at "hp0"
  walk_at "hp"
  refine wb_mul (okMul_of (hx.num hb1) (den_abs hb2) (by omega)) ?_
  walk_at "hp"
  refine wb_mul (okMul_of (hy.num hb2) (den_abs hb1) (by omega)) ?_
  walk_at "hp"
  refine wb_mul (okMul_of (den_abs hb1) (den_abs hb2) (by decide)) ?_
  walk_at "hp"
  have e : ((x.den : Nat) : Int) * ((y.den : Nat) : Int) = ((x.den * y.den : Nat) : Int) := by simp
  refine wp_val (in_lowest_ok ?_ ?_) ?_
  · rw [e]; exact Int.natCast_ne_zero.2 (Nat.mul_ne_zero (by omega) (by omega))
  · rw [e, Int.natAbs_natCast]; exact h
  · refine ⟨?_, rfl⟩
    rw [e, Rat.divInt_ofNat, ← Rat.add_def']
theorem plus_ok (hx : Sz a b x) (hy : Sz c d y) (h : b + d ≤ 8900) (h2 : a + c ≤ 400000) : callN (Gof L) (k + 3) 164 [q x, q y] S = .ok (q (x + y)) S :=
  plus_okV hx.v hy.v (den2 hx.d hy.d h) h2
theorem is_less_ok (hx : Sz a b x) (hy : Sz c d y) (h : a + b + d < 1000000) (h2 : c + d + b < 1000000) : callN (Gof L) (k + 1) 74 [q x, q y] S = .ok (.bl (decide (x < y))) S := by
  refine wp_eq (wp_def (fn := F_is_less) rfl rfl ?_)
  unfold F_is_less
  walk_at "hp0"
  walk_at "hp"
  refine wb_mul (okMul_of hx.num (den_abs hy.d) (by omega)) ?_
  walk_at "hp"
  refine wb_mul (okMul_of hy.num (den_abs hx.d) (by omega)) ?_
  walk_at "hp"
  refine ⟨?_, rfl⟩
  congr 1
  exact decide_eq_decide.2 (Rat.lt_iff x y).symm
theorem sz0 : Sz 0 0 (0 : Rat) := ⟨by decide, by decide⟩
theorem take_succ_get {A : Type} {xs : List A} {i : Nat} {x : A} (h : xs[i]? = some x) : xs.take (i + 1) = xs.take i ++ [x] := by
  rw [List.take_add_one, h]; rfl
theorem sum_app (xs ys : List Rat) : (xs ++ ys).sum = xs.sum + ys.sum := by
  induction xs with
  | nil => rw [List.nil_append, List.sum_nil, Rat.zero_add]
  | cons x xs ih => rw [List.cons_append, List.sum_cons, List.sum_cons, ih, Rat.add_assoc]
theorem sum_one (x : Rat) : [x].sum = x := by rw [List.sum_cons, List.sum_nil, Rat.add_zero]
end
end HP
namespace HP
open PySem L2
/-- only places of P may have changed -/
def Ag (P : Nat → Prop) (S S' : Sto) : Prop := S.length ≤ S'.length ∧ ∀ i, i < S.length → ¬P i → S'[i]? = S[i]?
theorem Ag.rfl {P : Nat → Prop} {S : Sto} : Ag P S S := ⟨Nat.le_refl _, fun _ _ _ => _root_.rfl⟩
theorem Ag.trans {P : Nat → Prop} {S S1 S2 : Sto} (h : Ag P S S1) (k : Ag P S1 S2) : Ag P S S2 :=
  ⟨Nat.le_trans h.1 k.1, fun i hi hp => (k.2 i (Nat.lt_of_lt_of_le hi h.1) hp).trans (h.2 i hi hp)⟩
theorem Ag.mono {P P' : Nat → Prop} {S S' : Sto} (h : Ag P S S') (k : ∀ i, P i → P' i) : Ag P' S S' := ⟨h.1, fun i hi hp => h.2 i hi fun q => hp (k i q)⟩
theorem Ag.app {P : Nat → Prop} {S T : Sto} : Ag P S (S ++ T) := ⟨by rw [List.length_append]; omega, fun i hi _ => by rw [List.getElem?_append_left hi]⟩
theorem Ag.set {P : Nat → Prop} {S : Sto} {l : Nat} {o : O} (h : P l ∨ S.length ≤ l) : Ag P S (S.set l o) := by
  refine ⟨by rw [List.length_set]; exact Nat.le_refl _, fun i hi hp => ?_⟩
  rw [List.getElem?_set_ne]
  rintro rfl
  rcases h with h | h
  · exact hp h
  · omega
/-- a new place may be changed, too: what stood stands -/
theorem Ag.new {P : Nat → Prop} {S S1 S2 : Sto} (h : Ag P S S1) (k : Ag (fun i => P i ∨ S.length ≤ i) S1 S2) : Ag P S S2 :=
  ⟨Nat.le_trans h.1 k.1, fun i hi hp => (k.2 i (Nat.lt_of_lt_of_le hi h.1) (by rintro (q | q); exact hp q; omega)).trans (h.2 i hi hp)⟩
theorem Ag.get {P : Nat → Prop} {S S' : Sto} {l : Nat} {o : O} (h : Ag P S S') (k : S[l]? = some o) (hp : ¬P l) : S'[l]? = some o := by
  rw [h.2 l (List.getElem?_eq_some_iff.1 k).1 hp]; exact k
theorem get_lt {S : Sto} {l : Nat} {o : O} (k : S[l]? = some o) : l < S.length := (List.getElem?_eq_some_iff.1 k).1
theorem set_get {S : Sto} {l : Nat} {o o' : O} (h : S[l]? = some o) : (S.set l o')[l]? = some o' := by
  rw [List.getElem?_set_self (get_lt h)]
theorem app_get {S : Sto} {o : O} : (S ++ [o])[S.length]? = some o := by
  rw [List.getElem?_append_right (Nat.le_refl _), Nat.sub_self]; rfl
theorem setIx_loc {S : Sto} {l : Nat} {ds : List D} {i : Int} {j : Nat} {v : D} (h : S[l]? = some (.lst ds)) (h2 : ixN ds.length i = some j) : setIxD S (.loc l) (.int i) v = some (S.set l (.lst (ds.set j v))) := by
  unfold setIxD; dsimp only; rw [h]; dsimp only; rw [h2]
theorem isL_loc {S : Sto} {l : Nat} {ds : List D} (h : S[l]? = some (.lst ds)) : isL S (.loc l) = true := by
  unfold isL; dsimp only; rw [h]
/-- the state that digits are drawn from -/
def StAt (l : Nat) (S : Sto) : Prop := ∃ (a b : Int) (c : Bool), S[l]? = some (.lst [.int a, .int b, .bl c]) ∧ b.natAbs < 2 ^ 31
theorem StAt.ag {P : Nat → Prop} {l : Nat} {S S' : Sto} (h : StAt l S) (k : Ag P S S') (hp : ¬P l) : StAt l S' := by
  obtain ⟨a, b, c, h1, h2⟩ := h
  exact ⟨a, b, c, k.get h1 hp, h2⟩
def K_take (m a p : Int) : Fn := ⟨2, 5,
 (.cons (.ite (.ix (.var 0) (.int 2)) (.cons (.set 2 (.bin .mod (.ix (.var 0) (.int 0)) (.var 1)))
 (.cons (.setIx (.var 0) (.int 0) (.bin .fdiv (.ix (.var 0) (.int 0)) (.var 1)))
 (.cons (.setIx (.var 0) (.int 2) (.cmp .gt (.ix (.var 0) (.int 0)) (.int 0)))
 (.cons (.ret (.var 2))
 .nil)))) .nil)
 (.cons (.set 3 (.int 0))
 (.cons (.for_ (.name 4) (.rng1 (.bin .add (.int 1) (.bin .mul (.int 8) (.bcall .int (.cons (.cmp .gt (.var 1) (.bin .pow (.int 10) (.int 6))) .nil))))) (.cons (.setIx (.var 0) (.int 1) (.bin .mod (.bin .add (.bin .mul (.ix (.var 0) (.int 1)) (.int m)) (.int a)) (.int 2147483647)))
 (.cons (.set 3 (.bin .add (.bin .mul (.var 3) (.int p)) (.bin .mod (.bin .mul (.ix (.var 0) (.int 1)) (.ix (.var 0) (.int 1))) (.int p))))
 .nil)))
 (.cons (.ret (.bin .mod (.bin .fdiv (.var 3) (.int 64)) (.var 1)))
 .nil))))⟩
theorem fmod_lt {i p : Int} (h : 0 < p) : 0 ≤ i.fmod p ∧ i.fmod p < p := ⟨Int.fmod_nonneg_of_pos i h, Int.fmod_lt_of_pos i h⟩
theorem take_ok {G : Tab} {k f l : Nat} {m a p many : Int} {S : Sto} (hG : G f = some (K_take m a p)) (hst : StAt l S) (hm : m.natAbs ≤ 2 ^ 31) (hp : 0 < p ∧ p < 2 ^ 31) (h0 : 0 < many) (h1 : many.natAbs ≤ 2 ^ 8900) :
    Wp (callN G (k + 1) f [.loc l, .int many] S) fun d S' => StAt l S' ∧ Ag (· = l) S S' ∧ ∃ v, d = .int v ∧ 0 ≤ v ∧ v < many := by
  obtain ⟨A, B, C, hl, hb⟩ := hst
  refine wp_def hG rfl ?_
  unfold K_take
  walk_at "hp0"
  walk_at "hp"
  refine wx_ix (seq_loc hl) rfl ?_
  walk_at "hp"
  cases C with
  | true =>
    walk_at "hp"
    refine wx_ix (seq_loc hl) rfl ?_
    walk_at "hp"
    refine wb_mod (by omega) ?_
    walk_at "hp"
    refine wx_ix (seq_loc hl) rfl ?_
    walk_at "hp"
    refine wb_fdiv (okDiv_of (by omega) h1) ?_
    walk_at "hp"
    refine wz_some (setIx_loc hl rfl) ?_
    walk_at "hp"
    refine wx_ix (seq_loc (set_get hl)) rfl ?_
    walk_at "hp"
    refine wz_some (setIx_loc (set_get hl) rfl) ?_
    walk_at "hp"
    refine ⟨⟨_, B, _, set_get (set_get hl), hb⟩, ?_, _, rfl, fmod_lt h0⟩
    exact (Ag.set (P := (· = l)) (l := l) (Or.inl rfl)).trans (Ag.set (P := (· = l)) (l := l) (Or.inl rfl))
  | false =>
    walk_at "hp"
    refine wb_mul (by split <;> decide) ?_
    walk_at "hp"
    refine ⟨by split <;> decide, ?_⟩
    refine forE_inv (fun i r S' => ∃ (v : Int) (z : Option D), r = [some (.loc l), some (.int many), none, some (.int v), z] ∧ v.natAbs < 2 ^ (32 * i) ∧ Ag (· = l) S S' ∧ ∃ b : Int, S'[l]? = some (.lst [.int A, .int b, .bl false]) ∧ b.natAbs < 2 ^ 31)
      ⟨0, none, rfl, by decide, Ag.rfl, B, hl, hb⟩ (fun i r S' _ _ => (by intro p hp; cases hp)) ?_ ?_
    · rintro i d r S' hd ⟨v, z, rfl, hv, hag, b, hl1, hb1⟩
      refine ⟨_, rfl, ?_⟩
      have hi : i < 9 := by
        have := (List.getElem?_eq_some_iff.1 hd).1
        unfold rngL at this
        rw [List.length_map, List.length_range] at this
        split at this <;> omega
      walk_at "hp"
      refine wx_ix (seq_loc hl1) rfl ?_
      walk_at "hp"
      refine wb_mul (okMul_of (a := 31) (b := 31) (Nat.le_of_lt hb1) hm (by decide)) ?_
      walk_at "hp"
      refine wz_some (setIx_loc hl1 rfl) ?_
      walk_at "hp"
      have hv2 : v.natAbs ≤ 2 ^ 300 := Nat.le_trans (Nat.le_of_lt hv) (Nat.pow_le_pow_right (by decide) (by omega))
      refine wb_mul (okMul_of (a := 300) (b := 31) hv2 (by omega) (by decide)) ?_
      walk_at "hp"
      refine wx_ix (seq_loc (set_get hl1)) rfl ?_
      walk_at "hp"
      refine wx_ix (seq_loc (set_get hl1)) rfl ?_
      walk_at "hp"
      have hb2 := fmod_lt (i := b * m + a) (p := 2147483647) (by decide)
      refine wb_mul (okMul_of (a := 31) (b := 31) (by omega) (by omega) (by decide)) ?_
      walk_at "hp"
      refine wb_mod (by omega) ?_
      walk_at "hp"
      refine ⟨_, _, rfl, ?_, hag.trans (Ag.set (l := l) (Or.inl rfl)), _, set_get hl1, by omega⟩
      generalize (b * m + a).fmod 2147483647 = w at *
      have hw := fmod_lt (i := w * w) hp.1
      have h3 : 2 ^ (32 * (i + 1)) = 2 ^ (32 * i) * 2 ^ 32 := by rw [← Nat.pow_add]; rfl
      rw [h3]
      generalize 2 ^ (32 * i) = P at *
      generalize (w * w).fmod p = u at *
      refine Nat.lt_of_le_of_lt (Int.natAbs_add_le _ _) ?_
      rw [Int.natAbs_mul]
      have h4 : v.natAbs * p.natAbs ≤ (P - 1) * 2 ^ 31 := Nat.mul_le_mul (by omega) (by omega)
      omega
    · rintro r S' ⟨v, z, rfl, hv, hag, b, hl1, hb1⟩
      walk_at "hp"
      refine wb_mod (by omega) ?_
      walk_at "hp"
      exact ⟨⟨_, _, _, hl1, hb1⟩, hag, _, rfl, fmod_lt h0⟩
end HP
namespace HP
open PySem L2
def K_begun (p a b : Int) : Fn := ⟨2, 3,
 (.cons (.set 2 (.int 0))
 (.cons (.ite (.cmp .lt (.var 1) (.bcall .len (.cons (.var 0) .nil))) (.cons (.set 2 (.ix (.var 0) (.var 1)))
 .nil) .nil)
 (.cons (.ret (.lst (.cons (.var 2) (.cons (.bin .mod (.bin .add (.bin .add (.bin .mod (.var 2) (.int p)) (.bin .mul (.bin .mul (.int a) (.var 1)) (.var 1))) (.int b)) (.int p)) (.cons (.cmp .ge (.var 2) (.bin .pow (.int 10) (.int 18))) .nil)))))
 .nil)))⟩
theorem atI_nat {A : Type} {xs : List A} {i : Nat} (h : i < xs.length) : atI xs (i : Int) = some xs[i] := by
  unfold atI ixN
  rw [if_pos (by omega), if_pos (by omega)]
  show xs[(i : Int).toNat]? = _
  rw [Int.toNat_natCast, List.getElem?_eq_getElem h]
theorem natAbs_fmod {z p : Int} (h : 0 < p ∧ p < 2 ^ 31) : (z.fmod p).natAbs < 2 ^ 31 := by
  have := fmod_lt (i := z) h.1
  omega
theorem nat_mul {i j : Int} {a b : Nat} (h : i.natAbs ≤ 2 ^ a) (k : j.natAbs ≤ 2 ^ b) : (i * j).natAbs ≤ 2 ^ (a + b) := by
  rw [Int.natAbs_mul, Nat.pow_add]
  exact Nat.mul_le_mul h k
theorem begun_ok {G : Tab} {k f i : Nat} {p a b : Int} {ns : List Int} {S : Sto} (hG : G f = some (K_begun p a b)) (hp : 0 < p ∧ p < 2 ^ 31) (ha : a.natAbs ≤ 2 ^ 31) (hi : i < 2 ^ 31) :
    Wp (callN G (k + 1) f [.frl (ns.map .int), .int (i : Nat)] S) fun d S' => d = .loc S.length ∧ StAt S.length S' ∧ ∃ o, S' = S ++ [o] := by
  refine wp_def hG rfl ?_
  unfold K_begun
  walk_at "hp0"
  walk_at "hp"
  refine wf_len rfl ?_
  walk_at "hp"
  refine wq_dec (fun h => ?_) (fun h => ?_)
  · walk_at "hp"
    have hl : i < (ns.map D.int).length := by omega
    refine wx_ix rfl (atI_nat hl) ?_
    rw [List.getElem_map]
    walk_at "hp"
    refine wb_mod (by omega) ?_
    walk_at "hp"
    refine wb_mul (okMul_of (a := 31) (b := 31) ha (by omega) (by decide)) ?_
    walk_at "hp"
    refine wb_mul (okMul_of (a := 62) (b := 31) (by exact nat_mul (a := 31) (b := 31) ha (by omega)) (by omega) (by decide)) ?_
    walk_at "hp"
    refine wb_mod (by omega) ?_
    walk_at "hp"
    exact ⟨rfl, ⟨_, _, _, app_get, natAbs_fmod hp⟩, _, rfl⟩
  · walk_at "hp"
    refine wb_mod (by omega) ?_
    walk_at "hp"
    refine wb_mul (okMul_of (a := 31) (b := 31) ha (by omega) (by decide)) ?_
    walk_at "hp"
    refine wb_mul (okMul_of (a := 62) (b := 31) (by exact nat_mul (a := 31) (b := 31) ha (by omega)) (by omega) (by decide)) ?_
    walk_at "hp"
    refine wb_mod (by omega) ?_
    walk_at "hp"
    exact ⟨rfl, ⟨_, _, _, app_get, natAbs_fmod hp⟩, _, rfl⟩
def K_low : Fn := ⟨2, 4,
 (.cons (.set 2 (.var 0))
 (.cons (.set 3 (.var 1))
 (.cons (.whl (.cmp .ne (.var 3) (.int 0)) (.cons (.par 2 3 (.var 3) (.bin .mod (.var 2) (.var 3)))
 .nil))
 (.cons (.ret (.tup (.cons (.bin .fdiv (.var 0) (.var 2)) (.cons (.bin .fdiv (.var 1) (.var 2)) .nil))))
 .nil))))⟩
/-- the last rest above nought -/
theorem low_ok {G : Tab} {k f : Nat} {a b : Int} {S : Sto} (hG : G f = some K_low) (hb : 0 < b) (hs : b.natAbs ≤ 2 ^ 8900) : callN G (k + 1) f [.int a, .int b] S = .ok (q (Rat.divInt a b)) S := by
  refine wp_eq (wp_def hG rfl ?_)
  unfold K_low
  walk_at "hp0"
  walk_at "hp"
  refine wps_whl (fun n r S' => S' = S ∧ ∃ x y : Int, r = [some (.int a), some (.int b), some (.int x), some (.int y)] ∧ n = y.natAbs ∧ x.gcd y = a.gcd b ∧ 0 ≤ y ∧ (y = 0 → 0 < x)) ⟨rfl, a, b, rfl, rfl, rfl, by omega, by omega⟩ ?_
  rintro n r S' ⟨rfl, x, y, rfl, rfl, hg, hy, hx⟩
  walk_at "hp"
  refine wq_ndec (fun h => ?_) (fun h => ?_)
  · walk_at "hp"
    refine wb_mod h ?_
    walk_at "hp"
    exact ⟨_, fmod_natAbs_lt h, rfl, _, _, rfl, rfl, by rw [gcd_fmod]; exact hg, (fmod_lt (by omega)).1, fun _ => by omega⟩
  · subst h
    rw [Int.gcd_zero_right] at hg
    have hx := hx rfl
    have e : x = (a.gcd b : Nat) := by omega
    have hp : 0 < a.gcd b := Int.gcd_pos_iff.2 (Or.inr (by omega))
    have hl : a.gcd b ≤ 2 ^ 8900 := Nat.le_trans (Nat.le_of_dvd (by omega) (Int.gcd_dvd_natAbs_right a b)) hs
    have ho : okDiv a ((a.gcd b : Nat) : Int) = true := okDiv_of (by omega) (by omega)
    have ho2 : okDiv b ((a.gcd b : Nat) : Int) = true := okDiv_of (by omega) (by omega)
    rw [e]
    walk_at "hp"
    refine wb_fdiv ho ?_
    walk_at "hp"
    refine wb_fdiv ho2 ?_
    walk_at "hp"
    exact ⟨low_eq (by omega) (by rw [if_neg (by omega)]), rfl⟩
end HP
namespace HP
open PySem L2
mutual
/-- the value d stands for the data x; its changeable places are of P -/
def Dt (P : Nat → Prop) (S : Sto) : PyData → D → Prop
  | .none, d => d = .non
  | .bool b, d => d = .bl b
  | .int i, d => d = .int i
  | .str s, d => d = .str s
  | .tuple xs, d => ∃ ds, d = .tup ds ∧ DtA P S xs ds
  | .list xs, d => ∃ ds, (d = .frl ds ∨ ∃ l, d = .loc l ∧ P l ∧ S[l]? = some (.lst ds)) ∧ DtA P S xs ds
  | .dict _, _ => False
def DtA (P : Nat → Prop) (S : Sto) : List PyData → List D → Prop
  | [], ds => ds = []
  | x :: xs, ds => ∃ d ds', ds = d :: ds' ∧ Dt P S x d ∧ DtA P S xs ds'
end
mutual
def fuel : PyData → Nat
  | .list xs => fuelA xs + 1
  | .tuple xs => fuelA xs + 1
  | _ => 0
def fuelA : List PyData → Nat
  | [] => 0
  | x :: xs => max (fuel x) (fuelA xs) + 1
end
mutual
theorem Dt.rd {P : Nat → Prop} {S : Sto} : {x : PyData} → {d : D} → {n : Nat} → Dt P S x d → fuel x ≤ n → rdD S n d = some x
  | .none, d, n, h, _ => by cases (h : d = .non); cases n <;> rfl
  | .bool b, d, n, h, _ => by cases (h : d = .bl b); cases n <;> rfl
  | .int i, d, n, h, _ => by cases (h : d = .int i); cases n <;> rfl
  | .str s, d, n, h, _ => by cases (h : d = .str s); cases n <;> rfl
  | .tuple xs, d, n, h, hn => by
    obtain ⟨ds, rfl, h⟩ := h
    obtain ⟨m, rfl⟩ : ∃ m, n = m + 1 := ⟨n - 1, by simp only [fuel] at hn; omega⟩
    unfold rdD
    rw [h.rd (by simp only [fuel] at hn; omega)]
    rfl
  | .list xs, d, n, h, hn => by
    obtain ⟨ds, h1, h⟩ := h
    obtain ⟨m, rfl⟩ : ∃ m, n = m + 1 := ⟨n - 1, by simp only [fuel] at hn; omega⟩
    have e := h.rd (n := m) (by simp only [fuel] at hn; omega)
    rcases h1 with rfl | ⟨l, rfl, _, h1⟩
    · unfold rdD
      rw [e]
      rfl
    · unfold rdD
      rw [h1]
      dsimp only
      rw [e]
      rfl
  | .dict _, d, n, h, _ => h.elim
theorem DtA.rd {P : Nat → Prop} {S : Sto} : {xs : List PyData} → {ds : List D} → {n : Nat} → DtA P S xs ds → fuelA xs ≤ n → rdAll S n ds = some xs
  | [], ds, n, h, _ => by cases (h : ds = []); cases n <;> rfl
  | x :: xs, ds, n, h, hn => by
    obtain ⟨d, ds', rfl, h1, h2⟩ := h
    obtain ⟨m, rfl⟩ : ∃ m, n = m + 1 := ⟨n - 1, by simp only [fuelA] at hn; omega⟩
    unfold rdAll
    rw [h1.rd (by simp only [fuelA] at hn; omega), h2.rd (by simp only [fuelA] at hn; omega)]
end
mutual
theorem Dt.mono {P P' : Nat → Prop} {S S' : Sto} (hl : ∀ l ds, P l → S[l]? = some (.lst ds) → P' l ∧ S'[l]? = some (.lst ds)) : {x : PyData} → {d : D} → Dt P S x d → Dt P' S' x d
  | .none, d, h => h
  | .bool b, d, h => h
  | .int i, d, h => h
  | .str s, d, h => h
  | .tuple xs, d, h => by
    obtain ⟨ds, rfl, h⟩ := h
    exact ⟨ds, rfl, h.mono hl⟩
  | .list xs, d, h => by
    obtain ⟨ds, h1, h⟩ := h
    refine ⟨ds, ?_, h.mono hl⟩
    rcases h1 with rfl | ⟨l, rfl, p, h1⟩
    · exact Or.inl rfl
    · exact Or.inr ⟨l, rfl, hl l ds p h1⟩
  | .dict _, d, h => h.elim
theorem DtA.mono {P P' : Nat → Prop} {S S' : Sto} (hl : ∀ l ds, P l → S[l]? = some (.lst ds) → P' l ∧ S'[l]? = some (.lst ds)) : {xs : List PyData} → {ds : List D} → DtA P S xs ds → DtA P' S' xs ds
  | [], ds, h => h
  | x :: xs, ds, h => by
    obtain ⟨d, ds', rfl, h1, h2⟩ := h
    exact ⟨d, ds', rfl, h1.mono hl, h2.mono hl⟩
end
theorem Dt.ag {P Q : Nat → Prop} {S S' : Sto} {x : PyData} {d : D} (h : Dt P S x d) (k : Ag Q S S') (hp : ∀ l, P l → ¬Q l) : Dt P S' x d :=
  h.mono fun l ds p e => ⟨p, k.get e (hp l p)⟩
mutual
def plain : PyData → Bool
  | .list xs => plainA xs
  | .tuple xs => plainA xs
  | .dict _ => false
  | _ => true
def plainA : List PyData → Bool
  | [] => true
  | x :: xs => plain x && plainA xs
end
mutual
theorem eqv_refl : (x : PyData) → plain x = true → PyData.eqv x x = true
  | .none, _ => rfl
  | .bool b, _ => by cases b <;> rfl
  | .int i, _ => by show (i == i) = true; simp
  | .str s, _ => by show (s == s) = true; simp
  | .tuple xs, h => eqvAll_refl xs h
  | .list xs, h => eqvAll_refl xs h
theorem eqvAll_refl : (xs : List PyData) → plainA xs = true → PyData.eqvAll xs xs = true
  | [], _ => rfl
  | x :: xs, h => by
    have h := Bool.and_eq_true_iff.1 h
    show (PyData.eqv x x && PyData.eqvAll xs xs) = true
    rw [eqv_refl x h.1, eqvAll_refl xs h.2]
    rfl
end
/-- data that may be compared -/
structure Cmp (x : PyData) : Prop where
  f : fuel x ≤ 200
  s : SeqAt.shaped x = true
theorem eq_loc {P P' : Nat → Prop} {S : Sto} {x y : PyData} {l : Nat} {b : D} (h1 : Dt P S x (.loc l)) (h2 : Dt P' S y b) (c1 : Cmp x) (c2 : Cmp y) : eqD S (.loc l) b = some (PyData.eqv x y) := by
  unfold eqD
  split <;> first | contradiction | skip
  rename_i e1 e2
  rw [h1.rd c1.f, h2.rd c2.f]
  dsimp only
  rw [if_pos ⟨c1.s, c2.s⟩]
/-- a fraction's data -/
def qd (x : Rat) : PyData := .tuple [.int x.num, .int x.den]
theorem dt_q {P : Nat → Prop} {S : Sto} (x : Rat) : Dt P S (qd x) (q x) := ⟨_, rfl, _, _, rfl, rfl, _, _, rfl, rfl, rfl⟩
theorem dtA_map {A : Type} {P : Nat → Prop} {S : Sto} {f : A → PyData} {g : A → D} : {xs : List A} → (∀ x ∈ xs, Dt P S (f x) (g x)) → DtA P S (xs.map f) (xs.map g)
  | [], _ => rfl
  | x :: xs, h => ⟨_, _, rfl, h x List.mem_cons_self, dtA_map fun y m => h y (List.mem_cons_of_mem _ m)⟩
theorem fuelA_map {A : Type} {f : A → PyData} {n : Nat} : {xs : List A} → (∀ x ∈ xs, fuel (f x) ≤ n) → fuelA (xs.map f) ≤ n + xs.length
  | [], _ => Nat.zero_le _
  | x :: xs, h => by
    have h1 := h x List.mem_cons_self
    have h2 := fuelA_map (xs := xs) fun y m => h y (List.mem_cons_of_mem _ m)
    rw [List.map_cons, List.length_cons]
    show max (fuel (f x)) (fuelA (xs.map f)) + 1 ≤ _
    omega
theorem lay_map {A : Type} {f : A → PyData} : {xs : List A} → (∀ x ∈ xs, PyData.canLay0 (f x) = true) → PyData.canLayAll0 (xs.map f) = true
  | [], _ => rfl
  | x :: xs, h => by
    show (PyData.canLay0 (f x) && PyData.canLayAll0 (xs.map f)) = true
    rw [h x List.mem_cons_self, lay_map fun y m => h y (List.mem_cons_of_mem _ m)]
    rfl
theorem depth_map {A : Type} {f : A → PyData} {n : Nat} : {xs : List A} → (∀ x ∈ xs, PyData.depth (f x) ≤ n) → PyData.depthAll (xs.map f) ≤ n
  | [], _ => Nat.zero_le _
  | x :: xs, h => by
    show max (PyData.depth (f x)) (PyData.depthAll (xs.map f)) ≤ n
    exact Nat.max_le.2 ⟨h x List.mem_cons_self, depth_map fun y m => h y (List.mem_cons_of_mem _ m)⟩
theorem plain_map {A : Type} {f : A → PyData} : {xs : List A} → (∀ x ∈ xs, plain (f x) = true) → plainA (xs.map f) = true
  | [], _ => rfl
  | x :: xs, h => by
    show (plain (f x) && plainA (xs.map f)) = true
    rw [h x List.mem_cons_self, plain_map fun y m => h y (List.mem_cons_of_mem _ m)]
    rfl
theorem cmp_q (x : Rat) : Cmp (qd x) := ⟨by show max 0 (max 0 0 + 1) + 1 + 1 ≤ 200; decide, rfl⟩
theorem cmp_list {A : Type} {f : A → PyData} {n : Nat} {xs : List A} (h : ∀ x ∈ xs, fuel (f x) ≤ n ∧ PyData.canLay0 (f x) = true ∧ PyData.depth (f x) ≤ 63) (hn : n + xs.length < 200) : Cmp (.list (xs.map f)) := by
  constructor
  · show fuelA (xs.map f) + 1 ≤ 200
    have := fuelA_map fun x m => (h x m).1
    omega
  · unfold SeqAt.shaped
    rw [Bool.and_eq_true]
    refine ⟨lay_map fun x m => (h x m).2.1, decide_eq_true ?_⟩
    have := depth_map fun x m => (h x m).2.2
    show PyData.depthAll (xs.map f) + 1 ≤ 64
    omega
theorem eqv_q (x y : Rat) : PyData.eqv (qd x) (qd y) = decide (x = y) := by
  show (x.num == y.num && ((x.den : Int) == (y.den : Int) && true)) = _
  by_cases h : x = y
  · subst h; simp
  · rw [decide_eq_false h]
    rw [Bool.and_true, Bool.and_eq_false_iff]
    by_cases e : x.num = y.num
    · right
      have : x.den ≠ y.den := fun e2 => h (Rat.ext e e2)
      rw [beq_eq_false_iff_ne]
      omega
    · left; simpa using e
end HP
namespace HP
open PySem L2
section
variable {c : Call} {r : Ev} {S : Sto} {Q : D → Sto → Prop}
variable {nx : Ev → Sto → Prop} {rt : D → Sto → Prop} {bk ct : Ev → Sto → Prop} {ex : Xn → Ev → Sto → Prop}
/-- what holds behind a statement -/
theorem wps_cut (M : Ev → Sto → Prop) {s : RS} (h : WpS s ⟨M, rt, bk, ct, ex⟩) (k : ∀ r1 S1, M r1 S1 → nx r1 S1) : WpS s ⟨nx, rt, bk, ct, ex⟩ :=
  wps_mono h k (fun _ _ h => h) (fun _ _ h => h) (fun _ _ h => h) (fun _ _ _ h => h)
theorem rngi_get {lo : Int} {n i : Nat} {d : D} (h : (rngL lo n)[i]? = some d) : i < n ∧ d = .int (lo + (i : Nat)) := by
  unfold rngL at h
  rw [List.getElem?_map, Option.map_eq_some_iff] at h
  obtain ⟨j, h1, rfl⟩ := h
  obtain ⟨h2, h3⟩ := List.getElem?_eq_some_iff.1 h1
  rw [List.length_range] at h2
  rw [List.getElem_range] at h3
  subst h3
  exact ⟨h2, rfl⟩
theorem rng0_get {n i : Nat} {d : D} (h : (rngL 0 n)[i]? = some d) : i < n ∧ d = .int (i : Nat) := by
  obtain ⟨h1, h2⟩ := rngi_get h
  exact ⟨h1, by rw [h2, Int.zero_add]⟩
theorem rngi_len {lo : Int} {n : Nat} : (rngL lo n).length = n := by unfold rngL; rw [List.length_map, List.length_range]
theorem still0 {S : Sto} : Still [] S := by intro p h; cases h
theorem still1 {S : Sto} {l : Nat} {ds : List D} (h : S[l]? = some (.lst ds)) : Still [(l, ds)] S := by
  intro p m
  rcases List.mem_cons.1 m with rfl | m
  · exact h
  · cases m
theorem divInt_sz {n b : Int} {a c : Nat} (hb : 0 < b) (h1 : n.natAbs ≤ 2 ^ a) (h2 : b ≤ ((2 ^ c : Nat) : Int)) : V a (Rat.divInt n b) ∧ (Rat.divInt n b).den ≤ 2 ^ c := by
  obtain ⟨m, rfl⟩ : ∃ m : Nat, b = m := ⟨b.toNat, by omega⟩
  rw [Rat.divInt_ofNat]
  have h0 : m ≠ 0 := by omega
  have := sz_mkRat (n := n) (d := m) (a := a) (b := c) h0 (Nat.le_trans h1 (Nat.le_mul_of_pos_right _ (by omega))) (Int.ofNat_le.1 h2)
  exact ⟨this.v, this.d⟩
theorem add_divInt (x y : Rat) : Rat.divInt (x.num * y.den + y.num * x.den) ((x.den : Int) * y.den) = x + y := by
  have e : ((x.den : Nat) : Int) * ((y.den : Nat) : Int) = ((x.den * y.den : Nat) : Int) := by simp
  rw [e, Rat.divInt_ofNat, ← Rat.add_def']
theorem sub_divInt (x y : Rat) : Rat.divInt (x.num * y.den - y.num * x.den) ((x.den : Int) * y.den) = x - y := by
  have e : ((x.den : Nat) : Int) * ((y.den : Nat) : Int) = ((x.den * y.den : Nat) : Int) := by simp
  rw [e, Rat.divInt_ofNat, ← Rat.sub_def']
theorem mul_divInt (x y : Rat) : Rat.divInt (x.num * y.num) ((x.den : Int) * y.den) = x * y := by
  have e : ((x.den : Nat) : Int) * ((y.den : Nat) : Int) = ((x.den * y.den : Nat) : Int) := by simp
  rw [e, Rat.divInt_ofNat, ← Rat.mul_def']
theorem den_mul_nz (x y : Rat) : 0 < (x.den : Int) * y.den := by
  have h1 := x.den_pos
  have h2 := y.den_pos
  exact Int.mul_pos (by omega) (by omega)
theorem den_mul_le {x y : Rat} {c : Nat} (h : x.den * y.den ≤ 2 ^ c) : ((x.den : Int) * y.den).natAbs ≤ 2 ^ c := by
  rw [Int.natAbs_mul, Int.natAbs_natCast, Int.natAbs_natCast]; exact h
/-- the start of a list -/
theorem cut_start {A : Type} {xs : List A} {j : Nat} (h : j ≤ xs.length) : cutL xs none (some (j : Int)) = xs.take j := by
  unfold cutL
  rw [HT.sIx_none, HT.sIx_nat, Nat.sub_zero, List.drop_zero, Nat.min_eq_left h]
theorem cut_end {A : Type} {xs : List A} {j : Nat} (h : j ≤ xs.length) : cutL xs (some (j : Int)) none = xs.drop j := by
  unfold cutL
  rw [HT.sIx_none, HT.sIx_nat, Nat.min_eq_left h, List.take_of_length_le]
  rw [List.length_drop]
  exact Nat.le_refl _
theorem wp_true {x : R D} (h : Wp x fun d _ => d = .bl true) : ∃ S, x = .ok (.bl true) S := by
  obtain ⟨d, S, e, rfl⟩ := h
  exact ⟨S, e⟩
end
end HP
namespace HP
open PySem L2
def K_plus (low : Nat) : Fn := ⟨2, 2,
 (.cons (.ret (.call low (.cons (.bin .add (.bin .mul (.ix (.var 0) (.int 0)) (.ix (.var 1) (.int 1))) (.bin .mul (.ix (.var 1) (.int 0)) (.ix (.var 0) (.int 1)))) (.cons (.bin .mul (.ix (.var 0) (.int 1)) (.ix (.var 1) (.int 1))) .nil))))
 .nil)⟩
def K_minus (low : Nat) : Fn := ⟨2, 2,
 (.cons (.ret (.call low (.cons (.bin .sub (.bin .mul (.ix (.var 0) (.int 0)) (.ix (.var 1) (.int 1))) (.bin .mul (.ix (.var 1) (.int 0)) (.ix (.var 0) (.int 1)))) (.cons (.bin .mul (.ix (.var 0) (.int 1)) (.ix (.var 1) (.int 1))) .nil))))
 .nil)⟩
def K_times (low : Nat) : Fn := ⟨2, 2,
 (.cons (.ret (.call low (.cons (.bin .mul (.ix (.var 0) (.int 0)) (.ix (.var 1) (.int 0))) (.cons (.bin .mul (.ix (.var 0) (.int 1)) (.ix (.var 1) (.int 1))) .nil))))
 .nil)⟩
def K_under : Fn := ⟨2, 2,
 (.cons (.ret (.cmp .lt (.bin .mul (.ix (.var 0) (.int 0)) (.ix (.var 1) (.int 1))) (.bin .mul (.ix (.var 1) (.int 0)) (.ix (.var 0) (.int 1)))))
 .nil)⟩
section
variable {G : Tab} {k f low : Nat} {S : Sto} {x y : Rat} {a b c d : Nat}
theorem plusL_ok (hG : G f = some (K_plus low)) (hL : G low = some K_low) (hx : Sz a b x) (hy : Sz c d y) (h : b + d ≤ 8900) (h2 : a + c ≤ 400000) : callN G (k + 2) f [q x, q y] S = .ok (q (x + y)) S := by
  refine wp_eq (wp_def hG rfl ?_)
  unfold K_plus
  walk_at "hp0"
  walk_at "hp"
  refine wb_mul (okMul_of hx.num (den_abs hy.d) (by omega)) ?_
  walk_at "hp"
  refine wb_mul (okMul_of hy.num (den_abs hx.d) (by omega)) ?_
  walk_at "hp"
  refine wb_mul (okMul_of (den_abs hx.d) (den_abs hy.d) (by omega)) ?_
  walk_at "hp"
  refine wp_val (low_ok hL (den_mul_nz _ _) (den_mul_le (den2 hx.d hy.d h))) ?_
  exact ⟨by rw [add_divInt], rfl⟩
theorem minusL_ok (hG : G f = some (K_minus low)) (hL : G low = some K_low) (hx : Sz a b x) (hy : Sz c d y) (h : b + d ≤ 8900) (h2 : a + c ≤ 400000) : callN G (k + 2) f [q x, q y] S = .ok (q (x - y)) S := by
  refine wp_eq (wp_def hG rfl ?_)
  unfold K_minus
  walk_at "hp0"
  walk_at "hp"
  refine wb_mul (okMul_of hx.num (den_abs hy.d) (by omega)) ?_
  walk_at "hp"
  refine wb_mul (okMul_of hy.num (den_abs hx.d) (by omega)) ?_
  walk_at "hp"
  refine wb_mul (okMul_of (den_abs hx.d) (den_abs hy.d) (by omega)) ?_
  walk_at "hp"
  refine wp_val (low_ok hL (den_mul_nz _ _) (den_mul_le (den2 hx.d hy.d h))) ?_
  exact ⟨by rw [sub_divInt], rfl⟩
theorem timesL_ok (hG : G f = some (K_times low)) (hL : G low = some K_low) (hx : Sz a b x) (hy : Sz c d y) (h : b + d ≤ 8900) (h2 : a + c ≤ 400000) : callN G (k + 2) f [q x, q y] S = .ok (q (x * y)) S := by
  refine wp_eq (wp_def hG rfl ?_)
  unfold K_times
  walk_at "hp0"
  walk_at "hp"
  refine wb_mul (okMul_of hx.num hy.num (by omega)) ?_
  walk_at "hp"
  refine wb_mul (okMul_of (den_abs hx.d) (den_abs hy.d) (by omega)) ?_
  walk_at "hp"
  refine wp_val (low_ok hL (den_mul_nz _ _) (den_mul_le (den2 hx.d hy.d h))) ?_
  exact ⟨by rw [mul_divInt], rfl⟩
theorem underL_ok (hG : G f = some K_under) (hx : Sz a b x) (hy : Sz c d y) (h : a + b + d < 1000000) (h2 : c + d + b < 1000000) : callN G (k + 1) f [q x, q y] S = .ok (.bl (decide (x < y))) S := by
  refine wp_eq (wp_def hG rfl ?_)
  unfold K_under
  walk_at "hp0"
  walk_at "hp"
  refine wb_mul (okMul_of hx.num (den_abs hy.d) (by omega)) ?_
  walk_at "hp"
  refine wb_mul (okMul_of hy.num (den_abs hx.d) (by omega)) ?_
  walk_at "hp"
  refine ⟨?_, rfl⟩
  congr 1
  exact decide_eq_decide.2 (Rat.lt_iff x y).symm
end
def K_amount (take low : Nat) : Fn := ⟨3, 5,
 (.cons (.set 3 (.call take (.cons (.var 0) (.cons (.int 6) .nil))))
 (.cons (.ite (.var 1) (.cons (.ret (.tup (.cons (.bin .add (.var 2) (.call take (.cons (.var 0) (.cons (.ix (.lst (.cons (.int 2) (.cons (.int 3) (.cons (.int 3) (.cons (.int 4) (.cons (.int 5) (.cons (.int 6) .nil))))))) (.var 3)) .nil)))) (.cons (.int 1) .nil))))
 .nil) .nil)
 (.cons (.set 4 (.bin .add (.int 1) (.call take (.cons (.var 0) (.cons (.ix (.lst (.cons (.int 1) (.cons (.int 1) (.cons (.int 2) (.cons (.int 4) (.cons (.int 12) (.cons (.int 60) .nil))))))) (.var 3)) .nil)))))
 (.cons (.ret (.call low (.cons (.bin .add (.var 2) (.call take (.cons (.var 0) (.cons (.ix (.lst (.cons (.int 3) (.cons (.int 9) (.cons (.int 12) (.cons (.int 30) (.cons (.bin .pow (.int 10) (.int 12)) (.cons (.int 90) .nil))))))) (.var 3)) .nil)))) (.cons (.var 4) .nil))))
 .nil))))⟩
/-- a list of numbers, asked at a drawn place -/
theorem pick {xs : List Int} {v : Int} {n : Nat} {P : Int → Prop} (h0 : 0 ≤ v) (h1 : v < n) (hn : xs.length = n) (h : ∀ x ∈ xs, P x) : ∃ m, atI (xs.map D.int) v = some (.int m) ∧ P m := by
  have hl : v.toNat < xs.length := by omega
  have hi : v.toNat < (xs.map D.int).length := by rw [List.length_map]; exact hl
  have e := atI_nat hi
  rw [Int.toNat_of_nonneg h0, List.getElem_map] at e
  exact ⟨_, e, h _ (List.getElem_mem hl)⟩
/-- drawing, as a law has it -/
def Takes (G : Tab) (f : Nat) : Prop := ∀ (k l : Nat) (many : Int) (S : Sto), StAt l S → 0 < many → many.natAbs ≤ 2 ^ 201 →
  Wp (callN G (k + 1) f [.loc l, .int many] S) fun d S' => StAt l S' ∧ Ag (· = l) S S' ∧ ∃ v, d = .int v ∧ 0 ≤ v ∧ v < many
theorem takes_A {G : Tab} {f : Nat} (h : G f = some (K_take 39373 17 2147483587)) : Takes G f := fun k l many S hst h0 h1 =>
  take_ok h hst (by decide) (by decide) h0 (Nat.le_trans h1 (Nat.pow_le_pow_right (by decide) (by decide)))
theorem divInt_nonneg {n b : Int} (hb : 0 < b) (h : 0 ≤ n) : 0 ≤ Rat.divInt n b := by
  have := Rat.divInt_nonneg h (Int.le_of_lt hb)
  exact this
theorem divInt_pos {n b : Int} (hb : 0 < b) (h : 0 < n) : 0 < Rat.divInt n b := by
  refine Rat.lt_of_le_of_ne (divInt_nonneg hb (Int.le_of_lt h)) ?_
  intro e
  obtain ⟨m, rfl⟩ : ∃ m : Nat, b = m := ⟨b.toNat, by omega⟩
  rw [Rat.divInt_ofNat] at e
  have := (Rat.mkRat_eq_zero (by omega)).1 e.symm
  omega
theorem stAt_lt {l : Nat} {S : Sto} (h : StAt l S) : l < S.length := by obtain ⟨_, _, _, h, _⟩ := h; exact get_lt h
theorem amount_ok {G : Tab} {k f take low l : Nat} {least : Int} {pl : Bool} {S : Sto} (hG : G f = some (K_amount take low)) (hT : Takes G take) (hL : G low = some K_low) (hst : StAt l S) (h0 : 0 ≤ least) (h1 : least ≤ 1) :
    Wp (callN G (k + 2) f [.loc l, .bl pl, .int least] S) fun d S' => StAt l S' ∧ Ag (· = l) S S' ∧ ∃ x : Rat, d = q x ∧ 0 ≤ x ∧ (least = 1 → 0 < x) ∧ Sz 40 6 x ∧ (pl = true → x.den = 1) := by
  refine wp_def hG rfl ?_
  unfold K_amount
  walk_at "hp0"
  walk_at "hs"
  refine wp_mono (hT _ _ _ _ hst (by decide) (by decide)) ?_
  rintro _ S1 ⟨hst1, hag1, v, rfl, hv0, hv1⟩
  have hl1 := stAt_lt hst1
  walk_at "hs"
  cases pl with
  | true =>
    walk_at "hq"
    obtain ⟨m, em, hm0, hm1⟩ := pick (xs := [2, 3, 3, 4, 5, 6]) (P := fun m => 0 < m ∧ m ≤ 6) hv0 hv1 rfl (by decide)
    refine wx_ix (seq_loc app_get) em ?_
    have hst2 := hst1.ag (P := fun _ => False) (Ag.app (T := [.lst ([2, 3, 3, 4, 5, 6].map D.int)])) id
    have hag2 := hag1.trans (Ag.app (T := [.lst ([2, 3, 3, 4, 5, 6].map D.int)]))
    walk_at "hq"
    refine wp_mono (hT _ _ _ _ hst2 hm0 (by omega)) ?_
    rintro _ S3 ⟨hst3, hag3, w, rfl, hw0, hw1⟩
    walk_at "hq"
    refine ⟨hst3, hag2.trans hag3, ((least + w : Int) : Rat), rfl, ?_, ?_, ⟨?_, (by show 1 ≤ 2 ^ 6; decide)⟩, fun _ => rfl⟩
    · exact Rat.intCast_nonneg.2 (by omega)
    · intro h
      exact Rat.intCast_pos.2 (by omega)
    · show (least + w).natAbs ≤ 2 ^ 40 * 1
      omega
  | false =>
    walk_at "hq"
    obtain ⟨m, em, hm0, hm1⟩ := pick (xs := [1, 1, 2, 4, 12, 60]) (P := fun m => 0 < m ∧ m ≤ 60) hv0 hv1 rfl (by decide)
    refine wx_ix (seq_loc app_get) em ?_
    have hst2 := hst1.ag (P := fun _ => False) (Ag.app (T := [.lst ([1, 1, 2, 4, 12, 60].map D.int)])) id
    have hag2 := hag1.trans (Ag.app (T := [.lst ([1, 1, 2, 4, 12, 60].map D.int)]))
    walk_at "hq"
    refine wp_mono (hT _ _ _ _ hst2 hm0 (by omega)) ?_
    rintro _ S3 ⟨hst3, hag3, w, rfl, hw0, hw1⟩
    walk_at "hq"
    obtain ⟨m2, em2, hm20, hm21⟩ := pick (xs := [3, 9, 12, 30, 10 ^ (12 : Int).toNat, 90]) (P := fun m => 0 < m ∧ m ≤ 10 ^ 12) hv0 hv1 rfl (by decide)
    refine wx_ix (seq_loc app_get) em2 ?_
    have hst4 := hst3.ag (P := fun _ => False) (Ag.app (T := [.lst ([3, 9, 12, 30, 10 ^ (12 : Int).toNat, 90].map D.int)])) id
    have hag4 := (hag2.trans hag3).trans (Ag.app (T := [.lst ([3, 9, 12, 30, 10 ^ (12 : Int).toNat, 90].map D.int)]))
    walk_at "hq"
    refine wp_mono (hT _ _ _ _ hst4 hm20 (by omega)) ?_
    rintro _ S5 ⟨hst5, hag5, u, rfl, hu0, hu1⟩
    walk_at "hq"
    have hb : 0 < 1 + w := by omega
    refine wp_val (low_ok hL hb (Nat.le_trans (m := 2 ^ 6) (by omega) (Nat.pow_le_pow_right (by decide) (by decide)))) ?_
    have hz := divInt_sz (n := least + u) (b := 1 + w) (a := 40) (c := 6) hb (by omega) (by omega)
    walk_at "hq"
    exact ⟨hst5, hag4.trans hag5, _, rfl, divInt_nonneg hb (by omega), fun h => divInt_pos hb (by omega), ⟨hz.1, hz.2⟩, fun h => by cases h⟩
end HP
namespace HP
open PySem L2
section
variable {S : Sto} {Q : D → Sto → Prop}
theorem wf_all {d : D} {bs : List Bool} (h : (lstOf S d).bind (allOf blOf) = some bs) (k : Q (.bl (bs.all id)) S) : Wp (bfD S .all [d]) Q := by
  unfold bfD; dsimp only; rw [h]; exact wp_ok k
theorem allOf_map {A B : Type} {f : B → D} {g : D → Option A} {h : B → A} (e : ∀ b, g (f b) = some (h b)) : (xs : List B) → allOf g (xs.map f) = some (xs.map h)
  | [] => rfl
  | x :: xs => by
    rw [List.map_cons]
    unfold allOf
    rw [e, allOf_map e xs]
    rfl
theorem allOf_bls (bs : List Bool) : allOf blOf (bs.map D.bl) = some bs := by
  have := allOf_map (f := D.bl) (g := blOf) (h := id) (fun b => rfl) bs
  rw [this, List.map_id]
theorem DtA.len {P : Nat → Prop} {S : Sto} : {xs : List PyData} → {ds : List D} → DtA P S xs ds → ds.length = xs.length
  | [], ds, h => by cases (h : ds = []); rfl
  | x :: xs, ds, h => by obtain ⟨d, ds', rfl, h1, h2⟩ := h; rw [List.length_cons, List.length_cons, h2.len]
theorem DtA.get {P : Nat → Prop} {S : Sto} : {xs : List PyData} → {ds : List D} → {i : Nat} → {d : D} → DtA P S xs ds → ds[i]? = some d → ∃ x, xs[i]? = some x ∧ Dt P S x d
  | [], ds, i, d, h, e => by cases (h : ds = []); cases e
  | x :: xs, ds, i, d, h, e => by
    obtain ⟨d1, ds', rfl, h1, h2⟩ := h
    cases i with
    | zero => cases e; exact ⟨x, rfl, h1⟩
    | succ i => exact h2.get (d := d) (i := i) e
theorem zipi_get : {as bs : List D} → {i : Nat} → {d : D} → (zipL as bs)[i]? = some d → ∃ a b, as[i]? = some a ∧ bs[i]? = some b ∧ d = .tup [a, b]
  | [], _, i, d, e => by cases e
  | _ :: _, [], i, d, e => by cases e
  | a :: as, b :: bs, 0, d, e => by cases e; exact ⟨a, b, rfl, rfl, rfl⟩
  | a :: as, b :: bs, i + 1, d, e => zipi_get (as := as) (bs := bs) (i := i) e
theorem zipi_len : (as bs : List D) → (zipL as bs).length = min as.length bs.length
  | [], _ => by simp [zipL]
  | _ :: _, [] => by simp [zipL]
  | a :: as, b :: bs => by simp only [zipL, List.length_cons, zipi_len as bs]; omega
mutual
def okA : PyData → Bool
  | .list xs => decide (xs.length < 1000) && okAs xs
  | .tuple xs => decide (xs.length < 1000) && okAs xs
  | .dict _ => false
  | _ => true
def okAs : List PyData → Bool
  | [] => true
  | x :: xs => okA x && okAs xs
end
theorem okAs_get : {xs : List PyData} → {i : Nat} → {x : PyData} → okAs xs = true → xs[i]? = some x → okA x = true
  | [], i, x, h, e => by cases e
  | y :: xs, 0, x, h, e => by cases e; exact (Bool.and_eq_true_iff.1 h).1
  | y :: xs, i + 1, x, h, e => okAs_get (xs := xs) (i := i) (Bool.and_eq_true_iff.1 h).2 e
theorem okAs_map {A : Type} {f : A → PyData} : {xs : List A} → (∀ x ∈ xs, okA (f x) = true) → okAs (xs.map f) = true
  | [], _ => rfl
  | x :: xs, h => by
    show (okA (f x) && okAs (xs.map f)) = true
    rw [h x List.mem_cons_self, okAs_map fun y m => h y (List.mem_cons_of_mem _ m)]
    rfl
theorem okA_list {A : Type} {f : A → PyData} {xs : List A} (hn : xs.length < 1000) (h : ∀ x ∈ xs, okA (f x) = true) : okA (.list (xs.map f)) = true := by
  show (decide ((xs.map f).length < 1000) && okAs (xs.map f)) = true
  rw [okAs_map h, List.length_map, decide_eq_true hn]
  rfl
theorem dt_list {P : Nat → Prop} {xs : List PyData} {d : D} (h : Dt P S (.list xs) d) : ∃ ds ck, DtA P S xs ds ∧ tyD S d = some .list ∧ seqOf S d = some ds ∧ itLst S d = some (ds, ck) ∧
    noExc d = true ∧ ∀ S', Ag (fun _ => False) S S' → Still ck S' := by
  obtain ⟨ds, rfl | ⟨l, rfl, _, h1⟩, h⟩ := h
  · exact ⟨ds, [], h, rfl, rfl, rfl, rfl, fun S' _ => still0⟩
  · refine ⟨ds, [(l, ds)], h, ?_, seq_loc h1, ?_, rfl, fun S' k => still1 (k.get h1 id)⟩
    · unfold tyD; dsimp only; rw [h1]
    · unfold itLst; dsimp only; rw [h1]
end
def K_alike (self : Nat) : Fn := ⟨2, 4,
 (.cons (.ite (.bcall .isin (.cons (.var 1) (.cons (.tup (.cons (.con (.ty .list)) (.cons (.con (.ty .tuple)) .nil))) .nil))) (.cons (.ite (.bor (.cons (.bnot (.bcall .isin (.cons (.var 0) (.cons (.tup (.cons (.con (.ty .list)) (.cons (.con (.ty .tuple)) .nil))) .nil)))) (.cons (.cmp .ne (.bcall .isin (.cons (.var 0) (.cons (.con (.ty .list)) .nil))) (.bcall .isin (.cons (.var 1) (.cons (.con (.ty .list)) .nil)))) .nil))) (.cons (.ret (.bl false))
 .nil) .nil)
 (.cons (.ret (.band (.cons (.cmp .eq (.bcall .len (.cons (.var 0) .nil)) (.bcall .len (.cons (.var 1) .nil))) (.cons (.bcall .all (.cons (.lc (.call self (.cons (.var 2) (.cons (.var 3) .nil))) (.tup (.cons (.name 2) (.cons (.name 3) .nil))) (.zip (.var 0) (.var 1)) .none [2, 3]) .nil)) .nil))))
 .nil)) .nil)
 (.cons (.ite (.bcall .isin (.cons (.var 1) (.cons (.con (.ty .str)) .nil))) (.cons (.ret (.band (.cons (.bcall .isin (.cons (.var 0) (.cons (.con (.ty .str)) .nil))) (.cons (.cmp .eq (.var 0) (.var 1)) .nil))))
 .nil) .nil)
 (.cons (.ite (.cmp .is (.var 1) .non) (.cons (.ret (.cmp .is (.var 0) .non))
 .nil) .nil)
 (.cons (.ite (.bcall .isin (.cons (.var 1) (.cons (.con (.ty .bool)) .nil))) (.cons (.ret (.band (.cons (.bcall .isin (.cons (.var 0) (.cons (.con (.ty .bool)) .nil))) (.cons (.cmp .eq (.var 0) (.var 1)) .nil))))
 .nil) .nil)
 (.cons (.ret (.band (.cons (.bcall .isin (.cons (.var 0) (.cons (.con (.ty .int)) .nil))) (.cons (.bnot (.bcall .isin (.cons (.var 0) (.cons (.con (.ty .bool)) .nil)))) (.cons (.cmp .eq (.var 0) (.var 1)) .nil)))))
 .nil)))))⟩
/-- two lists of things that are alike, walked side by side -/
theorem alike_comp {G : Tab} {self n : Nat} {P : Nat → Prop} {S : Sto} {xs : List PyData} {ds1 ds2 : List D} {ck : Ck} {Q : D → Sto → Prop} {r : Ev} {w1 w2 : Option D}
    (ih : ∀ (x : PyData) (d1 d2 : D) (S : Sto), x ∈ xs → Dt P S x d1 → Dt P S x d2 → Wp (callN G n self [d1, d2] S) fun d S' => d = .bl true ∧ Ag (fun _ => False) S S')
    (hr : r = [w1, w2, none, none]) (h1 : DtA P S xs ds1) (h2 : DtA P S xs ds2) (hk : ∀ S', Ag (fun _ => False) S S' → Still ck S') (hx : xs.length < 1000) (hne : ∀ (x : PyData) (d : D) (S : Sto), x ∈ xs → Dt P S x d → noExc d = true)
    (q : ∀ S', Ag (fun _ => False) S S' → S'[S.length]? = some (.lst ((List.replicate xs.length true).map D.bl)) → Q (.loc S.length) S') :
    Wp (compE (callN G n) (.call self (.cons (.var 2) (.cons (.var 3) .nil))) (.tup (.cons (.name 2) (.cons (.name 3) .nil))) .none [2, 3] r S.length (zipL ds1 ds2, ck) (S ++ [.lst []])) Q := by
  subst hr
  have hlen : (zipL ds1 ds2).length = xs.length := by rw [zipi_len, h1.len, h2.len]; omega
  refine compE_inv (fun i S' => Ag (fun _ => False) S S' ∧ S'[S.length]? = some (.lst ((List.replicate i true).map D.bl))) ⟨Ag.app, app_get⟩ (fun i S' _ h => hk S' h.1) ?_ ?_
  · rintro i d S' hd ⟨hag, hl⟩
    obtain ⟨a, b, ha, hb, rfl⟩ := zipi_get hd
    obtain ⟨x, hxi, hxa⟩ := h1.get ha
    obtain ⟨x2, hxi2, hxb⟩ := h2.get hb
    obtain rfl : x = x2 := Option.some.inj (hxi.symm.trans hxi2)
    have hm := List.mem_of_getElem? hxi
    have hxa := hxa.ag hag fun _ _ => id
    have hxb := hxb.ag hag fun _ _ => id
    have na := hne _ _ _ hm hxa
    have nb := hne _ _ _ hm hxb
    refine ⟨_, rfl, ?_⟩
    walk_at "hr"
    refine wp_mono (ih x a b S' hm hxa hxb) ?_
    rintro _ S2 ⟨rfl, hag2⟩
    have hi : i < xs.length := (List.getElem?_eq_some_iff.1 hxi).1
    have hl2 := hag2.get hl id
    refine ⟨_, hl2, ?_, hag.new (hag2.mono (fun _ => False.elim) |>.trans (Ag.set (Or.inl (Or.inr (Nat.le_refl _))))), ?_⟩
    · rw [List.length_map, List.length_replicate]
      show i < 16777216
      omega
    · rw [set_get hl2, List.replicate_succ', List.map_append]
      rfl
  · rintro S' ⟨hag, hl⟩
    rw [hlen] at hl
    exact q S' hag hl
theorem all_true (n : Nat) : (List.replicate n true).all id = true := by
  induction n with
  | zero => rfl
  | succ n ih => rw [List.replicate_succ, List.all_cons, ih]; rfl
theorem dt_noExc {P : Nat → Prop} {S : Sto} {x : PyData} {d : D} (h : Dt P S x d) : noExc d = true := by
  cases x with
  | none => cases (h : d = .non); rfl
  | bool b => cases (h : d = .bl b); rfl
  | int i => cases (h : d = .int i); rfl
  | str s => cases (h : d = .str s); rfl
  | tuple xs => obtain ⟨ds, rfl, _⟩ := h; rfl
  | list xs => obtain ⟨ds, rfl | ⟨l, rfl, _⟩, _⟩ := h <;> rfl
  | dict k => exact h.elim
theorem alike_ok {G : Tab} {self : Nat} (hG : G self = some (K_alike self)) {P : Nat → Prop} : ∀ (n : Nat) (x : PyData) (d1 d2 : D) (S : Sto), PyData.depth x < n → okA x = true → Dt P S x d1 → Dt P S x d2 →
    Wp (callN G n self [d1, d2] S) fun d S' => d = .bl true ∧ Ag (fun _ => False) S S' := by
  intro n
  induction n with
  | zero => intro x d1 d2 S h; omega
  | succ n ih =>
    intro x d1 d2 S hn hok h1 h2
    refine wp_def hG rfl ?_
    unfold K_alike
    walk_at "hp0"
    have n1 := dt_noExc h1
    have n2 := dt_noExc h2
    cases x with
    | none =>
      cases (h1 : d1 = .non); cases (h2 : d2 = .non)
      walk_at "hr"
      refine wc_is rfl ?_
      walk_at "hr"
      refine wc_is rfl ?_
      exact ⟨rfl, Ag.rfl⟩
    | bool b =>
      cases (h1 : d1 = .bl b); cases (h2 : d2 = .bl b)
      walk_at "hr"
      refine wc_is rfl ?_
      walk_at "hr"
      refine wc_eq rfl ?_
      exact ⟨by rw [decide_eq_true rfl], Ag.rfl⟩
    | int i =>
      cases (h1 : d1 = .int i); cases (h2 : d2 = .int i)
      walk_at "hr"
      refine wc_is rfl ?_
      walk_at "hr"
      exact ⟨by rw [decide_eq_true rfl], Ag.rfl⟩
    | str s =>
      cases (h1 : d1 = .str s); cases (h2 : d2 = .str s)
      walk_at "hr"
      exact ⟨by rw [decide_eq_true rfl], Ag.rfl⟩
    | dict k => exact h1.elim
    | tuple xs =>
      have hok := Bool.and_eq_true_iff.1 hok
      have hx := of_decide_eq_true hok.1
      have hd : PyData.depthAll xs + 1 < n + 1 := hn
      obtain ⟨ds1, rfl, h1⟩ := h1
      obtain ⟨ds2, rfl, h2⟩ := h2
      walk_at "hr"
      refine wc_ne rfl ?_
      walk_at "hr"
      have hl : ((ds1.length : Nat) : Int) = (ds2.length : Nat) := by rw [h1.len, h2.len]
      refine wq_dec (fun _ => ?_) (fun h => absurd hl h)
      walk_at "hr"
      refine wp_zipT ?_
      refine alike_comp (fun x d1 d2 S m a b => ih x d1 d2 S (by have := PyData.depth_le_depthAll xs x m; omega) (by obtain ⟨i, hi⟩ := List.mem_iff_getElem?.1 m; exact okAs_get hok.2 hi) a b) rfl h1 h2 (fun S' _ => still0) hx (fun x d S m h => dt_noExc h) ?_
      intro S' hag hl2
      walk_at "hr"
      refine wf_all (bs := List.replicate xs.length true) (by rw [lst_loc hl2]; exact allOf_bls _) ?_
      rw [all_true]
      exact ⟨rfl, hag⟩
    | list xs =>
      have hok := Bool.and_eq_true_iff.1 hok
      have hx := of_decide_eq_true hok.1
      have hd : PyData.depthAll xs + 1 < n + 1 := hn
      obtain ⟨ds1, ck1, h1, t1, s1, i1, _, k1⟩ := dt_list h1
      obtain ⟨ds2, ck2, h2, t2, s2, i2, _, k2⟩ := dt_list h2
      walk_at "hr"
      refine wc_ne rfl ?_
      walk_at "hr"
      have hl : ((ds1.length : Nat) : Int) = (ds2.length : Nat) := by rw [h1.len, h2.len]
      refine wq_dec (fun _ => ?_) (fun h => absurd hl h)
      walk_at "hr"
      refine wp_zipL i1 i2 ?_
      refine alike_comp (fun x d1 d2 S m a b => ih x d1 d2 S (by have := PyData.depth_le_depthAll xs x m; omega) (by obtain ⟨i, hi⟩ := List.mem_iff_getElem?.1 m; exact okAs_get hok.2 hi) a b) rfl h1 h2 (fun S' a p m => (List.mem_append.1 m).elim (k1 S' a p) (k2 S' a p)) hx (fun x d S m h => dt_noExc h) ?_
      intro S' hag hl2
      walk_at "hr"
      refine wf_all (bs := List.replicate xs.length true) (by rw [lst_loc hl2]; exact allOf_bls _) ?_
      rw [all_true]
      exact ⟨rfl, hag⟩
end HP
namespace HP
open PySem L2
section
variable {c : Call} {r : Ev} {S : Sto} {Q : D → Sto → Prop}
variable {nx : Ev → Sto → Prop} {rt : D → Sto → Prop} {bk ct : Ev → Sto → Prop} {ex : Xn → Ev → Sto → Prop}
theorem wps_try {b : Ss} {h : Hs} {kn : List Nat} (k : WpS (evSs c b r S) ⟨nx, rt, bk, ct, fun x r1 S1 => x.c ∈ kn ∧ WpS (evH c h x r1 S1) ⟨nx, rt, bk, ct, ex⟩⟩) : WpS (evS c (.try_ b h kn) r S) ⟨nx, rt, bk, ct, ex⟩ := by
  simp only [evS]
  cases e : evSs c b r S with
  | ex x r1 S1 =>
    rw [e] at k
    obtain ⟨k1, k2⟩ := k
    dsimp only
    rw [if_pos k1]
    exact k2
  | nx r1 S1 => rw [e] at k; exact k
  | rt d S1 => rw [e] at k; exact k
  | bk r1 S1 => rw [e] at k; exact k
  | ct r1 S1 => rw [e] at k; exact k
  | bad => rw [e] at k; exact k
theorem wp_exIs {i k : Nat} {tp : Bool} {cs kn : List Nat} (h : r[i]? = some (some (.exc k []))) (hk : k ∈ kn) (q : Q (.bl (cs.any (subC k))) S) : Wp (evE c (.exIs i tp cs kn) r S) Q := by
  refine ⟨_, S, ?_, q⟩
  simp only [evE]
  rw [h]
  dsimp only
  rw [if_pos ⟨hk, rfl⟩]
theorem wp_exVe {i k : Nat} {kn : List Nat} (h : r[i]? = some (some (.exc k []))) (hk : k ∈ kn) (q : Q (.bl true) S) : Wp (evE c (.exVe i kn) r S) Q := by
  refine ⟨_, S, ?_, q⟩
  simp only [evE]
  rw [h]
  dsimp only
  rw [if_pos ⟨hk, rfl⟩]
theorem wpt_exIs {i : Nat} {tp : Bool} {cs kn : List Nat} {Q : Bool → Sto → Prop} (k : Wp (evE c (.exIs i tp cs kn) r S) fun d S1 => Wp (truR S1 d) Q) : Wp (evT c (.exIs i tp cs kn) r S) Q := by simp only [evT]; exact wp_bnd k
theorem wpt_exVe {i : Nat} {kn : List Nat} {Q : Bool → Sto → Prop} (k : Wp (evE c (.exVe i kn) r S) fun d S1 => Wp (truR S1 d) Q) : Wp (evT c (.exVe i kn) r S) Q := by simp only [evT]; exact wp_bnd k
end
section
variable {L : List Fn} {k : Nat} {S : Sto}
theorem is_whole_ok {d : D} {t : Bt} (h : tyD S d = some t) (n : noExc d = true) : callN (Gof L) (k + 1) 95 [d] S = .ok (.bl (isTy t .int && !isTy t .bool)) S := by
  refine wp_eq (wp_def (fn := F_is_whole) rfl rfl ?_)
  unfold F_is_whole
  walk_at "hp0"
  walk_at "hr"
  refine ⟨fun e => ?_, fun e => ?_⟩
  · walk_at "hr"
    exact ⟨by rw [e]; rfl, rfl⟩
  · exact ⟨by rw [e]; rfl, rfl⟩
theorem divG_ok {G : Tab} {f : Nat} {a b : Int} (hG : G f = some F_divisor) : callN G (k + 1) f [.int a, .int b] S = .ok (.int (a.gcd b : Nat)) S := by
  refine wp_eq (wp_def (fn := F_divisor) hG rfl ?_)
  unfold F_divisor
  walk_at "hp0"
  refine wps_cons (wps_whl (fun n r S' => S' = S ∧ ∃ x y : Int, r = [some (.int x), some (.int y)] ∧ n = y.natAbs ∧ x.gcd y = a.gcd b) ⟨rfl, a, b, rfl, rfl, rfl⟩ ?_)
  rintro n r S' ⟨rfl, x, y, rfl, rfl, hg⟩
  walk_at "hp"
  refine wq_ndec (fun h => ?_) (fun h => ?_)
  · walk_at "hp"
    refine wb_mod h ?_
    walk_at "hp"
    exact ⟨_, fmod_natAbs_lt h, rfl, _, _, rfl, rfl, by rw [gcd_fmod]; exact hg⟩
  · subst h
    walk_at "hp"
    refine ⟨?_, rfl⟩
    rw [Int.gcd_zero_right] at hg
    rw [← hg]
    congr 1
    omega
end
end HP
local macro_rules | `(tactic| walk_at "hx1") => `(tactic| first
  | walk_at "hr1"
  | (with_reducible first | refine HP.wps_try ?_ | refine HP.wp_exVe rfl (by decide) ?_ | refine HP.wp_exIs rfl (by decide) ?_ | refine HP.wpt_exIs ?_ | refine HP.wpt_exVe ?_ | refine HP.wps_rse ?_))
local macro_rules | `(tactic| walk_at "hx") => `(tactic| (repeat' walk_at "hx1"))
local macro_rules | `(tactic| walk_at "hy1") => `(tactic| first
  | walk_at "hx1"
  | refine HP.wz_some rfl ?_)
local macro_rules | `(tactic| walk_at "hy") => `(tactic| (repeat' walk_at "hy1"))
local macro_rules | `(tactic| walk_at "hys") => `(tactic| (repeat' ((fail_if_success (with_reducible refine HP.wps_ite ?_)); walk_at "hy1")))
namespace HP
open PySem L2
section
variable {L : List Fn} {k : Nat} {S : Sto} {x y : Rat} {a b c d : Nat}
end
end HP
namespace HP
open PySem L2
/-- a corner -/
def pr (p : Rat × Rat) : D := .tup [q p.1, q p.2]
def prd (p : Rat × Rat) : PyData := .tuple [qd p.1, qd p.2]
theorem dt_pr {P : Nat → Prop} {S : Sto} (p : Rat × Rat) : Dt P S (prd p) (pr p) := ⟨_, rfl, _, _, rfl, dt_q p.1, _, _, rfl, dt_q p.2, rfl⟩
def rateB (a b : Rat × Rat) : Rat := (b.2 - a.2) / (a.1 - b.1)
/-- each corner quicker and dearer than the one ahead; of a straight offer by growing rates -/
structure Good (st : Bool) (cs : List (Rat × Rat)) : Prop where
  one : cs ≠ []
  mono : ∀ (i : Nat) (a b : Rat × Rat), cs[i]? = some a → cs[i + 1]? = some b → b.1 < a.1 ∧ a.2 < b.2
  hol : st = true → ∀ (i : Nat) (a b c : Rat × Rat), cs[i]? = some a → cs[i + 1]? = some b → cs[i + 2]? = some c → rateB a b < rateB b c
  pos : ∀ p ∈ cs, 0 ≤ p.1 ∧ 0 ≤ p.2
def K_offer (take plus minus times amount : Nat) : Fn := ⟨4, 13,
 (.cons (.set 4 (.bin .add (.int 1) (.call take (.cons (.var 0) (.cons (.var 2) .nil)))))
 (.cons (.set 5 (.call amount (.cons (.var 0) (.cons (.var 3) (.cons (.int 0) .nil)))))
 (.cons (.set 6 (.call amount (.cons (.var 0) (.cons (.var 3) (.cons (.int 0) .nil)))))
 (.cons (.set 7 (.lc (.call amount (.cons (.var 0) (.cons (.var 3) (.cons (.int 1) .nil)))) (.name 12) (.rng1 (.bin .sub (.var 4) (.int 1))) .none [12]))
 (.cons (.for_ (.name 8) (.seq (.var 7)) (.cons (.set 5 (.call plus (.cons (.var 5) (.cons (.var 8) .nil))))
 .nil))
 (.cons (.set 9 (.lst (.cons (.tup (.cons (.var 5) (.cons (.var 6) .nil))) .nil)))
 (.cons (.set 10 (.tup (.cons (.int 0) (.cons (.int 1) .nil))))
 (.cons (.for_ (.name 8) (.seq (.var 7)) (.cons (.set 11 (.call amount (.cons (.var 0) (.cons (.var 3) (.cons (.int 1) .nil)))))
 (.cons (.set 5 (.call minus (.cons (.var 5) (.cons (.var 8) .nil))))
 (.cons (.set 10 (.call plus (.cons (.var 10) (.cons (.var 11) .nil))))
 (.cons (.ite (.cmp .eq (.var 1) (.str "straight")) (.cons (.set 11 (.call times (.cons (.var 10) (.cons (.var 8) .nil))))
 .nil) .nil)
 (.cons (.set 6 (.call plus (.cons (.var 6) (.cons (.var 11) .nil))))
 (.cons (.expr (.meth .append (.var 9) (.cons (.tup (.cons (.var 5) (.cons (.var 6) .nil))) .nil)))
 .nil)))))))
 (.cons (.ret (.tup (.cons (.var 1) (.cons (.var 9) .nil))))
 .nil)))))))))⟩
theorem app1_get {A : Type} {xs : List A} {x y : A} {i : Nat} (h : (xs ++ [x])[i]? = some y) : xs[i]? = some y ∨ (i = xs.length ∧ y = x) := by
  by_cases hi : i < xs.length
  · rw [List.getElem?_append_left hi] at h; exact Or.inl h
  · have hl := (List.getElem?_eq_some_iff.1 h).1
    rw [List.length_append] at hl
    have : i = xs.length := by simp at hl; omega
    subst this
    rw [List.getElem?_append_right (Nat.le_refl _), Nat.sub_self] at h
    exact Or.inr ⟨rfl, by simpa using h.symm⟩
/-- one corner more -/
theorem Good.more {st : Bool} {cs : List (Rat × Rat)} {p : Rat × Rat} (h : Good st cs) (hp : 0 ≤ p.1 ∧ 0 ≤ p.2) (hl : ∀ a, cs[cs.length - 1]? = some a → p.1 < a.1 ∧ a.2 < p.2)
    (hr : st = true → ∀ a b, 2 ≤ cs.length → cs[cs.length - 2]? = some a → cs[cs.length - 1]? = some b → rateB a b < rateB b p) : Good st (cs ++ [p]) := by
  refine ⟨by simp, ?_, ?_, ?_⟩
  · intro i a b ha hb
    rcases app1_get hb with hb | ⟨e, rfl⟩
    · have hi := (List.getElem?_eq_some_iff.1 hb).1
      rw [List.getElem?_append_left (by omega)] at ha
      exact h.mono i a b ha hb
    · rw [List.getElem?_append_left (by omega)] at ha
      refine hl a ?_
      rw [← e]
      exact ha
  · intro hst i a b c ha hb hc
    rcases app1_get hc with hc | ⟨e, rfl⟩
    · have hi := (List.getElem?_eq_some_iff.1 hc).1
      rw [List.getElem?_append_left (by omega)] at ha hb
      exact h.hol hst i a b c ha hb hc
    · rw [List.getElem?_append_left (by omega)] at ha hb
      refine hr hst a b (by omega) ?_ ?_
      · have : cs.length - 2 = i := by omega
        rw [this]; exact ha
      · have : cs.length - 1 = i + 1 := by omega
        rw [this]; exact hb
  · intro x hx
    rcases List.mem_append.1 hx with hx | hx
    · exact h.pos x hx
    · rw [List.mem_singleton.1 hx]; exact hp
theorem sum_nonneg : {xs : List Rat} → (∀ x ∈ xs, 0 < x) → 0 ≤ xs.sum
  | [], _ => by rw [List.sum_nil]; exact Rat.le_refl
  | x :: xs, h => by
    rw [List.sum_cons]
    exact Rat.add_nonneg (Rat.le_of_lt (h x List.mem_cons_self)) (sum_nonneg fun y m => h y (List.mem_cons_of_mem _ m))
theorem rate_of_step {t p g r : Rat} (hg : 0 < g) : rateB (t, p) (t - g, p + r * g) = r := by
  unfold rateB
  have h0 : g ≠ 0 := fun e => by rw [e] at hg; exact absurd hg Rat.lt_irrefl
  have e1 : p + r * g - p = r * g := by grind
  have e2 : t - (t - g) = g := by grind
  show (p + r * g - p) / (t - (t - g)) = r
  rw [e1, e2]
  exact Rat.mul_div_cancel h0
/-- the time behind some gaps: its size -/
theorem time_sz {b : Rat} {gs : List Rat} (hb : Sz 40 6 b) (hg : ∀ g ∈ gs, Sz 40 6 g) (hn : gs.length ≤ 4) : Sz 50 30 (b + gs.sum) := by
  have key : ∀ gs : List Rat, (∀ g ∈ gs, Sz 40 6 g) → Sz (40 + gs.length) (6 * gs.length) gs.sum := by
    intro gs
    induction gs with
    | nil => intro _; rw [List.sum_nil]; exact sz0.mono (Nat.zero_le _) (Nat.zero_le _)
    | cons x xs ih =>
      intro h
      rw [List.sum_cons]
      refine ((h x List.mem_cons_self).add (ih fun y m => h y (List.mem_cons_of_mem _ m))).mono ?_ ?_
      · rw [List.length_cons]; omega
      · rw [List.length_cons]; omega
  exact (hb.add (key gs hg)).mono (by omega) (by omega)
end HP
namespace HP
open PySem L2
abbrev Ok2 (p : Rat × Rat) : Prop := Sz 200 200 p.1 ∧ Sz 200 200 p.2
section
variable {L : List Fn} {k : Nat} {S : Sto}
/-- the last of a list by -1 -/
theorem atI_last {A : Type} {xs : List A} {x : A} (h : xs[xs.length - 1]? = some x) : atI xs (-1) = some x := by
  have hl := (List.getElem?_eq_some_iff.1 h).1
  unfold atI ixN
  rw [if_neg (by decide), if_pos (by omega)]
  show xs[(-1 + (xs.length : Int)).toNat]? = _
  have : (-1 + (xs.length : Int)).toNat = xs.length - 1 := by omega
  rw [this]
  exact h
theorem atI_get {A : Type} {xs : List A} {i : Nat} {x : A} (h : xs[i]? = some x) : atI xs (i : Int) = some x := by
  have hl := (List.getElem?_eq_some_iff.1 h).1
  rw [atI_nat hl]
  exact congrArg some (List.getElem?_eq_some_iff.1 h).2
def offeredB (kind : Str) (cs : List (Rat × Rat)) (t : Rat) : Bool :=
  if kind = ("steps" : Str) then cs.any fun c => decide (c.1 = t) else match cs[cs.length - 1]?, cs[0]? with
    | some b, some a => !decide (t < b.1) && !decide (a.1 < t)
    | _, _ => false
theorem any_eqv (t : Rat) : (xs : List Rat) → ((xs.map qd).any fun y => PyData.eqv y (qd t)) = xs.any fun x => decide (x = t)
  | [] => rfl
  | x :: xs => by rw [List.map_cons, List.any_cons, List.any_cons, eqv_q, any_eqv t xs]
theorem fuel_q (x : Rat) : fuel (qd x) ≤ 3 := by show max 0 (max 0 0 + 1) + 1 + 1 ≤ 3; decide
theorem cmp_qs {xs : List Rat} (h : xs.length < 190) : Cmp (.list (xs.map qd)) := cmp_list (n := 3) (fun x _ => ⟨fuel_q x, rfl, by show max 0 (max 0 0) + 1 ≤ 63; decide⟩) (by omega)
/-- t in [..] -/
theorem inD_qs {n : Nat} {t : Rat} {xs : List Rat} (h : S[n]? = some (.lst (xs.map q))) (hl : xs.length < 190) : inD S (q t) (.loc n) = some (xs.any fun x => decide (x = t)) := by
  have h1 : rdD S 200 (q t) = some (qd t) := (dt_q (P := fun _ => True) (S := S) t).rd (Nat.le_trans (fuel_q t) (by decide))
  have hd : Dt (fun _ => True) S (.list (xs.map qd)) (.loc n) := ⟨_, Or.inr ⟨n, rfl, trivial, h⟩, dtA_map fun x _ => dt_q x⟩
  have hc := cmp_qs hl
  have h2 := hd.rd hc.f
  show inD S (.tup [.int t.num, .int t.den]) (.loc n) = _
  unfold inD
  split
  · contradiction
  · have h1' : rdD S 200 (D.tup [.int t.num, .int t.den]) = some (qd t) := h1
    rw [h2, h1']
    show (if SeqAt.shaped (qd t) = true ∧ SeqAt.shaped (.list (xs.map qd)) = true then some ((xs.map qd).any fun y => PyData.eqv y (qd t)) else none) = _
    rw [if_pos ⟨(cmp_q t).s, hc.s⟩, any_eqv]
theorem is_offered_ok {kind : Str} {n : Nat} {cs : List (Rat × Rat)} {t : Rat} (h : S[n]? = some (.lst (cs.map pr))) (hz : ∀ c ∈ cs, Ok2 c) (ht : Sz 1000 1000 t) (hl : cs.length < 100) (hne : cs ≠ []) :
    Wp (callN (Gof L) (k + 3) 82 [.tup [.str kind, .loc n], q t] S) fun d S' => d = .bl (offeredB kind cs t) ∧ Ag (fun _ => False) S S' := by
  refine wp_def (fn := F_is_offered) rfl rfl ?_
  unfold F_is_offered
  walk_at "hp0"
  walk_at "hy"
  unfold offeredB
  refine wq_dec (fun hk => ?_) (fun hk => ?_)
  · rw [if_pos hk]
    walk_at "hy"
    refine wi_loc h ?_
    refine compE_inv (fun i S' => Ag (fun _ => False) S S' ∧ S'[S.length]? = some (.lst (((cs.take i).map (·.1)).map q))) ⟨Ag.app, app_get⟩ (fun i S' _ hh => still1 (hh.1.get h id)) ?_ ?_
    · rintro i d S' hd ⟨hag, hn⟩
      rw [List.getElem?_map, Option.map_eq_some_iff] at hd
      obtain ⟨c, hc, rfl⟩ := hd
      have hi := (List.getElem?_eq_some_iff.1 hc).1
      refine ⟨_, rfl, ?_⟩
      walk_at "hy"
      refine ⟨_, hn, by rw [List.length_map, List.length_map, List.length_take]; show _ < 16777216; omega, hag.new (Ag.set (Or.inl (Or.inr (Nat.le_refl _)))), ?_⟩
      rw [set_get hn, take_succ_get hc, List.map_append, List.map_append]
      rfl
    · rintro S' ⟨hag, hn⟩
      rw [List.length_map, List.take_length] at hn
      refine wc_in (inD_qs hn (by rw [List.length_map]; omega)) ?_
      walk_at "hy"
      exact ⟨by rw [List.any_map]; rfl, hag⟩
  · rw [if_neg hk]
    have hpos : 0 < cs.length := List.length_pos_iff.2 hne
    have hb : cs[cs.length - 1]? = some (cs[cs.length - 1]'(by omega)) := List.getElem?_eq_getElem _
    have ha : cs[0]? = some (cs[0]'hpos) := List.getElem?_eq_getElem _
    generalize cs[cs.length - 1]'(by omega) = b at hb
    generalize cs[0]'hpos = a at ha
    rw [hb, ha]
    have hbz := hz b (List.mem_of_getElem? hb)
    have haz := hz a (List.mem_of_getElem? ha)
    have hb2 : (cs.map pr)[(cs.map pr).length - 1]? = some (pr b) := by rw [List.length_map, List.getElem?_map, hb]; rfl
    have ha2 : (cs.map pr)[0]? = some (pr a) := by rw [List.getElem?_map, ha]; rfl
    walk_at "hy"
    refine wx_ix (seq_loc h) (atI_last hb2) ?_
    walk_at "hy"
    refine wp_val (is_less_ok ht hbz.1 (by decide) (by decide)) ?_
    walk_at "hy"
    refine wq_ndec (fun h1 => ?_) (fun h1 => ?_)
    · walk_at "hy"
      refine wx_ix (seq_loc h) (atI_get (i := 0) ha2) ?_
      walk_at "hy"
      refine wp_val (is_less_ok haz.1 ht (by decide) (by decide)) ?_
      walk_at "hy"
      exact ⟨by dsimp only; rw [decide_eq_false h1]; rfl, Ag.rfl⟩
    · exact ⟨by dsimp only; rw [decide_eq_true h1]; rfl, Ag.rfl⟩
end
end HP
namespace HP
open PySem L2
theorem rlt_trans {a b c : Rat} (h : a < b) (k : b < c) : a < c := by grind
theorem pw_of {cs : List (Rat × Rat)} (h : ∀ (i : Nat) (a b : Rat × Rat), cs[i]? = some a → cs[i + 1]? = some b → b.1 < a.1) : cs.Pairwise fun a b => b.1 < a.1 := by
  rw [List.pairwise_iff_getElem]
  intro i j hi hj hij
  obtain ⟨n, rfl⟩ : ∃ n, j = i + 1 + n := ⟨j - (i + 1), by omega⟩
  induction n with
  | zero => exact h i _ _ (List.getElem?_eq_getElem hi) (List.getElem?_eq_getElem hj)
  | succ n ih =>
    have h1 := ih (by omega) (by omega)
    have h2 := h (i + 1 + n) _ _ (List.getElem?_eq_getElem (by omega)) (List.getElem?_eq_getElem (by omega))
    exact rlt_trans h2 h1
/-- what a time costs -/
inductive Cost (cs : List (Rat × Rat)) (t : Rat) : Rat → Prop where
  | corner {i : Nat} {c : Rat × Rat} (h : cs[i]? = some c) (e : c.1 = t) : Cost cs t c.2
  | way {i : Nat} {a b : Rat × Rat} (ha : cs[i]? = some a) (hb : cs[i + 1]? = some b) (h1 : b.1 < t) (h2 : t < a.1) : Cost cs t (a.2 + rateB a b * (a.1 - t))
section
variable {L : List Fn} {k : Nat} {S : Sto}
end
end HP
namespace HP
open PySem L2
theorem filt_ok {A : Type} {c : Call} {i : Nat} {test : E} {r : Ev} {S : Sto} {cs : List A} {enc : A → D} {f : A → Bool} {ck : Ck} {Q : D → Sto → Prop} (hlen : cs.length < 1000) (hi : i < r.length) (hne : ∀ a, noExc (enc a) = true)
    (hck : ∀ T, Ag (fun _ => False) S T → Still ck T)
    (ht : ∀ a ∈ cs, ∀ T, Ag (fun _ => False) S T → Wp (evT c test ((r.set i none).set i (some (enc a))) T) fun b T' => b = f a ∧ T' = T)
    (q : ∀ T, Ag (fun _ => False) S T → T[S.length]? = some (.lst ((cs.filter f).map enc)) → Q (.loc S.length) T) :
    Wp (compE c (.var i) (.name i) (.some test) [i] r S.length (cs.map enc, ck) (S ++ [.lst []])) Q := by
  refine compE_inv (fun j T => Ag (fun _ => False) S T ∧ T[S.length]? = some (.lst (((cs.take j).filter f).map enc))) ⟨Ag.app, app_get⟩ (fun j T _ hh => hck T hh.1) ?_ ?_
  · rintro j d T hd ⟨hag, hn⟩
    rw [List.getElem?_map, Option.map_eq_some_iff] at hd
    obtain ⟨a, ha, rfl⟩ := hd
    refine ⟨_, rfl, ?_⟩
    refine wpc_some (wp_mono (ht a (List.mem_of_getElem? ha) T hag) ?_)
    rintro b T' ⟨rfl, rfl⟩
    refine ⟨fun e => ?_, fun e => ?_⟩
    · refine wp_var (d := enc a) ?_ (hne a) ?_
      · show ((r.set i none).set i (some (enc a)))[i]? = _
        rw [List.getElem?_set_self (by rw [List.length_set]; exact hi)]
      · refine ⟨_, hn, ?_, hag.new (Ag.set (Or.inl (Or.inr (Nat.le_refl _)))), ?_⟩
        · rw [List.length_map]
          have := List.length_filter_le f (cs.take j)
          rw [List.length_take] at this
          show _ < 16777216
          omega
        · rw [set_get hn, take_succ_get ha, List.filter_append, List.map_append, List.filter_cons_of_pos e]
          rfl
    · refine ⟨hag, ?_⟩
      rw [take_succ_get ha, List.filter_append, List.map_append, List.filter_cons_of_neg (by rw [e]; exact Bool.false_ne_true)]
      simpa using hn
  · rintro T ⟨hag, hn⟩
    rw [List.length_map, List.take_length] at hn
    exact q T hag hn
end HP
namespace HP
open PySem L2
abbrev Pw (cs : List (Rat × Rat)) : Prop := cs.Pairwise fun a b => b.1 < a.1
theorem pw_get {cs : List (Rat × Rat)} (h : Pw cs) {i j : Nat} {a b : Rat × Rat} (ha : cs[i]? = some a) (hb : cs[j]? = some b) (hij : i < j) : b.1 < a.1 := by
  obtain ⟨hi, ea⟩ := List.getElem?_eq_some_iff.1 ha
  obtain ⟨hj, eb⟩ := List.getElem?_eq_some_iff.1 hb
  have := List.pairwise_iff_getElem.1 h i j hi hj hij
  rw [ea, eb] at this
  exact this
theorem Good.pw {st : Bool} {cs : List (Rat × Rat)} (h : Good st cs) : Pw cs := pw_of fun i a b ha hb => (h.mono i a b ha hb).1
section
variable {L : List Fn} {k : Nat} {S : Sto}
end
end HP
namespace HP
open PySem L2
section
variable {L : List Fn} {k : Nat} {S : Sto}
end
end HP
namespace HP
open PySem L2
end HP
namespace HP
open PySem L2
theorem cost_uniq {cs : List (Rat × Rat)} {t p p' : Rat} (h : Pw cs) (c : Cost cs t p) (c' : Cost cs t p') : p = p' := by
  have idx : ∀ {i j : Nat} {a b : Rat × Rat}, cs[i]? = some a → cs[j]? = some b → a.1 = b.1 → i = j := by
    intro i j a b ha hb e
    rcases Nat.lt_trichotomy i j with z | z | z
    · have := pw_get h ha hb z; grind
    · exact z
    · have := pw_get h hb ha z; grind
  have mid : ∀ {i j : Nat} {a b c : Rat × Rat}, cs[i]? = some a → cs[i + 1]? = some b → cs[j]? = some c → b.1 < c.1 → c.1 < a.1 → False := by
    intro i j a b c ha hb hc h1 h2
    rcases Nat.lt_trichotomy j i with z | z | z
    · have := pw_get h hc ha z; grind
    · subst z; rw [ha] at hc; cases hc; grind
    · by_cases z2 : j = i + 1
      · subst z2; rw [hb] at hc; cases hc; grind
      · have := pw_get h hb hc (by omega); grind
  cases c with
  | @corner i x hx e =>
    cases c' with
    | @corner j y hy e' =>
      have := idx hx hy (by rw [e, e'])
      subst this
      rw [hx] at hy; cases hy; rfl
    | @way j a b ha hb h1 h2 => exact (mid ha hb hx (by rw [e]; exact h1) (by rw [e]; exact h2)).elim
  | @way i a b ha hb h1 h2 =>
    cases c' with
    | @corner j y hy e' => exact (mid ha hb hy (by rw [e']; exact h1) (by rw [e']; exact h2)).elim
    | @way j a' b' ha' hb' h1' h2' =>
      have : i = j := by
        rcases Nat.lt_trichotomy i j with z | z | z
        · by_cases z2 : j = i + 1
          · subst z2; rw [hb] at ha'; cases ha'; grind
          · have := pw_get h hb ha' (by omega); grind
        · exact z
        · by_cases z2 : i = j + 1
          · subst z2; rw [hb'] at ha; cases ha; grind
          · have := pw_get h hb' ha (by omega); grind
      subst this
      rw [ha] at ha'; rw [hb] at hb'
      cases ha'; cases hb'; rfl
end HP
namespace HP
open PySem L2
abbrev LC : Nat := 1182266884102822267511361600
theorem den_LC {n : Nat} (h0 : 0 < n) (h : n ≤ 64) : n ∣ LC := by
  have key : ∀ m, m < 65 → m = 0 ∨ LC % m = 0 := by decide
  rcases key n (by omega) with e | e
  · omega
  · exact Nat.dvd_of_mod_eq_zero e
theorem den_mk_dvd {n : Int} {d : Nat} (h : d ≠ 0) : (mkRat n d).den ∣ d := by
  rw [Rat.den_mkRat, if_neg h]
  exact Nat.div_dvd_of_dvd (Nat.gcd_dvd_left _ _)
theorem over_L {x : Rat} {L : Nat} (hL : L ≠ 0) (h : x.den ∣ L) : ∃ n : Int, x = mkRat n L := by
  obtain ⟨u, rfl⟩ := h
  have hu : u ≠ 0 := fun e => hL (by rw [e]; rfl)
  refine ⟨x.num * u, ?_⟩
  rw [Rat.mkRat_mul_right hu, Rat.mkRat_self]
theorem dvd_add {x y : Rat} {L : Nat} (hL : L ≠ 0) (hx : x.den ∣ L) (hy : y.den ∣ L) : (x + y).den ∣ L := by
  obtain ⟨n, rfl⟩ := over_L hL hx
  obtain ⟨m, rfl⟩ := over_L hL hy
  rw [Rat.mkRat_add_mkRat _ _ hL hL, ← Int.add_mul, Rat.mkRat_mul_right hL]
  exact den_mk_dvd hL
theorem dvd_neg {x : Rat} {L : Nat} (hx : x.den ∣ L) : (-x).den ∣ L := hx
theorem dvd_sub {x y : Rat} {L : Nat} (hL : L ≠ 0) (hx : x.den ∣ L) (hy : y.den ∣ L) : (x - y).den ∣ L := by
  rw [Rat.sub_eq_add_neg]
  exact dvd_add hL hx (dvd_neg hy)
theorem dvd_mul {x y : Rat} {L M : Nat} (hL : L ≠ 0) (hM : M ≠ 0) (hx : x.den ∣ L) (hy : y.den ∣ M) : (x * y).den ∣ L * M := by
  obtain ⟨n, rfl⟩ := over_L hL hx
  obtain ⟨m, rfl⟩ := over_L hM hy
  rw [Rat.mkRat_mul_mkRat]
  exact den_mk_dvd (Nat.mul_ne_zero hL hM)
theorem dvd_sum {L : Nat} (hL : L ≠ 0) : {xs : List Rat} → (∀ x ∈ xs, x.den ∣ L) → xs.sum.den ∣ L
  | [], _ => by rw [List.sum_nil]; exact Nat.one_dvd _
  | x :: xs, h => by
    rw [List.sum_cons]
    exact dvd_add hL (h x List.mem_cons_self) (dvd_sum hL fun y m => h y (List.mem_cons_of_mem _ m))
theorem dvd_le {x : Rat} {L b : Nat} (h : x.den ∣ L) (h0 : L ≠ 0) (hb : L ≤ 2 ^ b) : x.den ≤ 2 ^ b := Nat.le_trans (Nat.le_of_dvd (by omega) h) hb
theorem LC0 : LC ≠ 0 := by decide
theorem LC2 : LC * LC ≠ 0 := by decide
theorem LCb : LC ≤ 2 ^ 100 := by decide
theorem LC12 {x : Rat} (h : x.den ∣ LC) : x.den ∣ LC * LC := Nat.dvd_trans h (Nat.dvd_mul_right _ _)
theorem sz_LC {x : Rat} {b : Nat} (h : Sz b 6 x) : x.den ∣ LC := den_LC x.den_pos (by have := h.d; omega)
theorem V.sz1 {x : Rat} {a : Nat} (h : V a x) (k : x.den ∣ LC) : Sz a 100 x := ⟨h, dvd_le k LC0 LCb⟩
/-- a shape: its bends -/
structure Shp (bs : List (Rat × Rat)) : Prop where
  one : bs ≠ []
  mono : ∀ (i : Nat) (a b : Rat × Rat), bs[i]? = some a → bs[i + 1]? = some b → a.1 < b.1 ∧ b.2 < a.2
  conv : ∀ (i : Nat) (a b c : Rat × Rat), bs[i]? = some a → bs[i + 1]? = some b → bs[i + 2]? = some c → rateB b c < rateB a b
  pos : ∀ p ∈ bs, 0 ≤ p.1 ∧ 0 ≤ p.2
theorem Shp.more {cs : List (Rat × Rat)} {p : Rat × Rat} (h : Shp cs) (hp : 0 ≤ p.1 ∧ 0 ≤ p.2) (hl : ∀ a, cs[cs.length - 1]? = some a → a.1 < p.1 ∧ p.2 < a.2)
    (hr : ∀ a b, 2 ≤ cs.length → cs[cs.length - 2]? = some a → cs[cs.length - 1]? = some b → rateB b p < rateB a b) : Shp (cs ++ [p]) := by
  refine ⟨by simp, ?_, ?_, ?_⟩
  · intro i a b ha hb
    rcases app1_get hb with hb | ⟨e, rfl⟩
    · have hi := (List.getElem?_eq_some_iff.1 hb).1
      rw [List.getElem?_append_left (by omega)] at ha
      exact h.mono i a b ha hb
    · rw [List.getElem?_append_left (by omega)] at ha
      refine hl a ?_
      rw [← e]
      exact ha
  · intro i a b c ha hb hc
    rcases app1_get hc with hc | ⟨e, rfl⟩
    · have hi := (List.getElem?_eq_some_iff.1 hc).1
      rw [List.getElem?_append_left (by omega)] at ha hb
      exact h.conv i a b c ha hb hc
    · rw [List.getElem?_append_left (by omega)] at ha hb
      refine hr a b (by omega) ?_ ?_
      · have : cs.length - 2 = i := by omega
        rw [this]; exact ha
      · have : cs.length - 1 = i + 1 := by omega
        rw [this]; exact hb
  · intro x hx
    rcases List.mem_append.1 hx with hx | hx
    · exact h.pos x hx
    · rw [List.mem_singleton.1 hx]; exact hp
end HP
namespace HP
open PySem L2
section
variable {L : List Fn} {k : Nat} {S : Sto}
end
/-- the price at a whole -/
inductive AtP (bs : List (Rat × Rat)) (w : Rat) : Rat → Prop where
  | way {i : Nat} {a b : Rat × Rat} (ha : bs[i]? = some a) (hb : bs[i + 1]? = some b) (h1 : a.1 ≤ w) (h2 : w < b.1) : AtP bs w (a.2 - rateB a b * (w - a.1))
  | last {a : Rat × Rat} (ha : bs[bs.length - 1]? = some a) (h1 : a.1 ≤ w) : AtP bs w a.2
section
variable {G : Tab} {k f low minus times under parted fall : Nat} {S : Sto}
end
theorem fuel_pr (p : Rat × Rat) : fuel (prd p) ≤ 6 := by
  show max (fuel (qd p.1)) (max (fuel (qd p.2)) 0 + 1) + 1 + 1 ≤ 6
  have := fuel_q p.1
  have := fuel_q p.2
  omega
theorem depth_pr (p : Rat × Rat) : PyData.depth (prd p) ≤ 2 := by
  show max (max 0 (max 0 0) + 1) (max (max 0 (max 0 0) + 1) 0) + 1 ≤ 2
  decide
theorem cmp_prs {xs : List (Rat × Rat)} (h : xs.length < 190) : Cmp (.list (xs.map prd)) := cmp_list (n := 6) (fun x _ => ⟨fuel_pr x, rfl, Nat.le_trans (depth_pr x) (by decide)⟩) (by omega)
theorem dt_prs {S : Sto} {P : Nat → Prop} {n : Nat} {cs : List (Rat × Rat)} (h : S[n]? = some (.lst (cs.map pr))) (hP : P n) : Dt P S (.list (cs.map prd)) (.loc n) := ⟨_, Or.inr ⟨n, rfl, hP, h⟩, dtA_map fun x _ => dt_pr x⟩
theorem ne_prs {S : Sto} {n m : Nat} {cs : List (Rat × Rat)} {Q : D → Sto → Prop} (h1 : S[n]? = some (.lst (cs.map pr))) (h2 : S[m]? = some (.lst (cs.map pr))) (hl : cs.length < 190) (k : Q (.bl false) S) : Wp (cmpD S .ne (.loc n) (.loc m)) Q := by
  refine wc_ne (eq_loc (dt_prs (P := fun _ => True) h1 trivial) (dt_prs (P := fun _ => True) h2 trivial) (cmp_prs hl) (cmp_prs hl)) ?_
  rw [eqv_refl _ (by show plainA (cs.map prd) = true; exact plain_map fun x _ => rfl)]
  exact k
theorem itLst_loc {S : Sto} {l : Nat} {ds : List D} (h : S[l]? = some (.lst ds)) : itLst S (.loc l) = some (ds, [(l, ds)]) := by unfold itLst; dsimp only; rw [h]
end HP
namespace HP
open PySem L2
theorem mem_cutL {A : Type} {xs : List A} {lo hi : Option Int} {x : A} (h : x ∈ cutL xs lo hi) : x ∈ xs := List.mem_of_mem_drop (List.mem_of_mem_take h)
end HP
namespace HP
open PySem L2
def K_order (take : Nat) : Fn := ⟨2, 4,
 (.cons (.set 2 (.lstR (.var 1)))
 (.cons (.set 3 (.lst .nil))
 (.cons (.whl (.cmp .ne (.var 2) (.lst .nil)) (.cons (.expr (.meth .append (.var 3) (.cons (.meth .pop (.var 2) (.cons (.call take (.cons (.var 0) (.cons (.bcall .len (.cons (.var 2) .nil)) .nil))) .nil)) .nil)))
 .nil))
 (.cons (.ret (.var 3))
 .nil))))⟩
def K_lag (take minus amount : Nat) : Fn := ⟨2, 3,
 (.cons (.set 2 (.call amount (.cons (.var 0) (.cons (.var 1) (.cons (.int 0) .nil)))))
 (.cons (.ite (.cmp .eq (.call take (.cons (.var 0) (.cons (.int 4) .nil))) (.int 0)) (.cons (.ret (.call minus (.cons (.tup (.cons (.int 0) (.cons (.int 1) .nil))) (.cons (.var 2) .nil))))
 .nil) .nil)
 (.cons (.ret (.var 2))
 .nil)))⟩
def K_waits (take plus minus amount order lag : Nat) : Fn := ⟨3, 9,
 (.cons (.set 3 (.call order (.cons (.var 0) (.cons (.var 1) .nil))))
 (.cons (.set 4 (.bin .add (.int 2) (.call take (.cons (.var 0) (.cons (.int 3) .nil)))))
 (.cons (.set 5 (.lst .nil))
 (.cons (.for_ (.name 6) (.rng1 (.var 1)) (.cons (.for_ (.name 7) (.rng1 (.var 6)) (.cons (.ite (.cmp .eq (.call take (.cons (.var 0) (.cons (.var 4) .nil))) (.int 0)) (.cons (.expr (.meth .append (.var 5) (.cons (.tup (.cons (.ix (.var 3) (.var 7)) (.cons (.ix (.var 3) (.var 6)) (.cons (.call lag (.cons (.var 0) (.cons (.var 2) .nil))) .nil)))) .nil)))
 .nil) .nil)
 (.cons (.ite (.cmp .eq (.call take (.cons (.var 0) (.cons (.int 12) .nil))) (.int 0)) (.cons (.set 8 (.call plus (.cons (.call amount (.cons (.var 0) (.cons (.var 2) (.cons (.int 1) .nil)))) (.cons (.tup (.cons (.bin .mul (.int 4) (.var 1)) (.cons (.int 1) .nil))) .nil))))
 (.cons (.expr (.meth .append (.var 5) (.cons (.tup (.cons (.ix (.var 3) (.var 6)) (.cons (.ix (.var 3) (.var 7)) (.cons (.call minus (.cons (.tup (.cons (.int 0) (.cons (.int 1) .nil))) (.cons (.var 8) .nil))) .nil)))) .nil)))
 .nil)) .nil)
 .nil)))
 .nil))
 (.cons (.ret (.sl (.var 5) .none (.some (.int 40))))
 .nil)))))⟩
def K_holds (take plus lag : Nat) : Fn := ⟨4, 8,
 (.cons (.set 4 (.lst .nil))
 (.cons (.for_ (.name 5) (.rng1 (.ix (.lst (.cons (.int 0) (.cons (.int 0) (.cons (.int 1) (.cons (.int 2) (.cons (.int 4) .nil)))))) (.call take (.cons (.var 0) (.cons (.int 5) .nil))))) (.cons (.set 6 (.ix (.lst (.cons (.str "from") (.cons (.str "from") (.cons (.str "till") (.cons (.str "by") .nil))))) (.call take (.cons (.var 0) (.cons (.int 4) .nil)))))
 (.cons (.set 7 (.call lag (.cons (.var 0) (.cons (.var 2) .nil))))
 (.cons (.ite (.band (.cons (.cmp .ne (.var 6) (.str "from")) (.cons (.cmp .gt (.call take (.cons (.var 0) (.cons (.int 4) .nil))) (.int 0)) .nil))) (.cons (.set 7 (.call plus (.cons (.var 7) (.cons (.var 3) .nil))))
 .nil) .nil)
 (.cons (.expr (.meth .append (.var 4) (.cons (.tup (.cons (.var 6) (.cons (.call take (.cons (.var 0) (.cons (.var 1) .nil))) (.cons (.var 7) .nil)))) .nil)))
 .nil)))))
 (.cons (.ret (.var 4))
 .nil)))⟩
def K_groups (take order : Nat) : Fn := ⟨2, 7,
 (.cons (.set 2 (.lc (.var 6) (.name 6) (.seq (.call order (.cons (.var 0) (.cons (.bcall .len (.cons (.var 1) .nil)) .nil)))) (.some (.cmp .eq (.ix (.ix (.ix (.var 1) (.var 6)) (.int 1)) (.int 0)) (.str "steps"))) [6]))
 (.cons (.set 3 (.lst .nil))
 (.cons (.whl (.band (.cons (.cmp .gt (.bcall .len (.cons (.var 2) .nil)) (.int 1)) (.cons (.cmp .lt (.bcall .len (.cons (.var 3) .nil)) (.int 4)) .nil))) (.cons (.set 4 (.bcall .len (.cons (.ix (.ix (.ix (.var 1) (.ix (.var 2) (.int 0))) (.int 1)) (.int 1)) .nil)))
 (.cons (.set 5 (.sl (.lc (.var 6) (.name 6) (.seq (.var 2)) (.some (.cmp .eq (.bcall .len (.cons (.ix (.ix (.ix (.var 1) (.var 6)) (.int 1)) (.int 1)) .nil)) (.var 4))) [6]) .none (.some (.bin .add (.int 2) (.call take (.cons (.var 0) (.cons (.int 2) .nil)))))))
 (.cons (.set 2 (.lc (.var 6) (.name 6) (.seq (.sl (.var 2) (.some (.int 1)) .none)) (.some (.cmp .nin (.var 6) (.var 5))) [6]))
 (.cons (.ite (.band (.cons (.cmp .gt (.bcall .len (.cons (.var 5) .nil)) (.int 1)) (.cons (.cmp .eq (.call take (.cons (.var 0) (.cons (.int 2) .nil))) (.int 0)) .nil))) (.cons (.expr (.meth .append (.var 3) (.cons (.var 5) .nil)))
 .nil) .nil)
 .nil)))))
 (.cons (.ret (.var 3))
 .nil))))⟩
theorem map_erase {A B : Type} (f : A → B) : (xs : List A) → (i : Nat) → (xs.eraseIdx i).map f = (xs.map f).eraseIdx i
  | [], _ => rfl
  | _ :: _, 0 => rfl
  | x :: xs, i + 1 => by
    show f x :: (xs.eraseIdx i).map f = f x :: (xs.map f).eraseIdx i
    rw [map_erase f xs i]
theorem dt_ints {P : Nat → Prop} {S : Sto} {n : Nat} {xs : List Int} (h : S[n]? = some (.lst (xs.map D.int))) (hP : P n) : Dt P S (.list (xs.map PyData.int)) (.loc n) := ⟨_, Or.inr ⟨n, rfl, hP, h⟩, dtA_map fun _ _ => rfl⟩
theorem cmp_ints {xs : List Int} (h : xs.length < 190) : Cmp (.list (xs.map PyData.int)) := cmp_list (n := 3) (fun _ _ => ⟨Nat.zero_le _, rfl, Nat.zero_le _⟩) (by omega)
section
variable {G : Tab} {k f l : Nat} {S : Sto} {take low plus minus times amount order lag : Nat}
end
def waD (w : Int × Int × Rat) : D := .tup [.int w.1, .int w.2.1, q w.2.2]
def hoD (h : Str × Int × Rat) : D := .tup [.str h.1, .int h.2.1, q h.2.2]
theorem cutL_map {A B : Type} (f : A → B) (xs : List A) (lo hi : Option Int) : cutL (xs.map f) lo hi = (cutL xs lo hi).map f := by
  unfold cutL
  rw [List.length_map, List.map_take, List.map_drop]
structure Wk where
  nm : Str
  kd : Str
  lc : Nat
  cs : List (Rat × Rat)
def wkD (w : Wk) : D := .tup [.str w.nm, .tup [.str w.kd, .loc w.lc]]
theorem int_nat {x : Int} {n : Nat} (h0 : 0 ≤ x) (h1 : x < n) : ∃ j : Nat, x = j ∧ j < n := ⟨x.toNat, by omega, by omega⟩
section
variable {G : Tab} {k f l : Nat} {S : Sto} {take low plus minus times amount order lag : Nat}
end
end HP
namespace HP
open PySem L2
theorem inD_ints {S : Sto} {m : Nat} {x : Int} {xs : List Int} (h : S[m]? = some (.lst (xs.map D.int))) (hl : xs.length < 190) : inD S (.int x) (.loc m) = some ((xs.map PyData.int).any fun y => PyData.eqv y (.int x)) := by
  have hd : Dt (fun _ => True) S (.list (xs.map PyData.int)) (.loc m) := dt_ints h trivial
  have hc := cmp_ints hl
  have h2 := hd.rd hc.f
  unfold inD
  split
  · contradiction
  · have h1' : rdD S 200 (D.int x) = some (.int x) := rfl
    rw [h2, h1']
    show (if SeqAt.shaped (.int x) = true ∧ SeqAt.shaped (.list (xs.map PyData.int)) = true then some ((xs.map PyData.int).any fun y => PyData.eqv y (.int x)) else none) = _
    rw [if_pos ⟨rfl, hc.s⟩]
section
variable {G : Tab} {k f l : Nat} {S : Sto} {take order : Nat}
end
def K_names13 (take : Nat) : Fn := ⟨2, 11,
 (.cons (.set 2 (.call take (.cons (.var 0) (.cons (.int 4) .nil))))
 (.cons (.set 3 (.call take (.cons (.var 0) (.cons (.int 26) .nil))))
 (.cons (.set 4 (.lc (.call take (.cons (.var 0) (.cons (.int 26) .nil))) (.name 8) (.rng1 (.bin .add (.int 1) (.call take (.cons (.var 0) (.cons (.int 8) .nil))))) .none [8]))
 (.cons (.set 5 (.call take (.cons (.var 0) (.cons (.bcall .len (.cons (.var 4) .nil)) .nil))))
 (.cons (.set 6 (.lst (.cons (.str "from") (.cons (.str "till") (.cons (.str "by") (.cons (.str "work") (.cons (.str "wait") (.cons (.str "hold") (.cons (.str "none") (.cons (.str "start") (.cons (.str "end") (.cons (.str "steps") .nil))))))))))))
 (.cons (.set 7 (.lst .nil))
 (.cons (.for_ (.name 8) (.rng1 (.var 1)) (.cons (.set 9 (.bcall .list (.cons (.var 4) .nil)))
 (.cons (.setIx (.var 9) (.var 5) (.bin .mod (.bin .add (.var 3) (.var 8)) (.int 26)))
 (.cons (.ite (.cmp .eq (.var 2) (.int 1)) (.cons (.set 9 (.bin .add (.lst (.cons (.bin .mod (.bin .add (.var 3) (.var 8)) (.int 26)) .nil)) (.sl (.var 9) .none (.some (.bin .mod (.var 8) (.bcall .len (.cons (.var 4) .nil)))))))
 .nil) .nil)
 (.cons (.expr (.meth .append (.var 7) (.cons (.joinS "" (.lc (.ix (.str "abcdefghijklmnopqrstuvwxyz") (.var 10)) (.name 10) (.seq (.var 9)) .none [10])) .nil)))
 .nil)))))
 (.cons (.ret (.ix (.lst (.cons (.var 7) (.cons (.lc (.ix (.var 6) (.bin .mod (.bin .add (.var 3) (.var 8)) (.int 10))) (.name 8) (.rng1 (.var 1)) .none [8]) .nil))) (.bcall .int (.cons (.cmp .eq (.var 2) (.int 0)) .nil))))
 .nil))))))))⟩
theorem wx_str {S : Sto} {x : Str} {i : Int} {c : Nat} {Q : D → Sto → Prop} (hl : x.length ≤ szL) (h : atI x.cps.toList i = some c) (q : Q (.str ⟨#[c]⟩) S) : Wp (ixD S (.str x) (.int i)) Q := by
  unfold ixD
  dsimp only
  rw [if_pos hl, h]
  exact wp_ok q
theorem strsD_map : (ys : List Str) → strsD (ys.map D.str) = some ys
  | [] => rfl
  | y :: ys => by
    rw [List.map_cons]
    show (match strsD (ys.map D.str) with | some zs => some (y :: zs) | none => none) = _
    rw [strsD_map ys]
theorem sum_sg {ys : List Str} (h : ∀ y ∈ ys, y.length = 1) : (ys.map (·.length)).sum = ys.length := by
  induction ys with
  | nil => rfl
  | cons y ys ih =>
    rw [List.map_cons, List.sum_cons, ih fun z m => h z (List.mem_cons_of_mem _ m), h y List.mem_cons_self, List.length_cons]
    omega
theorem abc_len : ("abcdefghijklmnopqrstuvwxyz" : Str).length = 26 := by decide +kernel
section
variable {G : Tab} {k f l : Nat} {S : Sto} {take : Nat}
end
end HP
namespace HP
open PySem L2
def K_net (begun take plus offer names waits holds groups : Nat) : Fn := ⟨6, 15,
 (.cons (.set 6 (.call begun (.cons (.var 0) (.cons (.var 1) .nil))))
 (.cons (.set 7 (.bin .add (.int 1) (.call take (.cons (.var 6) (.cons (.var 2) .nil)))))
 (.cons (.set 8 (.call names (.cons (.var 6) (.cons (.var 7) .nil))))
 (.cons (.set 6 (.call begun (.cons (.var 0) (.cons (.bin .add (.var 1) (.int 1)) .nil))))
 (.cons (.set 9 (.lst .nil))
 (.cons (.set 10 (.tup (.cons (.int 0) (.cons (.int 1) .nil))))
 (.cons (.for_ (.name 11) (.seq (.var 8)) (.cons (.set 12 (.call offer (.cons (.var 6) (.cons (.ix (.var 4) (.call take (.cons (.var 6) (.cons (.bcall .len (.cons (.var 4) .nil)) .nil)))) (.cons (.var 3) (.cons (.var 5) .nil))))))
 (.cons (.set 10 (.call plus (.cons (.var 10) (.cons (.ix (.ix (.ix (.var 12) (.int 1)) (.int 0)) (.int 0)) .nil))))
 (.cons (.expr (.meth .append (.var 9) (.cons (.tup (.cons (.var 11) (.cons (.var 12) .nil))) .nil)))
 .nil))))
 (.cons (.set 6 (.call begun (.cons (.var 0) (.cons (.bin .add (.var 1) (.int 2)) .nil))))
 (.cons (.set 13 (.call waits (.cons (.var 6) (.cons (.var 7) (.cons (.var 5) .nil)))))
 (.cons (.set 6 (.call begun (.cons (.var 0) (.cons (.bin .add (.var 1) (.int 3)) .nil))))
 (.cons (.set 14 (.call holds (.cons (.var 6) (.cons (.var 7) (.cons (.var 5) (.cons (.var 10) .nil))))))
 (.cons (.ret (.tup (.cons (.var 9) (.cons (.var 13) (.cons (.var 14) (.cons (.call groups (.cons (.var 6) (.cons (.var 9) .nil))) .nil))))))
 .nil))))))))))))⟩
structure WkOk (w : Wk) : Prop where
  kd : w.kd = ("straight" : Str) ∨ w.kd = ("steps" : Str)
  good : Good (decide (w.kd = ("straight" : Str))) w.cs
  len : w.cs.length ≤ 5
  sz : ∀ p ∈ w.cs, Sz 50 30 p.1 ∧ Sz 100 150 p.2
structure NetAt (S : Sto) (n0 : Nat) (d : D) (ws : List Wk) (wa : List (Int × Int × Rat)) (ho : List (Str × Int × Rat)) (gr : List (Nat × List Int)) : Prop where
  form : ∃ a b c e, d = .tup [.loc a, .loc b, .loc c, .loc e] ∧ n0 ≤ a ∧ n0 ≤ b ∧ n0 ≤ c ∧ n0 ≤ e ∧ S[a]? = some (.lst (ws.map wkD)) ∧ S[b]? = some (.lst (wa.map waD)) ∧ S[c]? = some (.lst (ho.map hoD)) ∧ S[e]? = some (.lst (gr.map fun g => D.loc g.1))
  offers : ∀ w ∈ ws, n0 ≤ w.lc ∧ S[w.lc]? = some (.lst (w.cs.map pr))
  groups : ∀ g ∈ gr, n0 ≤ g.1 ∧ S[g.1]? = some (.lst (g.2.map D.int))
theorem NetAt.ag {P : Nat → Prop} {S S' : Sto} {n0 : Nat} {d : D} {ws : List Wk} {wa : List (Int × Int × Rat)} {ho : List (Str × Int × Rat)} {gr : List (Nat × List Int)} (h : NetAt S n0 d ws wa ho gr) (k : Ag P S S') (hp : ∀ i, P i → i < n0) : NetAt S' n0 d ws wa ho gr := by
  obtain ⟨⟨a, b, c, e, h0, h1, h2, h3, h4, h5, h6, h7, h8⟩, ho', hg⟩ := h
  have g : ∀ {i : Nat} {o : O}, n0 ≤ i → S[i]? = some o → S'[i]? = some o := fun hi ho => k.get ho (fun q => by have := hp _ q; omega)
  exact ⟨⟨a, b, c, e, h0, h1, h2, h3, h4, g h1 h5, g h2 h6, g h3 h7, g h4 h8⟩, fun w m => ⟨(ho' w m).1, g (ho' w m).1 (ho' w m).2⟩, fun w m => ⟨(hg w m).1, g (hg w m).1 (hg w m).2⟩⟩
structure NetOk (ws : List Wk) (wa : List (Int × Int × Rat)) (ho : List (Str × Int × Rat)) (gr : List (Nat × List Int)) : Prop where
  one : 0 < ws.length
  ten : ws.length ≤ 10
  wk : ∀ w ∈ ws, WkOk w
  wal : wa.length ≤ 200
  was : ∀ w ∈ wa, 0 ≤ w.1 ∧ w.1 < ws.length ∧ 0 ≤ w.2.1 ∧ w.2.1 < ws.length ∧ Sz 60 40 w.2.2
  hol : ho.length ≤ 4
  hos : ∀ h ∈ ho, (h.1 = ("from" : Str) ∨ h.1 = ("till" : Str) ∨ h.1 = ("by" : Str)) ∧ 0 ≤ h.2.1 ∧ h.2.1 < ws.length ∧ Sz 110 620 h.2.2
  grl : gr.length ≤ 20
  grs : ∀ g ∈ gr, g.2.length ≤ 20
section
variable {G : Tab} {k f : Nat} {S : Sto} {begun take low plus minus times amount offer names waits holds groups order lag : Nat}
end
end HP
namespace HP
open PySem L2
/-- a time that a work offers -/
structure TOk (w : Wk) (t : Rat) : Prop where
  off : offeredB w.kd w.cs t = true
  sz : Sz 80 100 t
  stp : w.kd = ("steps" : Str) → ∃ c ∈ w.cs, c.1 = t
mutual
/-- data whose lists are all changeable, at places of P -/
def Dl (P : Nat → Prop) (S : Sto) : PyData → D → Prop
  | .none, d => d = .non
  | .bool b, d => d = .bl b
  | .int i, d => d = .int i
  | .str s, d => d = .str s
  | .tuple xs, d => ∃ ds, d = .tup ds ∧ DlA P S xs ds
  | .list xs, d => ∃ l ds, d = .loc l ∧ P l ∧ S[l]? = some (.lst ds) ∧ DlA P S xs ds
  | .dict _, _ => False
def DlA (P : Nat → Prop) (S : Sto) : List PyData → List D → Prop
  | [], ds => ds = []
  | x :: xs, ds => ∃ d ds', ds = d :: ds' ∧ Dl P S x d ∧ DlA P S xs ds'
end
mutual
theorem Dl.mono {P P' : Nat → Prop} {S S' : Sto} (hl : ∀ l ds, P l → S[l]? = some (.lst ds) → P' l ∧ S'[l]? = some (.lst ds)) : {x : PyData} → {d : D} → Dl P S x d → Dl P' S' x d
  | .none, d, h => h
  | .bool b, d, h => h
  | .int i, d, h => h
  | .str s, d, h => h
  | .tuple xs, d, h => by
    obtain ⟨ds, rfl, h⟩ := h
    exact ⟨ds, rfl, h.mono hl⟩
  | .list xs, d, h => by
    obtain ⟨l, ds, rfl, p, h1, h⟩ := h
    exact ⟨l, ds, rfl, (hl l ds p h1).1, (hl l ds p h1).2, h.mono hl⟩
  | .dict _, d, h => h.elim
theorem DlA.mono {P P' : Nat → Prop} {S S' : Sto} (hl : ∀ l ds, P l → S[l]? = some (.lst ds) → P' l ∧ S'[l]? = some (.lst ds)) : {xs : List PyData} → {ds : List D} → DlA P S xs ds → DlA P' S' xs ds
  | [], ds, h => h
  | x :: xs, ds, h => by
    obtain ⟨d, ds', rfl, h1, h2⟩ := h
    exact ⟨d, ds', rfl, h1.mono hl, h2.mono hl⟩
end
theorem Dl.ag {P Q : Nat → Prop} {S S' : Sto} {x : PyData} {d : D} (h : Dl P S x d) (k : Ag Q S S') (hp : ∀ l, P l → ¬Q l) : Dl P S' x d :=
  h.mono fun l ds p e => ⟨p, k.get e (hp l p)⟩
theorem DlA.ag {P Q : Nat → Prop} {S S' : Sto} {x : List PyData} {d : List D} (h : DlA P S x d) (k : Ag Q S S') (hp : ∀ l, P l → ¬Q l) : DlA P S' x d :=
  h.mono fun l ds p e => ⟨p, k.get e (hp l p)⟩
theorem DlA.app {P : Nat → Prop} {S : Sto} : {xs : List PyData} → {ds : List D} → {x : PyData} → {d : D} → DlA P S xs ds → Dl P S x d → DlA P S (xs ++ [x]) (ds ++ [d])
  | [], ds, x, d, h, h2 => by cases (h : ds = []); exact ⟨d, [], rfl, h2, rfl⟩
  | y :: xs, ds, x, d, h, h2 => by
    obtain ⟨e, ds', rfl, h3, h4⟩ := h
    exact ⟨e, ds' ++ [d], rfl, h3, h4.app h2⟩
def wkP (w : Wk) : PyData := .tuple [.str w.nm, .tuple [.str w.kd, .list (w.cs.map prd)]]
def waP (w : Int × Int × Rat) : PyData := .tuple [.int w.1, .int w.2.1, qd w.2.2]
def hoP (h : Str × Int × Rat) : PyData := .tuple [.str h.1, .int h.2.1, qd h.2.2]
/-- works that are alike but for their places -/
def Same : List Wk → List Wk → Prop
  | [], [] => True
  | w :: ws, v :: vs => (v.nm = w.nm ∧ v.kd = w.kd ∧ v.cs = w.cs) ∧ Same ws vs
  | _, _ => False
theorem Same.len : {ws vs : List Wk} → Same ws vs → vs.length = ws.length
  | [], [], _ => rfl
  | _ :: _, _ :: _, h => by rw [List.length_cons, List.length_cons, Same.len h.2]
theorem Same.get : {ws vs : List Wk} → Same ws vs → {i : Nat} → {v : Wk} → vs[i]? = some v → ∃ w, ws[i]? = some w ∧ v.nm = w.nm ∧ v.kd = w.kd ∧ v.cs = w.cs
  | [], [], _, i, v, e => by cases e
  | w :: _, _ :: _, h, 0, v, e => by cases e; exact ⟨w, rfl, h.1⟩
  | _ :: ws, _ :: vs, h, i + 1, v, e => Same.get (ws := ws) (vs := vs) h.2 (i := i) e
theorem Same.mapP : {ws vs : List Wk} → Same ws vs → vs.map wkP = ws.map wkP
  | [], [], _ => rfl
  | w :: ws, v :: vs, h => by
    rw [List.map_cons, List.map_cons, Same.mapP h.2]
    congr 1
    unfold wkP
    rw [h.1.1, h.1.2.1, h.1.2.2]
structure Xw where
  lc : Nat
  nm : Str
  t : Rat
  p : Rat
def xwD (x : Xw) : D := .tup [.str x.nm, .tup [.str "straight", .loc x.lc]]
def xwP (x : Xw) : PyData := .tuple [.str x.nm, .tuple [.str "straight", .list [prd (x.t, x.p)]]]
/-- works with their times told -/
structure XAt (S : Sto) (n lo hi : Nat) (ws : List Wk) (ts : List Rat) (xs : List Xw) : Prop where
  at_ : S[n]? = some (.lst (xs.map xwD))
  len : xs.length = ws.length
  cell : ∀ x ∈ xs, lo < x.lc ∧ x.lc < hi ∧ S[x.lc]? = some (.lst [pr (x.t, x.p)])
  inc : xs.Pairwise fun x y => x.lc < y.lc
  told : ∀ (i : Nat) (x : Xw) (w : Wk) (t : Rat), xs[i]? = some x → ws[i]? = some w → ts[i]? = some t → x.nm = w.nm ∧ x.t = t ∧ Cost w.cs t x.p
section
variable {k : Nat} {S : Sto}
end
theorem dt_wa {P : Nat → Prop} {S : Sto} (w : Int × Int × Rat) : Dt P S (waP w) (waD w) := ⟨_, rfl, _, _, rfl, rfl, _, _, rfl, rfl, _, _, rfl, dt_q w.2.2, rfl⟩
theorem dt_ho {P : Nat → Prop} {S : Sto} (w : Str × Int × Rat) : Dt P S (hoP w) (hoD w) := ⟨_, rfl, _, _, rfl, rfl, _, _, rfl, rfl, _, _, rfl, dt_q w.2.2, rfl⟩
theorem dt_wk {P : Nat → Prop} {S : Sto} {w : Wk} (h : S[w.lc]? = some (.lst (w.cs.map pr))) (p : P w.lc) : Dt P S (wkP w) (wkD w) :=
  ⟨_, rfl, _, _, rfl, rfl, _, _, rfl, ⟨_, rfl, _, _, rfl, rfl, _, _, rfl, dt_prs h p, rfl⟩, rfl⟩
theorem dt_lst {A : Type} {P : Nat → Prop} {S : Sto} {f : A → PyData} {g : A → D} {n : Nat} {xs : List A} (h : S[n]? = some (.lst (xs.map g))) (p : P n) (k : ∀ x ∈ xs, Dt P S (f x) (g x)) : Dt P S (.list (xs.map f)) (.loc n) := ⟨_, Or.inr ⟨n, rfl, p, h⟩, dtA_map k⟩
theorem dt_4 {P : Nat → Prop} {S : Sto} {a b c e : PyData} {x y z u : D} (h1 : Dt P S a x) (h2 : Dt P S b y) (h3 : Dt P S c z) (h4 : Dt P S e u) : Dt P S (.tuple [a, b, c, e]) (.tup [x, y, z, u]) := ⟨_, rfl, _, _, rfl, h1, _, _, rfl, h2, _, _, rfl, h3, _, _, rfl, h4, rfl⟩
theorem fuel_list {A : Type} {f : A → PyData} {n : Nat} {xs : List A} (h : ∀ x ∈ xs, fuel (f x) ≤ n) : fuel (.list (xs.map f)) ≤ n + xs.length + 1 := Nat.succ_le_succ (fuelA_map h)
theorem fuel_4 {a b c e : PyData} {n : Nat} (h1 : fuel a ≤ n) (h2 : fuel b ≤ n) (h3 : fuel c ≤ n) (h4 : fuel e ≤ n) : fuel (.tuple [a, b, c, e]) ≤ n + 5 := by
  show max (fuel a) (max (fuel b) (max (fuel c) (max (fuel e) 0 + 1) + 1) + 1) + 1 + 1 ≤ n + 5
  omega
theorem lay_ho {w : Str × Int × Rat} (h : PyData.strOk w.1 = true) : PyData.canLay0 (hoP w) = true := by
  show (PyData.strOk w.1 && (true && (PyData.canLay0 (qd w.2.2) && true))) = true
  rw [h]
  rfl
theorem depth_list {A : Type} {f : A → PyData} {n : Nat} {xs : List A} (h : ∀ x ∈ xs, PyData.depth (f x) ≤ n) : PyData.depth (.list (xs.map f)) ≤ n + 1 := Nat.succ_le_succ (depth_map h)
theorem depth_wk {w : Wk} : PyData.depth (wkP w) ≤ 5 := by
  have := depth_list (xs := w.cs) (f := prd) (n := 2) fun x _ => depth_pr x
  show max 0 (max (max 0 (max (PyData.depth (.list (w.cs.map prd))) 0) + 1) 0) + 1 ≤ 5
  omega
theorem depth_wa (w : Int × Int × Rat) : PyData.depth (waP w) ≤ 2 := by
  show max 0 (max 0 (max (max 0 (max 0 0) + 1) 0)) + 1 ≤ 2
  decide
theorem depth_ho (w : Str × Int × Rat) : PyData.depth (hoP w) ≤ 2 := by
  show max 0 (max 0 (max (max 0 (max 0 0) + 1) 0)) + 1 ≤ 2
  decide
theorem fuel_ho (w : Str × Int × Rat) : fuel (hoP w) ≤ 10 := by
  show max 0 (max 0 (max 3 0 + 1) + 1) + 1 + 1 ≤ 10
  decide
theorem depth_4 {a b c e : PyData} {n : Nat} (h1 : PyData.depth a ≤ n) (h2 : PyData.depth b ≤ n) (h3 : PyData.depth c ≤ n) (h4 : PyData.depth e ≤ n) : PyData.depth (.tuple [a, b, c, e]) ≤ n + 1 := by
  show max (PyData.depth a) (max (PyData.depth b) (max (PyData.depth c) (max (PyData.depth e) 0))) + 1 ≤ n + 1
  omega
/-- lists of a net that may be compared -/
structure Lay (x : PyData) : Prop where
  f : fuel x ≤ 80
  d : PyData.depth x ≤ 6
  l : PyData.canLay0 x = true
  o : okA x = true
  p : plain x = true
theorem Lay.cmp {x : PyData} (h : Lay x) : Cmp x := ⟨Nat.le_trans h.f (by decide), by
  unfold SeqAt.shaped
  rw [Bool.and_eq_true]
  exact ⟨h.l, decide_eq_true (Nat.le_trans h.d (by decide))⟩⟩
theorem Lay.t4 {a b c e : PyData} (h1 : Lay a) (h2 : Lay b) (h3 : Lay c) (h4 : Lay e) : Cmp (.tuple [a, b, c, e]) ∧ PyData.depth (.tuple [a, b, c, e]) ≤ 7 ∧ okA (.tuple [a, b, c, e]) = true ∧ plain (.tuple [a, b, c, e]) = true := by
  have hd := depth_4 h1.d h2.d h3.d h4.d
  refine ⟨⟨Nat.le_trans (fuel_4 h1.f h2.f h3.f h4.f) (by decide), ?_⟩, hd, ?_, ?_⟩
  · unfold SeqAt.shaped
    rw [Bool.and_eq_true]
    refine ⟨?_, decide_eq_true (Nat.le_trans hd (by decide))⟩
    show (PyData.canLay0 a && (PyData.canLay0 b && (PyData.canLay0 c && (PyData.canLay0 e && true)))) = true
    rw [h1.l, h2.l, h3.l, h4.l]; rfl
  · show (decide (4 < 1000) && (okA a && (okA b && (okA c && (okA e && true))))) = true
    rw [h1.o, h2.o, h3.o, h4.o]; rfl
  · show (plain a && (plain b && (plain c && (plain e && true)))) = true
    rw [h1.p, h2.p, h3.p, h4.p]; rfl
theorem lay_of {A : Type} {f : A → PyData} {n : Nat} {xs : List A} (hl : n + xs.length < 80) (h : ∀ x ∈ xs, fuel (f x) ≤ n ∧ PyData.depth (f x) ≤ 5 ∧ PyData.canLay0 (f x) = true ∧ okA (f x) = true ∧ plain (f x) = true) : Lay (.list (xs.map f)) :=
  ⟨Nat.le_trans (fuel_list fun x m => (h x m).1) (by omega), depth_list fun x m => (h x m).2.1, lay_map fun x m => (h x m).2.2.1, okA_list (by omega) fun x m => (h x m).2.2.2.1, plain_map fun x m => (h x m).2.2.2.2⟩
theorem ok_wk {w : Wk} (h : w.cs.length ≤ 5) : okA (wkP w) = true := by
  have := okA_list (xs := w.cs) (f := prd) (by omega) fun x _ => rfl
  show (decide (2 < 1000) && (true && ((decide (2 < 1000) && (true && (okA (.list (w.cs.map prd)) && true))) && true))) = true
  rw [this]; rfl
theorem lay_hos {wl : List (Str × Int × Rat)} (h : ∀ w ∈ wl, PyData.strOk w.1 = true) (hl : wl.length ≤ 40) : Lay (.list (wl.map hoP)) :=
  lay_of (n := 10) (by omega) fun x m => ⟨fuel_ho x, Nat.le_trans (depth_ho x) (by decide), lay_ho (h x m), rfl, rfl⟩
theorem lay_nil : Lay (.list []) := ⟨by decide, by decide, rfl, rfl, rfl⟩
theorem XAt.ag {S S' : Sto} {n lo hi : Nat} {ws : List Wk} {ts : List Rat} {xs : List Xw} {P : Nat → Prop} (h : XAt S n lo hi ws ts xs) (k : Ag P S S') (hn : ¬P n) (hc : ∀ x ∈ xs, ¬P x.lc) : XAt S' n lo hi ws ts xs :=
  ⟨k.get h.at_ hn, h.len, fun x m => ⟨(h.cell x m).1, (h.cell x m).2.1, k.get (h.cell x m).2.2 (hc x m)⟩, h.inc, h.told⟩
theorem XAt.same {S : Sto} {n lo hi : Nat} {ws vs : List Wk} {ts : List Rat} {xs : List Xw} (h : XAt S n lo hi vs ts xs) (hs : Same ws vs) : XAt S n lo hi ws ts xs := by
  refine ⟨h.at_, by rw [h.len, hs.len], h.cell, h.inc, fun i x w t h1 h2 h3 => ?_⟩
  have hl := hs.len
  have hi := (List.getElem?_eq_some_iff.1 h2).1
  have gv : vs[i]? = some (vs[i]'(by omega)) := List.getElem?_eq_getElem _
  generalize vs[i]'(by omega) = v at gv
  obtain ⟨w', h4, e1, e2, e3⟩ := hs.get gv
  rw [h2] at h4
  cases h4
  have := h.told i x v t h1 gv h3
  rw [e1, e3] at this
  exact this
theorem XAt.mapP {S S' : Sto} {n lo hi n' lo' hi' : Nat} {ws : List Wk} {ts : List Rat} {xs ys : List Xw} (h : XAt S n lo hi ws ts xs) (h' : XAt S' n' lo' hi' ws ts ys) (hg : ∀ w ∈ ws, WkOk w) (hl : ts.length = ws.length) : xs.map xwP = ys.map xwP := by
  apply List.ext_getElem?
  intro i
  rw [List.getElem?_map, List.getElem?_map]
  by_cases hi : i < ws.length
  · have gw : ws[i]? = some (ws[i]'hi) := List.getElem?_eq_getElem _
    generalize ws[i]'hi = w at gw
    have gt : ts[i]? = some (ts[i]'(by omega)) := List.getElem?_eq_getElem _
    generalize ts[i]'(by omega) = t at gt
    have gx : xs[i]? = some (xs[i]'(by rw [h.len]; omega)) := List.getElem?_eq_getElem _
    generalize xs[i]'(by rw [h.len]; omega) = x at gx
    have gy : ys[i]? = some (ys[i]'(by rw [h'.len]; omega)) := List.getElem?_eq_getElem _
    generalize ys[i]'(by rw [h'.len]; omega) = y at gy
    obtain ⟨a1, a2, a3⟩ := h.told i x w t gx gw gt
    obtain ⟨b1, b2, b3⟩ := h'.told i y w t gy gw gt
    have hp := cost_uniq (hg w (List.mem_of_getElem? gw)).good.pw a3 b3
    rw [gx, gy]
    show some (xwP x) = some (xwP y)
    unfold xwP
    rw [a1, a2, b1, b2, hp]
  · rw [List.getElem?_eq_none (by rw [h.len]; omega), List.getElem?_eq_none (by rw [h'.len]; omega)]
theorem XAt.names {S : Sto} {n lo hi : Nat} {ws : List Wk} {ts : List Rat} {xs : List Xw} (h : XAt S n lo hi ws ts xs) (hn : ∀ w ∈ ws, PyData.strOk w.nm = true) (hl : ts.length = ws.length) : ∀ x ∈ xs, PyData.strOk x.nm = true := by
  intro x m
  obtain ⟨i, hi⟩ := List.getElem?_of_mem m
  have hil := (List.getElem?_eq_some_iff.1 hi).1
  rw [h.len] at hil
  have gw : ws[i]? = some (ws[i]'hil) := List.getElem?_eq_getElem _
  have gt : ts[i]? = some (ts[i]'(by omega)) := List.getElem?_eq_getElem _
  rw [(h.told i x _ _ hi gw gt).1]
  exact hn _ (List.getElem_mem hil)
theorem dt_nil {S : Sto} {n : Nat} (h : S[n]? = some (.lst [])) : Dt (fun _ => True) S (.list []) (.loc n) := ⟨_, Or.inr ⟨n, rfl, trivial, h⟩, rfl⟩
end HP
namespace HP
open PySem L2
inductive Arc where
  | start (w : Nat) | fin (w : Nat) | hold (k : Nat) | wait (k : Nat)
/-- from, to, at least so much more -/
abbrev Wt := Nat × Nat × Rat
abbrev Fd := List (Rat × Arc)
def pushS (st : Fd × Option Nat) (k : Nat) (w : Wt) : Fd × Option Nat :=
  match st.1[w.1]?, st.1[w.2.1]? with
  | some a, some b => if b.1 < a.1 + w.2.2 then (st.1.set w.2.1 (a.1 + w.2.2, .wait k), some w.2.1) else st
  | _, _ => st
/-- the first m waits gone through -/
def pushL (W : List Wt) (F : Fd) : Nat → Fd × Option Nat
  | 0 => (F, none)
  | m + 1 => match W[m]? with
    | some w => pushS (pushL W F m) m w
    | none => pushL W F m
def roundsF (W : List Wt) (F : Fd) : Nat → Fd × Option Nat
  | 0 => (F, none)
  | r + 1 => pushL W (roundsF W F r).1 W.length
structure BInv (W : List Wt) (F0 : Fd) (r m : Nat) (F : Fd) (ρ τ : Nat → Nat) (now : Nat) : Prop where
  len : F.length = F0.length
  root : ∀ (v : Nat) (x : Rat) (a : Arc), F[v]? = some (x, a) → (∀ k, a ≠ .wait k) → F0[v]? = some (x, a) ∧ ρ v = 0
  arc : ∀ (v : Nat) (x : Rat) (k : Nat), F[v]? = some (x, .wait k) → ∃ u c y b, W[k]? = some (u, v, c) ∧ F[u]? = some (y, b) ∧ x ≤ y + c ∧ (τ v < τ u → x < y + c) ∧ ρ v ≤ ρ u + 1 ∧ 0 < τ v
  slack : ∀ (k u v : Nat) (c y : Rat) (b : Arc) (x : Rat) (a : Arc), W[k]? = some (u, v, c) → F[u]? = some (y, b) → F[v]? = some (x, a) → y + c ≤ x ∨ (if k < m then r else r - 1) ≤ ρ u
  rle : ∀ v, ρ v ≤ r
  inj : ∀ v w, τ v = τ w → v = w ∨ τ v = 0
  tle : ∀ v, τ v ≤ now
/-- waits between works that are there, no two alike -/
def WOk (W : List Wt) (n : Nat) : Prop := ∀ w ∈ W, w.1 < n ∧ w.2.1 < n ∧ w.1 ≠ w.2.1
theorem BInv.start {W : List Wt} {F0 : Fd} (h : ∀ (v : Nat) (x : Rat) (k : Nat), F0[v]? ≠ some (x, .wait k)) : BInv W F0 0 W.length F0 (fun _ => 0) (fun _ => 0) 0 where
  len := rfl
  root := fun v x a e _ => ⟨e, rfl⟩
  arc := fun v x k e => absurd e (h v x k)
  slack := fun k u v c y b x a _ _ _ => Or.inr (by split <;> exact Nat.zero_le _)
  rle := fun _ => Nat.le_refl _
  inj := fun _ _ _ => Or.inr rfl
  tle := fun _ => Nat.le_refl _
theorem get_some {A : Type} {xs : List A} {i : Nat} (h : i < xs.length) : ∃ x, xs[i]? = some x := ⟨_, List.getElem?_eq_getElem h⟩
theorem BInv.step {W : List Wt} {F0 F : Fd} {r m now : Nat} {ρ τ : Nat → Nat} {o : Option Nat} {w : Wt} (h : BInv W F0 r m F ρ τ now) (hr : 1 ≤ r) (hw : W[m]? = some w) (hW : WOk W F0.length) (ho : ∀ v, o = some v → v < F0.length ∧ ρ v = r) :
    ∃ ρ' τ' now', BInv W F0 r (m + 1) (pushS (F, o) m w).1 ρ' τ' now' ∧ ∀ v, (pushS (F, o) m w).2 = some v → v < F0.length ∧ ρ' v = r := by
  obtain ⟨u, v, c⟩ := w
  obtain ⟨hu, hv, huv⟩ := hW _ (List.mem_of_getElem? hw)
  try dsimp only at hu hv huv
  obtain ⟨⟨y, b⟩, gu⟩ := get_some (xs := F) (i := u) (by rw [h.len]; exact hu)
  obtain ⟨⟨x, a⟩, gv⟩ := get_some (xs := F) (i := v) (by rw [h.len]; exact hv)
  unfold pushS
  try dsimp only
  rw [gu, gv]
  try dsimp only
  by_cases hlt : x < y + c
  · rw [if_pos hlt]
    try dsimp only
    have gv' : ∀ z, (F.set v (y + c, Arc.wait m))[v]? = some z ↔ z = (y + c, Arc.wait m) := by
      intro z
      rw [List.getElem?_set_self (by rw [h.len]; exact hv)]
      constructor
      · intro e; exact (Option.some.inj e).symm
      · rintro rfl; rfl
    have gne : ∀ z, z ≠ v → (F.set v (y + c, Arc.wait m))[z]? = F[z]? := fun z hz => List.getElem?_set_ne (fun e => hz e.symm)
    have hsl : r - 1 ≤ ρ u := by
      rcases h.slack m u v c y b x a hw gu gv with q | q
      · exact absurd hlt (Rat.not_lt.2 q)
      · rw [if_neg (Nat.lt_irrefl _)] at q; exact q
    refine ⟨fun z => if z = v then r else ρ z, fun z => if z = v then now + 1 else τ z, now + 1, ⟨?_, ?_, ?_, ?_, ?_, ?_, ?_⟩, ?_⟩
    · rw [List.length_set]; exact h.len
    · intro z x' a' e hn
      by_cases hz : z = v
      · subst hz
        rw [gv'] at e
        cases e
        exact absurd rfl (hn m)
      · rw [gne z hz] at e
        try dsimp only
        rw [if_neg hz]
        exact h.root z x' a' e hn
    · intro z x' k e
      by_cases hz : z = v
      · subst hz
        rw [gv'] at e
        cases e
        refine ⟨u, c, y, b, hw, by rw [gne u huv]; exact gu, Rat.le_refl, ?_, ?_, ?_⟩
        · try dsimp only
          rw [if_pos rfl, if_neg huv]
          intro q
          have := h.tle u
          omega
        · try dsimp only
          rw [if_pos rfl, if_neg huv]
          omega
        · try dsimp only
          rw [if_pos rfl]
          omega
      · rw [gne z hz] at e
        obtain ⟨u2, c2, y2, b2, e1, e2, e3, e4, e5, e6⟩ := h.arc z x' k e
        by_cases hu2 : u2 = v
        · subst hu2
          rw [gv] at e2
          cases e2
          refine ⟨u2, c2, y + c, .wait m, e1, (gv' _).2 rfl, ?_, ?_, ?_, ?_⟩
          · grind
          · intro _; grind
          · try dsimp only
            rw [if_neg hz, if_pos rfl]
            have := h.rle u2
            omega
          · try dsimp only
            rw [if_neg hz]
            exact e6
        · refine ⟨u2, c2, y2, b2, e1, by rw [gne u2 hu2]; exact e2, e3, ?_, ?_, ?_⟩
          · try dsimp only
            rw [if_neg hz, if_neg hu2]
            exact e4
          · try dsimp only
            rw [if_neg hz, if_neg hu2]
            exact e5
          · try dsimp only
            rw [if_neg hz]
            exact e6
    · intro k u2 v2 c2 y2 b2 x2 a2 e1 e2 e3
      try dsimp only
      by_cases hu2 : u2 = v
      · rw [if_pos hu2]
        exact Or.inr (by split <;> omega)
      · rw [if_neg hu2]
        rw [gne u2 hu2] at e2
        by_cases hv2 : v2 = v
        · subst hv2
          rw [gv'] at e3
          cases e3
          by_cases hk : k = m
          · subst hk
            rw [hw] at e1
            cases e1
            rw [gu] at e2
            cases e2
            exact Or.inl Rat.le_refl
          · rcases h.slack k u2 v2 c2 y2 b2 x a e1 e2 gv with q | q
            · exact Or.inl (by grind)
            · refine Or.inr ?_
              by_cases hkm : k < m
              · rw [if_pos hkm] at q; rw [if_pos (by omega)]; exact q
              · rw [if_neg hkm] at q; rw [if_neg (by omega)]; exact q
        · rw [gne v2 hv2] at e3
          rcases h.slack k u2 v2 c2 y2 b2 x2 a2 e1 e2 e3 with q | q
          · exact Or.inl q
          · refine Or.inr ?_
            by_cases hk : k = m
            · subst hk
              rw [hw] at e1
              cases e1
              exact absurd rfl hv2
            · by_cases hkm : k < m
              · rw [if_pos hkm] at q; rw [if_pos (by omega)]; exact q
              · rw [if_neg hkm] at q; rw [if_neg (by omega)]; exact q
    · intro z
      try dsimp only
      split
      · exact Nat.le_refl _
      · exact h.rle z
    · intro z z2 e
      try dsimp only at e
      have t1 := h.tle z
      have t2 := h.tle z2
      by_cases h1 : z = v
      · by_cases h2 : z2 = v
        · exact Or.inl (h1.trans h2.symm)
        · rw [if_pos h1, if_neg h2] at e; omega
      · by_cases h2 : z2 = v
        · rw [if_neg h1, if_pos h2] at e; omega
        · rw [if_neg h1, if_neg h2] at e
          try dsimp only
          rw [if_neg h1]
          exact h.inj z z2 e
    · intro z
      try dsimp only
      split
      · exact Nat.le_refl _
      · exact Nat.le_succ_of_le (h.tle z)
    · intro z e
      cases e
      try dsimp only
      rw [if_pos rfl]
      exact ⟨hv, rfl⟩
  · rw [if_neg hlt]
    refine ⟨ρ, τ, now, ⟨h.len, h.root, h.arc, ?_, h.rle, h.inj, h.tle⟩, ho⟩
    intro k u2 v2 c2 y2 b2 x2 a2 e1 e2 e3
    by_cases hk : k = m
    · subst hk
      rw [hw] at e1
      cases e1
      rw [gu] at e2
      rw [gv] at e3
      cases e2; cases e3
      exact Or.inl (Rat.not_lt.1 hlt)
    · rcases h.slack k u2 v2 c2 y2 b2 x2 a2 e1 e2 e3 with q | q
      · exact Or.inl q
      · refine Or.inr ?_
        by_cases hkm : k < m
        · rw [if_pos hkm] at q; rw [if_pos (by omega)]; exact q
        · rw [if_neg hkm] at q; rw [if_neg (by omega)]; exact q
theorem pigeon : ∀ (n : Nat) (f : Nat → Nat), (∀ i, i ≤ n → f i < n) → ∃ i j, i < j ∧ j ≤ n ∧ f i = f j
  | 0, f, h => absurd (h 0 (Nat.le_refl _)) (Nat.not_lt_zero _)
  | n + 1, f, h => by
    by_cases hx : ∃ i, i ≤ n ∧ f i = f (n + 1)
    · obtain ⟨i, hi, e⟩ := hx
      exact ⟨i, n + 1, by omega, Nat.le_refl _, e⟩
    · have hne : ∀ i, i ≤ n → f i ≠ f (n + 1) := fun i hi e => hx ⟨i, hi, e⟩
      have hm := h (n + 1) (Nat.le_refl _)
      obtain ⟨i, j, hij, hj, e⟩ := pigeon n (fun i => if f i = n then f (n + 1) else f i) (fun i hi => by
        try dsimp only
        have h1 := h i (by omega)
        have h2 := hne i hi
        split
        · rename_i e; omega
        · omega)
      refine ⟨i, j, hij, by omega, ?_⟩
      try dsimp only at e
      have h1 := hne i (by omega)
      have h2 := hne j (by omega)
      by_cases c1 : f i = n
      · by_cases c2 : f j = n
        · rw [c1, c2]
        · rw [if_pos c1, if_neg c2] at e; exact absurd e.symm h2
      · by_cases c2 : f j = n
        · rw [if_neg c1, if_pos c2] at e; exact absurd e h1
        · rw [if_neg c1, if_neg c2] at e; exact e
theorem least {P : Nat → Prop} : ∀ n, P n → ∃ m, m ≤ n ∧ P m ∧ ∀ j, j < m → ¬P j := by
  intro n
  induction n using Nat.strongRecOn with
  | _ n ih =>
    intro h
    by_cases hx : ∃ j, j < n ∧ P j
    · obtain ⟨j, hj, pj⟩ := hx
      obtain ⟨m, h1, h2, h3⟩ := ih j hj pj
      exact ⟨m, by omega, h2, h3⟩
    · exact ⟨n, Nat.le_refl _, h, fun j hj pj => hx ⟨j, hj, pj⟩⟩
/-- the work ahead that tells a work's value -/
def preF (W : List Wt) (F : Fd) (v : Nat) : Nat := match F[v]? with
  | some (_, .wait k) => (match W[k]? with | some w => w.1 | none => v)
  | _ => v
def cstF (W : List Wt) (F : Fd) (v : Nat) : Rat := match F[v]? with
  | some (_, .wait k) => (match W[k]? with | some w => w.2.2 | none => 0)
  | _ => 0
def valF (F : Fd) (v : Nat) : Rat := match F[v]? with
  | some (x, _) => x
  | none => 0
def isW (F : Fd) (v : Nat) : Prop := ∃ x k, F[v]? = some (x, .wait k)
def itrF (W : List Wt) (F : Fd) : Nat → Nat → Nat
  | 0, v => v
  | i + 1, v => preF W F (itrF W F i v)
def sumA (W : List Wt) (F : Fd) (v : Nat) : Nat → Rat
  | 0 => 0
  | i + 1 => sumA W F v i + cstF W F (itrF W F i v)
theorem itr_add {W : List Wt} {F : Fd} {v : Nat} (i : Nat) : ∀ j, itrF W F (j + i) v = itrF W F j (itrF W F i v)
  | 0 => by rw [Nat.zero_add]; rfl
  | j + 1 => by
    rw [show j + 1 + i = (j + i) + 1 by omega]
    show preF W F (itrF W F (j + i) v) = preF W F (itrF W F j (itrF W F i v))
    rw [itr_add i j]
theorem BInv.at {W : List Wt} {F0 F : Fd} {r m now : Nat} {ρ τ : Nat → Nat} (h : BInv W F0 r m F ρ τ now) (hW : WOk W F0.length) {v : Nat} (hv : isW F v) :
    valF F v ≤ valF F (preF W F v) + cstF W F v ∧ (τ v < τ (preF W F v) → valF F v < valF F (preF W F v) + cstF W F v) ∧ ρ v ≤ ρ (preF W F v) + 1 ∧ 0 < τ v ∧ preF W F v < F0.length ∧ preF W F v ≠ v := by
  obtain ⟨x, k, g⟩ := hv
  obtain ⟨u, c, y, b, e1, e2, e3, e4, e5, e6⟩ := h.arc v x k g
  have h1 : preF W F v = u := by unfold preF; rw [g]; dsimp only; rw [e1]
  have h2 : cstF W F v = c := by unfold cstF; rw [g]; dsimp only; rw [e1]
  have h3 : valF F v = x := by unfold valF; rw [g]
  have h4 : valF F u = y := by unfold valF; rw [e2]
  have hw := hW _ (List.mem_of_getElem? e1)
  rw [h1, h2, h3, h4]
  exact ⟨e3, e4, e5, e6, hw.1, hw.2.2⟩
/-- along the arcs -/
theorem BInv.along {W : List Wt} {F0 F : Fd} {r m now : Nat} {ρ τ : Nat → Nat} (h : BInv W F0 r m F ρ τ now) (hW : WOk W F0.length) {v : Nat} : ∀ L, (∀ i, i < L → isW F (itrF W F i v)) →
    valF F v ≤ valF F (itrF W F L v) + sumA W F v L ∧ ((∃ j, j < L ∧ τ (itrF W F j v) < τ (itrF W F (j + 1) v)) → valF F v < valF F (itrF W F L v) + sumA W F v L)
  | 0, _ => ⟨by show _ ≤ valF F v + 0; rw [Rat.add_zero]; exact Rat.le_refl, by rintro ⟨j, hj, _⟩; omega⟩
  | L + 1, hi => by
    obtain ⟨h1, h2⟩ := h.along hW L fun i hl => hi i (by omega)
    obtain ⟨g1, g2, _⟩ := h.at hW (hi L (by omega))
    have e1 : itrF W F (L + 1) v = preF W F (itrF W F L v) := rfl
    have e2 : sumA W F v (L + 1) = sumA W F v L + cstF W F (itrF W F L v) := rfl
    rw [e1, e2]
    refine ⟨by grind, ?_⟩
    rintro ⟨j, hj, ht⟩
    by_cases ej : j = L
    · subst ej
      have := g2 ht
      grind
    · have := h2 ⟨j, by omega, ht⟩
      grind
/-- a ring has a sum above nought -/
theorem BInv.ring {W : List Wt} {F0 F : Fd} {r m now : Nat} {ρ τ : Nat → Nat} (h : BInv W F0 r m F ρ τ now) (hW : WOk W F0.length) {v L : Nat} (hi : ∀ i, i < L → isW F (itrF W F i v)) (hL : 1 ≤ L) (hr : itrF W F L v = v) : 0 < sumA W F v L := by
  obtain ⟨_, h2⟩ := h.along hW L hi
  rw [hr] at h2
  have hx : ∃ j, j < L ∧ τ (itrF W F j v) < τ (itrF W F (j + 1) v) := by
    apply Classical.byContradiction
    intro hn
    have hle : ∀ j, j < L → τ (itrF W F (j + 1) v) ≤ τ (itrF W F j v) := fun j hj => Nat.not_lt.1 fun q => hn ⟨j, hj, q⟩
    have hdn : ∀ j, j + 1 ≤ L → τ (itrF W F L v) ≤ τ (itrF W F (L - j) v) := by
      intro j
      induction j with
      | zero => intro _; exact Nat.le_refl _
      | succ j ih =>
        intro hj
        have h1 := ih (by omega)
        have h3 := hle (L - (j + 1)) (by omega)
        rw [show L - (j + 1) + 1 = L - j by omega] at h3
        omega
    have h1 := hdn (L - 1) (by omega)
    rw [show L - (L - 1) = 1 by omega, hr] at h1
    have h3 := hle 0 (by omega)
    have h0 : itrF W F 0 v = v := rfl
    rw [h0] at h3
    have hw := hi 0 (by omega)
    rw [h0] at hw
    obtain ⟨_, _, _, g4, _, g6⟩ := h.at hW hw
    have e1 : itrF W F (0 + 1) v = preF W F v := rfl
    have e1' : itrF W F 1 v = preF W F v := rfl
    rw [e1] at h3
    rw [e1'] at h1
    rcases h.inj (preF W F v) v (by omega) with q | q
    · exact g6 q
    · omega
  have := h2 hx
  grind
/-- once alike, ever again -/
theorem isW_ever {W : List Wt} {F : Fd} {v L : Nat} (hL : 1 ≤ L) (hr : itrF W F L v = v) (hi : ∀ i, i < L → isW F (itrF W F i v)) : ∀ i, isW F (itrF W F i v) := by
  intro i
  induction i using Nat.strongRecOn with
  | _ i ih =>
    by_cases h : i < L
    · exact hi i h
    · have e : itrF W F i v = itrF W F (i - L) v := by
        have := itr_add (W := W) (F := F) (v := v) L (i - L)
        rw [show i - L + L = i by omega, hr] at this
        exact this
      rw [e]
      exact ih (i - L) (by omega)
/-- the ring behind a work that was pushed in the last round -/
theorem BInv.found {W : List Wt} {F0 F : Fd} {m now : Nat} {ρ τ : Nat → Nat} (h : BInv W F0 F0.length m F ρ τ now) (hW : WOk W F0.length) {v : Nat} (hv : v < F0.length) (hρ : ρ v = F0.length) :
    (∀ i, isW F (itrF W F i v)) ∧ ∃ L, 1 ≤ L ∧ L ≤ F0.length ∧ itrF W F L (itrF W F F0.length v) = itrF W F F0.length v ∧ 0 < sumA W F (itrF W F F0.length v) L ∧ ∀ j, 1 ≤ j → j < L → itrF W F j (itrF W F F0.length v) ≠ itrF W F F0.length v := by
  have key : ∀ i, i ≤ F0.length → itrF W F i v < F0.length ∧ F0.length - i ≤ ρ (itrF W F i v) := by
    intro i
    induction i with
    | zero => intro _; exact ⟨hv, by show F0.length - 0 ≤ ρ v; omega⟩
    | succ i ih =>
      intro hi
      obtain ⟨h1, h2⟩ := ih (by omega)
      have hw : isW F (itrF W F i v) := by
        obtain ⟨⟨x, a⟩, g⟩ := get_some (xs := F) (i := itrF W F i v) (by rw [h.len]; exact h1)
        cases a with
        | wait k => exact ⟨x, k, g⟩
        | start w => have := (h.root _ _ _ g (fun k => by intro e; cases e)).2; omega
        | fin w => have := (h.root _ _ _ g (fun k => by intro e; cases e)).2; omega
        | hold w => have := (h.root _ _ _ g (fun k => by intro e; cases e)).2; omega
      obtain ⟨_, _, g3, _, g5, _⟩ := h.at hW hw
      exact ⟨g5, by show F0.length - (i + 1) ≤ ρ (preF W F (itrF W F i v)); omega⟩
  have hwi : ∀ i, i < F0.length → isW F (itrF W F i v) := by
    intro i hi
    obtain ⟨h1, h2⟩ := key i (by omega)
    obtain ⟨⟨x, a⟩, g⟩ := get_some (xs := F) (i := itrF W F i v) (by rw [h.len]; exact h1)
    cases a with
    | wait k => exact ⟨x, k, g⟩
    | start w => have := (h.root _ _ _ g (fun k => by intro e; cases e)).2; omega
    | fin w => have := (h.root _ _ _ g (fun k => by intro e; cases e)).2; omega
    | hold w => have := (h.root _ _ _ g (fun k => by intro e; cases e)).2; omega
  obtain ⟨i, j, hij, hj, e⟩ := pigeon F0.length (fun i => itrF W F i v) fun i hi => (key i hi).1
  have e : itrF W F i v = itrF W F j v := e
  have hcyc : itrF W F (j - i) (itrF W F i v) = itrF W F i v := by
    rw [← itr_add, show j - i + i = j by omega, e]
  have hcw : ∀ t, t < j - i → isW F (itrF W F t (itrF W F i v)) := by
    intro t ht
    rw [← itr_add]
    exact hwi _ (by omega)
  have hall := isW_ever (by omega) hcyc hcw
  have hallv : ∀ t, isW F (itrF W F t v) := by
    intro t
    by_cases ht : t < F0.length
    · exact hwi t ht
    · rw [show t = (t - i) + i by omega, itr_add]
      exact hall _
  refine ⟨hallv, ?_⟩
  have hper : itrF W F (j - i) (itrF W F F0.length v) = itrF W F F0.length v := by
    rw [← itr_add, show j - i + F0.length = (F0.length - i) + j by omega, itr_add, ← e, ← itr_add, show F0.length - i + i = F0.length by omega]
  obtain ⟨L, hL1, ⟨hL2, hL3⟩, hL4⟩ := least (P := fun L => 1 ≤ L ∧ itrF W F L (itrF W F F0.length v) = itrF W F F0.length v) (j - i) ⟨by omega, hper⟩
  refine ⟨L, hL2, by omega, hL3, h.ring hW (fun t _ => by rw [← itr_add]; exact hallv _) hL2 hL3, fun j' h1 h2 q => hL4 j' h2 ⟨h1, q⟩⟩
/-- all waits are kept -/
def Kept (W : List Wt) (F : Fd) : Prop := ∀ (w : Wt) (a b : Rat × Arc), w ∈ W → F[w.1]? = some a → F[w.2.1]? = some b → a.1 + w.2.2 ≤ b.1
theorem BInv.tight {W : List Wt} {F0 F : Fd} {r m now : Nat} {ρ τ : Nat → Nat} (h : BInv W F0 r m F ρ τ now) (hW : WOk W F0.length) (hk : Kept W F) {v : Nat} (hv : isW F v) : valF F v = valF F (preF W F v) + cstF W F v := by
  obtain ⟨x, k, g⟩ := hv
  obtain ⟨u, c, y, b, e1, e2, e3, e4, e5, e6⟩ := h.arc v x k g
  have h1 : preF W F v = u := by unfold preF; rw [g]; dsimp only; rw [e1]
  have h2 : cstF W F v = c := by unfold cstF; rw [g]; dsimp only; rw [e1]
  have h3 : valF F v = x := by unfold valF; rw [g]
  have h4 : valF F u = y := by unfold valF; rw [e2]
  rw [h1, h2, h3, h4]
  have := hk _ _ _ (List.mem_of_getElem? e1) e2 g
  try dsimp only at this
  grind
/-- the way back to what tells a work's value -/
theorem BInv.way {W : List Wt} {F0 F : Fd} {r m now : Nat} {ρ τ : Nat → Nat} (h : BInv W F0 r m F ρ τ now) (hW : WOk W F0.length) (hk : Kept W F) {v : Nat} (hv : v < F0.length) :
    ∃ M, M ≤ F0.length ∧ (∀ i, i < M → isW F (itrF W F i v)) ∧ ¬isW F (itrF W F M v) ∧ itrF W F M v < F0.length ∧ valF F v = valF F (itrF W F M v) + sumA W F v M ∧ ∀ i j, i < j → j ≤ M → itrF W F i v ≠ itrF W F j v := by
  have hs : ∀ L, (∀ i, i < L → isW F (itrF W F i v)) → valF F v = valF F (itrF W F L v) + sumA W F v L ∧ itrF W F L v < F0.length := by
    intro L
    induction L with
    | zero => intro _; exact ⟨by show _ = valF F v + 0; rw [Rat.add_zero], hv⟩
    | succ L ih =>
      intro hi
      obtain ⟨h1, h2⟩ := ih fun i hl => hi i (by omega)
      have g := h.tight hW hk (hi L (by omega))
      obtain ⟨_, _, _, _, g5, _⟩ := h.at hW (hi L (by omega))
      have e1 : itrF W F (L + 1) v = preF W F (itrF W F L v) := rfl
      have e2 : sumA W F v (L + 1) = sumA W F v L + cstF W F (itrF W F L v) := rfl
      rw [e1, e2]
      exact ⟨by grind, g5⟩
  have hex : ∃ M, M ≤ F0.length ∧ ¬isW F (itrF W F M v) := by
    apply Classical.byContradiction
    intro hn
    have hwi : ∀ i, i ≤ F0.length → isW F (itrF W F i v) := fun i hi => Classical.byContradiction fun q => hn ⟨i, hi, q⟩
    obtain ⟨i, j, hij, hj, e⟩ := pigeon F0.length (fun i => itrF W F i v) fun i hi => (hs i fun t ht => hwi t (by omega)).2
    have e : itrF W F i v = itrF W F j v := e
    have hcyc : itrF W F (j - i) (itrF W F i v) = itrF W F i v := by
      rw [← itr_add, show j - i + i = j by omega, e]
    have hcw : ∀ t, t < j - i → isW F (itrF W F t (itrF W F i v)) := by
      intro t ht
      rw [← itr_add]
      exact hwi _ (by omega)
    have hp := h.ring hW hcw (by omega) hcyc
    have hz : ∀ L, (∀ t, t < L → isW F (itrF W F t (itrF W F i v))) → valF F (itrF W F i v) = valF F (itrF W F L (itrF W F i v)) + sumA W F (itrF W F i v) L := by
      intro L
      induction L with
      | zero => intro _; show _ = valF F _ + 0; rw [Rat.add_zero]; rfl
      | succ L ih =>
        intro hi
        have h1 := ih fun i hl => hi i (by omega)
        have g := h.tight hW hk (hi L (by omega))
        have e1 : itrF W F (L + 1) (itrF W F i v) = preF W F (itrF W F L (itrF W F i v)) := rfl
        have e2 : sumA W F (itrF W F i v) (L + 1) = sumA W F (itrF W F i v) L + cstF W F (itrF W F L (itrF W F i v)) := rfl
        rw [e1, e2]
        grind
    have := hz _ hcw
    rw [hcyc] at this
    grind
  obtain ⟨M0, hM0, hM1⟩ := hex
  obtain ⟨M, h1, h2, h3⟩ := least (P := fun M => ¬isW F (itrF W F M v)) M0 hM1
  have hwi : ∀ i, i < M → isW F (itrF W F i v) := fun i hi => Classical.byContradiction fun q => h3 i hi q
  refine ⟨M, by omega, hwi, h2, (hs M hwi).2, (hs M hwi).1, fun i j hij hj e => ?_⟩
  apply h2
  have : itrF W F M v = itrF W F (M - j + i) v := by
    rw [show M = (M - j) + j by omega, itr_add, ← e, ← itr_add]
    congr 1
    omega
  rw [this]
  exact hwi _ (by omega)
end HP
namespace HP
open PySem L2
def arcD : Arc → D
  | .start w => .tup [.str "start", .int (w : Nat)]
  | .fin w => .tup [.str "end", .int (w : Nat)]
  | .hold k => .tup [.str "hold", .int (k : Nat)]
  | .wait k => .tup [.str "wait", .int (k : Nat)]
abbrev Hd3 := Str × Nat × Rat
def waN (w : Wt) : D := .tup [.int (w.1 : Nat), .int (w.2.1 : Nat), q w.2.2]
def hoN (h : Hd3) : D := .tup [.str h.1, .int (h.2.1 : Nat), q h.2.2]
def tmF (ts : List Rat) (v : Nat) : Rat := (ts[v]?).getD 0
/-- a net's numbers -/
structure NSz (ts : List Rat) (wl : List Wt) (hl : List Hd3) (DD : Nat) : Prop where
  dd0 : DD ≠ 0
  ddb : DD ≤ 2 ^ 3000
  t : ∀ t ∈ ts, t.den ∣ DD ∧ V 95 t
  w : ∀ w ∈ wl, w.2.2.den ∣ DD ∧ V 95 w.2.2
  h : ∀ h ∈ hl, h.2.2.den ∣ DD ∧ V 95 h.2.2
  wok : WOk wl ts.length
  hok : ∀ h ∈ hl, h.2.1 < ts.length ∧ (h.1 = ("from" : Str) ∨ h.1 = ("till" : Str) ∨ h.1 = ("by" : Str))
  pos : 0 < ts.length
  len : ts.length ≤ 10
  wl40 : wl.length ≤ 40
  hl40 : hl.length ≤ 40
def FSz (DD s : Nat) (F : Fd) : Prop := ∀ x ∈ F, x.1.den ∣ DD ∧ V (100 + 2 * s) x.1
def soonS (F : Fd) (k : Nat) (h : Hd3) : Fd := if h.1 = ("from" : Str) then (match F[h.2.1]? with | some a => if a.1 < h.2.2 then F.set h.2.1 (h.2.2, .hold k) else F | none => F) else F
def soonL (hl : List Hd3) (n : Nat) : Nat → Fd
  | 0 => (List.range n).map fun w => (0, Arc.start w)
  | m + 1 => match hl[m]? with
    | some h => soonS (soonL hl n m) m h
    | none => soonL hl n m
section
variable {L : List Fn} {k : Nat} {S : Sto} {ts : List Rat} {wl : List Wt} {hl : List Hd3} {DD : Nat}
def arcsW (ts : List Rat) (wl : List Wt) : List Wt := wl.map fun w => (w.1, w.2.1, tmF ts w.1 + w.2.2)
theorem FSz.mono {s s' : Nat} {F : Fd} (h : FSz DD s F) (e : s ≤ s') : FSz DD s' F := fun x m => ⟨(h x m).1, (h x m).2.mono (by omega)⟩
end
end HP
namespace HP
open PySem L2
def adjF (ts : List Rat) (h : Hd3) : Rat := if h.1 = ("by" : Str) then h.2.2 - tmF ts h.2.1 else h.2.2
abbrev Ld := List (Option (Rat × Arc))
def letS (ts : List Rat) (F : Ld) (k : Nat) (h : Hd3) : Ld :=
  if h.1 = ("from" : Str) then F else (match F[h.2.1]? with
    | some none => F.set h.2.1 (some (adjF ts h, .hold k))
    | some (some a) => if adjF ts h < a.1 then F.set h.2.1 (some (adjF ts h, .hold k)) else F
    | none => F)
def letIni (ts : List Rat) : Option Rat → Ld
  | none => (List.range ts.length).map fun _ => none
  | some w => (List.range ts.length).map fun i => some (w - tmF ts i, .fin i)
def letL (ts : List Rat) (w : Option Rat) (hl : List Hd3) : Nat → Ld
  | 0 => letIni ts w
  | m + 1 => match hl[m]? with
    | some h => letS ts (letL ts w hl m) m h
    | none => letL ts w hl m
/-- what is told of the latest starts -/
structure LetOk (ts : List Rat) (w : Option Rat) (hl : List Hd3) (m v : Nat) (o : Option (Rat × Arc)) : Prop where
  non : o = none → w = none ∧ ∀ (k : Nat) (h : Hd3), k < m → hl[k]? = some h → h.2.1 = v → h.1 = ("from" : Str)
  told : ∀ x a, o = some (x, a) → ((∃ u, w = some u ∧ a = .fin v ∧ x = u - tmF ts v) ∨ ∃ k h, a = .hold k ∧ hl[k]? = some h ∧ h.2.1 = v ∧ h.1 ≠ ("from" : Str) ∧ x = adjF ts h) ∧ (∀ (k : Nat) (h : Hd3), k < m → hl[k]? = some h → h.2.1 = v → h.1 ≠ ("from" : Str) → x ≤ adjF ts h) ∧ ∀ u, w = some u → x ≤ u - tmF ts v
section
variable {L : List Fn} {k : Nat} {S : Sto} {ts : List Rat} {wl : List Wt} {hl : List Hd3} {DD : Nat}
def owD : Option Rat → D
  | none => .non
  | some w => q w
end
end HP
namespace HP
open PySem L2
def arcF (F : Fd) (v : Nat) : Arc := match F[v]? with
  | some x => x.2
  | none => .start 0
def wayL (W : List Wt) (F : Fd) (v M : Nat) : List Arc := (List.range M).map fun i => arcF F (itrF W F i v)
theorem BInv.in {W : List Wt} {F0 F : Fd} {r m now : Nat} {ρ τ : Nat → Nat} (h : BInv W F0 r m F ρ τ now) (hW : WOk W F0.length) {v : Nat} (hv : v < F0.length) : ∀ M, (∀ i, i < M → isW F (itrF W F i v)) → itrF W F M v < F0.length
  | 0, _ => hv
  | M + 1, hi => (h.at hW (hi M (Nat.lt_succ_self _))).2.2.2.2.1
/-- the list of found values -/
structure FAt (ds : List D) (F : Fd) : Prop where
  len : ds.length = F.length
  at_ : ∀ (v : Nat) (x : Rat) (a : Arc), F[v]? = some (x, a) → ∃ y, noExc y = true ∧ ds[v]? = some (.tup [y, arcD a])
section
variable {L : List Fn} {k : Nat} {S : Sto}
end
end HP
namespace HP
open PySem L2
inductive ERes where
  | ring (as : List Arc)
  | starts (xs : List Rat)
def earF (ts : List Rat) (wl : List Wt) (hl : List Hd3) : Fd × Option Nat := roundsF (arcsW ts wl) (soonL hl ts.length hl.length) ts.length
inductive EIs (ts : List Rat) (wl : List Wt) (hl : List Hd3) : ERes → Prop where
  | ring {v R : Nat} (h : (earF ts wl hl).2 = some v) (hR : 1 ≤ R) (hc : itrF (arcsW ts wl) (earF ts wl hl).1 R (itrF (arcsW ts wl) (earF ts wl hl).1 ts.length v) = itrF (arcsW ts wl) (earF ts wl hl).1 ts.length v)
      (hm : ∀ j, 1 ≤ j → j < R → itrF (arcsW ts wl) (earF ts wl hl).1 j (itrF (arcsW ts wl) (earF ts wl hl).1 ts.length v) ≠ itrF (arcsW ts wl) (earF ts wl hl).1 ts.length v) :
      EIs ts wl hl (.ring (wayL (arcsW ts wl) (earF ts wl hl).1 (itrF (arcsW ts wl) (earF ts wl hl).1 ts.length v) R))
  | way {v M : Nat} {x : Rat} {a : Arc} (h : (earF ts wl hl).2 = none) (hv : (letL ts none hl hl.length)[v]? = some (some (x, a))) (hlt : x < valF (earF ts wl hl).1 v)
      (hf : ∀ (u : Nat) (y : Rat) (b : Arc), u < v → (letL ts none hl hl.length)[u]? = some (some (y, b)) → ¬y < valF (earF ts wl hl).1 u)
      (hi : ∀ i, i < M → isW (earF ts wl hl).1 (itrF (arcsW ts wl) (earF ts wl hl).1 i v)) (hn : ¬isW (earF ts wl hl).1 (itrF (arcsW ts wl) (earF ts wl hl).1 M v)) :
      EIs ts wl hl (.ring (wayL (arcsW ts wl) (earF ts wl hl).1 v (M + 1) ++ [a]))
  | starts (h : (earF ts wl hl).2 = none) (hk : ∀ (u : Nat) (y : Rat) (b : Arc), (letL ts none hl hl.length)[u]? = some (some (y, b)) → ¬y < valF (earF ts wl hl).1 u) : EIs ts wl hl (.starts ((earF ts wl hl).1.map (·.1)))
def cwI (w : Wt) : Int × Int × Rat := ((w.1 : Nat), (w.2.1 : Nat), w.2.2)
def chI (h : Hd3) : Str × Int × Rat := (h.1, (h.2.1 : Nat), h.2.2)
theorem cw_map (wl : List Wt) : (wl.map cwI).map waD = wl.map waN := by rw [List.map_map]; rfl
theorem ch_map (hl : List Hd3) : (hl.map chI).map hoD = hl.map hoN := by rw [List.map_map]; rfl
section
variable {L : List Fn} {k : Nat} {S : Sto} {ts : List Rat} {wl : List Wt} {hl : List Hd3} {DD : Nat}
end
end HP
namespace HP
open PySem L2
def ind (u x : Nat) : Int := if x = u then 1 else 0
def incF (wl : List Wt) (hl : List Hd3) (u : Nat) : Arc → Int
  | .start w => ind u w
  | .fin _ => 0
  | .wait k => match wl[k]? with
    | some w => ind u w.2.1
    | none => 0
  | .hold k => match hl[k]? with
    | some h => if h.1 = ("by" : Str) then 0 else if h.1 = ("from" : Str) then ind u h.2.1 else -ind u h.2.1
    | none => 0
def ofcF (wl : List Wt) (hl : List Hd3) (u : Nat) : Arc → Int
  | .start _ => 0
  | .fin w => ind u w
  | .wait k => match wl[k]? with
    | some w => ind u w.1
    | none => 0
  | .hold k => match hl[k]? with
    | some h => if h.1 = ("by" : Str) then ind u h.2.1 else 0
    | none => 0
def inW (wl : List Wt) (hl : List Hd3) (P : List Arc) (u : Nat) : Int := (P.map (incF wl hl u)).sum
def ofW (wl : List Wt) (hl : List Hd3) (P : List Arc) (u : Nat) : Int := (P.map (ofcF wl hl u)).sum
def ArcOk (n : Nat) (wl : List Wt) (hl : List Hd3) : Arc → Prop
  | .start w => w < n
  | .fin w => w < n
  | .wait k => k < wl.length
  | .hold k => k < hl.length
theorem isum_app (xs ys : List Int) : (xs ++ ys).sum = xs.sum + ys.sum := by
  induction xs with
  | nil => simp
  | cons x xs ih => rw [List.cons_append, List.sum_cons, List.sum_cons, ih]; omega
/-- what a paper must be -/
structure PapOk (n : Nat) (wl : List Wt) (hl : List Hd3) (P : List Arc) : Prop where
  ok : ∀ a ∈ P, ArcOk n wl hl a
  nd : P.Pairwise (· ≠ ·)
  bal : ∀ u, inW wl hl P u = ofW wl hl P u
section
variable {ts : List Rat} {wl : List Wt} {hl : List Hd3} {F0 F : Fd} {r m now : Nat} {ρ τ : Nat → Nat}
end
/-- starts that keep all -/
structure Keeps (ts : List Rat) (wl : List Wt) (hl : List Hd3) (xs : List Rat) : Prop where
  len : xs.length = ts.length
  nn : ∀ x ∈ xs, 0 ≤ x
  w : ∀ w ∈ wl, tmF xs w.1 + tmF ts w.1 + w.2.2 ≤ tmF xs w.2.1
  fr : ∀ h ∈ hl, h.1 = ("from" : Str) → h.2.2 ≤ tmF xs h.2.1
  ti : ∀ h ∈ hl, h.1 = ("till" : Str) → tmF xs h.2.1 ≤ h.2.2
  by_ : ∀ h ∈ hl, h.1 = ("by" : Str) → tmF xs h.2.1 + tmF ts h.2.1 ≤ h.2.2
end HP
namespace HP
open PySem L2
def ChF (xs ts : List Rat) (wl : List Wt) (hl : List Hd3) : Nat → Nat → Prop
  | 0, v => tmF xs v = 0 ∨ ∃ h ∈ hl, h.1 = ("from" : Str) ∧ h.2.1 = v ∧ tmF xs v = h.2.2
  | i + 1, v => ChF xs ts wl hl i v ∨ ∃ w ∈ wl, w.2.1 = v ∧ ChF xs ts wl hl i w.1 ∧ tmF xs v = tmF xs w.1 + tmF ts w.1 + w.2.2
theorem ChF.mono {xs ts : List Rat} {wl : List Wt} {hl : List Hd3} {i v : Nat} (h : ChF xs ts wl hl i v) : ∀ {j}, i ≤ j → ChF xs ts wl hl j v := by
  intro j hj
  obtain ⟨d, rfl⟩ : ∃ d, j = i + d := ⟨j - i, by omega⟩
  clear hj
  induction d with
  | zero => exact h
  | succ d ih => exact Or.inl ih
end HP
namespace HP
open PySem L2
def arcsR (ts : List Rat) (wl : List Wt) : List Wt := wl.map fun w => (w.2.1, w.1, tmF ts w.1 + w.2.2)
def letN (ts : List Rat) (w : Rat) (hl : List Hd3) : Fd := (letL ts (some w) hl hl.length).map fun o => match o with
  | some x => (-x.1, x.2)
  | none => (0, .start 0)
section
variable {L : List Fn} {k : Nat} {S : Sto} {ts : List Rat} {wl : List Wt} {hl : List Hd3} {DD : Nat}
theorem V.neg {x : Rat} {a : Nat} (h : V a x) : V a (-x) := (sz_den x h).neg.v
end
def latF (ts : List Rat) (wl : List Wt) (hl : List Hd3) (w : Rat) : Fd × Option Nat := roundsF (arcsR ts wl) (letN ts w hl) ts.length
inductive LIs (ts : List Rat) (wl : List Wt) (hl : List Hd3) (w : Rat) : ERes → Prop where
  | ring {v R : Nat} (h : (latF ts wl hl w).2 = some v) (hR : 1 ≤ R) (hc : itrF (arcsR ts wl) (latF ts wl hl w).1 R (itrF (arcsR ts wl) (latF ts wl hl w).1 ts.length v) = itrF (arcsR ts wl) (latF ts wl hl w).1 ts.length v)
      (hm : ∀ j, 1 ≤ j → j < R → itrF (arcsR ts wl) (latF ts wl hl w).1 j (itrF (arcsR ts wl) (latF ts wl hl w).1 ts.length v) ≠ itrF (arcsR ts wl) (latF ts wl hl w).1 ts.length v) :
      LIs ts wl hl w (.ring (wayL (arcsR ts wl) (latF ts wl hl w).1 (itrF (arcsR ts wl) (latF ts wl hl w).1 ts.length v) R))
  | way {v M : Nat} {x : Rat} {a : Arc} (h : (latF ts wl hl w).2 = none) (hv : (soonL hl ts.length hl.length)[v]? = some (x, a)) (hlt : -valF (latF ts wl hl w).1 v < x)
      (hf : ∀ (u : Nat) (y : Rat) (b : Arc), u < v → (soonL hl ts.length hl.length)[u]? = some (y, b) → ¬-valF (latF ts wl hl w).1 u < y)
      (hi : ∀ i, i < M → isW (latF ts wl hl w).1 (itrF (arcsR ts wl) (latF ts wl hl w).1 i v)) (hn : ¬isW (latF ts wl hl w).1 (itrF (arcsR ts wl) (latF ts wl hl w).1 M v)) :
      LIs ts wl hl w (.ring (a :: wayL (arcsR ts wl) (latF ts wl hl w).1 v (M + 1)))
  | starts (h : (latF ts wl hl w).2 = none) (hk : ∀ (u : Nat) (y : Rat) (b : Arc), (soonL hl ts.length hl.length)[u]? = some (y, b) → ¬-valF (latF ts wl hl w).1 u < y) : LIs ts wl hl w (.starts ((latF ts wl hl w).1.map fun x => -x.1))
section
variable {L : List Fn} {k : Nat} {S : Sto} {ts : List Rat} {wl : List Wt} {hl : List Hd3} {DD : Nat}
end
end HP
namespace HP
open PySem L2
section
variable {ts : List Rat} {wl : List Wt} {hl : List Hd3} {F0 F : Fd} {r m now : Nat} {ρ τ : Nat → Nat}
end
def ChL (xs ts : List Rat) (wl : List Wt) (hl : List Hd3) (w : Rat) : Nat → Nat → Prop
  | 0, v => tmF xs v + tmF ts v = w ∨ ∃ h ∈ hl, h.2.1 = v ∧ ((h.1 = ("till" : Str) ∧ tmF xs v = h.2.2) ∨ (h.1 = ("by" : Str) ∧ tmF xs v + tmF ts v = h.2.2))
  | i + 1, v => ChL xs ts wl hl w i v ∨ ∃ y ∈ wl, y.1 = v ∧ ChL xs ts wl hl w i y.2.1 ∧ tmF xs y.2.1 = tmF xs v + tmF ts v + y.2.2
theorem ChL.mono {xs ts : List Rat} {wl : List Wt} {hl : List Hd3} {w : Rat} {i v : Nat} (h : ChL xs ts wl hl w i v) : ∀ {j}, i ≤ j → ChL xs ts wl hl w j v := by
  intro j hj
  obtain ⟨d, rfl⟩ : ∃ d, j = i + d := ⟨j - i, by omega⟩
  clear hj
  induction d with
  | zero => exact h
  | succ d ih => exact Or.inl ih
end HP
namespace HP
open PySem L2
def B_begun : Fn := ⟨2, 3,
 (.cons (.set 2 (.int 0))
 (.cons (.ite (.cmp .ne (.var 0) (.lst .nil)) (.cons (.set 2 (.ix (.var 0) (.bin .mod (.var 1) (.bcall .len (.cons (.var 0) .nil)))))
 .nil) .nil)
 (.cons (.ret (.lst (.cons (.var 2) (.cons (.bin .mod (.bin .add (.bin .add (.bin .mod (.var 2) (.int 2147483587)) (.bin .mul (.bin .mul (.int 104729) (.var 1)) (.var 1))) (.int 7)) (.int 2147483587)) (.cons (.cmp .ge (.var 2) (.bin .pow (.int 10) (.int 18))) .nil)))))
 .nil)))⟩
def B_shape : Fn := ⟨2, 14,
 (.cons (.set 2 (.call 1000 (.cons (.var 0) (.cons (.int 1) .nil))))
 (.cons (.set 3 (.ix (.lst (.cons (.int 1) (.cons (.int 2) (.cons (.int 3) (.cons (.int 4) (.cons (.int 5) (.cons (.int 5) (.cons (.int 7) (.cons (.int 10) .nil))))))))) (.call 1001 (.cons (.var 2) (.cons (.int 8) .nil)))))
 (.cons (.set 4 (.bin .add (.int 1) (.call 1001 (.cons (.var 2) (.cons (.int 8) .nil)))))
 (.cons (.set 5 (.call 1001 (.cons (.var 2) (.cons (.int 8) .nil))))
 (.cons (.set 6 (.bin .mul (.int 40) (.bcall .int (.cons (.cmp .eq (.call 1001 (.cons (.var 2) (.cons (.int 8) .nil))) (.int 5)) .nil))))
 (.cons (.set 7 (.lst .nil))
 (.cons (.for_ (.name 8) (.rng1 (.var 3)) (.cons (.set 9 (.call 1000 (.cons (.var 0) (.cons (.bin .add (.int 2) (.var 8)) .nil))))
 (.cons (.set 10 (.ix (.var 1) (.call 1001 (.cons (.var 9) (.cons (.bcall .len (.cons (.var 1) .nil)) .nil)))))
 (.cons (.expr (.meth .append (.var 7) (.cons (.tup (.cons (.bin .mul (.ix (.str "hcjafdibge") (.var 8)) (.var 4)) (.cons (.call 1008 (.cons (.var 9) (.cons (.var 10) (.cons (.int 5) (.cons (.bl false) .nil))))) .nil))) .nil)))
 .nil))))
 (.cons (.set 11 (.lst .nil))
 (.cons (.set 12 (.lst .nil))
 (.cons (.for_ (.name 8) (.rng2 (.int 7) (.bin .add (.bcall .max (.cons (.bin .add (.int 7) (.var 5)) (.cons (.bcall .min (.cons (.bcall .len (.cons (.var 0) .nil)) (.cons (.int 40) .nil))) .nil))) (.bin .mul (.int 2) (.var 6)))) (.cons (.set 9 (.call 1000 (.cons (.var 0) (.cons (.var 8) .nil))))
 (.cons (.set 13 (.call 1001 (.cons (.var 9) (.cons (.var 3) .nil))))
 (.cons (.ite (.band (.cons (.cmp .gt (.var 3) (.int 1)) (.cons (.cmp .lt (.call 1001 (.cons (.var 9) (.cons (.int 3) .nil))) (.int 2)) (.cons (.cmp .lt (.bcall .len (.cons (.var 11) .nil)) (.int 40)) .nil)))) (.cons (.expr (.meth .append (.var 11) (.cons (.tup (.cons (.var 13) (.cons (.bin .mod (.bin .add (.bin .add (.var 13) (.int 1)) (.call 1001 (.cons (.var 9) (.cons (.bin .sub (.var 3) (.int 1)) .nil)))) (.var 3)) .nil))) .nil)))
 .nil) (.cons (.ite (.cmp .lt (.bcall .len (.cons (.var 12) .nil)) (.int 40)) (.cons (.expr (.meth .append (.var 12) (.cons (.tup (.cons (.ix (.lst (.cons (.str "from") (.cons (.str "till") (.cons (.str "by") .nil)))) (.call 1001 (.cons (.var 9) (.cons (.int 3) .nil)))) (.cons (.var 13) .nil))) .nil)))
 .nil) .nil)
 .nil))
 .nil))))
 (.cons (.ret (.tup (.cons (.var 7) (.cons (.var 11) (.cons (.var 12) .nil)))))
 .nil)))))))))))⟩
/-- the first nine defs of the family -/
structure FB0 (G : Tab) : Prop where
  beg : G 1000 = some B_begun
  tak : G 1001 = some (K_take 39373 17 2147483587)
  low : G 1002 = some K_low
  plus : G 1003 = some (K_plus 1002)
  minus : G 1004 = some (K_minus 1002)
  times : G 1005 = some (K_times 1002)
  under : G 1006 = some K_under
  amount : G 1007 = some (K_amount 1001 1002)
  offer : G 1008 = some (K_offer 1001 1003 1004 1005 1007)
theorem FB0.take {G : Tab} (F : FB0 G) : Takes G 1001 := takes_A F.tak
abbrev WL (T : Sto) (n0 : Nat) (ws : List Wk) : Prop := ∀ w ∈ ws, WkOk w ∧ PyData.strOk w.nm = true ∧ n0 ≤ w.lc ∧ T[w.lc]? = some (.lst (w.cs.map pr))
/-- the works' kinds -/
structure Kinds (kinds : List Str) : Prop where
  one : 0 < kinds.length
  ten : kinds.length ≤ 10
  kd : ∀ x ∈ kinds, x = ("straight" : Str) ∨ x = ("steps" : Str)
section
variable {G : Tab} {k : Nat} {S : Sto}
end 
end HP
namespace HP
open PySem L2
/-- a told list made of another one -/
theorem comp_ok {A : Type} {c : Call} {x : E} {tg : Tg} {cd : Eo} {own : List Nat} {r : Ev} {S : Sto} {xs : List A} {enc : A → D} {f : A → Bool} {g : A → D} {ck : Ck} {Q : D → Sto → Prop} (hlen : xs.length < 1000000)
    (hck : ∀ T, Ag (fun _ => False) S T → Still ck T)
    (hs : ∀ (i : Nat) (a : A), xs[i]? = some a → ∀ T, Ag (fun _ => False) S T → ∃ r1, asgT tg (enc a) (wipeD r own) = some r1 ∧ Wp (evC c cd r1 T) fun b T1 => b = f a ∧ Ag (fun _ => False) T T1 ∧ (f a = true → Wp (evE c x r1 T1) fun d T2 => d = g a ∧ Ag (fun _ => False) T1 T2))
    (q : ∀ T, Ag (fun _ => False) S T → T[S.length]? = some (.lst ((xs.filter f).map g)) → Q (.loc S.length) T) :
    Wp (compE c x tg cd own r S.length (xs.map enc, ck) (S ++ [.lst []])) Q := by
  refine compE_inv (fun j T => Ag (fun _ => False) S T ∧ T[S.length]? = some (.lst (((xs.take j).filter f).map g))) ⟨Ag.app, app_get⟩ (fun j T _ hh => hck T hh.1) ?_ ?_
  · rintro j d T hd ⟨hag, hn⟩
    rw [List.getElem?_map, Option.map_eq_some_iff] at hd
    obtain ⟨a, ha, rfl⟩ := hd
    obtain ⟨r1, h1, h2⟩ := hs j a ha T hag
    refine ⟨r1, h1, wp_mono h2 ?_⟩
    rintro b T1 ⟨rfl, hag1, h3⟩
    have hn1 := hag1.get hn id
    have hB1 := hag.trans hag1
    refine ⟨fun e => ?_, fun e => ?_⟩
    · refine wp_mono (h3 e) ?_
      rintro d T2 ⟨rfl, hag2⟩
      have hn2 := hag2.get hn1 id
      refine ⟨_, hn2, ?_, (hB1.trans hag2).new (Ag.set (Or.inl (Or.inr (Nat.le_refl _)))), ?_⟩
      · rw [List.length_map]
        have := List.length_filter_le f (xs.take j)
        rw [List.length_take] at this
        show _ < 16777216
        omega
      · rw [set_get hn2, take_succ_get ha, List.filter_append, List.map_append, List.filter_cons_of_pos e]
        rfl
    · refine ⟨hB1, ?_⟩
      rw [take_succ_get ha, List.filter_append, List.map_append, List.filter_cons_of_neg (by rw [e]; exact Bool.false_ne_true)]
      simpa using hn1
  · rintro T ⟨hag, hn⟩
    rw [List.length_map, List.take_length] at hn
    exact q T hag hn
/-- .. of all of it -/
theorem comp_all {A : Type} {c : Call} {x : E} {tg : Tg} {own : List Nat} {r : Ev} {S : Sto} {xs : List A} {enc : A → D} {g : A → D} {ck : Ck} {Q : D → Sto → Prop} (hlen : xs.length < 1000000)
    (hck : ∀ T, Ag (fun _ => False) S T → Still ck T)
    (hs : ∀ (i : Nat) (a : A), xs[i]? = some a → ∀ T, Ag (fun _ => False) S T → ∃ r1, asgT tg (enc a) (wipeD r own) = some r1 ∧ Wp (evE c x r1 T) fun d T2 => d = g a ∧ Ag (fun _ => False) T T2)
    (q : ∀ T, Ag (fun _ => False) S T → T[S.length]? = some (.lst (xs.map g)) → Q (.loc S.length) T) :
    Wp (compE c x tg .none own r S.length (xs.map enc, ck) (S ++ [.lst []])) Q := by
  refine comp_ok (f := fun _ => true) (g := g) hlen hck (fun i a ha T hT => ?_) (fun T hT hn => q T hT ?_)
  · obtain ⟨r1, h1, h2⟩ := hs i a ha T hT
    exact ⟨r1, h1, wpc_none ⟨rfl, Ag.rfl, fun _ => h2⟩⟩
  · rw [hn, List.filter_eq_self.2 fun _ _ => rfl]
/-- numbers from nought on -/
def nD (k : Nat) : D := .int (k : Nat)
theorem nD_ints (us : List Nat) : us.map nD = (us.map fun u : Nat => (u : Int)).map D.int := by rw [List.map_map]; rfl
theorem eqv_int (a b : Int) : PyData.eqv (.int a) (.int b) = decide (a = b) := by
  show (a == b) = _
  by_cases h : a = b
  · subst h; simp
  · rw [decide_eq_false h]; simpa using h
theorem wm_index {S : Sto} {l j : Nat} {y : D} {xs : List PyData} {d : PyData} {Q : D → Sto → Prop} (h1 : rdD S 200 (.loc l) = some (.list xs)) (h2 : rdD S 200 y = some d) (c1 : SeqAt.shaped (.list xs) = true) (c2 : SeqAt.shaped d = true) (hf : firstEq d xs = some j) (k : Q (.int (j : Nat)) S) : Wp (mtD S .index (.loc l) [y]) Q := by
  unfold mtD
  dsimp only
  rw [h1, h2]
  dsimp only
  rw [if_pos ⟨c1, c2⟩, hf]
  exact wp_ok k
/-- a list held against the empty one -/
theorem ne_nil {S : Sto} {n m : Nat} {ds : List D} {xs : List PyData} {Q : D → Sto → Prop} (hd : Dt (fun _ => True) S (.list xs) (.loc n)) (hc : Cmp (.list xs)) (h2 : S[m]? = some (.lst [])) (k : Q (.bl (!xs.isEmpty)) S) : Wp (cmpD S .ne (.loc n) (.loc m)) Q := by
  refine wc_ne (eq_loc hd (dt_nil h2) hc lay_nil.cmp) ?_
  have : PyData.eqv (.list xs) (.list []) = xs.isEmpty := by cases xs <;> rfl
  rw [this]
  exact k
theorem dt_nats {S : Sto} {n : Nat} {us : List Nat} (h : S[n]? = some (.lst (us.map nD))) : Dt (fun _ => True) S (.list ((us.map fun u : Nat => (u : Int)).map PyData.int)) (.loc n) := by
  rw [nD_ints] at h
  exact dt_ints h trivial
theorem ixN_nat {j n : Nat} (h : j < n) : ixN n (j : Int) = some j := by
  unfold ixN
  rw [if_pos (by omega), if_pos (by omega)]
  simp
def w2N (w : Nat × Nat) : D := .tup [.int (w.1 : Nat), .int (w.2 : Nat)]
def h2N (h : Str × Nat) : D := .tup [.str h.1, .int (h.2 : Nat)]
abbrev HKind (s : Str) : Prop := s = ("from" : Str) ∨ s = ("till" : Str) ∨ s = ("by" : Str)
/-- a drawn shape in the store -/
structure ShpAt (S : Sto) (n0 : Nat) (d : D) (ws : List Wk) (wz : List (Nat × Nat)) (hz : List (Str × Nat)) : Prop where
  form : ∃ a b c, d = .tup [.loc a, .loc b, .loc c] ∧ n0 ≤ a ∧ n0 ≤ b ∧ n0 ≤ c ∧ S[a]? = some (.lst (ws.map wkD)) ∧ S[b]? = some (.lst (wz.map w2N)) ∧ S[c]? = some (.lst (hz.map h2N))
  wk : WL S n0 ws
structure ShpOk (n : Nat) (wz : List (Nat × Nat)) (hz : List (Str × Nat)) : Prop where
  one : 0 < n
  ten : n ≤ 10
  w40 : wz.length ≤ 40
  h40 : hz.length ≤ 40
  wok : ∀ w ∈ wz, w.1 < n ∧ w.2 < n ∧ w.1 ≠ w.2
  hok : ∀ h ∈ hz, HKind h.1 ∧ h.2 < n
theorem ShpAt.ag {P : Nat → Prop} {S S' : Sto} {n0 : Nat} {d : D} {ws : List Wk} {wz : List (Nat × Nat)} {hz : List (Str × Nat)} (h : ShpAt S n0 d ws wz hz) (k : Ag P S S') (hp : ∀ i, P i → i < n0) : ShpAt S' n0 d ws wz hz := by
  obtain ⟨⟨a, b, c, e, h1, h2, h3, g1, g2, g3⟩, h4⟩ := h
  have q : ∀ {i : Nat}, n0 ≤ i → ¬P i := fun hi h => by have := hp _ h; omega
  exact ⟨⟨a, b, c, e, h1, h2, h3, k.get g1 (q h1), k.get g2 (q h2), k.get g3 (q h3)⟩, fun w m => ⟨(h4 w m).1, (h4 w m).2.1, (h4 w m).2.2.1, k.get (h4 w m).2.2.2 (q (h4 w m).2.2.1)⟩⟩
end HP
namespace HP
open PySem L2
def incE (wz : List (Nat × Nat)) (hz : List (Str × Nat)) (u : Nat) : Arc → Int
  | .start w => ind u w
  | .fin _ => 0
  | .wait k => match wz[k]? with
    | some w => ind u w.2
    | none => 0
  | .hold k => match hz[k]? with
    | some h => if h.1 = ("by" : Str) then 0 else if h.1 = ("from" : Str) then ind u h.2 else -ind u h.2
    | none => 0
def ofcE (wz : List (Nat × Nat)) (hz : List (Str × Nat)) (u : Nat) : Arc → Int
  | .start _ => 0
  | .fin w => ind u w
  | .wait k => match wz[k]? with
    | some w => ind u w.1
    | none => 0
  | .hold k => match hz[k]? with
    | some h => if h.1 = ("by" : Str) then ind u h.2 else 0
    | none => 0
def ArcE (n : Nat) (wz : List (Nat × Nat)) (hz : List (Str × Nat)) : Arc → Prop
  | .start w => w < n
  | .fin w => w < n
  | .wait k => k < wz.length
  | .hold k => k < hz.length
structure WalkOk (n : Nat) (wz : List (Nat × Nat)) (hz : List (Str × Nat)) (as : List Arc) : Prop where
  ok : ∀ a ∈ as, ArcE n wz hz a
  nd : as.Pairwise (· ≠ ·)
  bal : ∀ u, (as.map (incE wz hz u)).sum = (as.map (ofcE wz hz u)).sum
  len : as.length ≤ 12
/-- a path along waits -/
def PathL (wz : List (Nat × Nat)) : Nat → List Nat → Nat → Prop
  | a, [], b => a = b
  | a, k :: ks, b => ∃ w, wz[k]? = some w ∧ w.1 = a ∧ PathL wz w.2 ks b
theorem PathL.snoc {wz : List (Nat × Nat)} {k : Nat} {w : Nat × Nat} (h : wz[k]? = some w) : ∀ {ks : List Nat} {a : Nat}, PathL wz a ks w.1 → PathL wz a (ks ++ [k]) w.2
  | [], a, p => ⟨w, h, (show a = w.1 from p).symm, rfl⟩
  | j :: ks, a, ⟨x, h1, h2, h3⟩ => ⟨x, h1, h2, PathL.snoc h h3⟩
theorem PathL.bal {wz : List (Nat × Nat)} {hz : List (Str × Nat)} {u : Nat} : ∀ {ks : List Nat} {a b : Nat}, PathL wz a ks b → ((ks.map Arc.wait).map (incE wz hz u)).sum - ((ks.map Arc.wait).map (ofcE wz hz u)).sum = ind u b - ind u a
  | [], a, b, h => by cases (h : a = b); show (0 : Int) - 0 = _; omega
  | k :: ks, a, b, ⟨w, h1, h2, h3⟩ => by
    have ih := PathL.bal (hz := hz) (u := u) h3
    rw [List.map_cons, List.map_cons, List.map_cons, List.sum_cons, List.sum_cons]
    have e1 : incE wz hz u (.wait k) = ind u w.2 := by unfold incE; dsimp only; rw [h1]
    have e2 : ofcE wz hz u (.wait k) = ind u w.1 := by unfold ofcE; dsimp only; rw [h1]
    rw [e1, e2, h2]
    omega
theorem PathL.lt {wz : List (Nat × Nat)} : ∀ {ks : List Nat} {a b : Nat}, PathL wz a ks b → ∀ k ∈ ks, k < wz.length
  | [], _, _, _ => fun k m => nomatch m
  | j :: ks, a, b, ⟨w, h1, h2, h3⟩ => fun k m => by
    rcases List.mem_cons.1 m with rfl | m
    · exact (List.getElem?_eq_some_iff.1 h1).1
    · exact PathL.lt h3 k m
/-- a walk so far: the works seen, the waits gone along -/
structure Trav (n : Nat) (wz : List (Nat × Nat)) (us ks : List Nat) (cur : Nat) : Prop where
  len : us.length = ks.length + 1
  nd : us.Nodup
  lt : ∀ u ∈ us, u < n
  at_ : us[ks.length]? = some cur
  path : ∀ (j x : Nat), us[j]? = some x → PathL wz x (ks.drop j) cur
  kn : ks.Pairwise (· ≠ ·)
  src : ∀ k ∈ ks, ∃ w, wz[k]? = some w ∧ w.1 ∈ us ∧ w.1 ≠ cur
theorem Trav.ten {n : Nat} {wz : List (Nat × Nat)} {us ks : List Nat} {cur : Nat} (h : Trav n wz us ks cur) : us.length ≤ n := by
  by_cases c : us.length ≤ n
  · exact c
  · exfalso
    obtain ⟨i, j, h1, h2, h3⟩ := pigeon n (fun i => us[i]?.getD 0) (fun i hi => by
      obtain ⟨x, hx⟩ := get_some (xs := us) (i := i) (by omega)
      show us[i]?.getD 0 < n
      rw [hx]
      exact h.lt x (List.mem_of_getElem? hx))
    obtain ⟨x, hx⟩ := get_some (xs := us) (i := i) (by omega)
    obtain ⟨y, hy⟩ := get_some (xs := us) (i := j) (by omega)
    have h3 : us[i]?.getD 0 = us[j]?.getD 0 := h3
    rw [hx, hy] at h3
    have h3 : x = y := h3
    subst h3
    have q := List.pairwise_iff_getElem.1 h.nd i j (by omega) (by omega) h1
    obtain ⟨a1, a2⟩ := List.getElem?_eq_some_iff.1 hx
    obtain ⟨b1, b2⟩ := List.getElem?_eq_some_iff.1 hy
    exact q (by rw [a2, b2])
theorem Trav.start {n : Nat} {wz : List (Nat × Nat)} {v : Nat} (h : v < n) : Trav n wz [v] [] v where
  len := rfl
  nd := by simp
  lt := fun u m => by rw [List.mem_singleton.1 m]; exact h
  at_ := rfl
  path := fun j x e => by
    cases j with
    | zero => cases e; exact rfl
    | succ j => cases e
  kn := List.Pairwise.nil
  src := fun k m => nomatch m
/-- one wait more -/
theorem Trav.kn2 {n : Nat} {wz : List (Nat × Nat)} {us ks : List Nat} {k : Nat} {w : Nat × Nat} (h : Trav n wz us ks w.1) (hk : wz[k]? = some w) : (ks ++ [k]).Pairwise (· ≠ ·) := by
  rw [List.pairwise_append]
  refine ⟨h.kn, List.pairwise_singleton _ _, fun a ma b mb => ?_⟩
  rw [List.mem_singleton.1 mb]
  rintro rfl
  obtain ⟨x, hx, _, h2⟩ := h.src a ma
  rw [hk] at hx
  cases hx
  exact h2 rfl
theorem Trav.path2 {n : Nat} {wz : List (Nat × Nat)} {us ks : List Nat} {k : Nat} {w : Nat × Nat} (h : Trav n wz us ks w.1) (hk : wz[k]? = some w) {j x : Nat} (e : us[j]? = some x) : PathL wz x ((ks ++ [k]).drop j) w.2 := by
  have hj := (List.getElem?_eq_some_iff.1 e).1
  have hl := h.len
  rw [List.drop_append_of_le_length (by omega)]
  exact PathL.snoc hk (h.path j x e)
theorem Trav.more {n : Nat} {wz : List (Nat × Nat)} {us ks : List Nat} {k : Nat} {w : Nat × Nat} (h : Trav n wz us ks w.1) (hk : wz[k]? = some w) (hw : w.2 < n) (hn : w.2 ∉ us) : Trav n wz (us ++ [w.2]) (ks ++ [k]) w.2 where
  len := by rw [List.length_append, List.length_append, h.len]; rfl
  nd := by
    rw [List.nodup_append]
    refine ⟨h.nd, by simp, fun a ma b mb => ?_⟩
    rw [List.mem_singleton.1 mb]
    rintro rfl
    exact hn ma
  lt := fun u m => by
    rcases List.mem_append.1 m with m | m
    · exact h.lt u m
    · rw [List.mem_singleton.1 m]; exact hw
  at_ := by
    have := h.len
    rw [List.length_append, List.getElem?_append_right (by show us.length ≤ ks.length + 1; omega)]
    rw [show (ks.length + [k].length - us.length) = 0 by show ks.length + 1 - us.length = 0; omega]
    rfl
  path := fun j x e => by
    rcases app1_get e with e | ⟨rfl, rfl⟩
    · exact h.path2 hk e
    · rw [List.drop_eq_nil_of_le (by rw [List.length_append, h.len]; show ks.length + 1 ≤ _; omega)]
      exact rfl
  kn := h.kn2 hk
  src := fun a m => by
    rcases List.mem_append.1 m with m | m
    · obtain ⟨x, hx, h1, _⟩ := h.src a m
      exact ⟨x, hx, List.mem_append_left _ h1, fun e => hn (by rw [← e]; exact h1)⟩
    · rw [List.mem_singleton.1 m]
      refine ⟨w, hk, List.mem_append_left _ (List.mem_of_getElem? h.at_), fun e => hn (by rw [← e]; exact List.mem_of_getElem? h.at_)⟩
theorem pw_wait {ks : List Nat} (h : ks.Pairwise (· ≠ ·)) : (ks.map Arc.wait).Pairwise (· ≠ ·) := by
  rw [List.pairwise_map]
  exact h.imp fun hne e => hne (by cases e; rfl)
/-- a way from a start to an end -/
theorem Trav.way {n : Nat} {wz : List (Nat × Nat)} {hz : List (Str × Nat)} {us ks : List Nat} {cur v : Nat} {a b : Arc} (h : Trav n wz us ks cur) (hn : n ≤ 10) (hv : us[0]? = some v) (ha : a = .start v ∨ ∃ k, a = .hold k ∧ hz[k]? = some (("from" : Str), v)) (hb : b = .fin cur ∨ ∃ k, b = .hold k ∧ (hz[k]? = some (("till" : Str), cur) ∨ hz[k]? = some (("by" : Str), cur))) :
    WalkOk n wz hz ([a] ++ ks.map Arc.wait ++ [b]) := by
  have hp := h.path 0 v hv
  rw [List.drop_zero] at hp
  have h10 := h.ten
  have hl := h.len
  have nft : ("from" : Str) ≠ "till" := by decide
  have nfb : ("from" : Str) ≠ "by" := by decide
  have ntb : ("till" : Str) ≠ "by" := by decide
  have ntf : ("till" : Str) ≠ "from" := by decide
  have fa : ArcE n wz hz a ∧ (∀ u, incE wz hz u a = ind u v ∧ ofcE wz hz u a = 0) ∧ ∀ k, a ≠ .wait k := by
    rcases ha with rfl | ⟨k, rfl, g⟩
    · exact ⟨h.lt v (List.mem_of_getElem? hv), fun u => ⟨rfl, rfl⟩, (fun k e => by cases e)⟩
    · refine ⟨(List.getElem?_eq_some_iff.1 g).1, fun u => ⟨?_, ?_⟩, (fun k e => by cases e)⟩
      · unfold incE; dsimp only; rw [g]; dsimp only; rw [if_neg nfb, if_pos rfl]
      · unfold ofcE; dsimp only; rw [g]; dsimp only; rw [if_neg nfb]
  have fb : ArcE n wz hz b ∧ (∀ u, incE wz hz u b - ofcE wz hz u b = -ind u cur) ∧ (∀ k, b ≠ .wait k) ∧ a ≠ b := by
    rcases hb with rfl | ⟨k, rfl, g⟩
    · refine ⟨h.lt cur (List.mem_of_getElem? h.at_), fun u => by show (0 : Int) - ind u cur = _; omega, (fun k e => by cases e), fun e => ?_⟩
      rcases ha with rfl | ⟨k, rfl, g⟩ <;> cases e
    · have hk : k < hz.length := by rcases g with g | g <;> exact (List.getElem?_eq_some_iff.1 g).1
      refine ⟨hk, fun u => ?_, (fun k e => by cases e), fun e => ?_⟩
      · rcases g with g | g
        · unfold incE ofcE; dsimp only; rw [g]; dsimp only; rw [if_neg ntb, if_neg ntf, if_neg ntb]; omega
        · unfold incE ofcE; dsimp only; rw [g]; dsimp only; rw [if_pos rfl, if_pos rfl]; omega
      · rcases ha with rfl | ⟨k', rfl, g'⟩
        · cases e
        · cases e
          rcases g with g | g
          · rw [g'] at g; exact nft (by cases g)
          · rw [g'] at g; exact nfb (by cases g)
  refine ⟨fun c m => ?_, ?_, fun u => ?_, ?_⟩
  · rcases List.mem_append.1 m with m | m
    · rcases List.mem_append.1 m with m | m
      · rw [List.mem_singleton.1 m]; exact fa.1
      · obtain ⟨i, mi, rfl⟩ := List.mem_map.1 m
        exact hp.lt i mi
    · rw [List.mem_singleton.1 m]; exact fb.1
  · rw [List.pairwise_append]
    refine ⟨?_, List.pairwise_singleton _ _, fun c mc d md => ?_⟩
    · rw [List.pairwise_append]
      refine ⟨List.pairwise_singleton _ _, pw_wait h.kn, fun c mc d md => ?_⟩
      obtain ⟨i, _, rfl⟩ := List.mem_map.1 md
      rw [List.mem_singleton.1 mc]
      exact fa.2.2 i
    · rw [List.mem_singleton.1 md]
      rcases List.mem_append.1 mc with mc | mc
      · rw [List.mem_singleton.1 mc]; exact fb.2.2.2
      · obtain ⟨i, _, rfl⟩ := List.mem_map.1 mc
        exact fun e => fb.2.2.1 i e.symm
  · have q1 := hp.bal (hz := hz) (u := u)
    have q2 := fa.2.1 u
    have q3 := fb.2.1 u
    simp only [List.map_append, List.map_cons, List.map_nil, isum_app, List.sum_cons, List.sum_nil] at *
    omega
  · rw [List.length_append, List.length_append, List.length_map]
    show 1 + ks.length + 1 ≤ 12
    omega
def B_walk : Fn := ⟨2, 13,
 (.cons (.asg (.tup (.cons (.name 2) (.cons (.name 3) (.cons (.name 4) .nil)))) (.var 0))
 (.cons (.set 5 (.call 1001 (.cons (.var 1) (.cons (.bcall .len (.cons (.var 2) .nil)) .nil))))
 (.cons (.set 6 (.lst (.cons (.var 5) .nil)))
 (.cons (.set 7 (.lst .nil))
 (.cons (.set 8 (.bl true))
 (.cons (.whl (.var 8) (.cons (.set 9 (.lc (.var 12) (.name 12) (.rng1 (.bcall .len (.cons (.var 3) .nil))) (.some (.cmp .eq (.ix (.ix (.var 3) (.var 12)) (.int 0)) (.var 5))) [12]))
 (.cons (.set 8 (.band (.cons (.cmp .ne (.var 9) (.lst .nil)) (.cons (.cmp .gt (.call 1001 (.cons (.var 1) (.cons (.int 4) .nil))) (.int 0)) .nil))))
 (.cons (.ite (.var 8) (.cons (.expr (.meth .append (.var 7) (.cons (.tup (.cons (.str "wait") (.cons (.ix (.var 9) (.call 1001 (.cons (.var 1) (.cons (.bcall .len (.cons (.var 9) .nil)) .nil)))) .nil))) .nil)))
 (.cons (.set 5 (.ix (.ix (.var 3) (.ix (.ix (.var 7) (.neg (.int 1))) (.int 1))) (.int 1)))
 (.cons (.ite (.cmp .inn (.var 5) (.var 6)) (.cons (.ret (.sl (.var 7) (.some (.meth .index (.var 6) (.cons (.var 5) .nil))) .none))
 .nil) .nil)
 (.cons (.expr (.meth .append (.var 6) (.cons (.var 5) .nil)))
 .nil)))) .nil)
 .nil))))
 (.cons (.set 10 (.bin .add (.lst (.cons (.tup (.cons (.str "start") (.cons (.ix (.var 6) (.int 0)) .nil))) .nil)) (.lc (.tup (.cons (.str "hold") (.cons (.var 12) .nil))) (.name 12) (.rng1 (.bcall .len (.cons (.var 4) .nil))) (.some (.cmp .eq (.ix (.var 4) (.var 12)) (.tup (.cons (.str "from") (.cons (.ix (.var 6) (.int 0)) .nil))))) [12])))
 (.cons (.set 11 (.bin .add (.lst (.cons (.tup (.cons (.str "end") (.cons (.var 5) .nil))) .nil)) (.lc (.tup (.cons (.str "hold") (.cons (.var 12) .nil))) (.name 12) (.rng1 (.bcall .len (.cons (.var 4) .nil))) (.some (.cmp .inn (.ix (.var 4) (.var 12)) (.lst (.cons (.tup (.cons (.str "till") (.cons (.var 5) .nil))) (.cons (.tup (.cons (.str "by") (.cons (.var 5) .nil))) .nil))))) [12])))
 (.cons (.ret (.bin .add (.bin .add (.lst (.cons (.ix (.var 10) (.call 1001 (.cons (.var 1) (.cons (.bcall .len (.cons (.var 10) .nil)) .nil)))) .nil)) (.var 7)) (.lst (.cons (.ix (.var 11) (.call 1001 (.cons (.var 1) (.cons (.bcall .len (.cons (.var 11) .nil)) .nil)))) .nil))))
 .nil)))))))))⟩
section
variable {G : Tab} {k : Nat} {S : Sto}
end 
end HP
namespace HP
open PySem L2
def B_rate : Fn := ⟨2, 8,
 (.cons (.asg (.tup (.cons (.name 2) (.cons (.name 3) .nil))) (.ix (.ix (.ix (.var 0) (.int 0)) (.call 1001 (.cons (.var 1) (.cons (.bcall .len (.cons (.ix (.var 0) (.int 0)) .nil)) .nil)))) (.int 1)))
 (.cons (.set 4 (.call 1007 (.cons (.var 1) (.cons (.bl false) (.cons (.int 1) .nil)))))
 (.cons (.ite (.band (.cons (.cmp .eq (.var 2) (.str "straight")) (.cons (.cmp .gt (.bcall .len (.cons (.var 3) .nil)) (.int 1)) (.cons (.cmp .gt (.call 1001 (.cons (.var 1) (.cons (.int 3) .nil))) (.int 0)) .nil)))) (.cons (.set 5 (.bin .add (.int 1) (.call 1001 (.cons (.var 1) (.cons (.bin .sub (.bcall .len (.cons (.var 3) .nil)) (.int 1)) .nil)))))
 (.cons (.set 6 (.call 1004 (.cons (.ix (.ix (.var 3) (.var 5)) (.int 1)) (.cons (.ix (.ix (.var 3) (.bin .sub (.var 5) (.int 1))) (.int 1)) .nil))))
 (.cons (.set 7 (.call 1004 (.cons (.ix (.ix (.var 3) (.bin .sub (.var 5) (.int 1))) (.int 0)) (.cons (.ix (.ix (.var 3) (.var 5)) (.int 0)) .nil))))
 (.cons (.set 4 (.call 1002 (.cons (.bin .mul (.ix (.var 6) (.int 0)) (.ix (.var 7) (.int 1))) (.cons (.bin .mul (.ix (.var 6) (.int 1)) (.ix (.var 7) (.int 0))) .nil))))
 .nil)))) .nil)
 (.cons (.ret (.var 4))
 .nil))))⟩
def B_paper : Fn := ⟨3, 12,
 (.cons (.set 3 (.call 1000 (.cons (.var 1) (.cons (.var 2) .nil))))
 (.cons (.expr (.call 1001 (.cons (.var 3) (.cons (.int 7919) .nil))))
 (.cons (.set 4 (.lst .nil))
 (.cons (.set 5 (.lst .nil))
 (.cons (.for_ (.name 6) (.rng1 (.ix (.lst (.cons (.int 0) (.cons (.int 1) (.cons (.int 1) (.cons (.int 2) (.cons (.int 3) (.cons (.int 4) .nil))))))) (.call 1001 (.cons (.var 3) (.cons (.int 6) .nil))))) (.cons (.set 7 (.call 1011 (.cons (.var 0) (.cons (.var 3) .nil))))
 (.cons (.for_ (.name 8) (.seq (.call 1010 (.cons (.var 0) (.cons (.var 3) .nil)))) (.cons (.ite (.cmp .inn (.var 8) (.var 4)) (.cons (.setIx (.var 5) (.meth .index (.var 4) (.cons (.var 8) .nil)) (.call 1003 (.cons (.ix (.var 5) (.meth .index (.var 4) (.cons (.var 8) .nil))) (.cons (.var 7) .nil))))
 .nil) (.cons (.expr (.meth .append (.var 4) (.cons (.var 8) .nil)))
 (.cons (.expr (.meth .append (.var 5) (.cons (.var 7) .nil)))
 .nil)))
 .nil))
 .nil)))
 (.cons (.set 9 (.lc (.tup (.cons (.ix (.var 4) (.var 11)) (.cons (.ix (.var 5) (.var 11)) .nil))) (.name 11) (.rng1 (.bcall .len (.cons (.var 4) .nil))) .none [11]))
 (.cons (.set 10 (.call 1001 (.cons (.var 3) (.cons (.bin .add (.bcall .len (.cons (.var 9) .nil)) (.int 1)) .nil))))
 (.cons (.ret (.bin .add (.sl (.var 9) (.some (.var 10)) .none) (.sl (.var 9) .none (.some (.var 10)))))
 .nil))))))))⟩
def B_flows : Fn := ⟨2, 11,
 (.cons (.asg (.tup (.cons (.name 2) (.cons (.name 3) (.cons (.name 4) .nil)))) (.sl (.var 0) .none (.some (.int 3))))
 (.cons (.set 5 (.lc (.tup (.cons (.int 0) (.cons (.int 1) .nil))) (.name 10) (.seq (.var 2)) .none [10]))
 (.cons (.set 6 (.lc (.tup (.cons (.int 0) (.cons (.int 1) .nil))) (.name 10) (.seq (.var 2)) .none [10]))
 (.cons (.for_ (.tup (.cons (.tup (.cons (.name 7) (.cons (.name 8) .nil))) (.cons (.name 9) .nil))) (.seq (.var 1)) (.cons (.ite (.cmp .eq (.var 7) (.str "start")) (.cons (.setIx (.var 5) (.var 8) (.call 1003 (.cons (.ix (.var 5) (.var 8)) (.cons (.var 9) .nil))))
 .nil) (.cons (.ite (.cmp .eq (.var 7) (.str "end")) (.cons (.setIx (.var 6) (.var 8) (.call 1003 (.cons (.ix (.var 6) (.var 8)) (.cons (.var 9) .nil))))
 .nil) (.cons (.ite (.cmp .eq (.var 7) (.str "wait")) (.cons (.setIx (.var 6) (.ix (.ix (.var 3) (.var 8)) (.int 0)) (.call 1003 (.cons (.ix (.var 6) (.ix (.ix (.var 3) (.var 8)) (.int 0))) (.cons (.var 9) .nil))))
 (.cons (.setIx (.var 5) (.ix (.ix (.var 3) (.var 8)) (.int 1)) (.call 1003 (.cons (.ix (.var 5) (.ix (.ix (.var 3) (.var 8)) (.int 1))) (.cons (.var 9) .nil))))
 .nil)) (.cons (.ite (.cmp .eq (.ix (.ix (.var 4) (.var 8)) (.int 0)) (.str "by")) (.cons (.setIx (.var 6) (.ix (.ix (.var 4) (.var 8)) (.int 1)) (.call 1003 (.cons (.ix (.var 6) (.ix (.ix (.var 4) (.var 8)) (.int 1))) (.cons (.var 9) .nil))))
 .nil) (.cons (.ite (.cmp .eq (.ix (.ix (.var 4) (.var 8)) (.int 0)) (.str "from")) (.cons (.setIx (.var 5) (.ix (.ix (.var 4) (.var 8)) (.int 1)) (.call 1003 (.cons (.ix (.var 5) (.ix (.ix (.var 4) (.var 8)) (.int 1))) (.cons (.var 9) .nil))))
 .nil) (.cons (.setIx (.var 5) (.ix (.ix (.var 4) (.var 8)) (.int 1)) (.call 1004 (.cons (.ix (.var 5) (.ix (.ix (.var 4) (.var 8)) (.int 1))) (.cons (.var 9) .nil))))
 .nil))
 .nil))
 .nil))
 .nil))
 .nil))
 .nil))
 (.cons (.ret (.tup (.cons (.var 5) (.cons (.var 6) .nil))))
 .nil)))))⟩
def B_least : Fn := ⟨2, 6,
 (.cons (.set 2 .non)
 (.cons (.for_ (.tup (.cons (.name 3) (.cons (.name 4) .nil))) (.seq (.ix (.var 0) (.int 1))) (.cons (.set 5 (.call 1003 (.cons (.var 4) (.cons (.call 1005 (.cons (.var 1) (.cons (.var 3) .nil))) .nil))))
 (.cons (.ite (.bor (.cons (.cmp .is (.var 2) .non) (.cons (.call 1006 (.cons (.var 5) (.cons (.var 2) .nil))) .nil))) (.cons (.set 2 (.var 5))
 .nil) .nil)
 .nil)))
 (.cons (.ret (.var 2))
 .nil)))⟩
def B_time : Fn := ⟨3, 12,
 (.cons (.asg (.tup (.cons (.name 3) (.cons (.name 4) .nil))) (.var 0))
 (.cons (.set 5 (.call 1014 (.cons (.var 0) (.cons (.var 1) .nil))))
 (.cons (.set 6 (.lc (.var 10) (.tup (.cons (.name 10) (.cons (.name 11) .nil))) (.seq (.var 4)) (.some (.cmp .eq (.call 1003 (.cons (.var 11) (.cons (.call 1005 (.cons (.var 1) (.cons (.var 10) .nil))) .nil))) (.var 5))) [10, 11]))
 (.cons (.set 7 (.call 1001 (.cons (.var 2) (.cons (.int 5) .nil))))
 (.cons (.set 8 (.call 1001 (.cons (.var 2) (.cons (.bcall .len (.cons (.var 4) .nil)) .nil))))
 (.cons (.ite (.cmp .gt (.var 7) (.int 1)) (.cons (.ret (.ix (.var 6) (.call 1001 (.cons (.var 2) (.cons (.bcall .len (.cons (.var 6) .nil)) .nil)))))
 .nil) .nil)
 (.cons (.ite (.bor (.cons (.cmp .eq (.var 7) (.int 1)) (.cons (.cmp .eq (.var 3) (.str "steps")) (.cons (.cmp .eq (.var 8) (.int 0)) .nil)))) (.cons (.ret (.ix (.ix (.var 4) (.var 8)) (.int 0)))
 .nil) .nil)
 (.cons (.set 9 (.call 1004 (.cons (.ix (.ix (.var 4) (.bin .sub (.var 8) (.int 1))) (.int 0)) (.cons (.ix (.ix (.var 4) (.var 8)) (.int 0)) .nil))))
 (.cons (.ret (.call 1003 (.cons (.ix (.ix (.var 4) (.var 8)) (.int 0)) (.cons (.call 1005 (.cons (.var 9) (.cons (.call 1002 (.cons (.bin .add (.int 1) (.call 1001 (.cons (.var 2) (.cons (.int 3) .nil)))) (.cons (.int 4) .nil))) .nil))) .nil))))
 .nil)))))))))⟩
def B_planned : Fn := ⟨3, 20,
 (.cons (.asg (.tup (.cons (.name 3) (.cons (.name 4) (.cons (.name 5) .nil)))) (.var 0))
 (.cons (.set 6 (.ix (.call 1013 (.cons (.var 0) (.cons (.var 2) .nil))) (.int 0)))
 (.cons (.set 7 (.lst .nil))
 (.cons (.for_ (.name 8) (.rng1 (.bcall .len (.cons (.var 3) .nil))) (.cons (.set 9 (.call 1000 (.cons (.var 1) (.cons (.bin .add (.int 67) (.var 8)) .nil))))
 (.cons (.expr (.call 1001 (.cons (.var 9) (.cons (.int 7919) .nil))))
 (.cons (.set 10 (.call 1015 (.cons (.ix (.ix (.var 3) (.var 8)) (.int 1)) (.cons (.ix (.var 6) (.var 8)) (.cons (.var 9) .nil)))))
 (.cons (.set 11 (.call 1007 (.cons (.var 9) (.cons (.bl false) (.cons (.int 0) .nil)))))
 (.cons (.ite (.cmp .gt (.call 1001 (.cons (.var 9) (.cons (.int 4) .nil))) (.int 1)) (.cons (.set 11 (.tup (.cons (.int 0) (.cons (.int 1) .nil))))
 .nil) .nil)
 (.cons (.expr (.meth .append (.var 7) (.cons (.tup (.cons (.var 11) (.cons (.var 10) .nil))) .nil)))
 .nil)))))))
 (.cons (.set 12 (.lc (.call 1003 (.cons (.var 11) (.cons (.var 10) .nil))) (.tup (.cons (.name 11) (.cons (.name 10) .nil))) (.seq (.var 7)) .none [11, 10]))
 (.cons (.set 13 (.lst .nil))
 (.cons (.for_ (.name 14) (.rng1 (.bcall .len (.cons (.var 4) .nil))) (.cons (.asg (.tup (.cons (.name 15) (.cons (.name 16) .nil))) (.ix (.var 4) (.var 14)))
 (.cons (.expr (.meth .append (.var 13) (.cons (.tup (.cons (.var 15) (.cons (.var 16) (.cons (.call 1004 (.cons (.call 1004 (.cons (.ix (.ix (.var 7) (.var 16)) (.int 0)) (.cons (.ix (.var 12) (.var 15)) .nil))) (.cons (.call 1017 (.cons (.var 1) (.cons (.var 14) .nil))) .nil))) .nil)))) .nil)))
 .nil)))
 (.cons (.set 17 (.lst .nil))
 (.cons (.for_ (.name 14) (.rng1 (.bcall .len (.cons (.var 5) .nil))) (.cons (.asg (.tup (.cons (.name 18) (.cons (.name 8) .nil))) (.ix (.var 5) (.var 14)))
 (.cons (.set 19 (.call 1017 (.cons (.var 1) (.cons (.bin .add (.int 40) (.var 14)) .nil))))
 (.cons (.ite (.cmp .eq (.var 18) (.str "from")) (.cons (.expr (.meth .append (.var 17) (.cons (.tup (.cons (.var 18) (.cons (.var 8) (.cons (.call 1004 (.cons (.ix (.ix (.var 7) (.var 8)) (.int 0)) (.cons (.var 19) .nil))) .nil)))) .nil)))
 .nil) (.cons (.expr (.meth .append (.var 17) (.cons (.tup (.cons (.var 18) (.cons (.var 8) (.cons (.call 1003 (.cons (.ix (.lst (.cons (.ix (.ix (.var 7) (.var 8)) (.int 0)) (.cons (.ix (.var 12) (.var 8)) .nil))) (.bcall .int (.cons (.cmp .eq (.var 18) (.str "by")) .nil))) (.cons (.var 19) .nil))) .nil)))) .nil)))
 .nil))
 .nil))))
 (.cons (.ret (.tup (.cons (.tup (.cons (.var 3) (.cons (.var 13) (.cons (.var 17) (.cons (.lst .nil) .nil))))) (.cons (.var 7) .nil))))
 .nil))))))))))⟩
def B_slack : Fn := ⟨2, 4,
 (.cons (.set 2 (.call 1000 (.cons (.var 0) (.cons (.bin .add (.int 83) (.var 1)) .nil))))
 (.cons (.expr (.call 1001 (.cons (.var 2) (.cons (.int 7907) .nil))))
 (.cons (.set 3 (.call 1007 (.cons (.var 2) (.cons (.bl false) (.cons (.int 1) .nil)))))
 (.cons (.ite (.cmp .gt (.call 1001 (.cons (.var 2) (.cons (.int 3) .nil))) (.int 0)) (.cons (.set 3 (.tup (.cons (.int 0) (.cons (.int 1) .nil))))
 .nil) .nil)
 (.cons (.ret (.var 3))
 .nil)))))⟩
/-- all defs of the family but the last one -/
structure FBq (G : Tab) : Prop extends FB0 G where
  wlk : G 1010 = some B_walk
  rat : G 1011 = some B_rate
  pap : G 1012 = some B_paper
structure FBp (G : Tab) : Prop extends FBq G where
  flo : G 1013 = some B_flows
  lea : G 1014 = some B_least
  tim : G 1015 = some B_time
  pla : G 1016 = some B_planned
  sla : G 1017 = some B_slack
structure FB1 (G : Tab) : Prop extends FBp G where
  shp : G 1009 = some B_shape
section
variable {G : Tab} {k : Nat} {S : Sto}
end
end HP
namespace HP
open PySem L2
structure PapZ (n : Nat) (wz : List (Nat × Nat)) (hz : List (Str × Nat)) (DP : Nat) (Z : List (Arc × Rat)) : Prop where
  len : Z.length ≤ 48
  ok : ∀ z ∈ Z, ArcE n wz hz z.1 ∧ z.2.den ∣ DP ∧ V 220 z.2
  d0 : DP ≠ 0
  db : DP ≤ 2 ^ 3000
  pos : ∀ z ∈ Z, 0 < z.2
  nd : (Z.map (·.1)).Nodup
  bal : ∀ u, (Z.map fun z => z.2 * ((incE wz hz u z.1 - ofcE wz hz u z.1 : Int) : Rat)).sum = 0
  db2 : DP ≤ 2 ^ 1680
structure ColZ (n DP b : Nat) (xs : List Rat) : Prop where
  len : xs.length = n
  z : ∀ x ∈ xs, x.den ∣ DP ∧ V b x
theorem ColZ.mono {n DP b b' : Nat} {xs : List Rat} (h : ColZ n DP b xs) (k : b ≤ b') : ColZ n DP b' xs := ⟨h.len, fun x m => ⟨(h.z x m).1, (h.z x m).2.mono k⟩⟩
theorem ColZ.put {n DP b b' j : Nat} {xs : List Rat} {y : Rat} (h : ColZ n DP b xs) (k : b ≤ b') (hy : y.den ∣ DP ∧ V b' y) : ColZ n DP b' (xs.set j y) := by
  refine ⟨by rw [List.length_set]; exact h.len, fun x m => ?_⟩
  rcases List.mem_or_eq_of_mem_set m with m | rfl
  · exact (h.mono k).z x m
  · exact hy
theorem ColZ.at_ {n DP b j : Nat} {xs : List Rat} (h : ColZ n DP b xs) (hj : j < n) : ∃ x, xs[j]? = some x ∧ atI (xs.map q) (j : Nat) = some (q x) ∧ x.den ∣ DP ∧ V b x := by
  obtain ⟨x, gx⟩ := get_some (xs := xs) (i := j) (by have := h.len; omega)
  exact ⟨x, gx, atI_get (by rw [List.getElem?_map, gx]; rfl), h.z x (List.mem_of_getElem? gx)⟩
section
variable {G : Tab} {k : Nat} {S : Sto}
end
end HP
namespace HP
open PySem L2
/-- a paper in the making -/
def dE (wz : List (Nat × Nat)) (hz : List (Str × Nat)) (u : Nat) (a : Arc) : Int := incE wz hz u a - ofcE wz hz u a
structure BalL (wz : List (Nat × Nat)) (hz : List (Str × Nat)) (as : List Arc) (xs : List Rat) (f : Nat → Rat) : Prop where
  nd : as.Nodup
  pos : ∀ x ∈ xs, 0 < x
  bal : ∀ u, ((as.zip xs).map fun z => z.2 * ((dE wz hz u z.1 : Int) : Rat)).sum = f u
theorem BalL.congr {wz : List (Nat × Nat)} {hz : List (Str × Nat)} {as : List Arc} {xs : List Rat} {f g : Nat → Rat} (h : BalL wz hz as xs f) (e : ∀ u, f u = g u) : BalL wz hz as xs g := ⟨h.nd, h.pos, fun u => (h.bal u).trans (e u)⟩
theorem BalL.app {wz : List (Nat × Nat)} {hz : List (Str × Nat)} {as : List Arc} {xs : List Rat} {f : Nat → Rat} {a : Arc} {x : Rat} (h : BalL wz hz as xs f) (hl : xs.length = as.length) (ha : a ∉ as) (hx : 0 < x) : BalL wz hz (as ++ [a]) (xs ++ [x]) fun u => f u + x * ((dE wz hz u a : Int) : Rat) := by
  refine ⟨?_, fun y m => ?_, fun u => ?_⟩
  · rw [List.nodup_append]
    exact ⟨h.nd, List.pairwise_singleton _ a, fun b hb c hc => by rw [List.mem_singleton.1 hc]; rintro rfl; exact ha hb⟩
  · rcases List.mem_append.1 m with m | m
    · exact h.pos y m
    · rw [List.mem_singleton.1 m]; exact hx
  · rw [List.zip_append hl.symm, List.map_append, sum_app, h.bal u]
    show f u + ([x * ((dE wz hz u a : Int) : Rat)]).sum = _
    rw [sum_one]
theorem zip_set_sum {wz : List (Nat × Nat)} {hz : List (Str × Nat)} {u : Nat} {a : Arc} {x y : Rat} : (as : List Arc) → (xs : List Rat) → (j : Nat) → as[j]? = some a → xs[j]? = some y →
    ((as.zip (xs.set j (y + x))).map fun z => z.2 * ((dE wz hz u z.1 : Int) : Rat)).sum = ((as.zip xs).map fun z => z.2 * ((dE wz hz u z.1 : Int) : Rat)).sum + x * ((dE wz hz u a : Int) : Rat)
  | [], _, _, h, _ => by cases h
  | _ :: _, [], _, _, h => by cases h
  | b :: as, z :: xs, 0, h1, h2 => by
    cases h1
    cases h2
    rw [List.set_cons_zero, List.zip_cons_cons, List.zip_cons_cons, List.map_cons, List.map_cons, List.sum_cons, List.sum_cons]
    dsimp only
    grind
  | b :: as, z :: xs, j + 1, h1, h2 => by
    rw [List.set_cons_succ, List.zip_cons_cons, List.zip_cons_cons, List.map_cons, List.map_cons, List.sum_cons, List.sum_cons, zip_set_sum as xs j h1 h2]
    grind
theorem BalL.put {wz : List (Nat × Nat)} {hz : List (Str × Nat)} {as : List Arc} {xs : List Rat} {f : Nat → Rat} {a : Arc} {x y : Rat} {j1 j2 : Nat} (h : BalL wz hz as xs f) (h1 : as[j1]? = some a) (hy : xs[j1]? = some y) (h2 : as[j2]? = some a) (hx : 0 < x) : BalL wz hz as (xs.set j2 (y + x)) fun u => f u + x * ((dE wz hz u a : Int) : Rat) := by
  have e : j1 = j2 := by
    have l1 := (List.getElem?_eq_some_iff.1 h1)
    have l2 := (List.getElem?_eq_some_iff.1 h2)
    obtain ⟨l1, e1⟩ := l1
    obtain ⟨l2, e2⟩ := l2
    have nd := List.pairwise_iff_getElem.1 h.nd
    rcases Nat.lt_trichotomy j1 j2 with c | c | c
    · exact absurd (e1.trans e2.symm) (nd j1 j2 l1 l2 c)
    · exact c
    · exact absurd (e2.trans e1.symm) (nd j2 j1 l2 l1 c)
  subst e
  refine ⟨h.nd, fun z m => ?_, fun u => ?_⟩
  · rcases List.mem_or_eq_of_mem_set m with m | rfl
    · exact h.pos z m
    · have := h.pos y (List.mem_of_getElem? hy)
      grind
  · rw [zip_set_sum as xs j1 h1 hy, h.bal u]
section
variable {G : Tab} {k : Nat} {S : Sto}
end
end HP
namespace HP
open PySem L2
def stF (pl : List (Rat × Rat)) (i : Nat) : Rat := ((pl[i]?).getD (0, 0)).1
def enF (pl : List (Rat × Rat)) (i : Nat) : Rat := ((pl[i]?).getD (0, 0)).1 + ((pl[i]?).getD (0, 0)).2
def moF (pl : List (Rat × Rat)) (x : Str × Nat) (s : Rat) : Rat := if x.1 = ("from" : Str) then stF pl x.2 - s else if x.1 = ("by" : Str) then enF pl x.2 + s else stF pl x.2 + s
structure Drawn (ws : List Wk) (wz : List (Nat × Nat)) (hz : List (Str × Nat)) (wl : List Wt) (hl : List Hd3) (pl : List (Rat × Rat)) (sl ml : List Rat) : Prop where
  ln : pl.length = ws.length
  pk : ∀ (i : Nat) (w : Wk) (p : Rat × Rat), ws[i]? = some w → pl[i]? = some p → TOk w p.2 ∧ 0 ≤ p.1 ∧ Sz 40 6 p.1
  wn : wl.length = wz.length
  sn : sl.length = wl.length
  wk : ∀ (k : Nat) (w : Wt) (s : Rat), wl[k]? = some w → sl[k]? = some s → ∃ x, wz[k]? = some x ∧ w = (x.1, x.2, stF pl x.2 - enF pl x.1 - s) ∧ 0 ≤ s ∧ Sz 40 6 s
  hn : hl.length = hz.length
  mn : ml.length = hl.length
  hk : ∀ (k : Nat) (h : Hd3) (s : Rat), hl[k]? = some h → ml[k]? = some s → ∃ x, hz[k]? = some x ∧ h = (x.1, x.2, moF pl x s) ∧ 0 ≤ s ∧ Sz 40 6 s
theorem st_get {pl : List (Rat × Rat)} {i : Nat} {p : Rat × Rat} (h : pl[i]? = some p) : stF pl i = p.1 := by unfold stF; rw [h]; rfl
theorem en_get {pl : List (Rat × Rat)} {i : Nat} {p : Rat × Rat} (h : pl[i]? = some p) : enF pl i = p.1 + p.2 := by unfold enF; rw [h]; rfl
section
variable {G : Tab} {k : Nat} {S : Sto}
end
end HP
namespace HP
open PySem L2
end HP
namespace HP
open PySem L2
/-- a net in the store -/
structure NOk (S : Sto) (a b c e : Nat) (ws : List Wk) (wn : List Wt) (hn : List Hd3) (E : List PyData) : Prop where
  w : S[a]? = some (.lst (ws.map wkD))
  wk : ∀ w ∈ ws, WkOk w ∧ PyData.strOk w.nm = true ∧ S[w.lc]? = some (.lst (w.cs.map pr))
  b : S[b]? = some (.lst (wn.map waN))
  c : S[c]? = some (.lst (hn.map hoN))
  e : Dt (fun _ => True) S (.list E) (.loc e)
section
variable {a b c e : Nat} {ws : List Wk} {wn : List Wt} {hn : List Hd3} {E : List PyData}
theorem NOk.ag {S S' : Sto} (h : NOk S a b c e ws wn hn E) (k : Ag (fun _ => False) S S') : NOk S' a b c e ws wn hn E :=
  ⟨k.get h.w id, fun w m => ⟨(h.wk w m).1, (h.wk w m).2.1, k.get (h.wk w m).2.2 id⟩, k.get h.b id, k.get h.c id, h.e.ag k fun _ _ => id⟩
end
theorem kinds_ok {x : Str} (h : x = ("from" : Str) ∨ x = ("till" : Str) ∨ x = ("by" : Str)) : PyData.strOk x = true := by
  have : PyData.strOk ("from" : Str) = true ∧ PyData.strOk ("till" : Str) = true ∧ PyData.strOk ("by" : Str) = true := by decide +kernel
  rcases h with rfl | rfl | rfl
  · exact this.1
  · exact this.2.1
  · exact this.2.2
theorem ty_loc {S : Sto} {l : Nat} {ds : List D} (h : S[l]? = some (.lst ds)) : tyD S (.loc l) = some .list := by unfold tyD; dsimp only; rw [h]
section
variable {G : Tab} {k f fr : Nat} {S : Sto}
end
end HP
namespace HP
open PySem L2
section
variable {G : Tab} {k f : Nat} {S : Sto} {ts : List Rat} {wl : List Wt} {hl : List Hd3} {DD : Nat}
theorem any_map {A : Type} (g : A → Bool) (xs : List A) : (xs.map g).any id = true ↔ ∃ x ∈ xs, g x = true := by
  rw [List.any_map, List.any_eq_true]
  rfl
end
end HP
namespace HP
open PySem L2
theorem NSz.times {ts : List Rat} {wl : List Wt} {hl : List Hd3} {DD m : Nat} (N : NSz ts wl hl DD) (h0 : m ≠ 0) (hb : DD * m ≤ 2 ^ 3000) : NSz ts wl hl (DD * m) :=
  ⟨Nat.mul_ne_zero N.dd0 h0, hb, fun t m => ⟨Nat.dvd_trans (N.t t m).1 (Nat.dvd_mul_right _ _), (N.t t m).2⟩, fun t m => ⟨Nat.dvd_trans (N.w t m).1 (Nat.dvd_mul_right _ _), (N.w t m).2⟩, fun t m => ⟨Nat.dvd_trans (N.h t m).1 (Nat.dvd_mul_right _ _), (N.h t m).2⟩, N.wok, N.hok, N.pos, N.len, N.wl40, N.hl40⟩
section
variable {ws : List Wk} {wz : List (Nat × Nat)} {hz : List (Str × Nat)} {wl : List Wt} {hl : List Hd3} {pl : List (Rat × Rat)} {sl ml : List Rat}
theorem Drawn.p (h : Drawn ws wz hz wl hl pl sl ml) {i : Nat} {p : Rat × Rat} (g : pl[i]? = some p) : ∃ w, ws[i]? = some w ∧ TOk w p.2 ∧ 0 ≤ p.1 ∧ Sz 40 6 p.1 := by
  have hi := (List.getElem?_eq_some_iff.1 g).1
  obtain ⟨w, gw⟩ := get_some (xs := ws) (i := i) (by have := h.ln; omega)
  exact ⟨w, gw, h.pk i w p gw g⟩
theorem Drawn.w (h : Drawn ws wz hz wl hl pl sl ml) {w : Wt} (m : w ∈ wl) : ∃ s x, s ∈ sl ∧ x ∈ wz ∧ w = (x.1, x.2, stF pl x.2 - enF pl x.1 - s) ∧ 0 ≤ s ∧ Sz 40 6 s := by
  obtain ⟨k, hk⟩ := List.getElem?_of_mem m
  have hi := (List.getElem?_eq_some_iff.1 hk).1
  obtain ⟨s, gs⟩ := get_some (xs := sl) (i := k) (by have := h.sn; omega)
  obtain ⟨x, gx, e, h0, hs⟩ := h.wk k w s hk gs
  exact ⟨s, x, List.mem_of_getElem? gs, List.mem_of_getElem? gx, e, h0, hs⟩
theorem Drawn.h (h : Drawn ws wz hz wl hl pl sl ml) {w : Hd3} (m : w ∈ hl) : ∃ s x, s ∈ ml ∧ x ∈ hz ∧ w = (x.1, x.2, moF pl x s) ∧ 0 ≤ s ∧ Sz 40 6 s := by
  obtain ⟨k, hk⟩ := List.getElem?_of_mem m
  have hi := (List.getElem?_eq_some_iff.1 hk).1
  obtain ⟨s, gs⟩ := get_some (xs := ml) (i := k) (by have := h.mn; omega)
  obtain ⟨x, gx, e, h0, hs⟩ := h.hk k w s hk gs
  exact ⟨s, x, List.mem_of_getElem? gs, List.mem_of_getElem? gx, e, h0, hs⟩
theorem Drawn.s (h : Drawn ws wz hz wl hl pl sl ml) {s : Rat} (m : s ∈ sl) : Sz 40 6 s := by
  obtain ⟨k, hk⟩ := List.getElem?_of_mem m
  have hi := (List.getElem?_eq_some_iff.1 hk).1
  obtain ⟨w, gw⟩ := get_some (xs := wl) (i := k) (by have := h.sn; omega)
  obtain ⟨_, _, _, _, hs⟩ := h.wk k w s gw hk
  exact hs
theorem Drawn.m (h : Drawn ws wz hz wl hl pl sl ml) {s : Rat} (m : s ∈ ml) : Sz 40 6 s := by
  obtain ⟨k, hk⟩ := List.getElem?_of_mem m
  have hi := (List.getElem?_eq_some_iff.1 hk).1
  obtain ⟨w, gw⟩ := get_some (xs := hl) (i := k) (by have := h.mn; omega)
  obtain ⟨_, _, _, _, hs⟩ := h.hk k w s gw hk
  exact hs
end
section
variable {G : Tab} {k f : Nat} {S : Sto}
end
end HP
namespace HP
open PySem L2
structure NLay (ws : List Wk) (wl : List Wt) (hl : List Hd3) (E : List PyData) : Prop where
  w : Lay (.list (ws.map wkP))
  b : Lay (.list ((wl.map cwI).map waP))
  c : Lay (.list ((hl.map chI).map hoP))
  e : Lay (.list E)
section
variable {G : Tab} {k f self : Nat} {S : Sto}
end
end HP
namespace HP
open PySem L2
/-- how much later a start may be: all that holds it -/
inductive Room (ts xs : List Rat) (wl : List Wt) (hl : List Hd3) (w : Rat) (i : Nat) : Rat → Prop where
  | whole : Room ts xs wl hl w i (w - (tmF xs i + tmF ts i))
  | wait {a : Wt} (m : a ∈ wl) (e : a.1 = i) : Room ts xs wl hl w i (tmF xs a.2.1 - (tmF xs i + tmF ts i) - a.2.2)
  | till {h : Hd3} (m : h ∈ hl) (e : h.2.1 = i) (k : h.1 = ("till" : Str)) : Room ts xs wl hl w i (h.2.2 - tmF xs i)
  | by_ {h : Hd3} (m : h ∈ hl) (e : h.2.1 = i) (k : h.1 = ("by" : Str)) : Room ts xs wl hl w i (h.2.2 - (tmF xs i + tmF ts i))
structure Alone (ts xs : List Rat) (wl : List Wt) (hl : List Hd3) (w : Rat) (i : Nat) (m : Rat) : Prop where
  at_ : Room ts xs wl hl w i m
  le : ∀ r, Room ts xs wl hl w i r → m ≤ r
/-- the rooms seen so far -/
structure RmUp (ts xs : List Rat) (wl : List Wt) (hl : List Hd3) (w : Rat) (i j k : Nat) (m : Rat) : Prop where
  at_ : Room ts xs wl hl w i m
  w : m ≤ w - (tmF xs i + tmF ts i)
  a : ∀ n a, n < j → wl[n]? = some a → a.1 = i → m ≤ tmF xs a.2.1 - (tmF xs i + tmF ts i) - a.2.2
  h : ∀ n h, n < k → hl[n]? = some h → h.2.1 = i → (h.1 = ("till" : Str) → m ≤ h.2.2 - tmF xs i) ∧ (h.1 = ("by" : Str) → m ≤ h.2.2 - (tmF xs i + tmF ts i))
theorem RmUp.all {ts xs : List Rat} {wl : List Wt} {hl : List Hd3} {w : Rat} {i : Nat} {m : Rat} (h : RmUp ts xs wl hl w i wl.length hl.length m) : Alone ts xs wl hl w i m := by
  refine ⟨h.at_, fun r hr => ?_⟩
  cases hr with
  | whole => exact h.w
  | wait m e =>
    obtain ⟨n, hn⟩ := List.getElem?_of_mem m
    exact h.a n _ (List.getElem?_eq_some_iff.1 hn).1 hn e
  | till m e k =>
    obtain ⟨n, hn⟩ := List.getElem?_of_mem m
    exact (h.h n _ (List.getElem?_eq_some_iff.1 hn).1 hn e).1 k
  | by_ m e k =>
    obtain ⟨n, hn⟩ := List.getElem?_of_mem m
    exact (h.h n _ (List.getElem?_eq_some_iff.1 hn).1 hn e).2 k
theorem min_le (r m : Rat) : (if r < m then r else m) ≤ m ∧ (if r < m then r else m) ≤ r := by
  by_cases h : r < m
  · rw [if_pos h]; exact ⟨Rat.le_of_lt h, Rat.le_refl⟩
  · rw [if_neg h]; exact ⟨Rat.le_refl, Rat.not_lt.1 h⟩
section
variable {ts xs : List Rat} {wl : List Wt} {hl : List Hd3} {w : Rat} {i j k : Nat} {m : Rat}
theorem RmUp.wait {a : Wt} (h : RmUp ts xs wl hl w i j k m) (g : wl[j]? = some a) (e : a.1 = i) : RmUp ts xs wl hl w i (j + 1) k (if tmF xs a.2.1 - (tmF xs i + tmF ts i) - a.2.2 < m then tmF xs a.2.1 - (tmF xs i + tmF ts i) - a.2.2 else m) := by
  have q := min_le (tmF xs a.2.1 - (tmF xs i + tmF ts i) - a.2.2) m
  refine ⟨?_, Rat.le_trans q.1 h.w, fun n b hn gb eb => ?_, fun n b hn gb eb => ⟨fun z => Rat.le_trans q.1 ((h.h n b hn gb eb).1 z), fun z => Rat.le_trans q.1 ((h.h n b hn gb eb).2 z)⟩⟩
  · split
    · exact .wait (List.mem_of_getElem? g) e
    · exact h.at_
  · by_cases c : n = j
    · subst c
      rw [g] at gb
      cases gb
      exact q.2
    · exact Rat.le_trans q.1 (h.a n b (by omega) gb eb)
theorem RmUp.hold {b : Hd3} {r : Rat} (h : RmUp ts xs wl hl w i j k m) (g : hl[k]? = some b) (hr : Room ts xs wl hl w i r) (t : b.2.1 = i → b.1 = ("till" : Str) → r = b.2.2 - tmF xs i) (y : b.2.1 = i → b.1 = ("by" : Str) → r = b.2.2 - (tmF xs i + tmF ts i)) : RmUp ts xs wl hl w i j (k + 1) (if r < m then r else m) := by
  have q := min_le r m
  refine ⟨?_, Rat.le_trans q.1 h.w, fun n b hn gb eb => Rat.le_trans q.1 (h.a n b hn gb eb), fun n b hn gb eb => ?_⟩
  · split
    · exact hr
    · exact h.at_
  · by_cases c : n = k
    · subst c
      rw [g] at gb
      cases gb
      exact ⟨fun z => by rw [← t eb z]; exact q.2, fun z => by rw [← y eb z]; exact q.2⟩
    · have := h.h n b (by omega) gb eb
      exact ⟨fun z => Rat.le_trans q.1 (this.1 z), fun z => Rat.le_trans q.1 (this.2 z)⟩
end
section
variable {L : List Fn} {k : Nat} {S : Sto} {ts xs : List Rat} {wl : List Wt} {hl : List Hd3} {w : Rat} {DD : Nat}
end
end HP
namespace HP
open PySem L2
section
variable {ts xs : List Rat} {wl : List Wt} {hl : List Hd3} {w : Rat} {i : Nat} {m : Rat}
end
section
variable {G : Tab} {k f : Nat} {S : Sto}
end
end HP
namespace HP
open PySem L2
def inZ (wl : List Wt) (hl : List Hd3) (Z : List (Arc × Rat)) (u : Nat) : Rat := (Z.map fun z => z.2 * ((incF wl hl u z.1 : Int) : Rat)).sum
def ofZ (wl : List Wt) (hl : List Hd3) (Z : List (Arc × Rat)) (u : Nat) : Rat := (Z.map fun z => z.2 * ((ofcF wl hl u z.1 : Int) : Rat)).sum
structure PapG (n : Nat) (wl : List Wt) (hl : List Hd3) (DP : Nat) (Z : List (Arc × Rat)) : Prop where
  len : Z.length ≤ 60
  ok : ∀ z ∈ Z, ArcOk n wl hl z.1 ∧ z.2.den ∣ DP ∧ V 220 z.2 ∧ 0 < z.2
  nd : (Z.map (·.1)).Pairwise (· ≠ ·)
  bal : ∀ u, inZ wl hl Z u = ofZ wl hl Z u
  d0 : DP ≠ 0
  db : DP ≤ 2 ^ 1700
section
variable {L : List Fn} {k : Nat} {S : Sto} {n DP : Nat} {wl : List Wt} {hl : List Hd3} {Z : List (Arc × Rat)}
end
end HP
namespace HP
open PySem L2
section
variable {L : List Fn} {k : Nat} {S : Sto} {n DP : Nat} {wl : List Wt} {hl : List Hd3} {Z : List (Arc × Rat)}
theorem ratio_q (x : Rat) : callN (Gof L) (k + 2) 88 [q x] S = .ok (.bl true) S := by
  have hx := x.den_pos
  have hg : (x.num.gcd (x.den : Int) : Nat) = 1 := x.reduced
  unfold q
  refine wp_eq (wp_def (fn := F_is_ratio) rfl rfl ?_)
  unfold F_is_ratio
  walk_at "hp0"
  walk_at "hys"
  refine wps_ite ?_
  walk_at "hy"
  refine wp_val (is_whole_ok rfl rfl) ?_
  walk_at "hy"
  refine wp_val (is_whole_ok rfl rfl) ?_
  walk_at "hy"
  refine wq_dec (fun c => ?_) (fun c => absurd (by show (0 : Int) < (x.den : Int); omega) c)
  walk_at "hy"
  refine wp_val (divG_ok rfl) ?_
  walk_at "hy"
  rw [hg]
  exact ⟨rfl, rfl⟩
end
end HP
namespace HP
open PySem L2
section
variable {L : List Fn} {k : Nat} {S : Sto} {n DP DD B : Nat} {wl : List Wt} {hl : List Hd3} {Z : List (Arc × Rat)} {ts : List Rat}
end
end HP
namespace HP
open PySem L2
section
variable {L : List Fn} {k : Nat} {S : Sto} {n DP DD : Nat} {wl : List Wt} {hl : List Hd3} {Z : List (Arc × Rat)} {ts : List Rat}
structure ClOk (ws : List Wk) (DP DD : Nat) (P R Ln : Rat) : Prop where
  p : ∃ E, E ≠ 0 ∧ DP * DD ∣ E ∧ E ≤ 2 ^ 5300 ∧ P.den ∣ E
  pv : V 3000 P
  r : R.den ∣ DP ∧ V 290 R
  l : ∃ E, E ≠ 0 ∧ DP * DD ∣ E ∧ E ≤ 2 ^ 3900 ∧ Ln.den ∣ E
  lv : V 3000 Ln
end
end HP
namespace HP
open PySem L2
section
variable {ts xs : List Rat} {wl : List Wt} {hl : List Hd3} {Z : List (Arc × Rat)} {DP n : Nat} {W : Rat}
end
end HP
namespace HP
open PySem L2
section
variable {L : List Fn} {k : Nat} {S : Sto} {n DP DD : Nat} {wl : List Wt} {hl : List Hd3} {Z : List (Arc × Rat)} {ts : List Rat}
end
section
variable {G : Tab} {k f : Nat} {S : Sto}
end
end HP
namespace HP
open PySem L2
section
variable {ws : List Wk} {wz : List (Nat × Nat)} {hz : List (Str × Nat)} {wl : List Wt} {hl : List Hd3} {pl : List (Rat × Rat)} {sl ml : List Rat}
end
section
variable {G : Tab} {k f : Nat} {S : Sto}
end
end HP
namespace HP
open PySem L2
section
variable {G : Tab} {k : Nat} {S : Sto}
end
end HP
namespace HP
open PySem L2
section
variable {G : Tab} {k f : Nat} {S : Sto}
end
end HP
namespace HP
open PySem L2
def fstIx (p : Nat → Bool) (n : Nat) : Option Nat := (List.range n).find? p
theorem fst_some {p : Nat → Bool} {n i : Nat} (hi : i < n) (h : p i = true) (h0 : ∀ j, j < i → p j = false) : fstIx p n = some i := by
  unfold fstIx
  induction n with
  | zero => omega
  | succ n ih =>
    rw [List.range_succ, List.find?_append]
    by_cases e : i < n
    · rw [ih e]; rfl
    · have e : i = n := by omega
      subst e
      have : (List.range i).find? p = none := by
        rw [List.find?_eq_none]
        intro x mx
        rw [h0 x (List.mem_range.1 mx)]
        decide
      rw [this]
      simp [h]
theorem fst_none {p : Nat → Bool} {n : Nat} (h0 : ∀ j, j < n → p j = false) : fstIx p n = none := by
  unfold fstIx
  rw [List.find?_eq_none]
  intro x mx
  rw [h0 x (List.mem_range.1 mx)]
  decide
theorem fst_inv {p : Nat → Bool} {n i : Nat} (h : fstIx p n = some i) : i < n ∧ p i = true ∧ ∀ j, j < i → p j = false := by
  by_cases hx : ∃ j, j < n ∧ p j = true
  · obtain ⟨j0, h1, h2⟩ := hx
    obtain ⟨m, hm, ⟨m1, m2⟩, hl⟩ := least (P := fun j => j < n ∧ p j = true) j0 ⟨h1, h2⟩
    have h0 : ∀ j, j < m → p j = false := fun j hj => by
      cases e : p j with
      | false => rfl
      | true => exact absurd ⟨by omega, e⟩ (hl j hj)
    rw [fst_some m1 m2 h0] at h
    cases h
    exact ⟨m1, m2, h0⟩
  · have : fstIx p n = none := fst_none fun j hj => by
      cases e : p j with
      | false => rfl
      | true => exact absurd ⟨j, hj, e⟩ hx
    rw [this] at h
    cases h
def optD (w : Str) : Option Nat → D
  | none => .non
  | some i => .tup [.str w, .int (i : Nat)]
def pT (ws : List Wk) (pl : List (Rat × Rat)) (i : Nat) : Bool := match ws[i]?, pl[i]? with
  | some w, some p => !offeredB w.kd w.cs p.2
  | _, _ => false
def pS (pl : List (Rat × Rat)) (i : Nat) : Bool := decide (stF pl i < 0)
def pW (wl : List Wt) (pl : List (Rat × Rat)) (k : Nat) : Bool := match wl[k]? with
  | some w => decide (stF pl w.2.1 < enF pl w.1 + w.2.2)
  | none => false
def pH (hl : List Hd3) (pl : List (Rat × Rat)) (k : Nat) : Bool := match hl[k]? with
  | some h => (decide (h.1 = ("till" : Str)) && decide (h.2.2 < stF pl h.2.1)) || (decide (h.1 = ("by" : Str)) && decide (h.2.2 < enF pl h.2.1)) || (decide (h.1 = ("from" : Str)) && decide (stF pl h.2.1 < h.2.2))
  | none => false
def pE (pl : List (Rat × Rat)) (w : Rat) (i : Nat) : Bool := decide (w < enF pl i)
/-- a plan's numbers are small -/
structure PlSz (pl : List (Rat × Rat)) : Prop where
  z : ∀ p ∈ pl, Sz 2000 3000 p.1 ∧ Sz 1000 1000 p.2
theorem PlSz.at_ {pl : List (Rat × Rat)} (h : PlSz pl) {i : Nat} {p : Rat × Rat} (g : pl[i]? = some p) : Sz 2000 3000 (stF pl i) ∧ Sz 2001 4000 (enF pl i) ∧ stF pl i = p.1 ∧ enF pl i = p.1 + p.2 := by
  have := h.z p (List.mem_of_getElem? g)
  rw [st_get g, en_get g]
  exact ⟨this.1, (this.1.add this.2).mono (by decide) (by decide), rfl, rfl⟩
section
variable {L : List Fn} {k : Nat} {S : Sto} {ws : List Wk} {wl : List Wt} {hl : List Hd3} {pl : List (Rat × Rat)} {a b c e np : Nat}
theorem broken_time_ok (ha : S[a]? = some (.lst (ws.map wkD))) (hwk : ∀ w ∈ ws, w.cs ≠ [] ∧ w.cs.length < 100 ∧ (∀ p ∈ w.cs, Ok2 p) ∧ S[w.lc]? = some (.lst (w.cs.map pr))) (hp : S[np]? = some (.lst (pl.map pr))) (hz : PlSz pl) (hln : pl.length = ws.length) :
    Wp (callN (Gof L) (k + 4) 18 [.tup [.loc a, .loc b, .loc c, .loc e], .loc np] S) fun d S' => Ag (fun _ => False) S S' ∧ d = optD "time" (fstIx (pT ws pl) ws.length) := by
  refine wp_def (fn := F_broken_time) rfl rfl ?_
  unfold F_broken_time
  walk_at "hp0"
  walk_at "hys"
  refine ⟨_, itLst_loc ha, ?_⟩
  refine forE_inv (fun i r T => Ag (fun _ => False) S T ∧ (∀ j, j < i → pT ws pl j = false) ∧ ∃ z2 z3 z4, r = [some (.tup [.loc a, .loc b, .loc c, .loc e]), some (.loc np), z2, z3, z4])
    ⟨Ag.rfl, (fun j hj => absurd hj (Nat.not_lt_zero _)), none, none, none, rfl⟩ (fun i r W _ hh => still1 (hh.1.get ha id)) ?_ ?_
  · rintro i d r T hd ⟨hagT, h0, z2, z3, z4, rfl⟩
    obtain ⟨ed, hd2, rfl⟩ := enmL_get hd
    rw [Nat.zero_add]
    rw [List.getElem?_map, Option.map_eq_some_iff] at hd2
    obtain ⟨w, gw, rfl⟩ := hd2
    have hi := (List.getElem?_eq_some_iff.1 gw).1
    obtain ⟨p, gp⟩ := get_some (xs := pl) (i := i) (by omega)
    obtain ⟨c1, c2, c3, c4⟩ := hwk w (List.mem_of_getElem? gw)
    unfold wkD
    refine ⟨_, rfl, ?_⟩
    walk_at "hys"
    refine wps_ite ?_
    walk_at "hy"
    refine wx_ix (seq_loc (hagT.get hp id)) (atI_get (x := pr p) (by rw [List.getElem?_map, gp]; rfl)) ?_
    unfold pr
    walk_at "hy"
    refine wp_mono (is_offered_ok (k := k) (hagT.get c4 id) c3 (hz.z p (List.mem_of_getElem? gp)).2 c2 c1) ?_
    rintro _ T1 ⟨rfl, hag1⟩
    have hpT : pT ws pl i = !offeredB w.kd w.cs p.2 := by unfold pT; rw [gw, gp]
    walk_at "hy"
    refine ⟨fun hb => ?_, fun hb => ?_⟩
    · walk_at "hy"
      exact ⟨hagT.trans hag1, by rw [fst_some hi (hpT.trans hb) h0]; rfl⟩
    · walk_at "hy"
      refine ⟨hagT.trans hag1, fun j hj => ?_, _, _, _, rfl⟩
      by_cases ej : j = i
      · rw [ej, hpT]; exact hb
      · exact h0 j (by omega)
  · rintro r T ⟨hagT, h0, z2, z3, z4, rfl⟩
    rw [enmL_len, List.length_map] at h0
    walk_at "hys"
    exact ⟨hagT, by rw [fst_none h0]; rfl⟩
theorem broken_start_ok (hp : S[np]? = some (.lst (pl.map pr))) (hz : PlSz pl) :
    Wp (callN (Gof L) (k + 4) 17 [.loc np] S) fun d S' => S' = S ∧ d = optD "start" (fstIx (pS pl) pl.length) := by
  refine wp_def (fn := F_broken_start) rfl rfl ?_
  unfold F_broken_start
  walk_at "hp0"
  walk_at "hys"
  refine ⟨_, itLst_loc hp, ?_⟩
  refine forE_inv (fun i r T => T = S ∧ (∀ j, j < i → pS pl j = false) ∧ ∃ z2 z3, r = [some (.loc np), z2, z3])
    ⟨rfl, (fun j hj => absurd hj (Nat.not_lt_zero _)), none, none, rfl⟩ (fun i r W _ hh => by rw [hh.1]; exact still1 hp) ?_ ?_
  · rintro i d r T hd ⟨rfl, h0, z2, z3, rfl⟩
    obtain ⟨ed, hd2, rfl⟩ := enmL_get hd
    rw [Nat.zero_add]
    rw [List.getElem?_map, Option.map_eq_some_iff] at hd2
    obtain ⟨p, gp, rfl⟩ := hd2
    have hi := (List.getElem?_eq_some_iff.1 gp).1
    obtain ⟨s1, s2, s3, s4⟩ := hz.at_ gp
    unfold pr
    refine ⟨_, rfl, ?_⟩
    walk_at "hys"
    refine wps_ite ?_
    walk_at "hy"
    refine wp_val (is_less_ok (y := 0) (hz.z p (List.mem_of_getElem? gp)).1 sz0 (by decide) (by decide)) ?_
    walk_at "hy"
    have hpT : pS pl i = decide (p.1 < 0) := by unfold pS; rw [s3]
    refine ⟨fun hb => ?_, fun hb => ?_⟩
    · walk_at "hy"
      exact ⟨rfl, by rw [fst_some hi (hpT.trans hb) h0]; rfl⟩
    · walk_at "hy"
      refine ⟨rfl, fun j hj => ?_, _, _, rfl⟩
      by_cases ej : j = i
      · rw [ej, hpT]; exact hb
      · exact h0 j (by omega)
  · rintro r T ⟨rfl, h0, z2, z3, rfl⟩
    rw [enmL_len, List.length_map] at h0
    walk_at "hys"
    exact ⟨rfl, by rw [fst_none h0]; rfl⟩
theorem ends_of_ok (hp : S[np]? = some (.lst (pl.map pr))) (hz : PlSz pl) (hl : pl.length < 1000) :
    Wp (callN (Gof L) (k + 4) 50 [.loc np] S) fun d S' => Ag (fun _ => False) S S' ∧ ∃ n, d = .loc n ∧ S.length ≤ n ∧ S'[n]? = some (.lst ((pl.map fun p => p.1 + p.2).map q)) := by
  refine wp_def (fn := F_ends_of) rfl rfl ?_
  unfold F_ends_of
  walk_at "hp0"
  walk_at "hys"
  refine wi_loc hp ?_
  refine comp_all (g := fun p : Rat × Rat => q (p.1 + p.2)) (by omega) (fun U hU => still1 (hU.get hp id)) (fun i p gp U hU => ?_) (fun S1 hag1 h1 => ?_)
  · have := hz.z p (List.mem_of_getElem? gp)
    unfold pr
    refine ⟨_, rfl, ?_⟩
    walk_at "hy"
    refine wp_val (plus_ok this.1 this.2 (by decide) (by decide)) ?_
    exact ⟨rfl, Ag.rfl⟩
  · exact ⟨hag1, _, rfl, Nat.le_refl _, by rw [h1, List.map_map]; rfl⟩
theorem broken_wait_ok {ne : Nat} (hb : S[b]? = some (.lst (wl.map waN))) (hp : S[np]? = some (.lst (pl.map pr))) (he : S[ne]? = some (.lst ((pl.map fun p => p.1 + p.2).map q))) (hz : PlSz pl) (hwz : ∀ w ∈ wl, Sz 2000 3000 w.2.2) (hwo : WOk wl pl.length) :
    Wp (callN (Gof L) (k + 4) 19 [.tup [.loc a, .loc b, .loc c, .loc e], .loc np, .loc ne] S) fun d S' => S' = S ∧ d = optD "wait" (fstIx (pW wl pl) wl.length) := by
  refine wp_def (fn := F_broken_wait) rfl rfl ?_
  unfold F_broken_wait
  walk_at "hp0"
  walk_at "hys"
  refine ⟨_, itLst_loc hb, ?_⟩
  refine forE_inv (fun i r T => T = S ∧ (∀ j, j < i → pW wl pl j = false) ∧ ∃ z3 z4 z5 z6, r = [some (.tup [.loc a, .loc b, .loc c, .loc e]), some (.loc np), some (.loc ne), z3, z4, z5, z6])
    ⟨rfl, (fun j hj => absurd hj (Nat.not_lt_zero _)), none, none, none, none, rfl⟩ (fun i r W _ hh => by rw [hh.1]; exact still1 hb) ?_ ?_
  · rintro i d r T hd ⟨rfl, h0, z3, z4, z5, z6, rfl⟩
    obtain ⟨ed, hd2, rfl⟩ := enmL_get hd
    rw [Nat.zero_add]
    rw [List.getElem?_map, Option.map_eq_some_iff] at hd2
    obtain ⟨w, gw, rfl⟩ := hd2
    have hi := (List.getElem?_eq_some_iff.1 gw).1
    obtain ⟨hu, hv, _⟩ := hwo w (List.mem_of_getElem? gw)
    obtain ⟨p, gp⟩ := get_some (xs := pl) (i := w.1) hu
    obtain ⟨p2, gp2⟩ := get_some (xs := pl) (i := w.2.1) hv
    obtain ⟨s1, s2, s3, s4⟩ := hz.at_ gp
    obtain ⟨t1, t2, t3, t4⟩ := hz.at_ gp2
    have lz := hwz w (List.mem_of_getElem? gw)
    unfold waN
    refine ⟨_, rfl, ?_⟩
    walk_at "hys"
    refine wps_ite ?_
    walk_at "hy"
    refine wx_ix (seq_loc hp) (atI_get (x := pr p2) (by rw [List.getElem?_map, gp2]; rfl)) ?_
    unfold pr
    walk_at "hy"
    refine wx_ix (seq_loc he) (atI_get (x := q (p.1 + p.2)) (by rw [List.getElem?_map, List.getElem?_map, gp]; rfl)) ?_
    walk_at "hy"
    rw [s4] at s2
    rw [t3] at t1
    refine wp_val (plus_ok s2 lz (by decide) (by decide)) ?_
    walk_at "hy"
    refine wp_val (is_less_ok t1 (s2.add lz) (by decide) (by decide)) ?_
    walk_at "hy"
    have hpT : pW wl pl i = decide (p2.1 < p.1 + p.2 + w.2.2) := by unfold pW; rw [gw]; dsimp only; rw [t3, s4]
    refine ⟨fun hb => ?_, fun hb => ?_⟩
    · walk_at "hy"
      exact ⟨rfl, by rw [fst_some hi (hpT.trans hb) h0]; rfl⟩
    · walk_at "hy"
      refine ⟨rfl, fun j hj => ?_, _, _, _, _, rfl⟩
      by_cases ej : j = i
      · rw [ej, hpT]; exact hb
      · exact h0 j (by omega)
  · rintro r T ⟨rfl, h0, z3, z4, z5, z6, rfl⟩
    rw [enmL_len, List.length_map] at h0
    walk_at "hys"
    exact ⟨rfl, by rw [fst_none h0]; rfl⟩
theorem broken_whole_ok {ne : Nat} {w : Rat} (he : S[ne]? = some (.lst ((pl.map fun p => p.1 + p.2).map q))) (hz : PlSz pl) (hw : Sz 3000 4000 w) :
    Wp (callN (Gof L) (k + 4) 20 [.loc ne, q w] S) fun d S' => S' = S ∧ d = optD "whole" (fstIx (pE pl w) pl.length) := by
  refine wp_def (fn := F_broken_whole) rfl rfl ?_
  unfold F_broken_whole
  walk_at "hp0"
  walk_at "hys"
  refine ⟨_, itLst_loc he, ?_⟩
  refine forE_inv (fun i r T => T = S ∧ (∀ j, j < i → pE pl w j = false) ∧ ∃ z2 z3, r = [some (.loc ne), some (q w), z2, z3])
    ⟨rfl, (fun j hj => absurd hj (Nat.not_lt_zero _)), none, none, rfl⟩ (fun i r W _ hh => by rw [hh.1]; exact still1 he) ?_ ?_
  · rintro i d r T hd ⟨rfl, h0, z2, z3, rfl⟩
    obtain ⟨ed, hd2, rfl⟩ := enmL_get hd
    rw [Nat.zero_add]
    rw [List.getElem?_map, List.getElem?_map, Option.map_map, Option.map_eq_some_iff] at hd2
    obtain ⟨p, gp, rfl⟩ := hd2
    have hi := (List.getElem?_eq_some_iff.1 gp).1
    obtain ⟨s1, s2, s3, s4⟩ := hz.at_ gp
    rw [s4] at s2
    refine ⟨_, rfl, ?_⟩
    walk_at "hys"
    refine wps_ite ?_
    walk_at "hy"
    show Wp (callN (Gof L) (k + 3) 74 [q w, q (p.1 + p.2)] T) _
    refine wp_val (is_less_ok hw s2 (by decide) (by decide)) ?_
    walk_at "hy"
    have hpT : pE pl w i = decide (w < p.1 + p.2) := by unfold pE; rw [s4]
    refine ⟨fun hb => ?_, fun hb => ?_⟩
    · walk_at "hy"
      exact ⟨rfl, by rw [fst_some hi (hpT.trans hb) h0]; rfl⟩
    · walk_at "hy"
      refine ⟨rfl, fun j hj => ?_, _, _, rfl⟩
      by_cases ej : j = i
      · rw [ej, hpT]; exact hb
      · exact h0 j (by omega)
  · rintro r T ⟨rfl, h0, z2, z3, rfl⟩
    rw [enmL_len, List.length_map, List.length_map] at h0
    walk_at "hys"
    exact ⟨rfl, by rw [fst_none h0]; rfl⟩
theorem broken_hold_ok {ne : Nat} (hc : S[c]? = some (.lst (hl.map hoN))) (hp : S[np]? = some (.lst (pl.map pr))) (he : S[ne]? = some (.lst ((pl.map fun p => p.1 + p.2).map q))) (hz : PlSz pl) (hhz : ∀ h ∈ hl, Sz 2000 3000 h.2.2) (hho : ∀ h ∈ hl, h.2.1 < pl.length) :
    Wp (callN (Gof L) (k + 4) 16 [.tup [.loc a, .loc b, .loc c, .loc e], .loc np, .loc ne] S) fun d S' => S' = S ∧ d = optD "hold" (fstIx (pH hl pl) hl.length) := by
  refine wp_def (fn := F_broken_hold) rfl rfl ?_
  unfold F_broken_hold
  walk_at "hp0"
  walk_at "hys"
  refine ⟨_, itLst_loc hc, ?_⟩
  refine forE_inv (fun i r T => T = S ∧ (∀ j, j < i → pH hl pl j = false) ∧ ∃ z3 z4 z5 z6 z7, r = [some (.tup [.loc a, .loc b, .loc c, .loc e]), some (.loc np), some (.loc ne), z3, z4, z5, z6, z7])
    ⟨rfl, (fun j hj => absurd hj (Nat.not_lt_zero _)), none, none, none, none, none, rfl⟩ (fun i r W _ hh => by rw [hh.1]; exact still1 hc) ?_ ?_
  · rintro i d r T hd ⟨rfl, h0, z3, z4, z5, z6, z7, rfl⟩
    obtain ⟨ed, hd2, rfl⟩ := enmL_get hd
    rw [Nat.zero_add]
    rw [List.getElem?_map, Option.map_eq_some_iff] at hd2
    obtain ⟨h, gh, rfl⟩ := hd2
    have hi := (List.getElem?_eq_some_iff.1 gh).1
    obtain ⟨p, gp⟩ := get_some (xs := pl) (i := h.2.1) (hho h (List.mem_of_getElem? gh))
    obtain ⟨s1, s2, s3, s4⟩ := hz.at_ gp
    have lz := hhz h (List.mem_of_getElem? gh)
    rw [s3] at s1
    rw [s4] at s2
    have hpT : pH hl pl i = ((decide (h.1 = ("till" : Str)) && decide (h.2.2 < p.1)) || (decide (h.1 = ("by" : Str)) && decide (h.2.2 < p.1 + p.2)) || (decide (h.1 = ("from" : Str)) && decide (p.1 < h.2.2))) := by unfold pH; rw [gh]; dsimp only; rw [s3, s4]
    have ap := atI_get (x := pr p) (i := h.2.1) (xs := pl.map pr) (by rw [List.getElem?_map, gp]; rfl)
    have ae := atI_get (x := q (p.1 + p.2)) (i := h.2.1) (xs := (pl.map fun p => p.1 + p.2).map q) (by rw [List.getElem?_map, List.getElem?_map, gp]; rfl)
    unfold hoN
    refine ⟨_, rfl, ?_⟩
    refine wps_cons ?_
    refine wps_cut (fun r1 T1 => T1 = T ∧ r1 = [some (.tup [.loc a, .loc b, .loc c, .loc e]), some (.loc np), some (.loc ne), some (.int (i : Nat)), some (.str h.1), some (.int (h.2.1 : Nat)), some (q h.2.2), some (.bl ((decide (h.1 = ("till" : Str)) && decide (h.2.2 < p.1)) || (decide (h.1 = ("by" : Str)) && decide (h.2.2 < p.1 + p.2))))]) ?_ ?_
    · have fin : ∀ {r : Ev} (b1 : Bool), b1 = (decide (h.1 = ("till" : Str)) && decide (h.2.2 < p.1)) → b1 = false → r = [some (.tup [.loc a, .loc b, .loc c, .loc e]), some (.loc np), some (.loc ne), some (.int (i : Nat)), some (.str h.1), some (.int (h.2.1 : Nat)), some (q h.2.2), z7] → Wp (evE (callN (Gof L) (k + 3)) (.bor (.cons (.band (.cons (.cmp .eq (.var 4) (.str "by")) (.cons (.call 74 (.cons (.var 6) (.cons (.ix (.var 2) (.var 5)) .nil))) .nil))) .nil)) r T) fun d S1 => S1 = T ∧ d = .bl ((decide (h.1 = ("till" : Str)) && decide (h.2.2 < p.1)) || (decide (h.1 = ("by" : Str)) && decide (h.2.2 < p.1 + p.2))) := by
        rintro r b1 e1 e2 rfl
        rw [← e1, e2, Bool.false_or]
        walk_at "hy"
        refine wq_dec (fun c1 => ?_) (fun c1 => ?_)
        · have c1 : h.1 = ("by" : Str) := c1
          rw [decide_eq_true c1, Bool.true_and]
          walk_at "hy"
          refine wx_ix (seq_loc he) ae ?_
          walk_at "hy"
          refine wp_val (is_less_ok lz s2 (by decide) (by decide)) ?_
          exact ⟨rfl, rfl⟩
        · have c1 : ¬h.1 = ("by" : Str) := c1
          rw [decide_eq_false c1, Bool.false_and]
          exact ⟨rfl, rfl⟩
      walk_at "hys"
      refine wq_dec (fun c1 => ?_) (fun c1 => ?_)
      · have c1 : h.1 = ("till" : Str) := c1
        walk_at "hy"
        refine wx_ix (seq_loc hp) ap ?_
        unfold pr
        walk_at "hy"
        refine wp_val (is_less_ok lz s1 (by decide) (by decide)) ?_
        refine ⟨_, rfl, fun hb => ?_, fun hb => ?_⟩
        · exact ⟨rfl, by rw [decide_eq_true c1, hb]; rfl⟩
        · refine wp_mono (fin (decide (h.2.2 < p.1)) (by rw [decide_eq_true c1, Bool.true_and]) hb rfl) ?_
          rintro _ _ ⟨rfl, rfl⟩
          exact ⟨rfl, rfl⟩
      · have c1 : ¬h.1 = ("till" : Str) := c1
        refine ⟨_, rfl, (fun hb => by cases hb), fun _ => ?_⟩
        refine wp_mono (fin false (by rw [decide_eq_false c1]; rfl) rfl rfl) ?_
        rintro _ _ ⟨rfl, rfl⟩
        exact ⟨rfl, rfl⟩
    rintro _ _ ⟨rfl, rfl⟩
    have hit : pH hl pl i = true → optD "hold" (fstIx (pH hl pl) hl.length) = .tup [.str "hold", .int (i : Nat)] := fun hb => by rw [fst_some hi hb h0]; rfl
    have miss : pH hl pl i = false → ∀ j, j < i + 1 → pH hl pl j = false := fun hb j hj => by
      by_cases ej : j = i
      · rw [ej]; exact hb
      · exact h0 j (by omega)
    rw [hpT] at hit miss
    generalize ((decide (h.1 = ("till" : Str)) && decide (h.2.2 < p.1)) || (decide (h.1 = ("by" : Str)) && decide (h.2.2 < p.1 + p.2))) = b7 at *
    walk_at "hys"
    refine wps_ite ?_
    walk_at "hy"
    refine ⟨fun hb => ?_, fun hb => ?_⟩
    · walk_at "hy"
      exact ⟨rfl, (hit (by rw [hb]; rfl)).symm⟩
    · subst hb
      walk_at "hy"
      refine wq_dec (fun c1 => ?_) (fun c1 => ?_)
      · have c1 : h.1 = ("from" : Str) := c1
        walk_at "hy"
        refine wx_ix (seq_loc hp) ap ?_
        unfold pr
        walk_at "hy"
        refine wp_val (is_less_ok s1 lz (by decide) (by decide)) ?_
        walk_at "hy"
        rw [decide_eq_true c1, Bool.true_and, Bool.false_or] at hit miss
        refine ⟨fun hb => ?_, fun hb => ?_⟩
        · walk_at "hy"
          exact ⟨rfl, (hit hb).symm⟩
        · walk_at "hy"
          exact ⟨rfl, miss hb, _, _, _, _, _, rfl⟩
      · have c1 : ¬h.1 = ("from" : Str) := c1
        rw [decide_eq_false c1, Bool.false_and, Bool.false_or] at miss
        walk_at "hy"
        exact ⟨rfl, miss rfl, _, _, _, _, _, rfl⟩
  · rintro r T ⟨rfl, h0, z3, z4, z5, z6, z7, rfl⟩
    rw [enmL_len, List.length_map] at h0
    walk_at "hys"
    exact ⟨rfl, by rw [fst_none h0]; rfl⟩
/-- the first wish that is broken -/
def brD : Option (Str × Nat) → D
  | none => .non
  | some p => .tup [.str p.1, .int (p.2 : Nat)]
def orB (x : Option (Str × Nat)) (w : Str) (y : Option Nat) : Option (Str × Nat) := match x with
  | some p => some p
  | none => y.map fun i => (w, i)
def brG (pl : List (Rat × Rat)) (w : Option Rat) (x : Option (Str × Nat)) : Option (Str × Nat) := match w with
  | some w => orB x "whole" (fstIx (pE pl w) pl.length)
  | none => x
def brF (ws : List Wk) (wl : List Wt) (hl : List Hd3) (pl : List (Rat × Rat)) (gb : Option Nat) (w : Option Rat) : Option (Str × Nat) :=
  brG pl w (orB (orB (orB (orB (orB none "time" (fstIx (pT ws pl) ws.length)) "group" gb) "start" (fstIx (pS pl) pl.length)) "wait" (fstIx (pW wl pl) wl.length)) "hold" (fstIx (pH hl pl) hl.length))
theorem brD_ne (x : Option (Str × Nat)) : noExc (brD x) = true := by cases x <;> rfl
theorem is_non (x : Option (Str × Nat)) : isD S (brD x) .non = some (x.isNone) := by cases x <;> rfl
theorem first_broken_ok {gb : Option Nat} {w : Option Rat} (ha : S[a]? = some (.lst (ws.map wkD))) (hb : S[b]? = some (.lst (wl.map waN))) (hc : S[c]? = some (.lst (hl.map hoN))) (hwk : ∀ w ∈ ws, w.cs ≠ [] ∧ w.cs.length < 100 ∧ (∀ p ∈ w.cs, Ok2 p) ∧ S[w.lc]? = some (.lst (w.cs.map pr))) (hp : S[np]? = some (.lst (pl.map pr))) (hz : PlSz pl) (hln : pl.length = ws.length) (h100 : pl.length < 1000)
    (hwz : ∀ w ∈ wl, Sz 2000 3000 w.2.2) (hwo : WOk wl pl.length) (hhz : ∀ h ∈ hl, Sz 2000 3000 h.2.2) (hho : ∀ h ∈ hl, h.2.1 < pl.length) (hw : ∀ u, w = some u → Sz 3000 4000 u)
    (hgr : ∀ S1, Ag (fun _ => False) S S1 → fstIx (pT ws pl) ws.length = none → Wp (callN (Gof L) (k + 4) 15 [.tup [.loc a, .loc b, .loc c, .loc e], .loc np] S1) fun d S' => Ag (fun _ => False) S1 S' ∧ d = optD "group" gb) :
    Wp (callN (Gof L) (k + 5) 53 [.tup [.loc a, .loc b, .loc c, .loc e], .loc np, owD w] S) fun d S' => Ag (fun _ => False) S S' ∧ d = brD (brF ws wl hl pl gb w) := by
  have step : ∀ (x : Option (Str × Nat)) (s : Str) (y : Option Nat), (x.isNone = false → brD (orB x s y) = brD x) ∧ (x.isNone = true → brD (orB x s y) = optD s y) := fun x s y => by
    cases x with
    | none => exact ⟨nofun, fun _ => by cases y <;> rfl⟩
    | some p => exact ⟨fun _ => rfl, nofun⟩
  unfold brF
  refine wp_def (fn := F_first_broken) rfl rfl ?_
  unfold F_first_broken
  walk_at "hp0"
  walk_at "hys"
  refine wp_mono (broken_time_ok (k := k) ha hwk hp hz hln) ?_
  rintro _ S1 ⟨hag1, rfl⟩
  generalize ht : fstIx (pT ws pl) ws.length = yt at *
  have e1 : optD "time" yt = brD (orB none "time" yt) := by cases yt <;> rfl
  have hgr2 : (orB none "time" yt).isNone = true → yt = none := fun h => by cases yt with
    | none => rfl
    | some _ => cases h
  rw [e1]
  generalize orB none "time" yt = x0 at *
  have hne0 := brD_ne x0
  walk_at "hys"
  have hne1 := brD_ne (orB x0 "group" gb)
  refine wps_cut (fun r1 T => Ag (fun _ => False) S T ∧ r1 = [some (.tup [.loc a, .loc b, .loc c, .loc e]), some (.loc np), some (owD w), some (brD (orB x0 "group" gb)), none]) ?_ ?_
  · refine wps_ite ?_
    walk_at "hy"
    refine wc_is (is_non x0) ?_
    walk_at "hy"
    refine ⟨fun h => ?_, fun h => ?_⟩
    · walk_at "hy"
      refine wp_mono (hgr S1 hag1 (hgr2 h)) ?_
      rintro _ S2 ⟨hag2, rfl⟩
      walk_at "hy"
      exact ⟨hag1.trans hag2, by rw [(step x0 "group" gb).2 h] <;> rfl⟩
    · walk_at "hy"
      exact ⟨hag1, by rw [(step x0 "group" gb).1 h] <;> rfl⟩
  rintro _ S2 ⟨hag2, rfl⟩
  generalize orB x0 "group" gb = x1 at *
  have hne2 := brD_ne (orB x1 "start" (fstIx (pS pl) pl.length))
  refine wps_cons ?_
  refine wps_cut (fun r1 T => Ag (fun _ => False) S T ∧ r1 = [some (.tup [.loc a, .loc b, .loc c, .loc e]), some (.loc np), some (owD w), some (brD (orB x1 "start" (fstIx (pS pl) pl.length))), none]) ?_ ?_
  · refine wps_ite ?_
    walk_at "hy"
    refine wc_is (is_non x1) ?_
    walk_at "hy"
    refine ⟨fun h => ?_, fun h => ?_⟩
    · walk_at "hy"
      refine wp_mono (broken_start_ok (k := k) (hag2.get hp id) hz) ?_
      rintro _ _ ⟨rfl, rfl⟩
      walk_at "hy"
      exact ⟨hag2, by rw [(step x1 "start" _).2 h] <;> rfl⟩
    · walk_at "hy"
      exact ⟨hag2, by rw [(step x1 "start" (fstIx (pS pl) pl.length)).1 h] <;> rfl⟩
  rintro _ S3 ⟨hag3, rfl⟩
  generalize orB x1 "start" (fstIx (pS pl) pl.length) = x2 at *
  walk_at "hys"
  refine wp_mono (ends_of_ok (k := k) (hag3.get hp id) hz h100) ?_
  rintro _ S4 ⟨hag4, ne, rfl, _, he⟩
  have hag4 := hag3.trans hag4
  walk_at "hys"
  have hne3 := brD_ne (orB x2 "wait" (fstIx (pW wl pl) wl.length))
  refine wps_cut (fun r1 T => T = S4 ∧ r1 = [some (.tup [.loc a, .loc b, .loc c, .loc e]), some (.loc np), some (owD w), some (brD (orB x2 "wait" (fstIx (pW wl pl) wl.length))), some (.loc ne)]) ?_ ?_
  · refine wps_ite ?_
    walk_at "hy"
    refine wc_is (is_non x2) ?_
    walk_at "hy"
    refine ⟨fun h => ?_, fun h => ?_⟩
    · walk_at "hy"
      refine wp_mono (broken_wait_ok (k := k) (hag4.get hb id) (hag4.get hp id) he hz hwz hwo) ?_
      rintro _ _ ⟨rfl, rfl⟩
      walk_at "hy"
      exact ⟨rfl, by rw [(step x2 "wait" _).2 h] <;> rfl⟩
    · walk_at "hy"
      exact ⟨rfl, by rw [(step x2 "wait" (fstIx (pW wl pl) wl.length)).1 h] <;> rfl⟩
  rintro _ S4 ⟨rfl, rfl⟩
  generalize orB x2 "wait" (fstIx (pW wl pl) wl.length) = x3 at *
  have hne4 := brD_ne (orB x3 "hold" (fstIx (pH hl pl) hl.length))
  refine wps_cons ?_
  refine wps_cut (fun r1 T => T = S4 ∧ r1 = [some (.tup [.loc a, .loc b, .loc c, .loc e]), some (.loc np), some (owD w), some (brD (orB x3 "hold" (fstIx (pH hl pl) hl.length))), some (.loc ne)]) ?_ ?_
  · refine wps_ite ?_
    walk_at "hy"
    refine wc_is (is_non x3) ?_
    walk_at "hy"
    refine ⟨fun h => ?_, fun h => ?_⟩
    · walk_at "hy"
      refine wp_mono (broken_hold_ok (k := k) (hag4.get hc id) (hag4.get hp id) he hz hhz hho) ?_
      rintro _ _ ⟨rfl, rfl⟩
      walk_at "hy"
      exact ⟨rfl, by rw [(step x3 "hold" _).2 h] <;> rfl⟩
    · walk_at "hy"
      exact ⟨rfl, by rw [(step x3 "hold" (fstIx (pH hl pl) hl.length)).1 h] <;> rfl⟩
  rintro _ S4 ⟨rfl, rfl⟩
  generalize orB x3 "hold" (fstIx (pH hl pl) hl.length) = x4 at *
  have hnw : noExc (owD w) = true := by cases w <;> rfl
  refine wps_cons ?_
  refine wps_ite ?_
  walk_at "hy"
  refine wc_is (is_non x4) ?_
  walk_at "hy"
  cases w with
  | none =>
    refine ⟨fun h => ?_, fun h => ?_⟩
    · walk_at "hy"
      refine wc_isn (q := true) rfl ?_
      walk_at "hy"
      exact ⟨hag4, rfl⟩
    · walk_at "hy"
      exact ⟨hag4, rfl⟩
  | some u =>
    refine ⟨fun h => ?_, fun h => ?_⟩
    · walk_at "hy"
      refine wc_isn (q := false) rfl ?_
      walk_at "hy"
      refine wp_mono (broken_whole_ok (k := k) he hz (hw u rfl)) ?_
      rintro _ _ ⟨rfl, rfl⟩
      have hne5 : noExc (optD "whole" (fstIx (pE pl u) pl.length)) = true := by cases fstIx (pE pl u) pl.length <;> rfl
      walk_at "hy"
      exact ⟨hag4, ((step x4 "whole" _).2 h).symm⟩
    · walk_at "hy"
      exact ⟨hag4, ((step x4 "whole" _).1 h).symm⟩
end
end HP
namespace HP
open PySem L2
structure ClG (M DP DD : Nat) (P R Ln : Rat) : Prop where
  p : ∃ E, E ≠ 0 ∧ DP * DD ∣ E ∧ E ≤ 2 ^ M ∧ P.den ∣ E
  pv : V 3000 P
  r : R.den ∣ DP ∧ V 290 R
  l : ∃ E, E ≠ 0 ∧ DP * DD ∣ E ∧ E ≤ 2 ^ M ∧ Ln.den ∣ E
  lv : V 3000 Ln
section
variable {L : List Fn} {k : Nat} {S : Sto} {n DP DD : Nat} {wl : List Wt} {hl : List Hd3} {Z : List (Arc × Rat)} {ts : List Rat}
end
section
variable {ts xs : List Rat} {wl : List Wt} {hl : List Hd3} {P : List Arc} {n : Nat}
end
end HP
namespace HP
open PySem L2
section
variable {G : Tab} {k f : Nat} {S : Sto} {DD : Nat}
end
section
variable {L : List Fn} {k : Nat} {S : Sto}
end
end HP
namespace HP
open PySem L2
theorem cut_len {A : Type} {xs : List A} {j : Nat} : (cutL xs none (some (j : Int))).length ≤ j := by
  by_cases h : j ≤ xs.length
  · rw [cut_start h, List.length_take]; omega
  · unfold cutL; rw [List.length_take, List.length_drop]; omega
def mkS (cs : List Nat) : Str := ⟨cs.toArray⟩
/-- small letters, one to eight -/
structure LetL (cs : List Nat) : Prop where
  one : 1 ≤ cs.length
  eight : cs.length ≤ 8
  ab : ∀ c ∈ cs, 97 ≤ c ∧ c < 123
/-- names, no two alike -/
def Names (xs : List Str) : Prop := ∃ css : List (List Nat), xs = css.map mkS ∧ css.Nodup ∧ ∀ cs ∈ css, LetL cs
theorem abc_at {x : Int} (h0 : 0 ≤ x) (h1 : x < 26) : atI ("abcdefghijklmnopqrstuvwxyz" : Str).cps.toList x = some (97 + x.toNat) := by
  obtain ⟨n, rfl⟩ : ∃ n : Nat, x = n := ⟨x.toNat, by omega⟩
  have hn : n < 26 := by omega
  rw [Int.toNat_natCast]
  have key : ∀ n : Fin 26, atI ("abcdefghijklmnopqrstuvwxyz" : Str).cps.toList ((n.val : Nat) : Int) = some (97 + n.val) := by decide +kernel
  exact key ⟨n, hn⟩
theorem join_fold : (cs : List Nat) → (a : Array Nat) → List.foldl (fun (acc : Array Nat) (p : Str) => acc ++ (Str.cps "") ++ p.cps) a (cs.map fun c => mkS [c]) = a ++ cs.toArray
  | [], a => by simp
  | c :: cs, a => by
    rw [List.map_cons, List.foldl_cons, join_fold cs]
    have e : (Str.cps "") = #[] := rfl
    rw [e]
    apply Array.ext'
    simp [mkS]
theorem join_mk (cs : List Nat) : Txt.join "" (cs.map fun c => mkS [c]) = mkS cs := by
  unfold Txt.join Builtin.Str.glued
  cases cs with
  | nil => rfl
  | cons c cs =>
    rw [List.map_cons, List.headD_cons, List.drop_succ_cons, List.drop_zero]
    have h := join_fold cs (mkS [c]).cps
    show Str.mk _ = _
    unfold mkS at *
    rw [h]
    congr 1
    apply Array.ext'
    simp
theorem names_of {css : List (List Nat)} {f : Nat → Nat} {p : Nat} (hf : ∀ i j, i < css.length → j < css.length → f i = f j → i = j) (h : ∀ (j : Nat) (cs : List Nat), css[j]? = some cs → LetL cs ∧ cs[p]? = some (f j)) : Names (css.map mkS) := by
  refine ⟨css, rfl, ?_, fun cs m => ?_⟩
  · unfold List.Nodup
    rw [List.pairwise_iff_getElem]
    intro i j hi hj hij e
    have h1 := (h i _ (List.getElem?_eq_getElem hi)).2
    have h2 := (h j _ (List.getElem?_eq_getElem hj)).2
    rw [e, h2] at h1
    have := hf i j hi hj (Option.some.inj h1).symm
    omega
  · obtain ⟨j, gj⟩ := List.getElem?_of_mem m
    exact (h j cs gj).1
theorem names_codes13 {turn : Int} {way : Int} {ja many : Nat} {ms : List (List Nat)} (h0 : 0 ≤ turn) (h1 : turn < 26) (hm : many ≤ 10) (hl : ms.length = many) (h : ∀ (j : Nat) (cs : List Nat), ms[j]? = some cs → LetL cs ∧ cs[if way = 1 then 0 else ja]? = some (97 + ((turn + (j : Int)).fmod 26).toNat)) : Names (ms.map mkS) :=
  names_of (f := fun j => 97 + ((turn + (j : Int)).fmod 26).toNat) (fun i j hi hj e => by
    rw [Int.fmod_eq_emod_of_nonneg _ (by decide), Int.fmod_eq_emod_of_nonneg _ (by decide)] at e
    omega) h
def wordsC : List (List Nat) := [[102, 114, 111, 109], [116, 105, 108, 108], [98, 121], [119, 111, 114, 107], [119, 97, 105, 116], [104, 111, 108, 100], [110, 111, 110, 101], [115, 116, 97, 114, 116], [101, 110, 100], [115, 116, 101, 112, 115]]
theorem names_words {turn : Int} {many : Nat} {words ys : List Str} (hw : words = [("from" : Str), "till", "by", "work", "wait", "hold", "none", "start", "end", "steps"]) (hm : many ≤ 10) (hl : ys.length = many) (h : ∀ (j : Nat) (y : Str), ys[j]? = some y → words[((turn + (j : Int)).fmod 10).toNat]? = some y) : Names ys := by
  have hwc : words = wordsC.map mkS := by rw [hw]; decide +kernel
  have hlet : ∀ cs ∈ wordsC, 1 ≤ cs.length ∧ cs.length ≤ 8 ∧ ∀ c ∈ cs, 97 ≤ c ∧ c < 123 := by decide
  have hinj : ∀ i j : Fin 10, wordsC[i.val]? = wordsC[j.val]? → i = j := by decide
  have hix : ∀ j : Nat, ∃ i : Nat, ((turn + (j : Int)).fmod 10).toNat = i ∧ i < 10 := fun j => ⟨_, rfl, by have := fmod_lt (i := turn + (j : Int)) (p := 10) (by decide); omega⟩
  refine ⟨(List.range ys.length).map fun j : Nat => (wordsC[((turn + (j : Int)).fmod 10).toNat]?).getD [], ?_, ?_, fun cs m => ?_⟩
  · apply List.ext_getElem?
    intro j
    by_cases hj : j < ys.length
    · obtain ⟨y, gy⟩ := get_some (xs := ys) (i := j) hj
      have e := h j y gy
      rw [hwc, List.getElem?_map] at e
      rw [gy, List.getElem?_map, List.getElem?_map, List.getElem?_range hj]
      obtain ⟨cs, gc, ec⟩ := Option.map_eq_some_iff.1 e
      show _ = some (mkS ((wordsC[((turn + (j : Int)).fmod 10).toNat]?).getD []))
      rw [gc]
      exact congrArg some ec.symm
    · rw [List.getElem?_eq_none (by omega), List.getElem?_eq_none (by rw [List.length_map, List.length_map, List.length_range]; omega)]
  · unfold List.Nodup
    rw [List.pairwise_map]
    have hr := List.pairwise_lt_range (n := ys.length)
    rw [List.pairwise_iff_getElem] at hr ⊢
    intro i j hi hj hij e
    rw [List.getElem_range, List.getElem_range] at e
    rw [List.length_range] at hi hj
    obtain ⟨a, ea, ha⟩ := hix i
    obtain ⟨b, eb, hb⟩ := hix j
    rw [ea, eb] at e
    have la : wordsC.length = 10 := rfl
    rw [List.getElem?_eq_getElem (by omega), List.getElem?_eq_getElem (by omega)] at e
    have := hinj ⟨a, ha⟩ ⟨b, hb⟩ (by show wordsC[a]? = wordsC[b]?; rw [List.getElem?_eq_getElem (by omega), List.getElem?_eq_getElem (by omega)]; exact congrArg some e)
    have eab : a = b := by injection this
    rw [← eab] at eb
    rw [Int.fmod_eq_emod_of_nonneg _ (by decide)] at ea eb
    omega
  · obtain ⟨j, mj, rfl⟩ := List.mem_map.1 m
    obtain ⟨a, ea, ha⟩ := hix j
    have la : wordsC.length = 10 := rfl
    rw [ea, List.getElem?_eq_getElem (by omega)]
    have := hlet _ (List.getElem_mem (l := wordsC) (n := a) (by omega))
    exact ⟨this.1, this.2.1, this.2.2⟩
section
variable {G : Tab} {k f l : Nat} {S : Sto} {take : Nat}
theorem names_full13 {many : Nat} (hG : G f = some (K_names13 take)) (hT : Takes G take) (hst : StAt l S) (hm : many ≤ 10) :
    Wp (callN G (k + 2) f [.loc l, .int many] S) fun d S' => StAt l S' ∧ Ag (· = l) S S' ∧ ∃ (n : Nat) (xs : List Str), d = .loc n ∧ S.length ≤ n ∧ S'[n]? = some (.lst (xs.map D.str)) ∧ xs.length = many ∧ Names xs := by
  have hl := stAt_lt hst
  refine wp_def hG rfl ?_
  unfold K_names13
  walk_at "hp0"
  walk_at "hys"
  refine wp_mono (hT _ _ _ _ hst (by decide) (by decide)) ?_
  rintro _ S1 ⟨hst1, hag1, way, rfl, _, _⟩
  walk_at "hys"
  refine wp_mono (hT _ _ _ _ hst1 (by decide) (by decide)) ?_
  rintro _ S2 ⟨hst2, hag2, turn, rfl, hu0, hu1⟩
  walk_at "hys"
  refine wp_mono (hT _ _ _ _ hst2 (by decide) (by decide)) ?_
  rintro _ S3 ⟨hst3, hag3, nb, rfl, hb0, hb1⟩
  have hag03 := (hag1.trans hag2).trans hag3
  have hl03 := hag03.1
  walk_at "hys"
  refine ⟨by unfold okRng; simp; omega, ?_⟩
  refine compE_inv (fun i T => StAt l T ∧ Ag (· = l) S3 T ∧ ∃ bs : List Int, bs.length = i ∧ T[S3.length]? = some (.lst (bs.map D.int)) ∧ ∀ x ∈ bs, 0 ≤ x ∧ x < 26)
    ⟨hst3.ag (P := fun _ => False) Ag.app id, Ag.app, [], rfl, app_get, fun x m => nomatch m⟩ (fun _ _ _ _ => still0) ?_ ?_
  · rintro i d T hd ⟨hstT, hagT, bs, hbl, hbs, hbb⟩
    obtain ⟨hi, rfl⟩ := rng0_get hd
    refine ⟨_, rfl, ?_⟩
    walk_at "hys"
    refine wp_mono (hT _ _ _ _ hstT (by decide) (by decide)) ?_
    rintro _ T4 ⟨hst4, hag4, g, rfl, hg0, hg1⟩
    have hbs := hag4.get hbs (by omega)
    refine ⟨_, hbs, by rw [List.length_map]; show bs.length < 16777216; omega, hst4.ag (P := (· = S3.length)) (Ag.set (Or.inl rfl)) (by omega), (hagT.trans hag4).new (Ag.set (Or.inl (Or.inr (Nat.le_refl _)))), bs ++ [g], by rw [List.length_append, hbl]; rfl, ?_, ?_⟩
    · rw [set_get hbs, List.map_append]; rfl
    · intro x hx
      rcases List.mem_append.1 hx with hx | hx
      · exact hbb x hx
      · rw [List.mem_singleton.1 hx]; exact ⟨hg0, hg1⟩
  rintro S4 ⟨hst4, hag4, bs, hbl, hbs, hbb⟩
  rw [rngL_len] at hbl
  have hbl1 : 0 < bs.length ∧ bs.length ≤ 8 := by omega
  have hag04 := hag03.trans hag4
  generalize hn4 : S3.length = n4 at *
  walk_at "hys"
  rw [List.length_map]
  refine wp_mono (hT _ _ _ _ hst4 (by omega) (Nat.le_trans (m := 10) (by omega) (by decide))) ?_
  rintro _ S5 ⟨hst5, hag5, at_, rfl, hat0, hat1⟩
  have hbs5 := hag5.get hbs (by omega)
  have hag05 := hag04.trans hag5
  have hl5 := hag05.1
  have hn45 := get_lt hbs5
  obtain ⟨ja, rfl, hja⟩ := int_nat hat0 hat1
  walk_at "hys"
  have hA6 : Ag (fun _ => False) S5 (S5 ++ [.lst ([("from" : Str), "till", "by", "work", "wait", "hold", "none", "start", "end", "steps"].map D.str)]) := Ag.app
  have hw6 : (S5 ++ [.lst ([("from" : Str), "till", "by", "work", "wait", "hold", "none", "start", "end", "steps"].map D.str)])[S5.length]? = some (.lst ([("from" : Str), "till", "by", "work", "wait", "hold", "none", "start", "end", "steps"].map D.str)) := app_get
  have hbs6 := hA6.get hbs5 id
  have hst6 := hst5.ag hA6 id
  have hag06 := hag05.trans (hA6.mono fun i hi => hi.elim)
  generalize hwl : [("from" : Str), "till", "by", "work", "wait", "hold", "none", "start", "end", "steps"] = words at *
  have hwlen : words.length = 10 := by rw [← hwl]; rfl
  have e6 : S5 ++ [O.lst [.str "from", .str "till", .str "by", .str "work", .str "wait", .str "hold", .str "none", .str "start", .str "end", .str "steps"]] = S5 ++ [.lst (words.map D.str)] := by rw [← hwl]; rfl
  rw [e6]
  clear e6
  generalize S5 ++ [.lst (words.map D.str)] = S6 at *
  generalize hn5 : S5.length = n5 at *
  have hA7 : Ag (fun _ => False) S6 (S6 ++ [.lst []]) := Ag.app
  have hm7 : (S6 ++ [.lst []])[S6.length]? = some (.lst (([] : List Str).map D.str)) := app_get
  have hbs7 := hA7.get hbs6 id
  have hw7 := hA7.get hw6 id
  have hst7 := hst6.ag hA7 id
  have hag07 := hag06.trans (hA7.mono fun i hi => hi.elim)
  have hn6 := get_lt hw6
  generalize S6 ++ [.lst []] = S7 at *
  generalize hn6e : S6.length = n6 at *
  refine ⟨by unfold okRng; simp; omega, ?_⟩
  rw [Int.toNat_natCast]
  have m26 : ∀ i : Nat, 0 ≤ (turn + (i : Int)).fmod 26 ∧ (turn + (i : Int)).fmod 26 < 26 := fun i => fmod_lt (by decide)
  refine forE_inv (fun i r T => StAt l T ∧ Ag (· = l) S T ∧ T[n4]? = some (.lst (bs.map D.int)) ∧ T[n5]? = some (.lst (words.map D.str)) ∧ ∃ ms : List (List Nat), T[n6]? = some (.lst ((ms.map mkS).map D.str)) ∧ ms.length = i ∧ (∀ (j : Nat) (cs : List Nat), ms[j]? = some cs → LetL cs ∧ cs[if way = 1 then 0 else ja]? = some (97 + ((turn + (j : Int)).fmod 26).toNat)) ∧ ∃ z8 z9, r = [some (.loc l), some (.int many), some (.int way), some (.int turn), some (.loc n4), some (.int (ja : Nat)), some (.loc n5), some (.loc n6), z8, z9, none])
    ⟨hst7, hag07, hbs7, hw7, [], hm7, rfl, (fun j cs h => by cases h), none, none, rfl⟩ (fun _ _ _ _ _ => still0) ?_ ?_
  · rintro i d r T hd ⟨hstT, hagT, hbsT, hwT, ms, hmsT, hml, hmc, z8, z9, rfl⟩
    obtain ⟨hi, rfl⟩ := rng0_get hd
    have hlT := hagT.1
    refine ⟨_, rfl, ?_⟩
    walk_at "hys"
    refine wf_list (seq_loc hbsT) ?_
    have hA1 : Ag (fun _ => False) T (T ++ [.lst (bs.map D.int)]) := Ag.app
    have hd1 : (T ++ [.lst (bs.map D.int)])[T.length]? = some (.lst (bs.map D.int)) := app_get
    have hbs1 := hA1.get hbsT id
    have hw1 := hA1.get hwT id
    have hms1 := hA1.get hmsT id
    have hst1 := hstT.ag hA1 id
    have hag1 := hagT.trans (hA1.mono fun i hi => hi.elim)
    have hn6T := get_lt hmsT
    have hn4T := get_lt hbsT
    have hn5T := get_lt hwT
    generalize T ++ [.lst (bs.map D.int)] = T1 at *
    generalize hnt : T.length = nt at *
    walk_at "hys"
    refine ⟨_, setIx_loc (j := ja) hd1 (by unfold ixN; rw [if_pos (by omega), if_pos (by rw [List.length_map]; omega)]; simp), ?_⟩
    have hA2 := Ag.set (P := (· = nt)) (S := T1) (o := .lst ((bs.map D.int).set ja (.int ((turn + (i : Int)).fmod 26)))) (Or.inl rfl)
    have hd2 : (T1.set nt (.lst ((bs.map D.int).set ja (.int ((turn + (i : Int)).fmod 26)))))[nt]? = some (.lst ((bs.set ja ((turn + (i : Int)).fmod 26)).map D.int)) := by rw [set_get hd1, List.map_set]
    have hbs2 := hA2.get hbs1 (by omega)
    have hw2 := hA2.get hw1 (by omega)
    have hms2 := hA2.get hms1 (by omega)
    have hst2 := hst1.ag hA2 (by omega)
    have hag2 := hag1.new (hA2.mono (by rintro i rfl; exact Or.inr (by omega)))
    have hcb : ∀ x ∈ bs.set ja ((turn + (i : Int)).fmod 26), 0 ≤ x ∧ x < 26 := by
      intro x m
      rcases List.mem_or_eq_of_mem_set m with m | rfl
      · exact hbb x m
      · exact m26 i
    have hcl : (bs.set ja ((turn + (i : Int)).fmod 26)).length ≤ 8 := by rw [List.length_set]; omega
    generalize T1.set nt (.lst ((bs.map D.int).set ja (.int ((turn + (i : Int)).fmod 26)))) = T2 at *
    have hcl1 : (bs.set ja ((turn + (i : Int)).fmod 26)).length = bs.length := List.length_set ..
    have hcj : (bs.set ja ((turn + (i : Int)).fmod 26))[ja]? = some ((turn + (i : Int)).fmod 26) := by rw [List.getElem?_set_self (by omega)]
    generalize bs.set ja ((turn + (i : Int)).fmod 26) = cs at *
    walk_at "hys"
    refine wps_cut (fun r1 T3 => StAt l T3 ∧ Ag (· = l) S T3 ∧ T3[n4]? = some (.lst (bs.map D.int)) ∧ T3[n5]? = some (.lst (words.map D.str)) ∧ T3[n6]? = some (.lst ((ms.map mkS).map D.str)) ∧ ∃ (nd : Nat) (ds : List Int), T3[nd]? = some (.lst (ds.map D.int)) ∧ (1 ≤ ds.length ∧ ds.length ≤ 8) ∧ ((∀ x ∈ ds, 0 ≤ x ∧ x < 26) ∧ ds[if way = 1 then 0 else ja]? = some ((turn + (i : Int)).fmod 26)) ∧ r1 = [some (.loc l), some (.int many), some (.int way), some (.int turn), some (.loc n4), some (.int (ja : Nat)), some (.loc n5), some (.loc n6), some (.int (i : Nat)), some (.loc nd), none]) ?_ ?_
    · walk_at "hy"
      refine wq_dec (fun c => ?_) (fun c => ?_)
      · walk_at "hy"
        have hA3 : Ag (fun _ => False) T2 (T2 ++ [.lst [.int ((turn + (i : Int)).fmod 26)]]) := Ag.app
        have hd3 : (T2 ++ [.lst [.int ((turn + (i : Int)).fmod 26)]])[T2.length]? = some (.lst ([(turn + (i : Int)).fmod 26].map D.int)) := app_get
        have hd23 := hA3.get hd2 id
        have hbs3 := hA3.get hbs2 id
        have hw3 := hA3.get hw2 id
        have hms3 := hA3.get hms2 id
        have hst3 := hst2.ag hA3 id
        have hag3 := hag2.trans (hA3.mono fun i hi => hi.elim)
        generalize T2 ++ [.lst [.int ((turn + (i : Int)).fmod 26)]] = T3 at *
        refine wf_len (seq_loc hbs3) ?_
        walk_at "hy"
        rw [List.length_map]
        refine wb_mod (by omega) ?_
        walk_at "hy"
        refine ws_lst (lst_loc hd23) ?_
        rw [cutL_map]
        have hA4 : Ag (fun _ => False) T3 (T3 ++ [.lst ((cutL cs none (some ((i : Int).fmod (bs.length : Int)))).map D.int)]) := Ag.app
        have hd4 : (T3 ++ [.lst ((cutL cs none (some ((i : Int).fmod (bs.length : Int)))).map D.int)])[T3.length]? = some (.lst ((cutL cs none (some ((i : Int).fmod (bs.length : Int)))).map D.int)) := app_get
        have hcl4 : (cutL cs none (some ((i : Int).fmod (bs.length : Int)))).length ≤ 8 := by unfold cutL; rw [List.length_take, List.length_drop]; omega
        have hcl5 : (cutL cs none (some ((i : Int).fmod (bs.length : Int)))).length ≤ 7 := by
          have hq := fmod_lt (i := (i : Int)) (p := (bs.length : Int)) (by omega)
          obtain ⟨jj, ej, hj⟩ : ∃ jj : Nat, (i : Int).fmod (bs.length : Int) = (jj : Int) ∧ jj ≤ 7 := ⟨((i : Int).fmod (bs.length : Int)).toNat, by omega, by omega⟩
          rw [ej]
          exact Nat.le_trans cut_len hj
        have hcb4 : ∀ x ∈ cutL cs none (some ((i : Int).fmod (bs.length : Int))), 0 ≤ x ∧ x < 26 := fun x m => hcb x (mem_cutL m)
        have hd34 := hA4.get hd3 id
        have hbs4 := hA4.get hbs3 id
        have hw4 := hA4.get hw3 id
        have hms4 := hA4.get hms3 id
        have hst4 := hst3.ag hA4 id
        have hag4 := hag3.trans (hA4.mono fun i hi => hi.elim)
        generalize T3 ++ [.lst ((cutL cs none (some ((i : Int).fmod (bs.length : Int)))).map D.int)] = T4 at *
        generalize cutL cs none (some ((i : Int).fmod (bs.length : Int))) = es at *
        refine wb_addl hd34 hd4 (by simp only [List.length_map]; show 1 + es.length ≤ 16777216; omega) ?_
        walk_at "hy"
        have hA5 : Ag (fun _ => False) T4 (T4 ++ [.lst ([(turn + (i : Int)).fmod 26].map D.int ++ es.map D.int)]) := Ag.app
        refine ⟨hst4.ag hA5 id, hag4.trans (hA5.mono fun i hi => hi.elim), hA5.get hbs4 id, hA5.get hw4 id, hA5.get hms4 id, T4.length, [(turn + (i : Int)).fmod 26] ++ es, by rw [app_get, List.map_append], ⟨by rw [List.length_append]; show 1 ≤ 1 + _; omega, by rw [List.length_append]; show 1 + _ ≤ 8; omega⟩, ⟨?_, by rw [if_pos (of_decide_eq_true (decide_eq_true c))]; rfl⟩, rfl⟩
        intro x m
        rcases List.mem_append.1 m with m | m
        · rw [List.mem_singleton.1 m]; exact m26 i
        · exact hcb4 x m
      · walk_at "hy"
        exact ⟨hst2, hag2, hbs2, hw2, hms2, nt, cs, hd2, ⟨by omega, by omega⟩, ⟨hcb, by rw [if_neg c]; exact hcj⟩, rfl⟩
    rintro r1 T3 ⟨hst3, hag3, hbs3, hw3, hms3, nd, ds, hds, hdl, ⟨hdb, hdk⟩, rfl⟩
    have hl3 := hag3.1
    have hn63 := get_lt hms3
    walk_at "hys"
    refine ⟨isL_loc hms3, ?_⟩
    walk_at "hys"
    refine wi_loc hds ?_
    refine compE_inv (fun i U => Ag (fun _ => False) T3 U ∧ ∃ ys : List Nat, ys = (ds.take i).map (fun x => 97 + x.toNat) ∧ U[T3.length]? = some (.lst ((ys.map fun c => mkS [c]).map D.str))) ⟨Ag.app, [], rfl, app_get⟩ (fun _ U _ hh => still1 (hh.1.get hds id)) ?_ ?_
    · rintro j d U hd ⟨hagU, ys, hyl, hys⟩
      rw [List.getElem?_map, Option.map_eq_some_iff] at hd
      obtain ⟨x, hx, rfl⟩ := hd
      have hxb := hdb x (List.mem_of_getElem? hx)
      have hjl := (List.getElem?_eq_some_iff.1 hx).1
      have hyl2 : ys.length ≤ 8 := by rw [hyl, List.length_map, List.length_take]; omega
      refine ⟨_, rfl, ?_⟩
      walk_at "hys"
      refine wx_str (by rw [abc_len]; decide) (abc_at hxb.1 hxb.2) ?_
      refine ⟨_, hys, by rw [List.length_map, List.length_map]; show ys.length < 16777216; omega, hagU.new (Ag.set (Or.inl (Or.inr (Nat.le_refl _)))), ys ++ [97 + x.toNat], by rw [hyl, take_succ_get hx, List.map_append]; rfl, by rw [set_get hys, List.map_append, List.map_append]; rfl⟩
    rintro U ⟨hagU, ys, hyl, hys⟩
    rw [List.length_map, List.take_length] at hyl
    have hyl8 : ys.length = ds.length := by rw [hyl, List.length_map]
    have hlet : LetL ys := ⟨by omega, by omega, fun c mc => by
      rw [hyl] at mc
      obtain ⟨x, mx, rfl⟩ := List.mem_map.1 mc
      have := hdb x mx
      omega⟩
    have hkey : ys[if way = 1 then 0 else ja]? = some (97 + ((turn + (i : Int)).fmod 26).toNat) := by rw [hyl, List.getElem?_map, hdk]; rfl
    refine wj_join (seq_loc hys) (strsD_map _) (by rw [sum_sg (fun y m => by obtain ⟨c, _, rfl⟩ := List.mem_map.1 m; rfl), show ("" : Str).length = 0 from rfl, List.length_map]; omega) ?_
    rw [join_mk]
    have hms4 := hagU.get hms3 id
    walk_at "hys"
    refine wm_append hms4 (by rw [List.length_map, List.length_map]; show ms.length < 16777216; omega) ?_
    have hA5 := Ag.set (P := (· = n6)) (S := U) (o := .lst ((ms.map mkS).map D.str ++ [.str (mkS ys)])) (Or.inl rfl)
    walk_at "hys"
    exact ⟨(hst3.ag hagU id).ag hA5 (by omega), (hag3.trans (hagU.mono fun i hi => hi.elim)).new (hA5.mono (by rintro i rfl; exact Or.inr (by omega))), hA5.get (hagU.get hbs3 id) (by omega), hA5.get (hagU.get hw3 id) (by omega), ms ++ [ys], by rw [set_get hms4, List.map_append, List.map_append]; rfl, by rw [List.length_append, hml]; rfl, (fun j cs gj => by
      rcases app1_get gj with gj | ⟨ej, rfl⟩
      · exact hmc j cs gj
      · rw [ej, hml]; exact ⟨hlet, hkey⟩), _, _, rfl⟩
  rintro r T ⟨hstT, hagT, hbsT, hwT, ms, hmsT, hml, hmc, z8, z9, rfl⟩
  rw [rngL_len] at hml
  have hlT := hagT.1
  walk_at "hys"
  refine ⟨by unfold okRng; simp; omega, ?_⟩
  rw [Int.toNat_natCast]
  refine compE_inv (fun i U => Ag (fun _ => False) T U ∧ ∃ ys : List Str, ys.length = i ∧ U[T.length]? = some (.lst (ys.map D.str)) ∧ ∀ (j : Nat) (y : Str), ys[j]? = some y → words[((turn + (j : Int)).fmod 10).toNat]? = some y) ⟨Ag.app, [], rfl, app_get, (fun j y h => by cases h)⟩ (fun _ _ _ _ => still0) ?_ ?_
  · rintro i d U hd ⟨hagU, ys, hyl, hys, hyw⟩
    obtain ⟨hi, rfl⟩ := rng0_get hd
    have m10 : 0 ≤ (turn + (i : Int)).fmod 10 ∧ (turn + (i : Int)).fmod 10 < 10 := fmod_lt (by decide)
    obtain ⟨j, ej, hj⟩ := int_nat (n := words.length) m10.1 (by rw [hwlen]; exact m10.2)
    have gw : words[j]? = some (words[j]'hj) := List.getElem?_eq_getElem _
    generalize words[j]'hj = w at gw
    have gw2 : (words.map D.str)[j]? = some (.str w) := by rw [List.getElem?_map, gw]; rfl
    refine ⟨_, rfl, ?_⟩
    walk_at "hys"
    rw [ej]
    refine wx_ix (seq_loc (hagU.get hwT id)) (atI_get gw2) ?_
    exact ⟨_, hys, by rw [List.length_map]; show ys.length < 16777216; omega, hagU.new (Ag.set (Or.inl (Or.inr (Nat.le_refl _)))), ys ++ [w], by rw [List.length_append, hyl]; rfl, by rw [set_get hys, List.map_append]; rfl, fun j' y gj => by
      rcases app1_get gj with gj | ⟨ej2, rfl⟩
      · exact hyw j' y gj
      · rw [ej2, hyl, ej, Int.toNat_natCast]; exact gw⟩
  rintro U ⟨hagU, ys, hyl, hys, hyw⟩
  rw [rngL_len] at hyl
  walk_at "hys"
  have hA : Ag (fun _ => False) U (U ++ [.lst [.loc n6, .loc T.length]]) := Ag.app
  have hd : (U ++ [.lst [.loc n6, .loc T.length]])[U.length]? = some (.lst [.loc n6, .loc T.length]) := app_get
  have hstU := (hstT.ag hagU id).ag hA id
  have hagU2 := (hagT.trans (hagU.mono fun i hi => hi.elim)).trans (hA.mono fun i hi => hi.elim)
  have h1 := hA.get (hagU.get hmsT id) id
  have h2 := hA.get hys id
  generalize U ++ [.lst [.loc n6, .loc T.length]] = V at *
  by_cases c : way = 0
  · rw [decide_eq_true c]
    refine wx_ix (seq_loc hd) (v := .loc T.length) rfl ?_
    refine ⟨hstU, hagU2, T.length, ys, rfl, by omega, h2, hyl, ?_⟩
    exact names_words (by rw [hwl]) hm hyl hyw
  · rw [decide_eq_false c]
    refine wx_ix (seq_loc hd) (v := .loc n6) rfl ?_
    refine ⟨hstU, hagU2, n6, ms.map mkS, rfl, by omega, h1, by rw [List.length_map]; exact hml, ?_⟩
    exact names_codes13 hu0 hu1 hm hml hmc
end
end HP
namespace HP
open PySem L2
/-- what drawing names comes to -/
def NamesSpec (G : Tab) (f : Nat) : Prop := ∀ (k l many : Nat) (S : Sto), StAt l S → many ≤ 10 → Wp (callN G (k + 2) f [.loc l, .int many] S) fun d S' => StAt l S' ∧ Ag (· = l) S S' ∧ ∃ (n : Nat) (xs : List Str), d = .loc n ∧ S.length ≤ n ∧ S'[n]? = some (.lst (xs.map D.str)) ∧ xs.length = many ∧ Names xs
theorem names_spec {G : Tab} {f take : Nat} (h : G f = some (K_names13 take)) (hT : Takes G take) : NamesSpec G f := fun _ _ _ _ hst hm => names_full13 h hT hst hm
def WkLc (w : Wk) : Prop := ∀ p ∈ w.cs, p.1.den ∣ LC ∧ p.2.den ∣ LC * LC
/-- a group of works by steps with as many corners -/
structure GrOk (ws : List Wk) (g : List Int) : Prop where
  two : 2 ≤ g.length
  three : g.length ≤ 3
  nd : g.Nodup
  at_ : ∀ x ∈ g, (0 ≤ x ∧ x < ws.length) ∧ ∀ w, ws[x.toNat]? = some w → w.kd = ("steps" : Str) ∧ ∀ y w', y ∈ g → ws[y.toNat]? = some w' → w'.cs.length = w.cs.length
structure NetOk3 (ws : List Wk) (wa : List (Int × Int × Rat)) (ho : List (Str × Int × Rat)) (gr : List (Nat × List Int)) : Prop where
  one : 0 < ws.length
  ten : ws.length ≤ 10
  wk : ∀ w ∈ ws, WkOk w
  lc : ∀ w ∈ ws, WkLc w
  wal : wa.length ≤ 40
  was : ∀ w ∈ wa, 0 ≤ w.1 ∧ w.1 < ws.length ∧ 0 ≤ w.2.1 ∧ w.2.1 < ws.length ∧ w.1 ≠ w.2.1 ∧ V 60 w.2.2 ∧ w.2.2.den ∣ LC
  hol : ho.length ≤ 4
  hos : ∀ h ∈ ho, (h.1 = ("from" : Str) ∨ h.1 = ("till" : Str) ∨ h.1 = ("by" : Str)) ∧ 0 ≤ h.2.1 ∧ h.2.1 < ws.length ∧ V 110 h.2.2 ∧ h.2.2.den ∣ LC
  grl : gr.length ≤ 4
  grs : ∀ g ∈ gr, GrOk ws g.2
  grp : gr.Pairwise (fun g h => ∀ x ∈ g.2, x ∉ h.2)
  nms : Names (ws.map Wk.nm)
theorem eqv_int' (a b : Int) : PyData.eqv (.int a) (.int b) = decide (a = b) := eqv_int a b
section
variable {G : Tab} {k f l : Nat} {S : Sto} {begun take low plus minus times amount offer names waits holds groups order lag : Nat}
theorem order_ok3 {many : Nat} (hG : G f = some (K_order take)) (hT : Takes G take) (hst : StAt l S) (hm : many ≤ 100) :
    Wp (callN G (k + 2) f [.loc l, .int many] S) fun d S' => StAt l S' ∧ Ag (· = l) S S' ∧ ∃ (n : Nat) (xs : List Int), d = .loc n ∧ S.length ≤ n ∧ S'[n]? = some (.lst (xs.map D.int)) ∧ xs.length = many ∧ (∀ x ∈ xs, 0 ≤ x ∧ x < many) ∧ xs.Nodup := by
  have hl := stAt_lt hst
  refine wp_def hG rfl ?_
  unfold K_order
  walk_at "hp0"
  walk_at "hys"
  refine wl_lstR ⟨by unfold okRng; simp; omega, by rw [Int.toNat_natCast]; omega⟩ ?_
  rw [Int.toNat_natCast]
  have e0 : rngL 0 many = ((List.range many).map fun i : Nat => (i : Int)).map D.int := by
    unfold rngL
    rw [List.map_map]
    refine List.map_congr_left fun i _ => ?_
    show D.int (0 + (i : Int)) = D.int (i : Int)
    rw [Int.zero_add]
  rw [e0]
  have hr : ∀ x ∈ (List.range many).map (fun i : Nat => (i : Int)), 0 ≤ x ∧ x < many := by
    intro x m
    obtain ⟨i, h1, rfl⟩ := List.mem_map.1 m
    have := List.mem_range.1 h1
    omega
  have hrl : ((List.range many).map (fun i : Nat => (i : Int))).length = many := by rw [List.length_map, List.length_range]
  have hnd : ((List.range many).map (fun i : Nat => (i : Int))).Nodup := by
    have h := List.nodup_range (n := many)
    unfold List.Nodup at *
    rw [List.pairwise_map]
    exact h.imp fun hne e => hne (Int.ofNat_inj.1 e)
  generalize (List.range many).map (fun i : Nat => (i : Int)) = ys at *
  walk_at "hys"
  have g2 : ((S ++ [.lst (ys.map D.int)]) ++ [.lst []])[S.length]? = some (.lst (ys.map D.int)) := (Ag.app (P := fun _ => False)).get app_get id
  have g3 : ((S ++ [.lst (ys.map D.int)]) ++ [.lst []])[(S ++ [O.lst (ys.map D.int)]).length]? = some (.lst (([] : List Int).map D.int)) := app_get
  have hag : Ag (· = l) S ((S ++ [.lst (ys.map D.int)]) ++ [.lst []]) := Ag.app.trans Ag.app
  have hst1 := (hst.ag (P := fun _ => False) (Ag.app (T := [.lst (ys.map D.int)])) id).ag (P := fun _ => False) (Ag.app (T := [.lst []])) id
  have hn3 : (S ++ [O.lst (ys.map D.int)]).length = S.length + 1 := by rw [List.length_append]; rfl
  rw [hn3] at g3 ⊢
  generalize (S ++ [O.lst (ys.map D.int)]) ++ [.lst []] = S1 at *
  refine wps_whl (fun w r T => StAt l T ∧ Ag (· = l) S T ∧ r = [some (.loc l), some (.int many), some (.loc S.length), some (.loc (S.length + 1))] ∧ ∃ ys xs : List Int, w = ys.length ∧ T[S.length]? = some (.lst (ys.map D.int)) ∧ T[S.length + 1]? = some (.lst (xs.map D.int)) ∧ ys.length + xs.length = many ∧ (∀ x ∈ ys, 0 ≤ x ∧ x < many) ∧ (∀ x ∈ xs, 0 ≤ x ∧ x < many) ∧ (ys.Nodup ∧ xs.Nodup ∧ ∀ x ∈ xs, x ∉ ys))
    ⟨hst1, hag, rfl, ys, [], rfl, g2, g3, hrl, hr, (by intro x m; cases m), hnd, List.nodup_nil, (by intro x m; cases m)⟩ ?_
  clear g2 g3 hag hst1 e0 hr hrl hnd
  rintro w r T ⟨hstT, hagT, rfl, ys, xs, rfl, g2, g3, hlen, hy, hx, hn1, hn2, hn3⟩
  walk_at "hy"
  have hA : Ag (fun _ => False) T (T ++ [.lst []]) := Ag.app
  have hnil : (T ++ [.lst []])[T.length]? = some (.lst (([] : List Int).map D.int)) := app_get
  have hstU := hstT.ag hA id
  have hagU := hagT.trans (hA.mono fun i hi => hi.elim)
  have g2 := hA.get g2 id
  have g3 := hA.get g3 id
  generalize T ++ [.lst []] = U at *
  refine wc_ne (eq_loc (dt_ints (P := fun _ => True) g2 trivial) (dt_ints (P := fun _ => True) hnil trivial) (cmp_ints (by omega)) (cmp_ints (by decide))) ?_
  have hq : PyData.eqv (.list (ys.map PyData.int)) (.list (([] : List Int).map PyData.int)) = ys.isEmpty := by
    cases ys with
    | nil => rfl
    | cons _ _ => rfl
  rw [hq]
  walk_at "hy"
  refine ⟨fun c => ?_, fun c => ?_⟩
  · have hpos : 0 < ys.length := by cases ys with | nil => cases c | cons _ _ => simp
    walk_at "hy"
    refine ⟨isL_loc g3, ?_⟩
    walk_at "hy"
    refine ⟨isL_loc g2, ?_⟩
    walk_at "hy"
    rw [List.length_map]
    refine wp_mono (hT _ _ _ _ hstU (by omega) (Nat.le_trans (m := 100) (by omega) (by decide))) ?_
    rintro _ U1 ⟨hst1, hag1, v, rfl, hv0, hv1⟩
    obtain ⟨j, rfl⟩ : ∃ j : Nat, v = j := ⟨v.toNat, by omega⟩
    have g2 := hag1.get g2 (by omega)
    have g3 := hag1.get g3 (by omega)
    have gj : ys[j]? = some (ys[j]'(by omega)) := List.getElem?_eq_getElem _
    generalize ys[j]'(by omega) = y at gj
    have gj2 : (ys.map D.int)[j]? = some (.int y) := by rw [List.getElem?_map, gj]; rfl
    walk_at "hy"
    refine wm_popAt g2 gj2 (by omega) ?_
    have hA2 := Ag.set (P := (· = S.length)) (S := U1) (o := .lst ((ys.map D.int).eraseIdx j)) (Or.inl rfl)
    have g2' : (U1.set S.length (.lst ((ys.map D.int).eraseIdx j)))[S.length]? = some (.lst ((ys.eraseIdx j).map D.int)) := by rw [set_get g2, map_erase]
    have g3' := hA2.get g3 (by omega)
    have hst2 := hst1.ag hA2 (by omega)
    have hag2 : Ag (· = l) S (U1.set S.length (.lst ((ys.map D.int).eraseIdx j))) := (hagU.trans hag1).new (hA2.mono (by rintro i rfl; exact Or.inr (Nat.le_refl _)))
    generalize U1.set S.length (.lst ((ys.map D.int).eraseIdx j)) = U2 at *
    walk_at "hy"
    refine wm_append g3' (by rw [List.length_map]; show xs.length < 16777216; omega) ?_
    have hA3 := Ag.set (P := (· = S.length + 1)) (S := U2) (o := .lst (xs.map D.int ++ [.int y])) (Or.inl rfl)
    walk_at "hy"
    have hyl : (ys.eraseIdx j).length = ys.length - 1 := by rw [List.length_eraseIdx, if_pos (by omega)]
    refine ⟨(ys.eraseIdx j).length, by omega, hst2.ag hA3 (by omega), hag2.new (hA3.mono (by rintro i rfl; exact Or.inr (by omega))), rfl, ys.eraseIdx j, xs ++ [y], rfl, hA3.get g2' (by omega), by rw [set_get g3', List.map_append]; rfl, by rw [hyl, List.length_append]; show _ + (_ + 1) = _; omega, fun x m => hy x (List.mem_of_mem_eraseIdx m), ?_, hn1.sublist (List.eraseIdx_sublist ys j), ?_, ?_⟩
    · intro x m
      rcases List.mem_append.1 m with m | m
      · exact hx x m
      · rw [List.mem_singleton.1 m]; exact hy y (List.mem_of_getElem? gj)
    · rw [List.nodup_append]
      exact ⟨hn2, List.pairwise_singleton _ y, fun b hb c hc => by rw [List.mem_singleton.1 hc]; rintro rfl; exact hn3 b hb (List.mem_of_getElem? gj)⟩
    · intro x m m2
      rcases List.mem_append.1 m with m | m
      · exact hn3 x m (List.mem_of_mem_eraseIdx m2)
      · rw [List.mem_singleton.1 m] at m2
        obtain ⟨i, hne, gi⟩ := List.mem_eraseIdx_iff_getElem?.1 m2
        have l1 := (List.getElem?_eq_some_iff.1 gi)
        have l2 := (List.getElem?_eq_some_iff.1 gj)
        obtain ⟨l1, e1⟩ := l1
        obtain ⟨l2, e2⟩ := l2
        have nd := List.pairwise_iff_getElem.1 hn1
        rcases Nat.lt_trichotomy i j with c | c | c
        · exact nd i j l1 l2 c (e1.trans e2.symm)
        · exact hne c
        · exact nd j i l2 l1 c (e2.trans e1.symm)
  · have e : ys = [] := by cases ys with | nil => rfl | cons _ _ => cases c
    subst e
    walk_at "hy"
    exact ⟨hstU, hagU, S.length + 1, xs, rfl, by omega, g3, by simpa using hlen, hx, hn2⟩
theorem lag_ok3 {pl : Bool} (hG : G f = some (K_lag take minus amount)) (hT : Takes G take) (hL : G low = some K_low) (hM : G minus = some (K_minus low)) (hA : G amount = some (K_amount take low)) (hst : StAt l S) :
    Wp (callN G (k + 3) f [.loc l, .bl pl] S) fun d S' => StAt l S' ∧ Ag (· = l) S S' ∧ ∃ x : Rat, d = q x ∧ Sz 42 12 x ∧ x.den ∣ LC := by
  refine wp_def hG rfl ?_
  unfold K_lag
  walk_at "hp0"
  walk_at "hys"
  refine wp_mono (amount_ok hA hT hL hst (by decide) (by decide)) ?_
  rintro _ S1 ⟨hst1, hag1, x, rfl, _, _, hx, _⟩
  walk_at "hys"
  refine wps_ite ?_
  walk_at "hy"
  refine wp_mono (hT _ _ _ _ hst1 (by decide) (by decide)) ?_
  rintro _ S2 ⟨hst2, hag2, v, rfl, _, _⟩
  have hag := hag1.trans hag2
  walk_at "hy"
  refine wq_dec (fun c => ?_) (fun c => ?_)
  · walk_at "hy"
    have hte : ∀ S0, callN G (k + 2) minus [.tup [.int 0, .int 1], q x] S0 = .ok (q (0 - x)) S0 := fun S0 => minusL_ok (k := k) (x := 0) hM hL sz0 hx (by decide) (by decide)
    refine wp_val (hte _) ?_
    exact ⟨hst2, hag, _, rfl, (sz0.sub hx).mono (by decide) (by decide), dvd_sub LC0 ⟨LC, (Nat.one_mul _).symm⟩ (sz_LC hx)⟩
  · walk_at "hy"
    exact ⟨hst2, hag, _, rfl, hx.mono (by decide) (by decide), sz_LC hx⟩
theorem waits_ok3 {many : Nat} {pl : Bool} (hG : G f = some (K_waits take plus minus amount order lag)) (hT : Takes G take) (hL : G low = some K_low) (hP : G plus = some (K_plus low)) (hM : G minus = some (K_minus low)) (hA : G amount = some (K_amount take low)) (hO : G order = some (K_order take)) (hLag : G lag = some (K_lag take minus amount))
    (hst : StAt l S) (hm : many ≤ 10) :
    Wp (callN G (k + 4) f [.loc l, .int many, .bl pl] S) fun d S' => StAt l S' ∧ Ag (· = l) S S' ∧ ∃ (n : Nat) (wa : List (Int × Int × Rat)), d = .loc n ∧ S.length ≤ n ∧ S'[n]? = some (.lst (wa.map waD)) ∧ wa.length ≤ 40 ∧ ∀ w ∈ wa, 0 ≤ w.1 ∧ w.1 < many ∧ 0 ≤ w.2.1 ∧ w.2.1 < many ∧ w.1 ≠ w.2.1 ∧ V 60 w.2.2 ∧ w.2.2.den ∣ LC := by
  have hl := stAt_lt hst
  refine wp_def hG rfl ?_
  unfold K_waits
  walk_at "hp0"
  walk_at "hys"
  refine wp_mono (order_ok3 hO hT hst (by omega)) ?_
  rintro _ S1 ⟨hst1, hag1, no, xs, rfl, hno, hxs, hxl, hxb, hnd⟩
  walk_at "hys"
  refine wp_mono (hT _ _ _ _ hst1 (by decide) (by decide)) ?_
  rintro _ S2 ⟨hst2, hag2, v, rfl, hv0, hv1⟩
  have hxs := hag2.get hxs (by omega)
  have hag := hag1.trans hag2
  have hl12 := hag.1
  have hnol := get_lt hxs
  walk_at "hys"
  have hA3 : Ag (fun _ => False) S2 (S2 ++ [.lst []]) := Ag.app
  have hw3 : (S2 ++ [.lst []])[S2.length]? = some (.lst (([] : List (Int × Int × Rat)).map waD)) := app_get
  have hxs := hA3.get hxs id
  have hst3 := hst2.ag hA3 id
  have hag3 := hag.trans (hA3.mono fun i hi => hi.elim)
  generalize S2 ++ [.lst []] = S3 at *
  generalize hnw : S2.length = nw at *
  refine ⟨by unfold okRng; simp; omega, ?_⟩
  rw [Int.toNat_natCast]
  let J : Nat → Sto → Prop := fun b T => StAt l T ∧ Ag (· = l) S T ∧ T[no]? = some (.lst (xs.map D.int)) ∧ ∃ wa : List (Int × Int × Rat), T[nw]? = some (.lst (wa.map waD)) ∧ wa.length ≤ b ∧ ∀ w ∈ wa, 0 ≤ w.1 ∧ w.1 < many ∧ 0 ≤ w.2.1 ∧ w.2.1 < many ∧ w.1 ≠ w.2.1 ∧ V 60 w.2.2 ∧ w.2.2.den ∣ LC
  -- one wait more
  have more : ∀ {b : Nat} {T : Sto} {i j : Int} {x : Rat} {Q : D → Sto → Prop}, J b T → b < 1000 → 0 ≤ i ∧ i < many → 0 ≤ j ∧ j < many → i ≠ j → V 60 x ∧ x.den ∣ LC → (∀ T', J (b + 1) T' → Q .non T') → Wp (mtD T .append (.loc nw) [.tup [.int i, .int j, q x]]) Q := by
    rintro b T i j x Q ⟨h1, h2, h3, wa, h4, h5, h6⟩ hb hi hj hne hx hq
    refine wm_append h4 (by rw [List.length_map]; show wa.length < 16777216; omega) (hq _ ?_)
    have hA := Ag.set (P := (· = nw)) (S := T) (o := .lst (wa.map waD ++ [.tup [.int i, .int j, q x]])) (Or.inl rfl)
    refine ⟨h1.ag hA (by omega), h2.new (hA.mono (by rintro i rfl; exact Or.inr (by omega))), hA.get h3 (by omega), wa ++ [(i, j, x)], by rw [set_get h4, List.map_append]; rfl, by rw [List.length_append]; show _ + 1 ≤ _; omega, ?_⟩
    intro w m
    rcases List.mem_append.1 m with m | m
    · exact h6 w m
    · rw [List.mem_singleton.1 m]; exact ⟨hi.1, hi.2, hj.1, hj.2, hne, hx⟩
  have jag : ∀ {b : Nat} {T T' : Sto}, J b T → StAt l T' → Ag (· = l) T T' → J b T' := by
    rintro b T T' ⟨h1, h2, h3, wa, h4, h5, h6⟩ hs ha
    exact ⟨hs, h2.trans ha, ha.get h3 (by omega), wa, ha.get h4 (by omega), h5, h6⟩
  have jup : ∀ {b b' : Nat} {T : Sto}, J b T → b ≤ b' → J b' T := by
    rintro b b' T ⟨h1, h2, h3, wa, h4, h5, h6⟩ hb
    exact ⟨h1, h2, h3, wa, h4, by omega, h6⟩
  have jlen : ∀ {b : Nat} {T : Sto}, J b T → isL T (.loc nw) = true := by
    rintro b T ⟨_, _, _, wa, h4, _⟩
    exact isL_loc h4
  refine forE_inv (fun i r T => J (20 * i) T ∧ ∃ z6 z7 z8, r = [some (.loc l), some (.int many), some (.bl pl), some (.loc no), some (.int (2 + v)), some (.loc nw), z6, z7, z8]) ⟨⟨hst3, hag3, hxs, [], hw3, Nat.le_refl _, by intro w m; cases m⟩, none, none, none, rfl⟩ (fun _ _ _ _ _ => still0) ?_ ?_
  · rintro i d r T hd ⟨hJ, z6, z7, z8, rfl⟩
    obtain ⟨hi, rfl⟩ := rng0_get hd
    have gk : xs[i]? = some (xs[i]'(by omega)) := List.getElem?_eq_getElem _
    generalize xs[i]'(by omega) = xk at gk
    have hxk := hxb xk (List.mem_of_getElem? gk)
    have gk2 : (xs.map D.int)[i]? = some (.int xk) := by rw [List.getElem?_map, gk]; rfl
    refine ⟨_, rfl, ?_⟩
    walk_at "hys"
    refine ⟨by unfold okRng; simp; omega, ?_⟩
    rw [Int.toNat_natCast]
    refine forE_inv (fun j r T => J (20 * i + 2 * j) T ∧ ∃ z7 z8, r = [some (.loc l), some (.int many), some (.bl pl), some (.loc no), some (.int (2 + v)), some (.loc nw), some (.int (i : Nat)), z7, z8]) ⟨hJ, z7, z8, rfl⟩ (fun _ _ _ _ _ => still0) ?_ ?_
    · rintro j d r T hd ⟨hJ, z7, z8, rfl⟩
      obtain ⟨hj, rfl⟩ := rng0_get hd
      have gj : xs[j]? = some (xs[j]'(by omega)) := List.getElem?_eq_getElem _
      generalize xs[j]'(by omega) = xj at gj
      have hxj := hxb xj (List.mem_of_getElem? gj)
      have hjk : xj ≠ xk := by
        have nd := List.pairwise_iff_getElem.1 hnd
        obtain ⟨l1, e1⟩ := List.getElem?_eq_some_iff.1 gj
        obtain ⟨l2, e2⟩ := List.getElem?_eq_some_iff.1 gk
        have := nd j i l1 l2 hj
        rw [e1, e2] at this
        exact this
      have gj2 : (xs.map D.int)[j]? = some (.int xj) := by rw [List.getElem?_map, gj]; rfl
      refine ⟨_, rfl, ?_⟩
      walk_at "hys"
      refine wps_cut (fun r1 T1 => J (20 * i + 2 * j + 1) T1 ∧ ∃ z8, r1 = [some (.loc l), some (.int many), some (.bl pl), some (.loc no), some (.int (2 + v)), some (.loc nw), some (.int (i : Nat)), some (.int (j : Nat)), z8]) ?_ ?_
      · walk_at "hy"
        refine wp_mono (hT _ _ _ _ hJ.1 (by omega) (Nat.le_trans (m := 10) (by omega) (by decide))) ?_
        rintro _ T1 ⟨hstT1, hagT1, w, rfl, _, _⟩
        have hJ1 := jag hJ hstT1 hagT1
        walk_at "hy"
        refine wq_dec (fun c => ?_) (fun c => ?_)
        · walk_at "hy"
          refine ⟨jlen hJ1, ?_⟩
          walk_at "hy"
          refine wx_ix (seq_loc hJ1.2.2.1) (atI_get gj2) ?_
          walk_at "hy"
          refine wx_ix (seq_loc hJ1.2.2.1) (atI_get gk2) ?_
          walk_at "hy"
          refine wp_mono (lag_ok3 hLag hT hL hM hA hJ1.1) ?_
          rintro _ T2 ⟨hstT2, hagT2, x, rfl, hx, hxd⟩
          have hJ2 := jag hJ1 hstT2 hagT2
          walk_at "hy"
          refine more hJ2 (by omega) hxj hxk hjk ⟨V.mono hx.v (by decide), hxd⟩ ?_
          intro T3 hJ3
          walk_at "hy"
          exact ⟨hJ3, _, rfl⟩
        · walk_at "hy"
          exact ⟨jup hJ1 (by omega), _, rfl⟩
      rintro r1 T1 ⟨hJ1, z8, rfl⟩
      walk_at "hys"
      refine wps_ite ?_
      walk_at "hy"
      refine wp_mono (hT _ _ _ _ hJ1.1 (by decide) (by decide)) ?_
      rintro _ T2 ⟨hstT2, hagT2, w, rfl, _, _⟩
      have hJ2 := jag hJ1 hstT2 hagT2
      walk_at "hy"
      refine wq_dec (fun c => ?_) (fun c => ?_)
      · walk_at "hy"
        refine wp_mono (amount_ok hA hT hL hJ2.1 (by decide) (by decide)) ?_
        rintro _ T3 ⟨hstT3, hagT3, x, rfl, _, _, hx, _⟩
        have hJ3 := jag hJ2 hstT3 hagT3
        walk_at "hy"
        refine wb_mul (okMul_of (a := 3) (b := 10) (by decide) (by omega) (by decide)) ?_
        walk_at "hy"
        have hmz : Sz 10 1 (((4 * (many : Int) : Int)) : Rat) := ⟨by show (4 * (many : Int)).natAbs ≤ 2 ^ 10 * 1; omega, by show 1 ≤ 2; decide⟩
        have hte : ∀ S0, callN G (k + 3) plus [q x, .tup [.int (4 * (many : Int)), .int 1]] S0 = .ok (q (x + ((4 * (many : Int) : Int) : Rat))) S0 := fun S0 => plusL_ok (k := k + 1) (y := ((4 * (many : Int) : Int) : Rat)) hP hL hx hmz (by decide) (by decide)
        refine wp_val (hte _) ?_
        have hy := hx.add hmz
        have hyd : (x + ((4 * (many : Int) : Int) : Rat)).den ∣ LC := dvd_add LC0 (sz_LC hx) ⟨LC, (Nat.one_mul _).symm⟩
        generalize x + ((4 * (many : Int) : Int) : Rat) = y at *
        walk_at "hy"
        refine ⟨jlen hJ3, ?_⟩
        walk_at "hy"
        refine wx_ix (seq_loc hJ3.2.2.1) (atI_get gk2) ?_
        walk_at "hy"
        refine wx_ix (seq_loc hJ3.2.2.1) (atI_get gj2) ?_
        walk_at "hy"
        have hte2 : ∀ S0, callN G (k + 3) minus [.tup [.int 0, .int 1], q y] S0 = .ok (q (0 - y)) S0 := fun S0 => minusL_ok (k := k + 1) (x := 0) hM hL sz0 hy (by decide) (by decide)
        refine wp_val (hte2 _) ?_
        walk_at "hy"
        refine more hJ3 (by omega) hxk hxj hjk.symm ⟨V.mono (sz0.sub hy).v (by decide), dvd_sub LC0 ⟨LC, (Nat.one_mul _).symm⟩ hyd⟩ ?_
        intro T4 hJ4
        walk_at "hy"
        exact ⟨jup hJ4 (by omega), _, _, rfl⟩
      · walk_at "hy"
        exact ⟨jup hJ2 (by omega), _, _, rfl⟩
    · rintro r T ⟨hJ, z7, z8, rfl⟩
      rw [rngL_len] at hJ
      walk_at "hys"
      exact ⟨jup hJ (by omega), _, _, _, rfl⟩
  · rintro r T ⟨⟨hstT, hagT, _, wa, hwa, hwl, hwb⟩, z6, z7, z8, rfl⟩
    rw [rngL_len] at hwl
    walk_at "hys"
    refine ws_lst (lst_loc hwa) ?_
    rw [cutL_map]
    have := hagT.1
    exact ⟨hstT.ag (P := fun _ => False) Ag.app id, hagT.trans Ag.app, T.length, _, rfl, by omega, app_get, cut_len (j := 40), fun w m => hwb w (mem_cutL m)⟩
theorem holds_ok3 {many : Nat} {pl : Bool} {late : Rat} (hG : G f = some (K_holds take plus lag)) (hT : Takes G take) (hL : G low = some K_low) (hP : G plus = some (K_plus low)) (hM : G minus = some (K_minus low)) (hA : G amount = some (K_amount take low)) (hLag : G lag = some (K_lag take minus amount))
    (hst : StAt l S) (hm0 : 0 < many) (hm : many ≤ 10) (hlate : V 100 late) (hlated : late.den ∣ LC) :
    Wp (callN G (k + 4) f [.loc l, .int many, .bl pl, q late] S) fun d S' => StAt l S' ∧ Ag (· = l) S S' ∧ ∃ (n : Nat) (ho : List (Str × Int × Rat)), d = .loc n ∧ S.length ≤ n ∧ S'[n]? = some (.lst (ho.map hoD)) ∧ ho.length ≤ 4 ∧ ∀ h ∈ ho, (h.1 = ("from" : Str) ∨ h.1 = ("till" : Str) ∨ h.1 = ("by" : Str)) ∧ 0 ≤ h.2.1 ∧ h.2.1 < many ∧ V 110 h.2.2 ∧ h.2.2.den ∣ LC := by
  have hl := stAt_lt hst
  refine wp_def hG rfl ?_
  unfold K_holds
  walk_at "hp0"
  walk_at "hys"
  have hA1 : Ag (fun _ => False) S (S ++ [.lst []]) := Ag.app
  have hh1 : (S ++ [.lst []])[S.length]? = some (.lst (([] : List (Str × Int × Rat)).map hoD)) := app_get
  have hst1 := hst.ag hA1 id
  have hl1 := hA1.1
  generalize S ++ [.lst []] = S1 at *
  generalize hnn : S.length = n at *
  have hA2 : Ag (fun _ => False) S1 (S1 ++ [.lst ([0, 0, 1, 2, 4].map D.int)]) := Ag.app
  have hd2 : (S1 ++ [.lst ([0, 0, 1, 2, 4].map D.int)])[S1.length]? = some (.lst ([0, 0, 1, 2, 4].map D.int)) := app_get
  have hh2 := hA2.get hh1 id
  have hst2 := hst1.ag hA2 id
  have hnl := get_lt hh1
  have hag2 : Ag (fun _ => False) S (S1 ++ [.lst ([0, 0, 1, 2, 4].map D.int)]) := hA1.trans hA2
  have e2 : S1 ++ [O.lst [.int 0, .int 0, .int 1, .int 2, .int 4]] = S1 ++ [.lst ([0, 0, 1, 2, 4].map D.int)] := rfl
  rw [e2]
  generalize S1 ++ [.lst ([0, 0, 1, 2, 4].map D.int)] = S2 at *
  refine wp_mono (hT _ _ _ _ hst2 (by decide) (by decide)) ?_
  rintro _ S3 ⟨hst3, hag3, v, rfl, hv0, hv1⟩
  have hd3 := hag3.get hd2 (by omega)
  have hh3 := hag3.get hh2 (by omega)
  have hag3 : Ag (· = l) S S3 := (hag2.mono fun i hi => hi.elim).trans hag3
  obtain ⟨m, em, hm2, hm3⟩ := pick (xs := [0, 0, 1, 2, 4]) (P := fun m => 0 ≤ m ∧ m ≤ 4) hv0 hv1 rfl (by decide)
  refine wx_ix (seq_loc hd3) em ?_
  walk_at "hys"
  refine ⟨by unfold okRng; simp; omega, ?_⟩
  refine forE_inv (fun i r T => StAt l T ∧ Ag (· = l) S T ∧ ∃ ho : List (Str × Int × Rat), T[n]? = some (.lst (ho.map hoD)) ∧ ho.length = i ∧ (∀ h ∈ ho, (h.1 = ("from" : Str) ∨ h.1 = ("till" : Str) ∨ h.1 = ("by" : Str)) ∧ 0 ≤ h.2.1 ∧ h.2.1 < many ∧ V 110 h.2.2 ∧ h.2.2.den ∣ LC) ∧ ∃ z5 z6 z7, r = [some (.loc l), some (.int many), some (.bl pl), some (q late), some (.loc n), z5, z6, z7])
    ⟨hst3, hag3, [], hh3, rfl, (fun h m => nomatch m), none, none, none, rfl⟩ (fun _ _ _ _ _ => still0) ?_ ?_
  · rintro i d r T hd ⟨hstT, hagT, ho, hho, hhl, hhb, z5, z6, z7, rfl⟩
    obtain ⟨hi, rfl⟩ := rng0_get hd
    refine ⟨_, rfl, ?_⟩
    have hlT := hagT.1
    walk_at "hys"
    have hAT : Ag (fun _ => False) T (T ++ [.lst [.str "from", .str "from", .str "till", .str "by"]]) := Ag.app
    have hdT : (T ++ [.lst [.str "from", .str "from", .str "till", .str "by"]])[T.length]? = some (.lst [.str "from", .str "from", .str "till", .str "by"]) := app_get
    have hho := hAT.get hho id
    have hstT := hstT.ag hAT id
    have hagT := hagT.trans (hAT.mono fun i hi => hi.elim)
    generalize T ++ [.lst [.str "from", .str "from", .str "till", .str "by"]] = U at *
    refine wp_mono (hT _ _ _ _ hstT (by decide) (by decide)) ?_
    rintro _ U1 ⟨hst1, hag1, w, rfl, hw0, hw1⟩
    have hdT := hag1.get hdT (by omega)
    have hho := hag1.get hho (by omega)
    obtain ⟨kind, ek, hkind⟩ : ∃ kind : Str, atI [D.str "from", .str "from", .str "till", .str "by"] w = some (.str kind) ∧ (kind = ("from" : Str) ∨ kind = ("till" : Str) ∨ kind = ("by" : Str)) := by
      have : w = 0 ∨ w = 1 ∨ w = 2 ∨ w = 3 := by omega
      rcases this with rfl | rfl | rfl | rfl
      · exact ⟨_, rfl, Or.inl rfl⟩
      · exact ⟨_, rfl, Or.inl rfl⟩
      · exact ⟨_, rfl, Or.inr (Or.inl rfl)⟩
      · exact ⟨_, rfl, Or.inr (Or.inr rfl)⟩
    refine wx_ix (seq_loc hdT) ek ?_
    walk_at "hys"
    refine wp_mono (lag_ok3 hLag hT hL hM hA hst1) ?_
    rintro _ U2 ⟨hst2, hag2, x, rfl, hx, hxd⟩
    have hho := hag2.get hho (by omega)
    have hagU := (hagT.trans hag1).trans hag2
    walk_at "hys"
    refine wps_cut (fun r1 U3 => StAt l U3 ∧ Ag (· = l) S U3 ∧ U3[n]? = some (.lst (ho.map hoD)) ∧ ∃ y : Rat, (V 110 y ∧ y.den ∣ LC) ∧ r1 = [some (.loc l), some (.int many), some (.bl pl), some (q late), some (.loc n), some (.int (i : Nat)), some (.str kind), some (q y)]) ?_ ?_
    · walk_at "hy"
      refine wq_ndec (fun c => ?_) (fun c => ?_)
      · walk_at "hy"
        refine wp_mono (hT _ _ _ _ hst2 (by decide) (by decide)) ?_
        rintro _ U3 ⟨hst3, hag3, u, rfl, _, _⟩
        have hho := hag3.get hho (by omega)
        walk_at "hy"
        refine wq_dec (fun c2 => ?_) (fun c2 => ?_)
        · walk_at "hy"
          refine wp_val (plusL_ok hP hL hx (hlate.sz1 hlated) (by decide) (by decide)) ?_
          walk_at "hy"
          exact ⟨hst3, hagU.trans hag3, hho, _, ⟨V.mono (hx.add (hlate.sz1 hlated)).v (by decide), dvd_add LC0 hxd hlated⟩, rfl⟩
        · walk_at "hy"
          exact ⟨hst3, hagU.trans hag3, hho, _, ⟨V.mono hx.v (by decide), hxd⟩, rfl⟩
      · walk_at "hy"
        exact ⟨hst2, hagU, hho, _, ⟨V.mono hx.v (by decide), hxd⟩, rfl⟩
    rintro r1 U3 ⟨hst3, hag3, hho, y, hy, rfl⟩
    walk_at "hys"
    refine ⟨isL_loc hho, ?_⟩
    walk_at "hys"
    refine wp_mono (hT _ _ _ _ hst3 (by omega) (Nat.le_trans (m := 10) (by omega) (by decide))) ?_
    rintro _ U4 ⟨hst4, hag4, u, rfl, hu0, hu1⟩
    have hho := hag4.get hho (by omega)
    walk_at "hys"
    refine wm_append hho (by rw [List.length_map]; show ho.length < 16777216; omega) ?_
    have hA5 := Ag.set (P := (· = n)) (S := U4) (o := .lst (ho.map hoD ++ [.tup [.str kind, .int u, q y]])) (Or.inl rfl)
    walk_at "hys"
    refine ⟨hst4.ag hA5 (by omega), (hag3.trans hag4).new (hA5.mono (by rintro i rfl; exact Or.inr (by omega))), ho ++ [(kind, u, y)], by rw [set_get hho, List.map_append]; rfl, by rw [List.length_append, hhl]; rfl, ?_, _, _, _, rfl⟩
    intro h mm
    rcases List.mem_append.1 mm with mm | mm
    · exact hhb h mm
    · rw [List.mem_singleton.1 mm]; exact ⟨hkind, hu0, hu1, hy⟩
  · rintro r T ⟨hstT, hagT, ho, hho, hhl, hhb, z5, z6, z7, rfl⟩
    rw [rngL_len] at hhl
    walk_at "hys"
    exact ⟨hstT, hagT, n, ho, rfl, by omega, hho, by omega, hhb⟩
theorem groups_ok3 {nw : Nat} {ws : List Wk} (hG : G f = some (K_groups take order)) (hTk : Takes G take) (hO : G order = some (K_order take)) (hst : StAt l S) (hlnw : nw ≠ l) (hw : S[nw]? = some (.lst (ws.map wkD))) (hwc : ∀ w ∈ ws, w.lc ≠ l ∧ S[w.lc]? = some (.lst (w.cs.map pr))) (hm : ws.length ≤ 10) :
    Wp (callN G (k + 3) f [.loc l, .loc nw] S) fun d S' => StAt l S' ∧ Ag (· = l) S S' ∧ ∃ (n : Nat) (gr : List (Nat × List Int)), d = .loc n ∧ S.length ≤ n ∧ S'[n]? = some (.lst (gr.map fun g => D.loc g.1)) ∧ gr.length ≤ 4 ∧ (∀ g ∈ gr, S.length ≤ g.1 ∧ S'[g.1]? = some (.lst (g.2.map D.int)) ∧ GrOk ws g.2) ∧ gr.Pairwise (fun g h => ∀ x ∈ g.2, x ∉ h.2) := by
  have hl := stAt_lt hst
  have hnwl := get_lt hw
  refine wp_def hG rfl ?_
  unfold K_groups
  walk_at "hp0"
  walk_at "hys"
  rw [List.length_map]
  refine wp_mono (order_ok3 hO hTk hst (by omega)) ?_
  rintro _ S1 ⟨hst1, hag1, no, xs, rfl, hno, hxs, hxl, hxb, hxn⟩
  have hw1 := hag1.get hw hlnw
  have hwc1 : ∀ w ∈ ws, S1[w.lc]? = some (.lst (w.cs.map pr)) := fun w m => hag1.get (hwc w m).2 (hwc w m).1
  have hwl : ∀ w ∈ ws, w.lc < S.length := fun w m => get_lt (hwc w m).2
  have hl1 := hag1.1
  have wget : ∀ {x : Int}, 0 ≤ x → x < ws.length → ∃ w, ws[x.toNat]? = some w ∧ w ∈ ws ∧ atI (ws.map wkD) x = some (wkD w) := by
    intro x h0 h1
    obtain ⟨j, rfl, hj⟩ := int_nat h0 h1
    have g : ws[j]? = some (ws[j]'hj) := List.getElem?_eq_getElem _
    exact ⟨_, by rw [Int.toNat_natCast]; exact g, List.mem_of_getElem? g, atI_get (by rw [List.getElem?_map, g]; rfl)⟩
  walk_at "hys"
  refine wi_loc hxs ?_
  refine filt_ok (f := fun x => match ws[x.toNat]? with | some w => decide (w.kd = ("steps" : Str)) | none => false) (enc := D.int) (by omega) (by show 6 < 7; decide) (fun _ => rfl) (fun T hT => still1 (hT.get hxs id)) ?_ ?_
  · intro x mx T hT
    obtain ⟨w, g1, g2, g3⟩ := wget (hxb x mx).1 (hxb x mx).2
    rw [g1]
    walk_at "hys"
    refine wx_ix (seq_loc (hT.get hw1 id)) g3 ?_
    walk_at "hys"
    exact ⟨rfl, rfl⟩
  have hfl := List.length_filter_le (fun x : Int => match ws[x.toNat]? with | some w => decide (w.kd = ("steps" : Str)) | none => false) xs
  have hfn := hxn.filter (p := fun x : Int => match ws[x.toNat]? with | some w => decide (w.kd = ("steps" : Str)) | none => false)
  have hfs : ∀ x ∈ xs.filter (fun x : Int => match ws[x.toNat]? with | some w => decide (w.kd = ("steps" : Str)) | none => false), ∀ w, ws[x.toNat]? = some w → w.kd = ("steps" : Str) := fun x m w gw => by
    have := (List.mem_filter.1 m).2
    rw [gw] at this
    exact of_decide_eq_true this
  have hfb : ∀ x ∈ xs.filter (fun x : Int => match ws[x.toNat]? with | some w => decide (w.kd = ("steps" : Str)) | none => false), 0 ≤ x ∧ x < ws.length := fun x m => hxb x (List.mem_filter.1 m).1
  generalize xs.filter (fun x : Int => match ws[x.toNat]? with | some w => decide (w.kd = ("steps" : Str)) | none => false) = ys at *
  intro T hT hys
  have hTl := hT.1
  have hst2 := hst1.ag hT id
  have hag2 := hag1.trans (hT.mono fun i hi => hi.elim)
  have hylt := get_lt hys
  generalize hny : S1.length = ny at *
  walk_at "hys"
  have hA3 : Ag (fun _ => False) T (T ++ [.lst []]) := Ag.app
  have hg3 : (T ++ [.lst []])[T.length]? = some (.lst (([] : List (Nat × List Int)).map fun g => D.loc g.1)) := app_get
  have hys3 := hA3.get hys id
  have hst3 := hst2.ag hA3 id
  have hag3 := hag2.trans (hA3.mono fun i hi => hi.elim)
  generalize T ++ [.lst []] = S3 at *
  generalize hnm : T.length = nm at *
  refine wps_whl (fun w r U => StAt l U ∧ Ag (· = l) S U ∧ ∃ (nl : Nat) (ys : List Int) (gr : List (Nat × List Int)) (z4 z5 : Option D), w = ys.length ∧ r = [some (.loc l), some (.loc nw), some (.loc nl), some (.loc nm), z4, z5, none] ∧ U[nl]? = some (.lst (ys.map D.int)) ∧ nl ≠ nm ∧ S.length ≤ nl ∧ ys.length ≤ 10 ∧ (∀ x ∈ ys, 0 ≤ x ∧ x < ws.length) ∧ (ys.Nodup ∧ (∀ x ∈ ys, ∀ w, ws[x.toNat]? = some w → w.kd = ("steps" : Str)) ∧ (∀ g ∈ gr, ∀ x ∈ g.2, x ∉ ys) ∧ gr.Pairwise (fun g h => ∀ x ∈ g.2, x ∉ h.2)) ∧
      U[nm]? = some (.lst (gr.map fun g => D.loc g.1)) ∧ gr.length ≤ 4 ∧ ∀ g ∈ gr, S.length ≤ g.1 ∧ g.1 ≠ nm ∧ U[g.1]? = some (.lst (g.2.map D.int)) ∧ GrOk ws g.2)
    ⟨hst3, hag3, ny, ys, [], none, none, rfl, rfl, hys3, by omega, by omega, by omega, hfb, ⟨hfn, hfs, (fun g m => nomatch m), .nil⟩, hg3, by decide, fun g m => nomatch m⟩ ?_
  clear hst2 hst3 hag2 hag3 hys hys3 hg3 hfb hA3 hT hfl hfn hfs
  rintro w r U ⟨hstU, hagU, nl, ys, gr, z4, z5, rfl, rfl, hys, hnlm, hSnl, hyl, hyb, ⟨hyn, hys2, hyd, hgp⟩, hgr, hgl, hgb⟩
  have hlU := hagU.1
  have hnlU := get_lt hys
  have hnmU := get_lt hgr
  walk_at "hy"
  rw [List.length_map]
  refine wq_dec (fun c1 => ?_) (fun c1 => ?_)
  rotate_left
  · walk_at "hys"
    exact ⟨hstU, hagU, nm, gr, rfl, by omega, hgr, hgl, (fun g m => ⟨(hgb g m).1, (hgb g m).2.2.1, (hgb g m).2.2.2⟩), hgp⟩
  walk_at "hy"
  rw [List.length_map]
  refine wq_dec (fun c2 => ?_) (fun c2 => ?_)
  rotate_left
  · walk_at "hys"
    exact ⟨hstU, hagU, nm, gr, rfl, by omega, hgr, hgl, (fun g m => ⟨(hgb g m).1, (hgb g m).2.2.1, (hgb g m).2.2.2⟩), hgp⟩
  have hpos : 0 < ys.length := by omega
  have gy : ys[0]? = some (ys[0]'hpos) := List.getElem?_eq_getElem _
  generalize ys[0]'hpos = y0 at gy
  have gy2 : (ys.map D.int)[0]? = some (.int y0) := by rw [List.getElem?_map, gy]; rfl
  have hy0 := hyb y0 (List.mem_of_getElem? gy)
  obtain ⟨w0, v1, v2, v3⟩ := wget hy0.1 hy0.2
  have hwU := hagU.get hw hlnw
  have hwcU : ∀ w ∈ ws, U[w.lc]? = some (.lst (w.cs.map pr)) := fun w m => hagU.get (hwc w m).2 (hwc w m).1
  walk_at "hys"
  refine wx_ix (seq_loc hys) (atI_get (i := 0) gy2) ?_
  walk_at "hys"
  refine wx_ix (seq_loc hwU) v3 ?_
  walk_at "hys"
  refine wf_len (seq_loc (hwcU w0 v2)) ?_
  rw [List.length_map]
  generalize hsz : ((w0.cs.length : Nat) : Int) = size
  walk_at "hys"
  refine wi_loc hys ?_
  refine filt_ok (f := fun x => match ws[x.toNat]? with | some w => decide (((w.cs.length : Nat) : Int) = size) | none => false) (enc := D.int) (by omega) (by show 6 < 7; decide) (fun _ => rfl) (fun T hT => still1 (hT.get hys id)) ?_ ?_
  · intro x mx T hT
    obtain ⟨w, g1, g2, g3⟩ := wget (hyb x mx).1 (hyb x mx).2
    rw [g1]
    walk_at "hys"
    refine wx_ix (seq_loc (hT.get hwU id)) g3 ?_
    walk_at "hys"
    refine wf_len (seq_loc (hT.get (hwcU w g2) id)) ?_
    walk_at "hys"
    rw [List.length_map]
    exact ⟨rfl, rfl⟩
  have hal := List.length_filter_le (fun x : Int => match ws[x.toNat]? with | some w => decide (((w.cs.length : Nat) : Int) = size) | none => false) ys
  have han := hyn.filter (p := fun x : Int => match ws[x.toNat]? with | some w => decide (((w.cs.length : Nat) : Int) = size) | none => false)
  have has2 : ∀ x ∈ ys.filter (fun x : Int => match ws[x.toNat]? with | some w => decide (((w.cs.length : Nat) : Int) = size) | none => false), x ∈ ys ∧ ∀ w, ws[x.toNat]? = some w → ((w.cs.length : Nat) : Int) = size := fun x m => ⟨(List.mem_filter.1 m).1, fun w gw => by
    have := (List.mem_filter.1 m).2
    rw [gw] at this
    exact of_decide_eq_true this⟩
  generalize ys.filter (fun x : Int => match ws[x.toNat]? with | some w => decide (((w.cs.length : Nat) : Int) = size) | none => false) = as at *
  intro T hT has
  have hTl := hT.1
  have hstT := hstU.ag hT id
  have hagT := hagU.trans (hT.mono fun i hi => hi.elim)
  have hysT := hT.get hys id
  have hgrT := hT.get hgr id
  have hgbT : ∀ g ∈ gr, T[g.1]? = some (.lst (g.2.map D.int)) := fun g m => hT.get (hgb g m).2.2.1 id
  generalize hna : U.length = na at *
  walk_at "hys"
  refine wp_mono (hTk _ _ _ _ hstT (by decide) (by decide)) ?_
  rintro _ T1 ⟨hstT1, hagT1, v, rfl, hv0, hv1⟩
  have has := hagT1.get has (by omega)
  have hysT := hagT1.get hysT (by omega)
  have hgrT := hagT1.get hgrT (by omega)
  have hgbT1 : ∀ g ∈ gr, T1[g.1]? = some (.lst (g.2.map D.int)) := fun g m => hagT1.get (hgbT g m) (by have := (hgb g m).1; omega)
  have hagT1 := hagT.trans hagT1
  have hnmT1 := get_lt hgrT
  walk_at "hys"
  refine ws_lst (lst_loc has) ?_
  rw [cutL_map]
  have hbl : (cutL as none (some (2 + v))).length ≤ 3 := by
    obtain ⟨j, ej, hj3⟩ : ∃ j : Nat, 2 + v = (j : Int) ∧ j ≤ 3 := ⟨(2 + v).toNat, by omega, by omega⟩
    rw [ej]
    exact Nat.le_trans cut_len hj3
  have hbn : (cutL as none (some (2 + v))).Nodup := by unfold cutL; exact (han.sublist (List.drop_sublist _ _)).sublist (List.take_sublist _ _)
  have hbs2 : ∀ x ∈ cutL as none (some (2 + v)), x ∈ ys ∧ ∀ w, ws[x.toNat]? = some w → ((w.cs.length : Nat) : Int) = size := fun x m => has2 x (mem_cutL m)
  generalize cutL as none (some (2 + v)) = bs at *
  have hA2 : Ag (fun _ => False) T1 (T1 ++ [.lst (bs.map D.int)]) := Ag.app
  have hbs : (T1 ++ [.lst (bs.map D.int)])[T1.length]? = some (.lst (bs.map D.int)) := app_get
  have hysT := hA2.get hysT id
  have hgrT := hA2.get hgrT id
  have hgbT2 : ∀ g ∈ gr, (T1 ++ [.lst (bs.map D.int)])[g.1]? = some (.lst (g.2.map D.int)) := fun g m => hA2.get (hgbT1 g m) id
  have hst2 := hstT1.ag hA2 id
  have hag2 := hagT1.trans (hA2.mono fun i hi => hi.elim)
  have hT1l := hagT1.1
  generalize T1 ++ [.lst (bs.map D.int)] = T2 at *
  generalize hnb : T1.length = nb at *
  walk_at "hys"
  refine ws_lst (lst_loc hysT) ?_
  rw [show cutL (ys.map D.int) (some 1) none = (ys.map D.int).drop 1 from cut_end (j := 1) (by rw [List.length_map]; omega), ← List.map_drop]
  have hA3 : Ag (fun _ => False) T2 (T2 ++ [.lst ((ys.drop 1).map D.int)]) := Ag.app
  have hzs : (T2 ++ [.lst ((ys.drop 1).map D.int)])[T2.length]? = some (.lst ((ys.drop 1).map D.int)) := app_get
  have hbs3 := hA3.get hbs id
  have hgrT := hA3.get hgrT id
  have hgbT3 : ∀ g ∈ gr, (T2 ++ [.lst ((ys.drop 1).map D.int)])[g.1]? = some (.lst (g.2.map D.int)) := fun g m => hA3.get (hgbT2 g m) id
  have hst3 := hst2.ag hA3 id
  have hag3 := hag2.trans (hA3.mono fun i hi => hi.elim)
  generalize T2 ++ [.lst ((ys.drop 1).map D.int)] = T3 at *
  refine wi_loc hzs ?_
  have hdl : (ys.drop 1).length = ys.length - 1 := List.length_drop
  refine filt_ok (f := fun x => !((bs.map PyData.int).any fun y => PyData.eqv y (.int x))) (enc := D.int) (by omega) (by show 6 < 7; decide) (fun _ => rfl) (fun T hT => still1 (hT.get hzs id)) ?_ ?_
  · intro x mx T hT
    walk_at "hys"
    refine wc_nin (inD_ints (hT.get hbs3 id) (by omega)) ?_
    walk_at "hys"
    exact ⟨rfl, rfl⟩
  have hcl := List.length_filter_le (fun x : Int => !((bs.map PyData.int).any fun y => PyData.eqv y (.int x))) (ys.drop 1)
  have hcn := (hyn.sublist (List.drop_sublist 1 ys)).filter (p := fun x : Int => !((bs.map PyData.int).any fun y => PyData.eqv y (.int x)))
  have hcd : ∀ x ∈ (ys.drop 1).filter (fun x : Int => !((bs.map PyData.int).any fun y => PyData.eqv y (.int x))), x ∈ ys ∧ x ∉ bs := fun x m => ⟨List.mem_of_mem_drop (List.mem_filter.1 m).1, fun mb => by
    have := (List.mem_filter.1 m).2
    rw [show ((bs.map PyData.int).any fun y => PyData.eqv y (.int x)) = true from List.any_eq_true.2 ⟨.int x, List.mem_map.2 ⟨x, mb, rfl⟩, by rw [eqv_int']; exact decide_eq_true rfl⟩] at this
    cases this⟩
  have hcb : ∀ x ∈ (ys.drop 1).filter (fun x : Int => !((bs.map PyData.int).any fun y => PyData.eqv y (.int x))), 0 ≤ x ∧ x < ws.length := fun x m => hyb x (List.mem_of_mem_drop (List.mem_filter.1 m).1)
  generalize (ys.drop 1).filter (fun x : Int => !((bs.map PyData.int).any fun y => PyData.eqv y (.int x))) = cs at *
  intro T4 hT4 hcs
  have hst4 := hst3.ag hT4 id
  have hag4 := hag3.trans (hT4.mono fun i hi => hi.elim)
  have hbs4 := hT4.get hbs3 id
  have hgrT := hT4.get hgrT id
  have hgbT4 : ∀ g ∈ gr, T4[g.1]? = some (.lst (g.2.map D.int)) := fun g m => hT4.get (hgbT3 g m) id
  have h12 := hA2.1
  have h23 := hA3.1
  have hl4 := hag3.1
  have hnm4 := get_lt hgrT
  have hnm3 : nm < T3.length := by omega
  generalize hnc : T3.length = nc at *
  walk_at "hys"
  refine wps_ite ?_
  walk_at "hy"
  rw [List.length_map]
  refine wq_dec (fun c3 => ?_) (fun c3 => ?_)
  · walk_at "hy"
    refine wp_mono (hTk _ _ _ _ hst4 (by decide) (by decide)) ?_
    rintro _ T5 ⟨hst5, hag5, u, rfl, hu0, hu1⟩
    have hcs := hag5.get hcs (by omega)
    have hbs5 := hag5.get hbs4 (by omega)
    have hgrT := hag5.get hgrT (by omega)
    have hgbT5 : ∀ g ∈ gr, T5[g.1]? = some (.lst (g.2.map D.int)) := fun g m => hag5.get (hgbT4 g m) (by have := (hgb g m).1; omega)
    have hag5 := hag4.trans hag5
    walk_at "hy"
    refine wq_dec (fun c4 => ?_) (fun c4 => ?_)
    · walk_at "hy"
      refine ⟨isL_loc hgrT, ?_⟩
      walk_at "hy"
      refine wm_append hgrT (by rw [List.length_map]; show gr.length < 16777216; omega) ?_
      have hA6 := Ag.set (P := (· = nm)) (S := T5) (o := .lst ((gr.map fun g => D.loc g.1) ++ [.loc nb])) (Or.inl rfl)
      walk_at "hy"
      refine ⟨cs.length, by omega, hst5.ag hA6 (by omega), hag5.new (hA6.mono (by rintro i rfl; exact Or.inr (by omega))), nc, cs, gr ++ [(nb, bs)], _, _, rfl, rfl, hA6.get hcs (by omega), by omega, by omega, by omega, hcb, ⟨hcn, (fun x m => hys2 x (hcd x m).1), (fun g m x mx => by
        rcases List.mem_append.1 m with m | m
        · exact fun mc => hyd g m x mx (hcd x mc).1
        · rw [List.mem_singleton.1 m] at mx; exact fun mc => (hcd x mc).2 mx), ?_⟩, by rw [set_get hgrT, List.map_append]; rfl, by rw [List.length_append]; show _ + 1 ≤ _; omega, ?_⟩
      · rw [List.pairwise_append]
        exact ⟨hgp, List.pairwise_singleton _ _, fun g mg h mh x mx => by rw [List.mem_singleton.1 mh]; exact fun mb => hyd g mg x mx (hbs2 x mb).1⟩
      intro g m
      rcases List.mem_append.1 m with m | m
      · exact ⟨(hgb g m).1, (hgb g m).2.1, hA6.get (hgbT5 g m) (hgb g m).2.1, (hgb g m).2.2.2⟩
      · rw [List.mem_singleton.1 m]
        refine ⟨by show S.length ≤ nb; omega, by show nb ≠ nm; omega, hA6.get hbs5 (by show nb ≠ nm; omega), ⟨by show 2 ≤ bs.length; omega, by show bs.length ≤ 3; omega, hbn, fun x mx => ⟨hyb x (hbs2 x mx).1, fun w gw => ⟨hys2 x (hbs2 x mx).1 w gw, ?_⟩⟩⟩⟩
        have e1 := (hbs2 x mx).2 w gw
        have : ((w0.cs.length : Nat) : Int) = size := hsz
        intro y w' my gw'
        have e2 := (hbs2 y my).2 w' gw'
        omega
    · walk_at "hy"
      exact ⟨cs.length, by omega, hst5, hag5, nc, cs, gr, _, _, rfl, rfl, hcs, by omega, by omega, by omega, hcb, ⟨hcn, (fun x m => hys2 x (hcd x m).1), (fun g m x mx mc => hyd g m x mx (hcd x mc).1), hgp⟩, hgrT, hgl, fun g m => ⟨(hgb g m).1, (hgb g m).2.1, hgbT5 g m, (hgb g m).2.2.2⟩⟩
  · walk_at "hy"
    exact ⟨cs.length, by omega, hst4, hag4, nc, cs, gr, _, _, rfl, rfl, hcs, by omega, by omega, by omega, hcb, ⟨hcn, (fun x m => hys2 x (hcd x m).1), (fun g m x mx mc => hyd g m x mx (hcd x mc).1), hgp⟩, hgrT, hgl, fun g m => ⟨(hgb g m).1, (hgb g m).2.1, hgbT4 g m, (hgb g m).2.2.2⟩⟩
theorem offer_ok3 {G : Tab} {k f take low plus minus times amount l : Nat} {most : Int} {kind : Str} {pl : Bool} {S : Sto} (hG : G f = some (K_offer take plus minus times amount)) (hT : Takes G take) (hL : G low = some K_low) (hP : G plus = some (K_plus low))
    (hM : G minus = some (K_minus low)) (hX : G times = some (K_times low)) (hA : G amount = some (K_amount take low)) (hst : StAt l S) (hm0 : 0 < most) (hm : most ≤ 5) :
    Wp (callN G (k + 3) f [.loc l, .str kind, .int most, .bl pl] S) fun d S' => StAt l S' ∧ Ag (· = l) S S' ∧ ∃ (n : Nat) (cs : List (Rat × Rat)), d = .tup [.str kind, .loc n] ∧ S.length ≤ n ∧ S'[n]? = some (.lst (cs.map pr)) ∧ (cs.length : Int) ≤ most ∧
      Good (decide (kind = ("straight" : Str))) cs ∧ (∀ p ∈ cs, Sz 50 30 p.1 ∧ Sz 100 150 p.2) ∧ ∀ p ∈ cs, p.1.den ∣ LC ∧ p.2.den ∣ LC * LC := by
  refine wp_def hG rfl ?_
  unfold K_offer
  walk_at "hp0"
  walk_at "hs"
  refine wp_mono (hT _ _ _ _ hst hm0 (Nat.le_trans (m := 8) (by omega) (by decide))) ?_
  rintro _ S1 ⟨hst1, hag1, v, rfl, hv0, hv1⟩
  walk_at "hs"
  refine wp_mono (amount_ok hA hT hL hst1 (by decide) (by decide)) ?_
  rintro _ S2 ⟨hst2, hag2, base, rfl, hb0, _, hbs, _⟩
  walk_at "hs"
  refine wp_mono (amount_ok hA hT hL hst2 (by decide) (by decide)) ?_
  rintro _ S3 ⟨hst3, hag3, price, rfl, hp0, _, hps, _⟩
  have hag03 := (hag1.trans hag2).trans hag3
  have hlS := stAt_lt hst
  have hl3 := stAt_lt hst3
  have hl03 := hag03.1
  walk_at "hs"
  obtain ⟨many, em, hmany⟩ : ∃ many : Nat, 1 + v - 1 = (many : Int) ∧ (many : Int) + 1 ≤ most := ⟨v.toNat, by omega, by omega⟩
  rw [em]
  refine ⟨by unfold okRng; simp; omega, ?_⟩
  rw [Int.toNat_natCast]
  refine compE_inv (fun i S' => StAt l S' ∧ Ag (· = l) S3 S' ∧ ∃ gs : List Rat, gs.length = i ∧ S'[S3.length]? = some (.lst (gs.map q)) ∧ ∀ g ∈ gs, 0 < g ∧ Sz 40 6 g)
    ⟨hst3.ag (P := fun _ => False) Ag.app id, Ag.app, [], rfl, app_get, by intro g h; cases h⟩ (fun _ _ _ _ => still0) ?_ ?_
  · rintro i d S' hd ⟨hst', hag', gs, hgl, hgs, hgo⟩
    obtain ⟨hi, rfl⟩ := rng0_get hd
    refine ⟨_, rfl, ?_⟩
    walk_at "hr"
    refine wp_mono (amount_ok hA hT hL hst' (by decide) (by decide)) ?_
    rintro _ S4 ⟨hst4, hag4, g, rfl, hg0, hg1, hgz, _⟩
    have hgs := hag4.get hgs (by omega)
    refine ⟨_, hgs, by rw [List.length_map]; show gs.length < 16777216; omega, hst4.ag (P := (· = S3.length)) (Ag.set (Or.inl rfl)) (by omega), ?_, gs ++ [g], by rw [List.length_append, hgl]; rfl, ?_, ?_⟩
    · exact (hag'.trans hag4).new (Ag.set (Or.inl (Or.inr (Nat.le_refl _))))
    · rw [set_get hgs, List.map_append]; rfl
    · intro x hx
      rcases List.mem_append.1 hx with hx | hx
      · exact hgo x hx
      · rw [List.mem_singleton.1 hx]; exact ⟨hg1 rfl, hgz⟩
  rintro S4 ⟨hst4, hag4, gs, hgl, hgs, hgo⟩
  rw [rngi_len] at hgl
  have hgl4 : gs.length ≤ 4 := by omega
  have hgo1 : ∀ g ∈ gs, Sz 40 6 g := fun g m => (hgo g m).2
  have hgo0 : ∀ g ∈ gs, 0 < g := fun g m => (hgo g m).1
  have tlc : ∀ xs : List Rat, (∀ g ∈ xs, Sz 40 6 g) → (base + xs.sum).den ∣ LC := fun xs hx => dvd_add LC0 (sz_LC hbs) (dvd_sum LC0 fun g m => sz_LC (hx g m))
  generalize hn7 : S3.length = n7 at *
  walk_at "hs"
  refine wi_loc hgs ?_
  refine forE_inv (fun i r S' => S' = S4 ∧ ∃ z8, r = [some (.loc l), some (.str kind), some (.int most), some (.bl pl), some (.int (1 + v)), some (q (base + (gs.take i).sum)), some (q price), some (.loc n7), z8, none, none, none, none])
    ⟨rfl, none, by rw [List.take_zero, List.sum_nil, Rat.add_zero]; rfl⟩ (fun i r S' _ h => by rw [h.1]; exact still1 hgs) ?_ ?_
  · rintro i d r S' hd ⟨rfl, z8, rfl⟩
    rw [List.getElem?_map, Option.map_eq_some_iff] at hd
    obtain ⟨g, hg, rfl⟩ := hd
    refine ⟨_, rfl, ?_⟩
    walk_at "hr"
    have ht := time_sz hbs (gs := gs.take i) (fun g m => hgo1 g (List.mem_of_mem_take m)) (by rw [List.length_take]; omega)
    refine wp_val (plusL_ok hP hL ht (hgo1 g (List.mem_of_getElem? hg)) (by decide) (by decide)) ?_
    walk_at "hr"
    refine ⟨rfl, some (q g), ?_⟩
    rw [take_succ_get hg, sum_app, sum_one, Rat.add_assoc]
    rfl
  rintro r S' ⟨rfl, z8, rfl⟩
  rw [List.length_map, List.take_length]
  walk_at "hs"
  have hst5 := hst4.ag (P := fun _ => False) (Ag.app (T := [.lst [.tup [q (base + gs.sum), q price]]])) id
  have hgs5 := (Ag.app (P := fun _ => False) (T := [.lst [.tup [q (base + gs.sum), q price]]])).get hgs id
  have hag5 := hag4.trans (Ag.app (T := [.lst [.tup [q (base + gs.sum), q price]]]))
  have h9 : (S' ++ [.lst [.tup [q (base + gs.sum), q price]]])[S'.length]? = some (.lst ([(base + gs.sum, price)].map pr)) := app_get
  have h79 := get_lt hgs
  generalize S' ++ [.lst [.tup [q (base + gs.sum), q price]]] = S5 at *
  generalize S'.length = n9 at *
  refine wi_loc hgs5 ?_
  refine forE_inv (fun i r S' => StAt l S' ∧ Ag (· = l) S3 S' ∧ S'[n7]? = some (.lst (gs.map q)) ∧ ∃ (t p rt : Rat) (cs : List (Rat × Rat)) (z8 z11 : Option D),
      r = [some (.loc l), some (.str kind), some (.int most), some (.bl pl), some (.int (1 + v)), some (q t), some (q p), some (.loc n7), z8, some (.loc n9), some (q rt), z11, none] ∧
      t = base + (gs.drop i).sum ∧ S'[n9]? = some (.lst (cs.map pr)) ∧ cs.length = i + 1 ∧ cs[i]? = some (t, p) ∧ Good (decide (kind = ("straight" : Str))) cs ∧ (∀ x ∈ cs, Sz 50 30 x.1 ∧ Sz 100 150 x.2) ∧ ((∀ x ∈ cs, x.1.den ∣ LC ∧ x.2.den ∣ LC * LC) ∧ rt.den ∣ LC ∧ p.den ∣ LC * LC) ∧
      (kind = ("straight" : Str) → ∀ a, 1 ≤ i → cs[i - 1]? = some a → rateB a (t, p) = rt) ∧ 0 ≤ rt ∧ 0 ≤ p ∧ Sz (41 + i) (6 * i) rt ∧ Sz (90 + i) (6 + 36 * i) p) ?_ (fun i r S' _ h => still1 h.2.2.1) ?_ ?_
  · have ht := time_sz hbs hgo1 hgl4
    refine ⟨hst5, hag5, hgs5, base + gs.sum, price, 0, [(base + gs.sum, price)], _, _, rfl, by rw [List.drop_zero], h9, rfl, rfl, ?_, ?_, ⟨(fun x hx => by rw [List.mem_singleton.1 hx]; exact ⟨tlc gs hgo1, LC12 (sz_LC hps)⟩), ⟨LC, (Nat.one_mul _).symm⟩, LC12 (sz_LC hps)⟩, fun _ a h => by omega, Rat.le_refl, hp0, sz0.mono (by decide) (by decide), hps.mono (by decide) (by decide)⟩
    · refine ⟨by simp, ?_, ?_, ?_⟩
      · intro i a b _ hb; simp at hb
      · intro _ i a b c _ hb; simp at hb
      · intro x hx
        rw [List.mem_singleton.1 hx]
        exact ⟨Rat.add_nonneg hb0 (sum_nonneg hgo0), hp0⟩
    · intro x hx
      rw [List.mem_singleton.1 hx]
      exact ⟨ht.mono (by decide) (by decide), hps.mono (by decide) (by decide)⟩
  · rintro i d r T hd ⟨hstT, hagT, hgsT, t, p, rt, cs, z8, z11, rfl, et, hcs, hcl, hci, hgood, hsz, ⟨hlc1, hlc2, hlc3⟩, hrate, hrt0, hp0, hrtz, hpz⟩
    rw [List.getElem?_map, Option.map_eq_some_iff] at hd
    obtain ⟨g, hg, rfl⟩ := hd
    have hi : i < gs.length := (List.getElem?_eq_some_iff.1 hg).1
    have hgm := List.mem_of_getElem? hg
    have hg0 := hgo0 g hgm
    have hgz := hgo1 g hgm
    refine ⟨_, rfl, ?_⟩
    walk_at "hs"
    refine wp_mono (amount_ok hA hT hL hstT (by decide) (by decide)) ?_
    rintro _ T1 ⟨hstT1, hagT1, step, rfl, _, hs1, hstz, _⟩
    have hs1 := hs1 rfl
    have hgsT := hagT1.get hgsT (by omega)
    have hcs := hagT1.get hcs (by omega)
    have hdrop : gs.drop i = g :: gs.drop (i + 1) := by
      rw [List.drop_eq_getElem_cons hi]
      congr 1
      exact (List.getElem?_eq_some_iff.1 hg).2
    have ht := time_sz hbs (gs := gs.drop i) (fun g m => hgo1 g (List.mem_of_mem_drop m)) (by rw [List.length_drop]; omega)
    rw [← et] at ht
    have et2 : t - g = base + (gs.drop (i + 1)).sum := by rw [et, hdrop, List.sum_cons]; grind
    have ht2 := time_sz hbs (gs := gs.drop (i + 1)) (fun g m => hgo1 g (List.mem_of_mem_drop m)) (by rw [List.length_drop]; omega)
    rw [← et2] at ht2
    walk_at "hs"
    refine wp_val (minusL_ok hM hL ht hgz (by decide) (by decide)) ?_
    walk_at "hs"
    refine wp_val (plusL_ok hP hL hrtz hstz (by omega) (by omega)) ?_
    have hrt2 : Sz (42 + i) (6 * (i + 1)) (rt + step) := (hrtz.add hstz).mono (by omega) (by omega)
    have hrt20 : 0 < rt + step := by grind
    have hrtl : (rt + step).den ∣ LC := dvd_add LC0 hlc2 (sz_LC hstz)
    walk_at "hs"
    refine wps_cut (fun r1 T2 => T2 = T1 ∧ ∃ st, r1 = [some (.loc l), some (.str kind), some (.int most), some (.bl pl), some (.int (1 + v)), some (q (t - g)), some (q p), some (.loc n7), some (q g), some (.loc n9), some (q (rt + step)), some (q st), none] ∧
      0 < st ∧ st.den ∣ LC * LC ∧ Sz (85 + i) (6 * (i + 2)) st ∧ (kind = ("straight" : Str) → st = (rt + step) * g)) ?_ ?_
    · walk_at "hr"
      refine wq_dec (fun h => ?_) (fun h => ?_)
      · walk_at "hr"
        refine wp_val (timesL_ok hX hL hrt2 hgz (by omega) (by omega)) ?_
        walk_at "hr"
        exact ⟨rfl, _, rfl, Rat.mul_pos hrt20 hg0, dvd_mul LC0 LC0 hrtl (sz_LC hgz), (hrt2.mul hgz).mono (by omega) (by omega), fun _ => rfl⟩
      · walk_at "hr"
        exact ⟨rfl, _, rfl, hs1, LC12 (sz_LC hstz), hstz.mono (by omega) (by omega), fun e => absurd e h⟩
    · rintro r1 T2 ⟨rfl, st, rfl, hst0, hstl, hstz2, hste⟩
      walk_at "hr"
      refine wp_val (plusL_ok hP hL hpz hstz2 (by omega) (by omega)) ?_
      have hp2 : Sz (91 + i) (6 + 36 * (i + 1)) (p + st) := (hpz.add hstz2).mono (by omega) (by omega)
      have hp20 : 0 ≤ p + st := by grind
      have ht20 : 0 ≤ t - g := by
        rw [et2]
        exact Rat.add_nonneg hb0 (sum_nonneg fun x m => hgo0 x (List.mem_of_mem_drop m))
      walk_at "hr"
      refine ⟨isL_loc hcs, ?_⟩
      walk_at "hr"
      refine wm_append hcs (by rw [List.length_map]; show cs.length < 16777216; omega) ?_
      have hA2 := Ag.set (P := (· = n9)) (S := T2) (o := .lst (cs.map pr ++ [.tup [q (t - g), q (p + st)]])) (Or.inl rfl)
      have hcl1 : cs.length - 1 = i := by omega
      walk_at "hr"
      refine ⟨hstT1.ag hA2 (by omega), (hagT.trans hagT1).new (hA2.mono ?_), hA2.get hgsT (by omega), t - g, p + st, rt + step, cs ++ [(t - g, p + st)], _, _, rfl, et2, ?_, by rw [List.length_append, hcl]; rfl, ?_, ?_, ?_, ⟨?_, hrtl, dvd_add LC2 hlc3 hstl⟩, ?_, Rat.le_of_lt hrt20, hp20, hrt2.mono (by omega) (by omega), hp2.mono (by omega) (by omega)⟩
      · rintro j rfl; exact Or.inr (by omega)
      · rw [set_get hcs, List.map_append]; rfl
      · rw [List.getElem?_append_right (by omega), hcl]; simp
      · refine hgood.more ⟨ht20, hp20⟩ ?_ ?_
        · intro a ha
          rw [hcl1, hci] at ha
          cases ha
          exact ⟨by show t - g < t; grind, by show p < p + st; grind⟩
        · intro hk a b h2 ha hb
          have hk := of_decide_eq_true hk
          rw [hcl1, hci] at hb
          cases hb
          have e2 : cs.length - 2 = i - 1 := by omega
          rw [e2] at ha
          rw [hrate hk a (by omega) ha, hste hk, rate_of_step hg0]
          grind
      · intro x hx
        rcases List.mem_append.1 hx with hx | hx
        · exact hsz x hx
        · rw [List.mem_singleton.1 hx]
          exact ⟨ht2.mono (by omega) (by omega), hp2.mono (by omega) (by omega)⟩
      · intro x hx
        rcases List.mem_append.1 hx with hx | hx
        · exact hlc1 x hx
        · rw [List.mem_singleton.1 hx]
          refine ⟨?_, dvd_add LC2 hlc3 hstl⟩
          show (t - g).den ∣ LC
          rw [et2]
          exact tlc _ fun g m => hgo1 g (List.mem_of_mem_drop m)
      · intro hk a _ ha
        rw [List.getElem?_append_left (by omega), Nat.add_sub_cancel, hci] at ha
        cases ha
        rw [hste hk, rate_of_step hg0]
  · rintro r T ⟨hstT, hagT, hgsT, t, p, rt, cs, z8, z11, rfl, et, hcs, hcl, hci, hgood, hsz, ⟨hlc1, hlc2, hlc3⟩, hrate, hrt0, hp0, hrtz, hpz⟩
    rw [List.length_map] at hcl
    walk_at "hr"
    exact ⟨hstT, hag03.trans hagT, n9, cs, rfl, by omega, hcs, by omega, hgood, hsz, hlc1⟩
theorem net_ok3 {p a b : Int} {ns : List Int} {at_ : Nat} {most corners : Int} {nk : Nat} {kinds : List Str} {pl : Bool} (hG : G f = some (K_net begun take plus offer names waits holds groups)) (hB : G begun = some (K_begun p a b)) (hp : 0 < p ∧ p < 2 ^ 31) (ha : a.natAbs ≤ 2 ^ 31) (hT : Takes G take) (hL : G low = some K_low) (hP : G plus = some (K_plus low)) (hM : G minus = some (K_minus low)) (hX : G times = some (K_times low)) (hA : G amount = some (K_amount take low))
    (hF : G offer = some (K_offer take plus minus times amount)) (hN : NamesSpec G names) (hO : G order = some (K_order take)) (hLag : G lag = some (K_lag take minus amount)) (hW : G waits = some (K_waits take plus minus amount order lag)) (hH : G holds = some (K_holds take plus lag)) (hGr : G groups = some (K_groups take order))
    (hat : at_ < 1000) (hm0 : 0 < most) (hm : most ≤ 10) (hc0 : 0 < corners) (hc : corners ≤ 5) (hk : S[nk]? = some (.lst (kinds.map D.str))) (hk0 : 0 < kinds.length) (hk1 : kinds.length ≤ 10) (hkk : ∀ x ∈ kinds, x = ("straight" : Str) ∨ x = ("steps" : Str)) :
    Wp (callN G (k + 5) f [.frl (ns.map D.int), .int (at_ : Nat), .int most, .int corners, .loc nk, .bl pl] S) fun d S' => Ag (fun _ => False) S S' ∧ ∃ ws wa ho gr, NetAt S' S.length d ws wa ho gr ∧ NetOk3 ws wa ho gr ∧ (ws.length : Int) ≤ most := by
  refine wp_def hG rfl ?_
  unfold K_net
  walk_at "hp0"
  walk_at "hys"
  refine wp_mono (begun_ok hB hp ha (by omega)) ?_
  rintro _ S1 ⟨rfl, hst1, o, e1⟩
  have hag1 : Ag (fun _ => False) S S1 := by rw [e1]; exact Ag.app
  have hl1 := stAt_lt hst1
  generalize hl : S.length = l at *
  walk_at "hys"
  refine wp_mono (hT _ _ _ _ hst1 hm0 (Nat.le_trans (m := 10) (by omega) (by decide))) ?_
  rintro _ S2 ⟨hst2, hag2, v, rfl, hv0, hv1⟩
  have hag2 := hag1.new (hag2.mono (by rintro i rfl; exact Or.inr (by omega)))
  obtain ⟨many, em, hmany⟩ : ∃ many : Nat, 1 + v = (many : Int) ∧ 0 < many := ⟨(1 + v).toNat, by omega, by omega⟩
  have hmany10 : many ≤ 10 := by omega
  have hmm : (many : Int) ≤ most := by omega
  walk_at "hys"
  rw [em]
  refine wp_mono (hN _ _ _ _ hst2 hmany10) ?_
  rintro _ S3 ⟨hst3, hag3, nn, nms, rfl, hnn, hnms, hnml, hnmok⟩
  have hag3 := hag2.new (hag3.mono (by rintro i rfl; exact Or.inr (by omega)))
  have hl2 := hag2.1
  have hnnl := get_lt hnms
  have ea : (at_ : Int) + 1 = ((at_ + 1 : Nat) : Int) := by omega
  walk_at "hys"
  rw [ea]
  refine wp_mono (begun_ok hB hp ha (by omega)) ?_
  rintro _ S4 ⟨rfl, hst4, o4, e4⟩
  have hA4 : Ag (fun _ => False) S3 S4 := by rw [e4]; exact Ag.app
  have hnms4 := hA4.get hnms id
  have hag4 := hag3.trans hA4
  have hl3 := hag3.1
  have hl24 := stAt_lt hst4
  clear e4 o4
  generalize hle2 : S3.length = l2 at *
  walk_at "hys"
  have hA5 : Ag (fun _ => False) S4 (S4 ++ [.lst []]) := Ag.app
  have hws5 : (S4 ++ [.lst []])[S4.length]? = some (.lst (([] : List Wk).map wkD)) := app_get
  have hnms5 := hA5.get hnms4 id
  have hst5 := hst4.ag hA5 id
  have hag5 := hag4.trans hA5
  generalize S4 ++ [.lst []] = S5 at *
  generalize hnwe : S4.length = nw at *
  have hnkl := get_lt hk
  refine wi_loc hnms5 ?_
  refine forE_inv (fun i r T => StAt l2 T ∧ Ag (fun _ => False) S T ∧ T[nn]? = some (.lst (nms.map D.str)) ∧ ∃ (ws : List Wk) (late : Rat) (z11 z12 : Option D), T[nw]? = some (.lst (ws.map wkD)) ∧ (ws.length = i ∧ ws.map Wk.nm = nms.take i) ∧ (∀ w ∈ ws, (WkOk w ∧ WkLc w) ∧ nw < w.lc ∧ T[w.lc]? = some (.lst (w.cs.map pr))) ∧ (V (50 + i) late ∧ late.den ∣ LC) ∧
      r = [some (.frl (ns.map D.int)), some (.int (at_ : Nat)), some (.int most), some (.int corners), some (.loc nk), some (.bl pl), some (.loc l2), some (.int (many : Nat)), some (.loc nn), some (.loc nw), some (q late), z11, z12, none, none])
    ⟨hst5, hag5, hnms5, [], 0, none, none, hws5, ⟨rfl, rfl⟩, (fun w m => nomatch m), ⟨V.mono sz0.v (by omega), ⟨LC, (Nat.one_mul _).symm⟩⟩, rfl⟩ (fun _ _ T _ hh => still1 hh.2.2.1) ?_ ?_
  · rintro i d r T hd ⟨hstT, hagT, hnmT, ws, late, z11, z12, hwsT, ⟨hwl, hwn⟩, hwk, hlate, rfl⟩
    rw [List.getElem?_map, Option.map_eq_some_iff] at hd
    obtain ⟨nm, hnm, rfl⟩ := hd
    have hil := (List.getElem?_eq_some_iff.1 hnm).1
    have hkT := hagT.get hk id
    have hlT := hagT.1
    have hnwT := get_lt hwsT
    refine ⟨_, rfl, ?_⟩
    walk_at "hys"
    rw [List.length_map]
    refine wp_mono (hT _ _ _ _ hstT (by omega) (Nat.le_trans (m := 10) (by omega) (by decide))) ?_
    rintro _ T1 ⟨hst1, hag1, u, rfl, hu0, hu1⟩
    obtain ⟨j, rfl, hj⟩ := int_nat hu0 hu1
    have gk : kinds[j]? = some (kinds[j]'hj) := List.getElem?_eq_getElem _
    generalize kinds[j]'hj = kd at gk
    have gk2 : (kinds.map D.str)[j]? = some (.str kd) := by rw [List.getElem?_map, gk]; rfl
    have hkT1 := hag1.get hkT (by omega)
    walk_at "hys"
    refine wx_ix (seq_loc hkT1) (atI_get gk2) ?_
    walk_at "hys"
    refine wp_mono (offer_ok3 hF hT hL hP hM hX hA hst1 hc0 hc) ?_
    rintro _ T2 ⟨hst2, hag2, nc, cs, rfl, hnc, hcs, hcl, hg, hz, hzl⟩
    have hA := hag1.trans hag2
    have hT1l := hag1.1
    have hposc : 0 < cs.length := List.length_pos_iff.2 hg.one
    have gc : cs[0]? = some (cs[0]'hposc) := List.getElem?_eq_getElem _
    generalize cs[0]'hposc = c0 at gc
    have hc0z := hz c0 (List.mem_of_getElem? gc)
    have gc2 : (cs.map pr)[0]? = some (pr c0) := by rw [List.getElem?_map, gc]; rfl
    have hwsT2 := hA.get hwsT (by omega)
    have hnmT2 := hA.get hnmT (by omega)
    have hwk2 : ∀ w ∈ ws, T2[w.lc]? = some (.lst (w.cs.map pr)) := fun w m => hA.get (hwk w m).2.2 (by have := (hwk w m).2.1; omega)
    have hagT2 := hagT.new (hA.mono (by rintro i rfl; exact Or.inr (by omega)))
    walk_at "hys"
    refine wx_ix (seq_loc hcs) (atI_get (i := 0) gc2) ?_
    walk_at "hys"
    refine wp_val (plusL_ok hP hL (hlate.1.sz1 hlate.2) hc0z.1 (by omega) (by omega)) ?_
    have hlate2 : V (50 + (i + 1)) (late + c0.1) ∧ (late + c0.1).den ∣ LC := ⟨V.mono ((hlate.1.sz1 hlate.2).add hc0z.1).v (by omega), dvd_add LC0 hlate.2 (hzl c0 (List.mem_of_getElem? gc)).1⟩
    walk_at "hys"
    refine ⟨isL_loc hwsT2, ?_⟩
    walk_at "hys"
    refine wm_append hwsT2 (by rw [List.length_map]; show ws.length < 16777216; omega) ?_
    have hA3 := Ag.set (P := (· = nw)) (S := T2) (o := .lst (ws.map wkD ++ [.tup [.str nm, .tup [.str kd, .loc nc]]])) (Or.inl rfl)
    walk_at "hys"
    refine ⟨hst2.ag hA3 (by omega), hagT2.new (hA3.mono (by rintro i rfl; exact Or.inr (by omega))), hA3.get hnmT2 (by omega), ws ++ [⟨nm, kd, nc, cs⟩], _, _, _, by rw [set_get hwsT2, List.map_append]; rfl, ⟨by rw [List.length_append, hwl]; rfl, by rw [take_succ_get hnm, List.map_append, hwn]; rfl⟩, ?_, hlate2, rfl⟩
    intro w m
    rcases List.mem_append.1 m with m | m
    · exact ⟨(hwk w m).1, (hwk w m).2.1, hA3.get (hwk2 w m) (by have := (hwk w m).2.1; omega)⟩
    · rw [List.mem_singleton.1 m]
      exact ⟨⟨⟨hkk kd (List.mem_of_getElem? gk), hg, by show cs.length ≤ 5; omega, hz⟩, hzl⟩, by show nw < nc; omega, hA3.get hcs (by show nc ≠ nw; omega)⟩
  rintro r T ⟨hstT, hagT, hnmT, ws, late, z11, z12, hwsT, ⟨hwl, hwn⟩, hwk, hlate, rfl⟩
  rw [List.length_map] at hwl hlate hwn
  rw [List.take_length] at hwn
  have hwl : ws.length = many := by omega
  have hnwT := get_lt hwsT
  have hwlt : ∀ w ∈ ws, w.lc < T.length := fun w m => get_lt (hwk w m).2.2
  have ea2 : (at_ : Int) + 2 = ((at_ + 2 : Nat) : Int) := by omega
  have ea3 : (at_ : Int) + 3 = ((at_ + 3 : Nat) : Int) := by omega
  have hlT := hagT.1
  walk_at "hys"
  rw [ea2]
  refine wp_mono (begun_ok hB hp ha (by omega)) ?_
  rintro _ U1 ⟨rfl, hstU, o5, e5⟩
  have hA1 : Ag (fun _ => False) T U1 := by rw [e5]; exact Ag.app
  have hlU := stAt_lt hstU
  clear e5 o5
  walk_at "hys"
  refine wp_mono (waits_ok3 hW hT hL hP hM hA hO hLag hstU hmany10) ?_
  rintro _ U2 ⟨hstU2, hagU2, nwa, wa, rfl, hnwa, hwa, hwal, hwab⟩
  have hlU2 := hagU2.1
  have hA2 : Ag (fun _ => False) T U2 := hA1.new (hagU2.mono (by rintro i rfl; exact Or.inr (Nat.le_refl _)))
  have hnwal := get_lt hwa
  walk_at "hys"
  rw [ea3]
  refine wp_mono (begun_ok hB hp ha (by omega)) ?_
  rintro _ U3 ⟨rfl, hstU3, o6, e6⟩
  have hA3 : Ag (fun _ => False) U2 U3 := by rw [e6]; exact Ag.app
  have hwa3 := hA3.get hwa id
  have hA23 := hA2.trans hA3
  have hlU3 := stAt_lt hstU3
  clear e6 o6
  generalize hl4 : U2.length = l4 at *
  walk_at "hys"
  refine wp_mono (holds_ok3 hH hT hL hP hM hA hLag hstU3 hmany hmany10 (hlate.1.mono (by omega)) hlate.2) ?_
  rintro _ U4 ⟨hstU4, hagU4, nho, ho, rfl, hnho, hho, hhol, hhob⟩
  have hlU4 := hagU4.1
  have hwa4 := hagU4.get hwa3 (by omega)
  have hA4' : Ag (fun _ => False) T U4 := hA23.new (hagU4.mono (by rintro i rfl; exact Or.inr (by omega)))
  have hnhol := get_lt hho
  have hws4 := hA4'.get hwsT id
  have hwk4 : ∀ w ∈ ws, U4[w.lc]? = some (.lst (w.cs.map pr)) := fun w m => hA4'.get (hwk w m).2.2 id
  walk_at "hys"
  refine wp_mono (groups_ok3 hGr hT hO hstU4 (by omega) hws4 (fun w m => ⟨by have := hwlt w m; omega, hwk4 w m⟩) (by omega)) ?_
  rintro _ U5 ⟨hstU5, hagU5, ng, gr, rfl, hng, hgr, hgrl, hgrb, hgrp⟩
  have hA5' : Ag (fun _ => False) T U5 := hA4'.new (hagU5.mono (by rintro i rfl; exact Or.inr (by omega)))
  have hlU5 := hagU5.1
  walk_at "hys"
  refine ⟨hagT.trans hA5', ws, wa, ho, gr, ⟨⟨nw, nwa, nho, ng, rfl, by omega, by omega, by omega, by omega, hA5'.get hwsT id, hagU5.get hwa4 (by omega), hagU5.get hho (by omega), hgr⟩, fun w m => ⟨by have := (hwk w m).2.1; omega, hA5'.get (hwk w m).2.2 id⟩, fun g m => ⟨by have := (hgrb g m).1; omega, (hgrb g m).2.1⟩⟩,
    ⟨by omega, by omega, fun w m => (hwk w m).1.1, fun w m => (hwk w m).1.2, hwal, by rw [hwl]; exact hwab, hhol, by rw [hwl]; exact hhob, hgrl, fun g m => (hgrb g m).2.2, hgrp, by rw [hwn]; exact hnmok⟩, by omega⟩
end
end HP
namespace HP
open PySem L2
structure FN (G : Tab) : Prop where
  beg : G 1000 = some (K_begun 2147483587 104729 7)
  tak : G 1001 = some (K_take 39373 17 2147483587)
  low : G 1002 = some K_low
  plus : G 1003 = some (K_plus 1002)
  minus : G 1004 = some (K_minus 1002)
  times : G 1005 = some (K_times 1002)
  under : G 1006 = some K_under
  amount : G 1007 = some (K_amount 1001 1002)
  offer : G 1008 = some (K_offer 1001 1003 1004 1005 1007)
  nam : NamesSpec G 1009
  ord : G 1010 = some (K_order 1001)
  lag : G 1011 = some (K_lag 1001 1004 1007)
  wai : G 1012 = some (K_waits 1001 1003 1004 1007 1010 1011)
  hol : G 1013 = some (K_holds 1001 1003 1011)
  gro : G 1014 = some (K_groups 1001 1010)
  net : G 1015 = some (K_net 1000 1001 1003 1008 1009 1012 1013 1014)
theorem FN.take {G : Tab} (F : FN G) : Takes G 1001 := takes_A F.tak
structure NAtB (S : Sto) (n0 a b c e : Nat) (ws : List Wk) (wl : List Wt) (hl : List Hd3) (gr : List (Nat × List Nat)) : Prop where
  lo : n0 ≤ a ∧ n0 ≤ b ∧ n0 ≤ c ∧ n0 ≤ e
  a : S[a]? = some (.lst (ws.map wkD))
  b : S[b]? = some (.lst (wl.map waN))
  c : S[c]? = some (.lst (hl.map hoN))
  e : S[e]? = some (.lst (gr.map fun g => D.loc g.1))
  wk : ∀ w ∈ ws, n0 ≤ w.lc ∧ S[w.lc]? = some (.lst (w.cs.map pr))
  g : ∀ g ∈ gr, n0 ≤ g.1 ∧ S[g.1]? = some (.lst (g.2.map nD))
theorem NAtB.ag {P : Nat → Prop} {S S' : Sto} {n0 a b c e : Nat} {ws : List Wk} {wl : List Wt} {hl : List Hd3} {gr : List (Nat × List Nat)} (h : NAtB S n0 a b c e ws wl hl gr) (k : Ag P S S') (hp : ∀ i, P i → i < n0) : NAtB S' n0 a b c e ws wl hl gr := by
  have q : ∀ {i : Nat} {o : O}, n0 ≤ i → S[i]? = some o → S'[i]? = some o := fun hi ho => k.get ho (fun z => by have := hp _ z; omega)
  exact ⟨h.lo, q h.lo.1 h.a, q h.lo.2.1 h.b, q h.lo.2.2.1 h.c, q h.lo.2.2.2 h.e, fun w m => ⟨(h.wk w m).1, q (h.wk w m).1 (h.wk w m).2⟩, fun w m => ⟨(h.g w m).1, q (h.g w m).1 (h.g w m).2⟩⟩
theorem NAtB.ag0 {S S' : Sto} {n0 a b c e : Nat} {ws : List Wk} {wl : List Wt} {hl : List Hd3} {gr : List (Nat × List Nat)} (h : NAtB S n0 a b c e ws wl hl gr) (k : Ag (fun _ => False) S S') : NAtB S' n0 a b c e ws wl hl gr := h.ag k fun _ h => h.elim
theorem NAtB.lower {S : Sto} {n0 n1 a b c e : Nat} {ws : List Wk} {wl : List Wt} {hl : List Hd3} {gr : List (Nat × List Nat)} (h : NAtB S n0 a b c e ws wl hl gr) (k : n1 ≤ n0) : NAtB S n1 a b c e ws wl hl gr :=
  ⟨⟨Nat.le_trans k h.lo.1, Nat.le_trans k h.lo.2.1, Nat.le_trans k h.lo.2.2.1, Nat.le_trans k h.lo.2.2.2⟩, h.a, h.b, h.c, h.e, fun w m => ⟨Nat.le_trans k (h.wk w m).1, (h.wk w m).2⟩, fun w m => ⟨Nat.le_trans k (h.g w m).1, (h.g w m).2⟩⟩
structure GrN (ws : List Wk) (g : List Nat) : Prop where
  two : 2 ≤ g.length
  three : g.length ≤ 3
  nd : g.Nodup
  at_ : ∀ x ∈ g, x < ws.length ∧ ∀ w, ws[x]? = some w → w.kd = ("steps" : Str) ∧ ∀ y w', y ∈ g → ws[y]? = some w' → w'.cs.length = w.cs.length
structure NetB (ws : List Wk) (wl : List Wt) (hl : List Hd3) (gr : List (Nat × List Nat)) : Prop where
  one : 0 < ws.length
  ten : ws.length ≤ 10
  wk : ∀ w ∈ ws, WkOk w
  lc : ∀ w ∈ ws, WkLc w
  wal : wl.length ≤ 40
  wok : WOk wl ws.length
  was : ∀ w ∈ wl, V 60 w.2.2 ∧ w.2.2.den ∣ LC
  hol : hl.length ≤ 40
  hok : ∀ h ∈ hl, h.2.1 < ws.length ∧ (h.1 = ("from" : Str) ∨ h.1 = ("till" : Str) ∨ h.1 = ("by" : Str))
  hos : ∀ h ∈ hl, V 110 h.2.2 ∧ h.2.2.den ∣ LC
  grl : gr.length ≤ 4
  grs : ∀ g ∈ gr, GrN ws g.2
  grp : gr.Pairwise (fun g h => ∀ x ∈ g.2, x ∉ h.2)
  nms : Names (ws.map Wk.nm)
theorem map_to {A B : Type} (f : A → B) (P : A → Prop) : (ys : List B) → (∀ y ∈ ys, ∃ x, f x = y ∧ P x) → ∃ xs : List A, ys = xs.map f ∧ ∀ x ∈ xs, P x
  | [], _ => ⟨[], rfl, fun x m => nomatch m⟩
  | y :: ys, h => by
    obtain ⟨x, e, p⟩ := h y List.mem_cons_self
    obtain ⟨xs, e2, p2⟩ := map_to f P ys fun z m => h z (List.mem_cons_of_mem _ m)
    exact ⟨x :: xs, by rw [List.map_cons, e, e2], fun z m => by rcases List.mem_cons.1 m with rfl | m; exact p; exact p2 z m⟩
section
variable {G : Tab} {k f l : Nat} {S : Sto}
theorem net_okN (F : FN G) {ns : List Int} {at_ : Nat} {most corners : Int} {nk : Nat} {kinds : List Str} {pl : Bool} (hat : at_ < 1000) (hm0 : 0 < most) (hm : most ≤ 10) (hc0 : 0 < corners) (hc : corners ≤ 5) (hk : S[nk]? = some (.lst (kinds.map D.str))) (hk0 : 0 < kinds.length) (hk1 : kinds.length ≤ 10) (hkk : ∀ x ∈ kinds, x = ("straight" : Str) ∨ x = ("steps" : Str)) :
    Wp (callN G (k + 5) 1015 [.frl (ns.map D.int), .int (at_ : Nat), .int most, .int corners, .loc nk, .bl pl] S) fun d S' => Ag (fun _ => False) S S' ∧ ∃ a b c e ws wl hl gr, d = .tup [.loc a, .loc b, .loc c, .loc e] ∧ NAtB S' S.length a b c e ws wl hl gr ∧ NetB ws wl hl gr ∧ (ws.length : Int) ≤ most ∧ hl.length ≤ 4 := by
  refine wp_mono (net_ok3 F.net F.beg (by decide) (by decide) F.take F.low F.plus F.minus F.times F.amount F.offer F.nam F.ord F.lag F.wai F.hol F.gro hat hm0 hm hc0 hc hk hk0 hk1 hkk) ?_
  rintro d S' ⟨hag, ws, wa, ho, gr, ⟨⟨a, b, c, e, rfl, l1, l2, l3, l4, g1, g2, g3, g4⟩, hof, hgr⟩, hN, hml⟩
  obtain ⟨wl, rfl, hwl⟩ := map_to cwI (fun w : Wt => w.1 < ws.length ∧ w.2.1 < ws.length ∧ w.1 ≠ w.2.1 ∧ V 60 w.2.2 ∧ w.2.2.den ∣ LC) wa fun w m => by
    obtain ⟨h1, h2, h3, h4, h5, h6⟩ := hN.was w m
    exact ⟨(w.1.toNat, w.2.1.toNat, w.2.2), by unfold cwI; rw [Int.toNat_of_nonneg h1, Int.toNat_of_nonneg h3], by show w.1.toNat < _; omega, by show w.2.1.toNat < _; omega, by show w.1.toNat ≠ w.2.1.toNat; omega, h6⟩
  obtain ⟨hl, rfl, hhl⟩ := map_to chI (fun h : Hd3 => (h.2.1 < ws.length ∧ (h.1 = ("from" : Str) ∨ h.1 = ("till" : Str) ∨ h.1 = ("by" : Str))) ∧ V 110 h.2.2 ∧ h.2.2.den ∣ LC) ho fun h m => by
    obtain ⟨h1, h2, h3, h4⟩ := hN.hos h m
    exact ⟨(h.1, h.2.1.toNat, h.2.2), by unfold chI; rw [Int.toNat_of_nonneg h2], ⟨by show h.2.1.toNat < _; omega, h1⟩, h4⟩
  obtain ⟨gn, rfl, hgn⟩ := map_to (fun g : Nat × List Nat => (g.1, g.2.map fun x : Nat => (x : Int))) (fun g => True) gr fun g m => by
    obtain ⟨xs, e, _⟩ := map_to (fun x : Nat => (x : Int)) (fun _ => True) g.2 fun x mx => ⟨x.toNat, Int.toNat_of_nonneg ((hN.grs g m).at_ x mx).1.1, trivial⟩
    exact ⟨(g.1, xs), by rw [← e], trivial⟩
  rw [cw_map] at g2
  rw [ch_map] at g3
  rw [List.map_map] at g4
  have lw := hN.wal
  rw [List.length_map] at lw
  have lh := hN.hol
  rw [List.length_map] at lh
  have lg := hN.grl
  rw [List.length_map] at lg
  refine ⟨hag, a, b, c, e, ws, wl, hl, gn, rfl, ⟨⟨l1, l2, l3, l4⟩, g1, g2, g3, g4, hof, fun g m => ?_⟩, ⟨hN.one, hN.ten, hN.wk, hN.lc, lw, fun w m => ⟨(hwl w m).1, (hwl w m).2.1, (hwl w m).2.2.1⟩, fun w m => (hwl w m).2.2.2, by omega, fun h m => (hhl h m).1, fun h m => (hhl h m).2, lg, fun g m => ?_, ?_, hN.nms⟩, hml, lh⟩
  · have := hgr _ (List.mem_map.2 ⟨g, m, rfl⟩)
    exact ⟨this.1, by rw [nD_ints]; exact this.2⟩
  · have h := hN.grs _ (List.mem_map.2 ⟨g, m, rfl⟩)
    have hl2 := h.two
    have hl3 := h.three
    rw [List.length_map] at hl2 hl3
    refine ⟨hl2, hl3, ?_, fun x mx => ?_⟩
    · have hnd := h.nd
      unfold List.Nodup at *
      rw [List.pairwise_map] at hnd
      exact hnd.imp fun hne e => hne (by rw [e])
    · obtain ⟨q1, q2⟩ := h.at_ (x : Int) (List.mem_map.2 ⟨x, mx, rfl⟩)
      refine ⟨by omega, fun w gw => ?_⟩
      obtain ⟨r1, r2⟩ := q2 w (by rw [Int.toNat_natCast]; exact gw)
      exact ⟨r1, fun y w' my gw' => r2 (y : Int) w' (List.mem_map.2 ⟨y, my, rfl⟩) (by rw [Int.toNat_natCast]; exact gw')⟩
  · have h := hN.grp
    rw [List.pairwise_map] at h
    refine h.imp fun {g h} q => ?_
    intro (x : Nat) mx my
    exact q (x : Int) (List.mem_map.2 ⟨x, mx, rfl⟩) (List.mem_map.2 ⟨x, my, rfl⟩)
/-- a net's lists made anew -/
def K_copyN : Fn := ⟨1, 5,
 (.cons (.set 1 (.lc (.tup (.cons (.var 2) (.cons (.tup (.cons (.ix (.var 3) (.int 0)) (.cons (.bcall .list (.cons (.ix (.var 3) (.int 1)) .nil)) .nil))) .nil))) (.tup (.cons (.name 2) (.cons (.name 3) .nil))) (.seq (.ix (.var 0) (.int 0))) .none [2, 3]))
 (.cons (.ret (.tup (.cons (.var 1) (.cons (.bcall .list (.cons (.ix (.var 0) (.int 1)) .nil)) (.cons (.bcall .list (.cons (.ix (.var 0) (.int 2)) .nil)) (.cons (.lc (.bcall .list (.cons (.var 4) .nil)) (.name 4) (.seq (.ix (.var 0) (.int 3))) .none [4]) .nil))))))
 .nil))⟩
theorem Same.app : {ws vs : List Wk} → {w v : Wk} → Same ws vs → v.nm = w.nm ∧ v.kd = w.kd ∧ v.cs = w.cs → Same (ws ++ [w]) (vs ++ [v])
  | [], [], _, _, _, h => ⟨h, trivial⟩
  | w :: ws, v :: vs, _, _, h, k => ⟨h.1, Same.app (ws := ws) (vs := vs) h.2 k⟩
theorem copyN_ok (hG : G f = some K_copyN) {n0 a b c e : Nat} {ws : List Wk} {wl : List Wt} {hl : List Hd3} {gr : List (Nat × List Nat)} (hN : NAtB S n0 a b c e ws wl hl gr) (h10 : ws.length ≤ 1000) (hg : gr.length ≤ 1000) :
    Wp (callN G (k + 1) f [.tup [.loc a, .loc b, .loc c, .loc e]] S) fun d S' => Ag (fun _ => False) S S' ∧ ∃ a' b' c' e' vs gr', d = .tup [.loc a', .loc b', .loc c', .loc e'] ∧ NAtB S' S.length a' b' c' e' vs wl hl gr' ∧ Same ws vs ∧ gr'.map (·.2) = gr.map (·.2) := by
  refine wp_def hG rfl ?_
  unfold K_copyN
  walk_at "hp0"
  walk_at "hys"
  refine wi_loc hN.a ?_
  refine compE_inv (fun i T => Ag (fun _ => False) S T ∧ ∃ vs : List Wk, T[S.length]? = some (.lst (vs.map wkD)) ∧ Same (ws.take i) vs ∧ ∀ v ∈ vs, S.length < v.lc ∧ T[v.lc]? = some (.lst (v.cs.map pr))) ⟨Ag.app, [], app_get, trivial, fun v m => nomatch m⟩ (fun i T _ hh => still1 (hh.1.get hN.a id)) ?_ ?_
  · rintro i d T hd ⟨hag, vs, hT, hsame, hv⟩
    rw [List.getElem?_map, Option.map_eq_some_iff] at hd
    obtain ⟨w, gw, rfl⟩ := hd
    have hi := (List.getElem?_eq_some_iff.1 gw).1
    have hwl := hag.get (hN.wk w (List.mem_of_getElem? gw)).2 id
    have hvl := hsame.len
    rw [List.length_take] at hvl
    have hTl := get_lt hT
    unfold wkD
    refine ⟨_, rfl, ?_⟩
    walk_at "hy"
    refine wf_list (seq_loc hwl) ?_
    have hA : Ag (fun _ => False) T (T ++ [.lst (w.cs.map pr)]) := Ag.app
    have hn : (T ++ [.lst (w.cs.map pr)])[T.length]? = some (.lst (w.cs.map pr)) := app_get
    have hTA := hA.get hT id
    walk_at "hy"
    have hC := Ag.set (P := (· = S.length)) (S := T ++ [.lst (w.cs.map pr)]) (o := .lst (vs.map wkD ++ [.tup [.str w.nm, .tup [.str w.kd, .loc T.length]]])) (Or.inl rfl)
    refine ⟨_, hTA, by rw [List.length_map]; show vs.length < 16777216; omega, (hag.trans hA).new (hC.mono fun j h => Or.inr (by have h : j = S.length := h; omega)), vs ++ [⟨w.nm, w.kd, T.length, w.cs⟩], by rw [set_get hTA, List.map_append]; rfl, by rw [take_succ_get gw]; exact hsame.app ⟨rfl, rfl, rfl⟩, fun v m => ?_⟩
    rcases List.mem_append.1 m with m | m
    · exact ⟨(hv v m).1, hC.get (hA.get (hv v m).2 id) (by have := (hv v m).1; omega)⟩
    · rw [List.mem_singleton.1 m]
      exact ⟨hTl, hC.get hn (by show T.length ≠ S.length; omega)⟩
  rintro T ⟨hag, vs, hT, hsame, hv⟩
  rw [List.length_map, List.take_length] at hsame
  have hTl := get_lt hT
  generalize hn1 : S.length = n1 at *
  walk_at "hys"
  refine wf_list (seq_loc (hag.get hN.b id)) ?_
  have hA1 : Ag (fun _ => False) T (T ++ [.lst (wl.map waN)]) := Ag.app
  have hb1 : (T ++ [.lst (wl.map waN)])[T.length]? = some (.lst (wl.map waN)) := app_get
  have hag1 := hag.trans hA1
  have hT1 := hA1.get hT id
  have hv1 : ∀ v ∈ vs, n1 < v.lc ∧ (T ++ [O.lst (wl.map waN)])[v.lc]? = some (.lst (v.cs.map pr)) := fun v m => ⟨(hv v m).1, hA1.get (hv v m).2 id⟩
  generalize T ++ [O.lst (wl.map waN)] = T1 at *
  generalize hn2 : T.length = n2 at *
  walk_at "hys"
  refine wf_list (seq_loc (hag1.get hN.c id)) ?_
  have hA2 : Ag (fun _ => False) T1 (T1 ++ [.lst (hl.map hoN)]) := Ag.app
  have hc2 : (T1 ++ [.lst (hl.map hoN)])[T1.length]? = some (.lst (hl.map hoN)) := app_get
  have hag2 := hag1.trans hA2
  have hT2 := hA2.get hT1 id
  have hb2 := hA2.get hb1 id
  have hv2 : ∀ v ∈ vs, n1 < v.lc ∧ (T1 ++ [O.lst (hl.map hoN)])[v.lc]? = some (.lst (v.cs.map pr)) := fun v m => ⟨(hv1 v m).1, hA2.get (hv1 v m).2 id⟩
  have hl1 := hag1.1
  generalize T1 ++ [O.lst (hl.map hoN)] = T2 at *
  generalize hn3 : T1.length = n3 at *
  have hl2 := get_lt hc2
  walk_at "hys"
  have hgT := hag2.get hN.e id
  refine wi_loc hgT ?_
  refine compE_inv (fun i U => Ag (fun _ => False) T2 U ∧ ∃ gs : List (Nat × List Nat), U[T2.length]? = some (.lst (gs.map fun g => D.loc g.1)) ∧ gs.map (·.2) = (gr.take i).map (·.2) ∧ ∀ g ∈ gs, T2.length < g.1 ∧ U[g.1]? = some (.lst (g.2.map nD))) ⟨Ag.app, [], app_get, rfl, fun v m => nomatch m⟩ (fun i U _ hh => still1 (hh.1.get hgT id)) ?_ ?_
  · rintro i d U hd ⟨hagU, gs, hU, hgs, hg2⟩
    rw [List.getElem?_map, Option.map_eq_some_iff] at hd
    obtain ⟨g, gg, rfl⟩ := hd
    have hi := (List.getElem?_eq_some_iff.1 gg).1
    have hgl := (hag2.trans hagU).get (hN.g g (List.mem_of_getElem? gg)).2 id
    have hgsl : gs.length ≤ i := by
      have := congrArg List.length hgs
      rw [List.length_map, List.length_map, List.length_take] at this
      omega
    have hUl := get_lt hU
    refine ⟨_, rfl, ?_⟩
    walk_at "hy"
    refine wf_list (seq_loc hgl) ?_
    have hA : Ag (fun _ => False) U (U ++ [.lst (g.2.map nD)]) := Ag.app
    have hn : (U ++ [.lst (g.2.map nD)])[U.length]? = some (.lst (g.2.map nD)) := app_get
    have hUA := hA.get hU id
    walk_at "hy"
    have hC := Ag.set (P := (· = T2.length)) (S := U ++ [.lst (g.2.map nD)]) (o := .lst ((gs.map fun g => D.loc g.1) ++ [.loc U.length])) (Or.inl rfl)
    refine ⟨_, hUA, by rw [List.length_map]; show gs.length < 16777216; omega, (hagU.trans hA).new (hC.mono fun j h => Or.inr (by have h : j = T2.length := h; omega)), gs ++ [(U.length, g.2)], by rw [set_get hUA, List.map_append]; rfl, by rw [take_succ_get gg, List.map_append, List.map_append, hgs]; rfl, fun v m => ?_⟩
    rcases List.mem_append.1 m with m | m
    · exact ⟨(hg2 v m).1, hC.get (hA.get (hg2 v m).2 id) (by have := (hg2 v m).1; omega)⟩
    · rw [List.mem_singleton.1 m]
      exact ⟨hUl, hC.get hn (by show U.length ≠ T2.length; omega)⟩
  rintro U ⟨hagU, gs, hU, hgs, hg2⟩
  rw [List.length_map, List.take_length] at hgs
  walk_at "hys"
  refine ⟨hag2.trans hagU, n1, n2, n3, T2.length, vs, gs, rfl, ⟨⟨Nat.le_refl _, by omega, by omega, by omega⟩, hagU.get hT2 id, hagU.get hb2 id, hagU.get hc2 id, hU, fun v m => ⟨by have := (hv2 v m).1; omega, hagU.get (hv2 v m).2 id⟩, fun g m => ⟨by have := (hg2 g m).1; omega, (hg2 g m).2⟩⟩, hsame, hgs⟩
end
/-- a whole net as data -/
def netPB (ws : List Wk) (wl : List Wt) (hl : List Hd3) (gs : List (List Nat)) : PyData := .tuple [.list (ws.map wkP), .list ((wl.map cwI).map waP), .list ((hl.map chI).map hoP), .list (gs.map fun g => .list ((g.map fun x : Nat => (x : Int)).map PyData.int))]
theorem dt_netB {S : Sto} {n0 a b c e : Nat} {ws : List Wk} {wl : List Wt} {hl : List Hd3} {gr : List (Nat × List Nat)} (hN : NAtB S n0 a b c e ws wl hl gr) : Dt (fun _ => True) S (netPB ws wl hl (gr.map (·.2))) (.tup [.loc a, .loc b, .loc c, .loc e]) := by
  refine dt_4 (dt_lst hN.a trivial fun w m => dt_wk (hN.wk w m).2 trivial) (dt_lst (g := waD) (by rw [cw_map]; exact hN.b) trivial fun x _ => dt_wa x) (dt_lst (g := hoD) (by rw [ch_map]; exact hN.c) trivial fun x _ => dt_ho x) ?_
  rw [List.map_map]
  exact dt_lst hN.e trivial fun g m => dt_nats (hN.g g m).2
theorem same_netB {ws vs : List Wk} {wl : List Wt} {hl : List Hd3} {gs : List (List Nat)} (h : Same ws vs) : netPB vs wl hl gs = netPB ws wl hl gs := by unfold netPB; rw [h.mapP]
theorem ok_netB {ws : List Wk} {wl : List Wt} {hl : List Hd3} {gr : List (Nat × List Nat)} (h : NetB ws wl hl gr) : okA (netPB ws wl hl (gr.map (·.2))) = true ∧ PyData.depth (netPB ws wl hl (gr.map (·.2))) ≤ 8 := by
  have h1 : okA (.list (ws.map wkP)) = true := okA_list (by have := h.ten; omega) fun w m => ok_wk (h.wk w m).len
  have h2 : okA (.list ((wl.map cwI).map waP)) = true := okA_list (by rw [List.length_map]; have := h.wal; omega) fun w _ => rfl
  have h3 : okA (.list ((hl.map chI).map hoP)) = true := okA_list (by rw [List.length_map]; have := h.hol; omega) fun w _ => rfl
  have h4 : okA (.list ((gr.map (·.2)).map fun g => .list ((g.map fun x : Nat => (x : Int)).map PyData.int))) = true := okA_list (by rw [List.length_map]; have := h.grl; omega) fun g m => by
    obtain ⟨x, mx, rfl⟩ := List.mem_map.1 m
    exact okA_list (by rw [List.length_map]; have := (h.grs x mx).three; omega) fun _ _ => rfl
  have d1 : PyData.depth (.list (ws.map wkP)) ≤ 6 := depth_list (n := 5) fun w _ => depth_wk
  have d2 : PyData.depth (.list ((wl.map cwI).map waP)) ≤ 6 := Nat.le_trans (depth_list (n := 2) fun w _ => depth_wa w) (by decide)
  have d3 : PyData.depth (.list ((hl.map chI).map hoP)) ≤ 6 := Nat.le_trans (depth_list (n := 2) fun w _ => depth_ho w) (by decide)
  have d4 : PyData.depth (.list ((gr.map (·.2)).map fun g => .list ((g.map fun x : Nat => (x : Int)).map PyData.int))) ≤ 6 := Nat.le_trans (depth_list (n := 1) fun g _ => depth_list (n := 0) fun _ _ => Nat.le_refl _) (by decide)
  refine ⟨?_, Nat.le_trans (depth_4 (n := 6) d1 d2 d3 d4) (by decide)⟩
  show (decide (4 < 1000) && (okA _ && (okA _ && (okA _ && (okA _ && true))))) = true
  rw [h1, h2, h3, h4]
  rfl
end HP
namespace HP
open PySem L2
theorem first_qs {t : Rat} : {xs : List Rat} → t ∈ xs → firstEq (qd t) (xs.map qd) = some (xs.findIdx fun y => decide (y = t))
  | x :: xs, h => by
    show (if PyData.eqv (qd x) (qd t) = true then some 0 else (firstEq (qd t) (xs.map qd)).map (· + 1)) = _
    rw [eqv_q, List.findIdx_cons]
    by_cases e : x = t
    · rw [decide_eq_true e]; rfl
    · rw [decide_eq_false e, if_neg (by decide), first_qs (xs := xs) (by rcases List.mem_cons.1 h with h | h; exact absurd h.symm e; exact h)]
      rfl
theorem index_qs {S : Sto} {l : Nat} {t : Rat} {xs : List Rat} {Q : D → Sto → Prop} (h : S[l]? = some (.lst (xs.map q))) (hl : xs.length < 190) (ht : t ∈ xs) (k : Q (.int ((xs.findIdx fun y => decide (y = t) : Nat) : Int)) S) : Wp (mtD S .index (.loc l) [q t]) Q :=
  wm_index ((dt_lst (P := fun _ => True) (f := qd) h trivial fun x _ => dt_q x).rd (cmp_qs hl).f) ((dt_q (P := fun _ => True) (S := S) t).rd (cmp_q t).f) (cmp_qs hl).s (cmp_q t).s (first_qs ht) k
theorem eqvAll_ints : (us vs : List Int) → PyData.eqvAll (us.map PyData.int) (vs.map PyData.int) = decide (us = vs)
  | [], [] => rfl
  | [], _ :: _ => rfl
  | _ :: _, [] => rfl
  | u :: us, v :: vs => by
    show (PyData.eqv (.int u) (.int v) && PyData.eqvAll (us.map PyData.int) (vs.map PyData.int)) = _
    rw [eqv_int, eqvAll_ints us vs]
    by_cases e : u = v
    · subst e
      by_cases e2 : us = vs
      · subst e2; simp
      · simp [e2]
    · simp [e]
/-- the corner that a work by steps takes -/
def cnF (ws : List Wk) (pl : List (Rat × Rat)) (x : Nat) : Nat := match ws[x]?, pl[x]? with
  | some w, some p => (w.cs.map (·.1)).findIdx fun y => decide (y = p.2)
  | _, _ => 0
def pG (ws : List Wk) (pl : List (Rat × Rat)) (gs : List (List Nat)) (k : Nat) : Bool := match gs[k]? with
  | some g => !(g.all fun x => decide (cnF ws pl x = cnF ws pl (g[0]?.getD 0)))
  | none => false
theorem all_rep {ys : List Int} {y : Int} : decide (ys = List.replicate ys.length y) = ys.all fun z => decide (z = y) := by
  induction ys with
  | nil => rfl
  | cons z ys ih =>
    rw [List.all_cons, ← ih, List.length_cons, List.replicate_succ]
    by_cases e : z = y
    · subst e
      by_cases e2 : ys = List.replicate ys.length z
      · rw [decide_eq_true e2, decide_eq_true (by rw [← e2])]; simp
      · rw [decide_eq_false e2, decide_eq_false (fun q => e2 (List.cons.inj q).2)]; simp
    · rw [decide_eq_false (fun q => e (List.cons.inj q).1), decide_eq_false e]; rfl
section
variable {L : List Fn} {k : Nat} {S : Sto} {ws : List Wk} {pl : List (Rat × Rat)} {a b c e np : Nat} {gr : List (Nat × List Nat)}
theorem corner_of_ok {x : Nat} {w : Wk} {p : Rat × Rat} (ha : S[a]? = some (.lst (ws.map wkD))) (hp : S[np]? = some (.lst (pl.map pr))) (gw : ws[x]? = some w) (gp : pl[x]? = some p) (hcs : S[w.lc]? = some (.lst (w.cs.map pr))) (hl : w.cs.length ≤ 100) (ht : ∃ c ∈ w.cs, c.1 = p.2) :
    Wp (callN (Gof L) (k + 2) 43 [.tup [.loc a, .loc b, .loc c, .loc e], .loc np, .int (x : Nat)] S) fun d S' => Ag (fun _ => False) S S' ∧ d = .int (cnF ws pl x : Nat) := by
  refine wp_def (fn := F_corner_of) rfl rfl ?_
  unfold F_corner_of
  walk_at "hp0"
  walk_at "hys"
  refine wx_ix (seq_loc ha) (atI_get (x := wkD w) (by rw [List.getElem?_map, gw]; rfl)) ?_
  unfold wkD
  walk_at "hys"
  refine wi_loc hcs ?_
  refine comp_all (g := fun c : Rat × Rat => q c.1) (by omega) (fun U hU => still1 (hU.get hcs id)) (fun i c gc U hU => ?_) (fun S1 hag1 h1 => ?_)
  · unfold pr
    refine ⟨_, rfl, ?_⟩
    walk_at "hy"
    exact ⟨rfl, Ag.rfl⟩
  have h1 : S1[S.length]? = some (.lst ((w.cs.map (·.1)).map q)) := by rw [h1, List.map_map]; rfl
  walk_at "hys"
  refine ⟨isL_loc h1, ?_⟩
  walk_at "hys"
  refine wx_ix (seq_loc (hag1.get hp id)) (atI_get (x := pr p) (by rw [List.getElem?_map, gp]; rfl)) ?_
  unfold pr
  walk_at "hys"
  obtain ⟨c, mc, ec⟩ := ht
  refine index_qs h1 (by rw [List.length_map]; omega) (List.mem_map.2 ⟨c, mc, ec⟩) ?_
  walk_at "hys"
  refine ⟨hag1, ?_⟩
  unfold cnF
  rw [gw, gp]
theorem broken_group_ok (ha : S[a]? = some (.lst (ws.map wkD))) (he : S[e]? = some (.lst (gr.map fun g => D.loc g.1))) (hg : ∀ g ∈ gr, S[g.1]? = some (.lst (g.2.map nD))) (hwk : ∀ w ∈ ws, w.cs.length ≤ 100 ∧ S[w.lc]? = some (.lst (w.cs.map pr))) (hp : S[np]? = some (.lst (pl.map pr)))
    (hgo : ∀ g ∈ gr, 0 < g.2.length ∧ g.2.length ≤ 100 ∧ ∀ x ∈ g.2, ∃ w p, ws[x]? = some w ∧ pl[x]? = some p ∧ ∃ c ∈ w.cs, c.1 = p.2) :
    Wp (callN (Gof L) (k + 4) 15 [.tup [.loc a, .loc b, .loc c, .loc e], .loc np] S) fun d S' => Ag (fun _ => False) S S' ∧ d = optD "group" (fstIx (pG ws pl (gr.map (·.2))) gr.length) := by
  refine wp_def (fn := F_broken_group) rfl rfl ?_
  unfold F_broken_group
  walk_at "hp0"
  walk_at "hys"
  refine ⟨_, itLst_loc he, ?_⟩
  refine forE_inv (fun i r T => Ag (fun _ => False) S T ∧ (∀ j, j < i → pG ws pl (gr.map (·.2)) j = false) ∧ ∃ z2 z3 z4, r = [some (.tup [.loc a, .loc b, .loc c, .loc e]), some (.loc np), z2, z3, z4, none])
    ⟨Ag.rfl, (fun j hj => absurd hj (Nat.not_lt_zero _)), none, none, none, rfl⟩ (fun i r W _ hh => still1 (hh.1.get he id)) ?_ ?_
  · rintro i d r T hd ⟨hagT, h0, z2, z3, z4, rfl⟩
    obtain ⟨ed, hd2, rfl⟩ := enmL_get hd
    rw [Nat.zero_add]
    rw [List.getElem?_map, Option.map_eq_some_iff] at hd2
    obtain ⟨g, gg, rfl⟩ := hd2
    have hi := (List.getElem?_eq_some_iff.1 gg).1
    have mg := List.mem_of_getElem? gg
    obtain ⟨hg0, hg1, hgx⟩ := hgo g mg
    have hgT := hagT.get (hg g mg) id
    refine ⟨_, rfl, ?_⟩
    walk_at "hys"
    refine wi_loc hgT ?_
    refine comp_all (g := fun x : Nat => nD (cnF ws pl x)) (by omega) (fun U hU => still1 (hU.get hgT id)) (fun j x gx U hU => ?_) (fun T1 hag1 h1 => ?_)
    · obtain ⟨w, p, gw, gp, ht⟩ := hgx x (List.mem_of_getElem? gx)
      have hTU := hagT.trans hU
      unfold nD
      refine ⟨_, rfl, ?_⟩
      walk_at "hy"
      refine wp_mono (corner_of_ok (k := k + 1) (hTU.get ha id) (hTU.get hp id) gw gp (hTU.get (hwk w (List.mem_of_getElem? gw)).2 id) (hwk w (List.mem_of_getElem? gw)).1 ht) ?_
      rintro d2 U1 ⟨hagU, e2⟩
      exact ⟨e2, hagU⟩
    obtain ⟨x0, gx0⟩ := get_some (xs := g.2) (i := 0) hg0
    have hpG : pG ws pl (gr.map (·.2)) i = !((g.2.map fun x => ((cnF ws pl x : Nat) : Int)).all fun z => decide (z = ((cnF ws pl x0 : Nat) : Int))) := by
      unfold pG
      rw [List.getElem?_map, gg]
      dsimp only [Option.map]
      rw [gx0, List.all_map]
      congr 1
      apply congrArg (fun f => g.2.all f)
      funext x
      show decide (cnF ws pl x = cnF ws pl x0) = decide (((cnF ws pl x : Nat) : Int) = ((cnF ws pl x0 : Nat) : Int))
      by_cases e : cnF ws pl x = cnF ws pl x0
      · simp [e]
      · rw [decide_eq_false e, decide_eq_false (by omega)]
    have h1' : T1[T.length]? = some (.lst ((g.2.map fun x => ((cnF ws pl x : Nat) : Int)).map D.int)) := by rw [h1, List.map_map]; rfl
    have hyl : (g.2.map fun x => ((cnF ws pl x : Nat) : Int)).length = g.2.length := List.length_map ..
    have gy0 : (g.2.map fun x => ((cnF ws pl x : Nat) : Int))[0]? = some ((cnF ws pl x0 : Nat) : Int) := by rw [List.getElem?_map, gx0]; rfl
    generalize (g.2.map fun x => ((cnF ws pl x : Nat) : Int)) = ys at *
    generalize ((cnF ws pl x0 : Nat) : Int) = y0 at *
    generalize hnT : T.length = nT at *
    walk_at "hys"
    refine wps_ite ?_
    walk_at "hy"
    refine wx_ix (seq_loc h1') (atI_get (i := 0) (x := .int y0) (by rw [List.getElem?_map, gy0]; rfl)) ?_
    walk_at "hy"
    have hA2 : Ag (fun _ => False) T1 (T1 ++ [.lst [.int y0]]) := Ag.app
    have h2 : (T1 ++ [.lst [.int y0]])[T1.length]? = some (.lst [.int y0]) := app_get
    have h12 := hA2.get h1' id
    have hag2 := (hagT.trans hag1).trans hA2
    generalize T1 ++ [.lst [.int y0]] = T2 at *
    generalize T1.length = n1 at *
    walk_at "hy"
    rw [List.length_map]
    refine wb_rep h2 ⟨by omega, by omega, by show 1 * ((ys.length : Int)).toNat ≤ 16777216; omega⟩ ?_
    have hA3 : Ag (fun _ => False) T2 (T2 ++ [.lst (List.replicate ((ys.length : Int)).toNat [D.int y0]).flatten]) := Ag.app
    have e3 : (List.replicate ((ys.length : Int)).toNat [D.int y0]).flatten = (List.replicate ys.length y0).map D.int := by
      rw [Int.toNat_natCast, List.map_replicate]
      generalize ys.length = n
      induction n with
      | zero => rfl
      | succ n ih => rw [List.replicate_succ, List.flatten_cons, ih, List.replicate_succ]; rfl
    rw [e3] at hA3 ⊢
    have h3 : (T2 ++ [.lst ((List.replicate ys.length y0).map D.int)])[T2.length]? = some (.lst ((List.replicate ys.length y0).map D.int)) := app_get
    have h13 := hA3.get h12 id
    have hag3 := hag2.trans hA3
    generalize T2 ++ [O.lst ((List.replicate ys.length y0).map D.int)] = T3 at *
    refine wc_ne (eq_loc (dt_ints (P := fun _ => True) h13 trivial) (dt_ints (P := fun _ => True) h3 trivial) (cmp_ints (by omega)) (cmp_ints (by rw [List.length_replicate]; omega))) ?_
    have e4 : PyData.eqv (.list (ys.map PyData.int)) (.list ((List.replicate ys.length y0).map PyData.int)) = ys.all fun z => decide (z = y0) := by
      rw [← all_rep]
      exact eqvAll_ints _ _
    rw [e4, ← hpG]
    walk_at "hy"
    refine ⟨fun hb => ?_, fun hb => ?_⟩
    · walk_at "hy"
      exact ⟨hag3, by rw [fst_some hi hb h0]; rfl⟩
    · walk_at "hy"
      refine ⟨hag3, fun j hj => ?_, _, _, _, rfl⟩
      by_cases ej : j = i
      · rw [ej]; exact hb
      · exact h0 j (by omega)
  · rintro r T ⟨hagT, h0, z2, z3, z4, rfl⟩
    rw [enmL_len, List.length_map] at h0
    walk_at "hys"
    exact ⟨hagT, by rw [fst_none h0]; rfl⟩
end
/-- when a plan breaks no wish -/
theorem fst_eq_none {p : Nat → Bool} {n : Nat} : fstIx p n = none ↔ ∀ j, j < n → p j = false := by
  refine ⟨fun h j hj => ?_, fst_none⟩
  cases e : p j with
  | false => rfl
  | true =>
    obtain ⟨m, _, ⟨m1, m2⟩, hl⟩ := least (P := fun j => j < n ∧ p j = true) j ⟨hj, e⟩
    have : fstIx p n = some m := fst_some m1 m2 fun i hi => by
      cases e2 : p i with
      | false => rfl
      | true => exact absurd ⟨by omega, e2⟩ (hl i hi)
    rw [this] at h
    cases h
end HP
namespace HP
open PySem L2
section
variable {L : List Fn} {k : Nat} {S : Sto}
theorem let_ok {cs : List Nat} (h : LetL cs) : PyData.strOk (mkS cs) = true := by
  have key : ∀ n : Fin 26, PyData.strOk ⟨#[97 + n.val]⟩ = true := by decide +kernel
  unfold PyData.strOk at *
  rw [← Array.all_toList, List.all_eq_true]
  intro c m
  have hc := h.ab c m
  have h1 := key ⟨c - 97, by omega⟩
  rw [show 97 + (⟨c - 97, by omega⟩ : Fin 26).val = c by show 97 + (c - 97) = c; omega] at h1
  rw [← Array.all_toList, List.all_eq_true] at h1
  exact h1 c List.mem_cons_self
theorem Names.ok {xs : List Str} (h : Names xs) : ∀ x ∈ xs, PyData.strOk x = true := by
  obtain ⟨css, rfl, _, hl⟩ := h
  intro x m
  obtain ⟨cs, mc, rfl⟩ := List.mem_map.1 m
  exact let_ok (hl cs mc)
theorem look_at_list_ok {w : Str} {n : Nat} {ds : List D} {lo hi : Int} (h : S[n]? = some (.lst ds)) (h1 : lo ≤ ds.length) (h2 : (ds.length : Int) ≤ hi) : callN (Gof L) (k + 1) 116 [.str w, .loc n, .int lo, .int hi] S = .ok .non S := by
  refine wp_eq (wp_def (fn := F_look_at_list) rfl rfl ?_)
  unfold F_look_at_list
  walk_at "hp0"
  have hty := ty_loc h
  walk_at "hys"
  refine wps_ite ?_
  walk_at "hy"
  refine wq_et (decide_eq_true h1) ?_
  walk_at "hy"
  refine wq_ef (by rw [decide_eq_true h2]; rfl) ?_
  walk_at "hy"
  exact ⟨rfl, rfl⟩
abbrev OkC (p : Rat × Rat) : Prop := Sz 200 200 p.1 ∧ Sz 600 1300 p.2
/-- a work of a net that look_at_net lets by -/
structure WkL (S : Sto) (w : Wk) : Prop where
  kd : w.kd = ("straight" : Str) ∨ w.kd = ("steps" : Str)
  good : Good (decide (w.kd = ("straight" : Str))) w.cs
  len : w.cs.length ≤ 5
  sz : ∀ p ∈ w.cs, OkC p
  at_ : S[w.lc]? = some (.lst (w.cs.map pr))
theorem WkL.ag {S T : Sto} {w : Wk} (h : WkL S w) (a : Ag (fun _ => False) S T) : WkL T w := ⟨h.kd, h.good, h.len, h.sz, a.get h.at_ id⟩
theorem inD_hkinds {x : Str} (h : x = ("from" : Str) ∨ x = ("till" : Str) ∨ x = ("by" : Str)) : inD S (.str x) (.tup [(.str "from"), (.str "till"), (.str "by")]) = some true := by
  have e : ∀ x : Str, inD S (.str x) (.tup [(.str "from"), (.str "till"), (.str "by")]) = inD [] (.str x) (.tup [(.str "from"), (.str "till"), (.str "by")]) := fun _ => rfl
  rw [e]
  rcases h with rfl | rfl | rfl <;> decide +kernel
end
end HP
namespace HP
open PySem L2
section
variable {L : List Fn} {k : Nat} {S : Sto}
theorem is_number_of_ok {i m : Nat} (h : i < m) : callN (Gof L) (k + 2) 80 [.int (i : Nat), .int (m : Nat)] S = .ok (.bl true) S := by
  refine wp_eq (wp_def (fn := F_is_number_of) rfl rfl ?_)
  unfold F_is_number_of
  walk_at "hp0"
  walk_at "hy"
  refine wp_val (is_whole_ok rfl rfl) ?_
  walk_at "hy"
  rw [decide_eq_true (show ((i : Nat) : Int) < ((m : Nat) : Int) by omega)]
  exact ⟨rfl, rfl⟩
theorem look_at_holds_ok {n m : Nat} {hl : List Hd3} (h : S[n]? = some (.lst (hl.map hoN))) (h2 : hl.length ≤ 40) (hh : ∀ h ∈ hl, h.2.1 < m ∧ (h.1 = ("from" : Str) ∨ h.1 = ("till" : Str) ∨ h.1 = ("by" : Str))) :
    callN (Gof L) (k + 3) 115 [.loc n, .int (m : Nat)] S = .ok .non S := by
  refine wp_eq (wp_def (fn := F_look_at_holds) rfl rfl ?_)
  unfold F_look_at_holds
  walk_at "hp0"
  walk_at "hys"
  refine wp_val (look_at_list_ok h (by rw [List.length_map]; omega) (by rw [List.length_map]; omega)) ?_
  walk_at "hys"
  refine ⟨_, itLst_loc h, ?_⟩
  refine forE_inv (fun i r T => T = S ∧ ∃ z2 z3, r = [some (.loc n), some (.int (m : Nat)), z2, z3]) ⟨rfl, none, none, rfl⟩ (fun i r T _ hh => by rw [hh.1]; exact still1 h) ?_ ?_
  · rintro i d r T hd ⟨rfl, z2, z3, rfl⟩
    obtain ⟨ed, hd2, rfl⟩ := enmL_get hd
    rw [List.getElem?_map, Option.map_eq_some_iff] at hd2
    obtain ⟨w, gw, rfl⟩ := hd2
    obtain ⟨w1, w2⟩ := hh w (List.mem_of_getElem? gw)
    unfold hoN
    refine ⟨_, rfl, ?_⟩
    walk_at "hys"
    refine wps_ite ?_
    walk_at "hy"
    refine wc_nin (inD_hkinds w2) ?_
    walk_at "hy"
    refine wp_val (is_number_of_ok w1) ?_
    walk_at "hy"
    refine wp_val (ratio_q _) ?_
    walk_at "hys"
    exact ⟨rfl, _, _, rfl⟩
  · rintro r T ⟨rfl, z2, z3, rfl⟩
    walk_at "hys"
    exact ⟨rfl, rfl⟩
/-- a group that look_at_net lets by, with none of the taken -/
structure GrL (ws : List Wk) (ys g : List Nat) : Prop where
  two : 2 ≤ g.length
  most : g.length ≤ 30
  nd : g.Nodup
  new : ∀ x ∈ g, x ∉ ys
  at_ : ∀ x ∈ g, x < ws.length ∧ ∀ w, ws[x]? = some w → w.kd = ("steps" : Str) ∧ ∀ y w', y ∈ g → ws[y]? = some w' → w'.cs.length = w.cs.length
/-- groups that look_at_net lets by -/
structure GrsL (ws : List Wk) (gr : List (Nat × List Nat)) : Prop where
  four : gr.length ≤ 4
  g : ∀ g ∈ gr, GrL ws [] g.2
  dis : gr.Pairwise fun g h => ∀ x ∈ g.2, x ∉ h.2
/-- a net that look_at_net lets by -/
structure NetL (S : Sto) (a b c e : Nat) (ws : List Wk) (wl : List Wt) (hl : List Hd3) (gr : List (Nat × List Nat)) : Prop where
  a : S[a]? = some (.lst (ws.map wkD))
  b : S[b]? = some (.lst (wl.map waN))
  c : S[c]? = some (.lst (hl.map hoN))
  e : S[e]? = some (.lst (gr.map fun g => D.loc g.1))
  one : 1 ≤ ws.length
  ten : ws.length ≤ 10
  nms : Names (ws.map Wk.nm)
  wk : ∀ w ∈ ws, WkL S w
  wal : wl.length ≤ 40
  wok : WOk wl ws.length
  hol : hl.length ≤ 40
  hok : ∀ h ∈ hl, h.2.1 < ws.length ∧ (h.1 = ("from" : Str) ∨ h.1 = ("till" : Str) ∨ h.1 = ("by" : Str))
  g : ∀ g ∈ gr, S[g.1]? = some (.lst (g.2.map nD))
  grs : GrsL ws gr
end
end HP
namespace HP
open PySem L2
/-- the stack, its top first -/
def popS : List (Rat × Rat) → Rat × Rat → List (Rat × Rat)
  | b :: a :: r, c => if rateB a b < rateB b c then b :: a :: r else popS (a :: r) c
  | s, _ => s
def smR (cs : List (Rat × Rat)) : List (Rat × Rat) := cs.foldl (fun s c => c :: popS s c) []
def smF (cs : List (Rat × Rat)) : List (Rat × Rat) := (smR cs).reverse
def CvxS : List (Rat × Rat) → Prop
  | c :: b :: a :: r => rateB a b < rateB b c ∧ CvxS (b :: a :: r)
  | _ => True
def AbvS : List (Rat × Rat) → List (Rat × Rat) → Prop
  | b :: a :: r, pts => (∀ p ∈ pts, b.1 ≤ p.1 → p.1 ≤ a.1 → a.2 + rateB a b * (a.1 - p.1) ≤ p.2) ∧ AbvS (a :: r) pts
  | _, _ => True
/-- what the stack is -/
structure Sm (pts s : List (Rat × Rat)) : Prop where
  sub : s.Sublist pts.reverse
  top : s.head? = pts.getLast?
  bot : s.getLast? = pts.head?
  cvx : CvxS s
  abv : AbvS s pts
/-- what is told of smoothed corners -/
structure Smo (cs left : List (Rat × Rat)) : Prop where
  sub : left.Sublist cs
  fst : left.head? = cs.head?
  lst : left.getLast? = cs.getLast?
  hol : ∀ (i : Nat) (a b c : Rat × Rat), left[i]? = some a → left[i + 1]? = some b → left[i + 2]? = some c → rateB a b < rateB b c
  abv : ∀ (i : Nat) (a b : Rat × Rat), left[i]? = some a → left[i + 1]? = some b → ∀ p ∈ cs, b.1 ≤ p.1 → p.1 ≤ a.1 → a.2 + rateB a b * (a.1 - p.1) ≤ p.2
section
variable {L : List Fn} {k : Nat} {S : Sto} {l : Nat}
/-- a work smoothed, its corners anew -/
def SmW (w v : Wk) : Prop := v.nm = w.nm ∧ v.kd = ("straight" : Str) ∧ v.cs = smF w.cs
end
end HP
namespace HP
open PySem L2
structure WkP (w : Wk) : Prop where
  kd : w.kd = ("straight" : Str) ∨ w.kd = ("steps" : Str)
  good : Good (decide (w.kd = ("straight" : Str))) w.cs
  len : w.cs.length ≤ 5
  sz : ∀ p ∈ w.cs, OkC p
theorem WkP.at_ {S : Sto} {w : Wk} (h : WkP w) (a : S[w.lc]? = some (.lst (w.cs.map pr))) : WkL S w := ⟨h.kd, h.good, h.len, h.sz, a⟩
structure NetP (ws : List Wk) (wl : List Wt) (hl : List Hd3) (gr : List (Nat × List Nat)) : Prop where
  one : 1 ≤ ws.length
  ten : ws.length ≤ 10
  nms : Names (ws.map Wk.nm)
  wk : ∀ w ∈ ws, WkP w
  wal : wl.length ≤ 40
  wok : WOk wl ws.length
  hol : hl.length ≤ 40
  hok : ∀ h ∈ hl, h.2.1 < ws.length ∧ (h.1 = ("from" : Str) ∨ h.1 = ("till" : Str) ∨ h.1 = ("by" : Str))
  grs : GrsL ws gr
theorem Same.nms : {ws vs : List Wk} → Same ws vs → vs.map Wk.nm = ws.map Wk.nm
  | [], [], _ => rfl
  | w :: ws, v :: vs, h => by rw [List.map_cons, List.map_cons, h.1.1, Same.nms (ws := ws) (vs := vs) h.2]
theorem GrL.same {ws vs : List Wk} {ys g : List Nat} (h : Same ws vs) (k : GrL ws ys g) : GrL vs ys g :=
  ⟨k.two, k.most, k.nd, k.new, fun x m => ⟨by rw [h.len]; exact (k.at_ x m).1, fun v gv => by
    obtain ⟨w, gw, _, e2, e3⟩ := h.get gv
    obtain ⟨q1, q2⟩ := (k.at_ x m).2 w gw
    refine ⟨by rw [e2]; exact q1, fun y v' my gv' => ?_⟩
    obtain ⟨w', gw', _, _, e3'⟩ := h.get gv'
    rw [e3, e3']
    exact q2 y w' my gw'⟩⟩
theorem pw_snd {gr gs : List (Nat × List Nat)} (e : gs.map (·.2) = gr.map (·.2)) (h : gr.Pairwise fun g h => ∀ x ∈ g.2, x ∉ h.2) : gs.Pairwise fun g h => ∀ x ∈ g.2, x ∉ h.2 := by
  have h2 : (gr.map (·.2)).Pairwise fun g h => ∀ x ∈ g, x ∉ h := List.pairwise_map.2 h
  rw [← e] at h2
  exact List.pairwise_map.1 h2
theorem NetP.same {ws vs : List Wk} {wl : List Wt} {hl : List Hd3} {gr gs : List (Nat × List Nat)} (N : NetP ws wl hl gr) (h : Same ws vs) (e : gs.map (·.2) = gr.map (·.2)) : NetP vs wl hl gs := by
  have hl := h.len
  refine ⟨by rw [hl]; exact N.one, by rw [hl]; exact N.ten, by rw [h.nms]; exact N.nms, fun v m => ?_, N.wal, by rw [hl]; exact N.wok, N.hol, by rw [hl]; exact N.hok, ⟨?_, fun g m => ?_, pw_snd e N.grs.dis⟩⟩
  · obtain ⟨i, gv⟩ := List.getElem?_of_mem m
    obtain ⟨w, gw, _, e2, e3⟩ := h.get gv
    have k := N.wk w (List.mem_of_getElem? gw)
    exact ⟨by rw [e2]; exact k.kd, by rw [e2, e3]; exact k.good, by rw [e3]; exact k.len, by rw [e3]; exact k.sz⟩
  · have := congrArg List.length e
    rw [List.length_map, List.length_map] at this
    rw [this]; exact N.grs.four
  · have m2 : g.2 ∈ gr.map (·.2) := by rw [← e]; exact List.mem_map.2 ⟨g, m, rfl⟩
    obtain ⟨g', m', e'⟩ := List.mem_map.1 m2
    rw [← e']
    exact (N.grs.g g' m').same h
/-- a net smoothed, its lists -/
structure SmAt (S : Sto) (a b c e : Nat) (ws vs : List Wk) (wl : List Wt) (hl : List Hd3) : Prop where
  a : S[a]? = some (.lst (vs.map wkD))
  b : S[b]? = some (.lst (wl.map waN))
  c : S[c]? = some (.lst (hl.map hoN))
  e : S[e]? = some (.lst [])
  len : vs.length = ws.length
  sm : ∀ (i : Nat) (w v : Wk), ws[i]? = some w → vs[i]? = some v → SmW w v
  wk : ∀ v ∈ vs, S[v.lc]? = some (.lst (v.cs.map pr))
theorem SmAt.ag {S T : Sto} {a b c e : Nat} {ws vs : List Wk} {wl : List Wt} {hl : List Hd3} (h : SmAt S a b c e ws vs wl hl) (k : Ag (fun _ => False) S T) : SmAt T a b c e ws vs wl hl :=
  ⟨k.get h.a id, k.get h.b id, k.get h.c id, k.get h.e id, h.len, h.sm, fun v m => k.get (h.wk v m) id⟩
theorem SmAt.back {S : Sto} {a b c e : Nat} {ws vs : List Wk} {wl : List Wt} {hl : List Hd3} (h : SmAt S a b c e ws vs wl hl) {v : Wk} (m : v ∈ vs) : ∃ w, w ∈ ws ∧ SmW w v := by
  obtain ⟨i, gv⟩ := List.getElem?_of_mem m
  have hi := (List.getElem?_eq_some_iff.1 gv).1
  have hl := h.len
  obtain ⟨w, gw⟩ := get_some (xs := ws) (i := i) (by omega)
  exact ⟨w, List.mem_of_getElem? gw, h.sm i w v gw gv⟩
theorem SmAt.straight {S : Sto} {a b c e : Nat} {ws vs : List Wk} {wl : List Wt} {hl : List Hd3} (h : SmAt S a b c e ws vs wl hl) : (vs.all fun w => decide (w.kd = ("straight" : Str))) = true := by
  rw [List.all_eq_true]
  intro v m
  obtain ⟨w, mw, k⟩ := h.back m
  exact decide_eq_true k.2.1
end HP
namespace HP
open PySem L2
/-- at most m on either side -/
def Bd (m : Nat) (x : Rat) : Prop := x.num.natAbs ≤ m * x.den
theorem Bd_iff {m : Nat} {x : Rat} : Bd m x ↔ -(m : Rat) ≤ x ∧ x ≤ m := by
  rw [Rat.le_iff, Rat.le_iff]
  simp only [Rat.num_natCast, Rat.den_natCast, Rat.neg_num, Rat.neg_den]
  unfold Bd
  have e : (m : Int) * (x.den : Int) = ((m * x.den : Nat) : Int) := (Int.natCast_mul _ _).symm
  rw [Int.neg_mul, e]
  omega
theorem Bd.add {m n : Nat} {x y : Rat} (h : Bd m x) (k : Bd n y) : Bd (m + n) (x + y) := by
  rw [Bd_iff] at *
  rw [Rat.natCast_add]
  constructor <;> grind
theorem Bd.mono {m n : Nat} {x : Rat} (h : Bd m x) (k : m ≤ n) : Bd n x := Nat.le_trans h (Nat.mul_le_mul_right _ k)
theorem Bd.of {a : Nat} {x : Rat} (h : V a x) : Bd (2 ^ a) x := h
def Bc (c : Nat) : Nat := 2 ^ 111 + c * 2 ^ 105
theorem Bc_le {c : Nat} (h : c ≤ 2000) : Bc c ≤ 2 ^ 120 := by
  unfold Bc
  have h2 : c * 2 ^ 105 ≤ 2000 * 2 ^ 105 := Nat.mul_le_mul_right _ h
  exact Nat.le_trans (Nat.add_le_add_left h2 _) (by decide)
theorem zipL_maps {A B : Type} {f : A → D} {g : B → D} : (xs : List A) → (ys : List B) → zipL (xs.map f) (ys.map g) = (xs.zip ys).map fun p => D.tup [f p.1, g p.2]
  | [], _ => rfl
  | _ :: _, [] => rfl
  | x :: xs, y :: ys => by rw [List.map_cons, List.map_cons, zipL, List.zip_cons_cons, List.map_cons, zipL_maps xs ys]
/-- starts: all so many, bounded, with such bottoms -/
structure StL (DD : Nat) (ts xs : List Rat) (c : Nat) : Prop where
  len : xs.length = ts.length
  z : ∀ x ∈ xs, Bd (Bc c) x ∧ x.den ∣ DD
theorem StL.set {DD : Nat} {ts xs : List Rat} {c i : Nat} {y : Rat} (h : StL DD ts xs c) (h1 : Bd (Bc c) y) (h2 : y.den ∣ DD) : StL DD ts (xs.set i y) c := ⟨by rw [List.length_set]; exact h.len, fun x m => (List.mem_or_eq_of_mem_set m).elim (h.z x) fun e => e ▸ ⟨h1, h2⟩⟩
theorem StL.more {DD : Nat} {ts xs : List Rat} {c c' : Nat} (h : StL DD ts xs c) (k : c ≤ c') : StL DD ts xs c' := ⟨h.len, fun x m => ⟨(h.z x m).1.mono (Nat.add_le_add_left (Nat.mul_le_mul_right _ k) _), (h.z x m).2⟩⟩
/-- the bottoms of drawn plans -/
def LC12N : Nat := 12 * LC
theorem LC12N0 : LC12N ≠ 0 := Nat.mul_ne_zero (by decide) LC0
theorem LC12Nb : LC12N ≤ 2 ^ 104 := Nat.le_trans (Nat.mul_le_mul_left 12 LCb) (by decide)
theorem LC12Nd {x : Rat} (h : x.den ∣ LC) : x.den ∣ LC12N := Nat.dvd_trans h ⟨12, Nat.mul_comm _ _⟩
theorem StL.sz {ts xs : List Rat} {c : Nat} (h : StL LC12N ts xs c) (hc : c ≤ 2000) {x : Rat} (m : x ∈ xs) : Sz 120 104 x := by
  obtain ⟨h1, h2⟩ := h.z x m
  exact ⟨h1.mono (Bc_le hc), dvd_le h2 LC12N0 LC12Nb⟩
theorem flat_rep {A : Type} (n : Nat) (x : A) : (List.replicate n [x]).flatten = List.replicate n x := by
  induction n with
  | zero => rfl
  | succ n ih => rw [List.replicate_succ, List.flatten_cons, ih]; rfl
def K_started : Fn := ⟨2, 11,
 (.cons (.set 2 (.bin .mul (.lst (.cons (.tup (.cons (.int 0) (.cons (.int 1) .nil))) .nil)) (.bcall .len (.cons (.var 1) .nil))))
 (.cons (.for_ (.name 3) (.rng1 (.int 3)) (.cons (.for_ (.tup (.cons (.name 4) (.cons (.name 5) (.cons (.name 6) .nil)))) (.seq (.ix (.var 0) (.int 1))) (.cons (.set 7 (.call 1003 (.cons (.call 1003 (.cons (.ix (.var 2) (.var 4)) (.cons (.ix (.var 1) (.var 4)) .nil))) (.cons (.var 6) .nil))))
 (.cons (.ite (.call 1006 (.cons (.ix (.var 2) (.var 5)) (.cons (.var 7) .nil))) (.cons (.setIx (.var 2) (.var 5) (.var 7))
 .nil) .nil)
 .nil)))
 (.cons (.for_ (.tup (.cons (.name 8) (.cons (.name 9) (.cons (.name 10) .nil)))) (.seq (.ix (.var 0) (.int 2))) (.cons (.ite (.band (.cons (.cmp .eq (.var 8) (.str "from")) (.cons (.call 1006 (.cons (.ix (.var 2) (.var 9)) (.cons (.var 10) .nil))) .nil))) (.cons (.setIx (.var 2) (.var 9) (.var 10))
 .nil) .nil)
 .nil))
 .nil)))
 (.cons (.ret (.lstZ (.var 2) (.var 1)))
 .nil)))⟩
def K_timeP : Fn := ⟨2, 6,
 (.cons (.asg (.tup (.cons (.name 2) (.cons (.name 3) .nil))) (.var 1))
 (.cons (.set 4 (.call 1001 (.cons (.var 0) (.cons (.bcall .len (.cons (.var 3) .nil)) .nil))))
 (.cons (.ite (.bor (.cons (.cmp .eq (.var 2) (.str "steps")) (.cons (.cmp .eq (.bcall .len (.cons (.var 3) .nil)) (.int 1)) (.cons (.cmp .eq (.call 1001 (.cons (.var 0) (.cons (.int 2) .nil))) (.int 0)) .nil)))) (.cons (.ret (.ix (.ix (.var 3) (.var 4)) (.int 0)))
 .nil) .nil)
 (.cons (.set 4 (.bcall .min (.cons (.var 4) (.cons (.bin .sub (.bcall .len (.cons (.var 3) .nil)) (.int 2)) .nil))))
 (.cons (.set 5 (.call 1004 (.cons (.ix (.ix (.var 3) (.var 4)) (.int 0)) (.cons (.ix (.ix (.var 3) (.bin .add (.var 4) (.int 1))) (.int 0)) .nil))))
 (.cons (.ret (.call 1003 (.cons (.ix (.ix (.var 3) (.bin .add (.var 4) (.int 1))) (.int 0)) (.cons (.call 1005 (.cons (.call 1002 (.cons (.call 1001 (.cons (.var 0) (.cons (.int 13) .nil))) (.cons (.int 12) .nil))) (.cons (.var 5) .nil))) .nil))))
 .nil))))))⟩
section
variable {G : Tab} {k f : Nat} {S : Sto}
theorem divInt_den (a b : Int) (hb : b ≠ 0) : (Rat.divInt a b).den ∣ b.natAbs := by
  rw [Rat.den_divInt, if_neg hb]
  exact Nat.div_dvd_of_dvd (Nat.gcd_dvd_left _ _)
theorem timeP_ok (F : FN G) (hG : G f = some K_timeP) {l : Nat} {w : Wk} (hst : StAt l S) (hw : S[w.lc]? = some (.lst (w.cs.map pr))) (hne : w.lc ≠ l) (hwo : WkOk w) (hwc : WkLc w) :
    Wp (callN G (k + 3) f [.loc l, .tup [.str w.kd, .loc w.lc]] S) fun d S' => StAt l S' ∧ Ag (· = l) S S' ∧ ∃ t, d = q t ∧ V 103 t ∧ t.den ∣ LC12N ∧ t.den ≤ 2 ^ 104 := by
  have hpos : 0 < w.cs.length := List.length_pos_iff.2 hwo.good.one
  have h5 := hwo.len
  refine wp_def hG rfl ?_
  unfold K_timeP
  walk_at "hp0"
  walk_at "hys"
  rw [List.length_map]
  refine wp_mono (F.take _ _ _ _ hst (by omega) (Nat.le_trans (m := 100) (by omega) (by decide))) ?_
  rintro _ S1 ⟨hst1, hag1, v, rfl, hv0, hv1⟩
  obtain ⟨j, rfl, hj⟩ := int_nat hv0 hv1
  have hw1 := hag1.get hw hne
  have at1 : ∀ {T : Sto} {i : Nat} {Q : D → Sto → Prop}, T[w.lc]? = some (.lst (w.cs.map pr)) → i < w.cs.length → (∀ p, w.cs[i]? = some p → Q (pr p) T) → Wp (ixD T (.loc w.lc) (.int (i : Nat))) Q := by
    intro T i Q hT hi hq
    obtain ⟨p, gp⟩ := get_some (xs := w.cs) (i := i) hi
    exact wx_ix (seq_loc hT) (atI_get (x := pr p) (by rw [List.getElem?_map, gp]; rfl)) (hq p gp)
  have fin : ∀ {T : Sto}, StAt l T → Ag (· = l) S T → T[w.lc]? = some (.lst (w.cs.map pr)) → Wp (evE (callN G (k + 2)) (.ix (.ix (.var 3) (.var 4)) (.int 0)) [some (.loc l), some (.tup [.str w.kd, .loc w.lc]), some (.str w.kd), some (.loc w.lc), some (.int (j : Nat)), none] T) fun d S' => StAt l S' ∧ Ag (· = l) S S' ∧ ∃ t, d = q t ∧ V 103 t ∧ t.den ∣ LC12N ∧ t.den ≤ 2 ^ 104 := by
    intro T hst hag hT
    walk_at "hy"
    refine at1 hT hj fun p gp => ?_
    have mp := List.mem_of_getElem? gp
    have hz := (hwo.sz p mp).1
    unfold pr
    walk_at "hy"
    exact ⟨hst, hag, p.1, rfl, V.mono hz.v (by decide), LC12Nd (hwc p mp).1, Nat.le_trans hz.d (by decide)⟩
  walk_at "hys"
  refine wps_ite ?_
  walk_at "hy"
  refine wq_dec (fun c1 => ?_) (fun c1 => ?_)
  · refine wq_tt ?_
    refine wps_cons (wps_ret ?_)
    exact fin hst1 hag1 hw1
  · walk_at "hy"
    rw [List.length_map]
    refine wq_dec (fun c2 => ?_) (fun c2 => ?_)
    · refine wq_tt ?_
      refine wps_cons (wps_ret ?_)
      exact fin hst1 hag1 hw1
    · walk_at "hy"
      refine wp_mono (F.take _ _ _ _ hst1 (by decide) (by decide)) ?_
      rintro _ S2 ⟨hst2, hag2, v2, rfl, _, _⟩
      have hw2 := hag2.get hw1 hne
      have hag02 := hag1.trans hag2
      walk_at "hy"
      refine wq_dec (fun c3 => ?_) (fun c3 => ?_)
      · refine wps_cons (wps_ret ?_)
        exact fin hst2 hag02 hw2
      · have hl2 : 2 ≤ w.cs.length := by
          have c2 : ¬((w.cs.length : Int) = 1) := c2
          omega
        walk_at "hys"
        rw [List.length_map]
        obtain ⟨i, hi, ei⟩ : ∃ i : Nat, i + 1 < w.cs.length ∧ (if (w.cs.length : Int) - 2 < (j : Int) then (w.cs.length : Int) - 2 else (j : Int)) = (i : Nat) := by
          by_cases c : (w.cs.length : Int) - 2 < (j : Int)
          · exact ⟨w.cs.length - 2, by omega, by rw [if_pos c]; omega⟩
          · exact ⟨j, by omega, by rw [if_neg c]⟩
        rw [ei]
        walk_at "hys"
        refine at1 hw2 (by omega) fun p gp => ?_
        have hpz := (hwo.sz p (List.mem_of_getElem? gp)).1
        have hpd := (hwc p (List.mem_of_getElem? gp)).1
        unfold pr
        walk_at "hys"
        have e1 : ((i : Nat) : Int) + 1 = ((i + 1 : Nat) : Int) := rfl
        rw [e1]
        refine at1 hw2 hi fun p2 gp2 => ?_
        have hpz2 := (hwo.sz p2 (List.mem_of_getElem? gp2)).1
        have hpd2 := (hwc p2 (List.mem_of_getElem? gp2)).1
        unfold pr
        walk_at "hys"
        refine wp_val (minusL_ok F.minus F.low hpz hpz2 (by decide) (by decide)) ?_
        walk_at "hys"
        rw [e1]
        refine at1 hw2 hi fun p3 gp3 => ?_
        rw [gp2] at gp3
        cases gp3
        unfold pr
        walk_at "hys"
        refine wp_mono (F.take _ _ _ _ hst2 (by decide) (by decide)) ?_
        rintro _ S3 ⟨hst3, hag3, v3, rfl, hv30, hv31⟩
        walk_at "hys"
        refine wp_val (low_ok F.low (by decide) (by decide)) ?_
        have hsz : Sz 4 4 (Rat.divInt v3 12) := ⟨(divInt_sz (a := 4) (c := 4) (by decide) (by omega) (by decide)).1, (divInt_sz (a := 4) (c := 4) (n := v3) (b := 12) (by decide) (by omega) (by decide)).2⟩
        walk_at "hys"
        refine wp_val (timesL_ok F.times F.low hsz (hpz.sub hpz2) (by decide) (by decide)) ?_
        walk_at "hys"
        have hm := hsz.mul (hpz.sub hpz2)
        refine wp_val (plusL_ok F.plus F.low hpz2 hm (by decide) (by decide)) ?_
        have hr := hpz2.add hm
        exact ⟨hst3, hag02.trans hag3, _, rfl, V.mono hr.v (by decide), dvd_add LC12N0 (LC12Nd hpd2) (dvd_mul (L := 12) (M := LC) (by decide) LC0 (divInt_den v3 12 (by decide)) (dvd_sub LC0 hpd hpd2)), Nat.le_trans hr.d (by decide)⟩
theorem started_ok (F : FN G) (hG : G f = some K_started) {n0 a b c e nt : Nat} {ws : List Wk} {wl : List Wt} {hl : List Hd3} {gr : List (Nat × List Nat)} {ts : List Rat} (N : NAtB S n0 a b c e ws wl hl gr) (ht : S[nt]? = some (.lst (ts.map q))) (hts : ∀ t ∈ ts, V 103 t ∧ t.den ∣ LC12N) (hlen : ts.length = ws.length) (h10 : ts.length ≤ 10)
    (hwl : wl.length ≤ 40) (wok : WOk wl ws.length) (was : ∀ w ∈ wl, V 60 w.2.2 ∧ w.2.2.den ∣ LC) (hok : ∀ h ∈ hl, h.2.1 < ws.length) (hos : ∀ h ∈ hl, V 110 h.2.2 ∧ h.2.2.den ∣ LC) :
    Wp (callN G (k + 3) f [.tup [.loc a, .loc b, .loc c, .loc e], .loc nt] S) fun d S' => Ag (fun _ => False) S S' ∧ ∃ (n : Nat) (pl : List (Rat × Rat)), d = .loc n ∧ S.length ≤ n ∧ S'[n]? = some (.lst (pl.map pr)) ∧ pl.length = ts.length ∧ (∀ (i : Nat) (p : Rat × Rat), pl[i]? = some p → ts[i]? = some p.2) ∧ ∀ p ∈ pl, (V 120 p.1 ∧ p.1.den ∣ LC12N) ∧ V 103 p.2 ∧ p.2.den ∣ LC12N := by
  have hsT : ∀ t ∈ ts, Sz 103 104 t := fun t m => ⟨(hts t m).1, dvd_le (hts t m).2 LC12N0 LC12Nb⟩
  refine wp_def hG rfl ?_
  unfold K_started
  walk_at "hp0"
  walk_at "hys"
  have hA0 : Ag (fun _ => False) S (S ++ [.lst [q 0]]) := Ag.app
  have h0 : (S ++ [.lst [.tup [.int 0, .int 1]]])[S.length]? = some (.lst [q 0]) := app_get
  have ht0 := hA0.get ht id
  change Ag (fun _ => False) S (S ++ [.lst [.tup [.int 0, .int 1]]]) at hA0
  change (S ++ [.lst [.tup [.int 0, .int 1]]])[nt]? = _ at ht0
  generalize S ++ [O.lst [.tup [.int 0, .int 1]]] = S0 at *
  refine wf_len (seq_loc ht0) ?_
  rw [List.length_map]
  refine wb_rep h0 ⟨by omega, by omega, by rw [Int.toNat_natCast]; show 1 * ts.length ≤ 16777216; omega⟩ ?_
  rw [Int.toNat_natCast, flat_rep]
  have hA1 : Ag (fun _ => False) S0 (S0 ++ [.lst (List.replicate ts.length (q 0))]) := Ag.app
  have h1' : (S0 ++ [.lst (List.replicate ts.length (q 0))])[S0.length]? = some (.lst ((List.replicate ts.length (0 : Rat)).map q)) := by rw [app_get, List.map_replicate]
  have hJ0 : StL LC12N ts (List.replicate ts.length (0 : Rat)) 0 := ⟨List.length_replicate, fun x m => by
    rw [List.eq_of_mem_replicate m]
    exact ⟨Nat.zero_le _, Nat.one_dvd _⟩⟩
  generalize List.replicate ts.length (0 : Rat) = xs0 at *
  have hag1 := hA0.trans hA1
  have hl0 := hA0.1
  generalize S0 ++ [O.lst (List.replicate ts.length (q 0))] = S1 at *
  generalize hns : S0.length = ns at *
  let J : Nat → Sto → Prop := fun cc T => Ag (fun _ => False) S T ∧ ∃ xs, T[ns]? = some (.lst (xs.map q)) ∧ StL LC12N ts xs cc
  have hJ1 : J 0 S1 := ⟨hag1, _, h1', hJ0⟩
  have setJ : ∀ {cc : Nat} {T : Sto} {xs : List Rat} {y : Rat} {i : Nat}, Ag (fun _ => False) S T → T[ns]? = some (.lst (xs.map q)) → StL LC12N ts xs cc → i < ts.length → Bd (Bc cc) y → y.den ∣ LC12N → ∃ T', setIxD T (.loc ns) (.int (i : Nat)) (q y) = some T' ∧ J cc T' := by
    intro cc T xs y i hag hT hx hi hy1 hy2
    refine ⟨_, setIx_loc (j := i) hT (ixN_nat (by rw [List.length_map, hx.len]; exact hi)), hag.new ((Ag.set (P := (· = ns)) (S := T) (Or.inl rfl)).mono fun j h => Or.inr (by have h : j = ns := h; omega)), xs.set i y, ?_, hx.set hy1 hy2⟩
    rw [set_get hT, List.map_set]
  walk_at "hys"
  refine ⟨by decide, ?_⟩
  refine forE_inv (fun i r T => J (i * wl.length) T ∧ ∃ z3 z4 z5 z6 z7 z8 z9 z10, r = [some (.tup [.loc a, .loc b, .loc c, .loc e]), some (.loc nt), some (.loc ns), z3, z4, z5, z6, z7, z8, z9, z10]) ⟨by rw [Nat.zero_mul]; exact hJ1, none, none, none, none, none, none, none, none, rfl⟩ (fun _ _ _ _ _ => still0) ?_ ?_
  · rintro i d r T hd ⟨hJ, z3, z4, z5, z6, z7, z8, z9, z10, rfl⟩
    obtain ⟨hi, rfl⟩ := rng0_get hd
    have hi3 : i ≤ 2 := by
      have hi : i < 3 := hi
      omega
    have hmul : i * wl.length ≤ 2 * 40 := Nat.mul_le_mul hi3 hwl
    refine ⟨_, rfl, ?_⟩
    walk_at "hys"
    refine wi_loc (hJ.1.get N.b id) ?_
    refine forE_inv (fun j r T => J (i * wl.length + j) T ∧ ∃ z3 z4 z5 z6 z7 z8 z9 z10, r = [some (.tup [.loc a, .loc b, .loc c, .loc e]), some (.loc nt), some (.loc ns), z3, z4, z5, z6, z7, z8, z9, z10]) ⟨hJ, _, _, _, _, _, _, _, _, rfl⟩ (fun _ _ _ _ hh => still1 (hh.1.1.get N.b id)) ?_ ?_
    · rintro j d r U hd ⟨⟨hag, xs, hU, hx⟩, z3, z4, z5, z6, z7, z8, z9, z10, rfl⟩
      rw [List.getElem?_map, Option.map_eq_some_iff] at hd
      obtain ⟨w, gw, rfl⟩ := hd
      have hj := (List.getElem?_eq_some_iff.1 gw).1
      have mw := List.mem_of_getElem? gw
      obtain ⟨w1, w2, _⟩ := wok w mw
      obtain ⟨hv, hdn⟩ := was w mw
      have hwz := hv.sz1 hdn
      obtain ⟨x, gx⟩ := get_some (xs := xs) (i := w.1) (by rw [hx.len]; omega)
      obtain ⟨y, gy⟩ := get_some (xs := xs) (i := w.2.1) (by rw [hx.len]; omega)
      obtain ⟨t, gt⟩ := get_some (xs := ts) (i := w.1) (by omega)
      have hxz := hx.sz (by omega) (List.mem_of_getElem? gx)
      have hyz := hx.sz (by omega) (List.mem_of_getElem? gy)
      have htz := hsT t (List.mem_of_getElem? gt)
      have htd := hts t (List.mem_of_getElem? gt)
      have hx' : StL LC12N ts xs (i * wl.length + (j + 1)) := hx.more (by omega)
      unfold waN
      refine ⟨_, rfl, ?_⟩
      walk_at "hys"
      refine wx_ix (seq_loc hU) (atI_get (i := w.1) (x := q x) (by rw [List.getElem?_map, gx]; rfl)) ?_
      walk_at "hys"
      refine wx_ix (seq_loc (hag.get ht id)) (atI_get (i := w.1) (x := q t) (by rw [List.getElem?_map, gt]; rfl)) ?_
      walk_at "hys"
      refine wp_val (plusL_ok F.plus F.low hxz htz (by decide) (by decide)) ?_
      walk_at "hys"
      refine wp_val (plusL_ok F.plus F.low (hxz.add htz) hwz (by decide) (by decide)) ?_
      walk_at "hys"
      refine wps_ite ?_
      walk_at "hy"
      refine wx_ix (seq_loc hU) (atI_get (i := w.2.1) (x := q y) (by rw [List.getElem?_map, gy]; rfl)) ?_
      walk_at "hy"
      refine wp_val (underL_ok F.under hyz ((hxz.add htz).add hwz) (by decide) (by decide)) ?_
      walk_at "hy"
      refine wq_dec (fun c2 => ?_) (fun c2 => ?_)
      · walk_at "hy"
        obtain ⟨T', e1, e2⟩ := setJ hag hU hx' (i := w.2.1) (y := x + t + w.2.2) (by omega) (by
          have b1 := ((hx.z x (List.mem_of_getElem? gx)).1.add (Bd.of htd.1)).add (Bd.of hv)
          refine b1.mono ?_
          unfold Bc
          have e : (i * wl.length + (j + 1)) * 2 ^ 105 = (i * wl.length + j) * 2 ^ 105 + 2 ^ 105 := by rw [← Nat.add_assoc, Nat.succ_mul]
          rw [e]
          have e3 : 2 ^ 103 + 2 ^ 60 ≤ 2 ^ 105 := by decide
          omega) (dvd_add LC12N0 (dvd_add LC12N0 (hx.z x (List.mem_of_getElem? gx)).2 htd.2) (LC12Nd hdn))
        refine ⟨T', e1, ?_⟩
        walk_at "hy"
        exact ⟨e2, _, _, _, _, _, _, _, _, rfl⟩
      · walk_at "hy"
        exact ⟨⟨hag, xs, hU, hx'⟩, _, _, _, _, _, _, _, _, rfl⟩
    rintro r T2 ⟨hJ2, z3, z4, z5, z6, z7, z8, z9, z10, rfl⟩
    rw [List.length_map] at hJ2
    walk_at "hys"
    refine wi_loc (hJ2.1.get N.c id) ?_
    refine forE_inv (fun j r T => J (i * wl.length + wl.length) T ∧ ∃ z3 z4 z5 z6 z7 z8 z9 z10, r = [some (.tup [.loc a, .loc b, .loc c, .loc e]), some (.loc nt), some (.loc ns), z3, z4, z5, z6, z7, z8, z9, z10]) ⟨hJ2, _, _, _, _, _, _, _, _, rfl⟩ (fun _ _ _ _ hh => still1 (hh.1.1.get N.c id)) ?_ ?_
    · rintro j d r U hd ⟨⟨hag, xs, hU, hx⟩, z3, z4, z5, z6, z7, z8, z9, z10, rfl⟩
      rw [List.getElem?_map, Option.map_eq_some_iff] at hd
      obtain ⟨h, gh, rfl⟩ := hd
      have mh := List.mem_of_getElem? gh
      have hh1 := hok h mh
      obtain ⟨hv, hdn⟩ := hos h mh
      have hhz := hv.sz1 hdn
      obtain ⟨x, gx⟩ := get_some (xs := xs) (i := h.2.1) (by rw [hx.len]; omega)
      have hxz := hx.sz (by omega) (List.mem_of_getElem? gx)
      have fin : J (i * wl.length + wl.length) U := ⟨hag, xs, hU, hx⟩
      unfold hoN
      refine ⟨_, rfl, ?_⟩
      walk_at "hys"
      refine wps_ite ?_
      walk_at "hy"
      refine wq_dec (fun c1 => ?_) (fun c1 => ?_)
      · walk_at "hy"
        refine wx_ix (seq_loc hU) (atI_get (i := h.2.1) (x := q x) (by rw [List.getElem?_map, gx]; rfl)) ?_
        walk_at "hy"
        refine wp_val (underL_ok F.under hxz hhz (by decide) (by decide)) ?_
        walk_at "hy"
        refine wq_dec (fun c2 => ?_) (fun c2 => ?_)
        · walk_at "hy"
          obtain ⟨T', e1, e2⟩ := setJ hag hU hx (i := h.2.1) (y := h.2.2) (by omega) (Bd.mono hv (by unfold Bc; exact Nat.le_trans (m := 2 ^ 111) (by decide) (Nat.le_add_right _ _))) (LC12Nd hdn)
          refine ⟨T', e1, ?_⟩
          walk_at "hy"
          exact ⟨e2, _, _, _, _, _, _, _, _, rfl⟩
        · walk_at "hy"
          exact ⟨fin, _, _, _, _, _, _, _, _, rfl⟩
      · walk_at "hy"
        exact ⟨fin, _, _, _, _, _, _, _, _, rfl⟩
    rintro r T3 ⟨hJ3, z3, z4, z5, z6, z7, z8, z9, z10, rfl⟩
    walk_at "hys"
    exact ⟨by rw [Nat.succ_mul]; exact hJ3, _, _, _, _, _, _, _, _, rfl⟩
  rintro r T ⟨hJ, z3, z4, z5, z6, z7, z8, z9, z10, rfl⟩
  obtain ⟨hag, xs, hT, hx⟩ := hJ
  have htT := hag.get ht id
  have hzl : (xs.zip ts).length = ts.length := by rw [List.length_zip, hx.len, Nat.min_self]
  walk_at "hys"
  refine wl_lstZ (lst_loc hT) (lst_loc htT) (by rw [zipL_maps, List.length_map, hzl]; show _ ≤ 16777216; omega) ?_
  rw [zipL_maps]
  have hA9 : Ag (fun _ => False) T (T ++ [.lst ((xs.zip ts).map pr)]) := Ag.app
  have hTl := hag.1
  refine ⟨hag.trans hA9, T.length, xs.zip ts, rfl, by omega, app_get, hzl, fun i p gp => ?_, fun p m => ?_⟩
  · obtain ⟨x, t⟩ := p
    exact (List.getElem?_zip_eq_some.1 gp).2
  obtain ⟨x, t⟩ := p
  have m2 := List.of_mem_zip m
  have hxx := hx.z x m2.1
  have hc : (rngL 0 (3 : Int).toNat).length * wl.length ≤ 2000 := by
    rw [rngi_len]
    show 3 * wl.length ≤ 2000
    omega
  exact ⟨⟨hxx.1.mono (Bc_le hc), hxx.2⟩, hts t m2.2⟩
end
end HP
namespace HP
open PySem L2
theorem fst_congr {p p' : Nat → Bool} {n : Nat} (h : ∀ i, i < n → p i = p' i) : fstIx p n = fstIx p' n := by
  cases e : fstIx p' n with
  | none =>
    rw [fst_eq_none] at e ⊢
    intro j hj
    rw [h j hj]; exact e j hj
  | some i =>
    obtain ⟨h1, h2, h3⟩ := fst_inv e
    exact fst_some h1 (by rw [h i h1]; exact h2) fun j hj => by rw [h j (by omega)]; exact h3 j hj
/-- another net of the same offers -/
theorem brF_same {ws vs : List Wk} {wl : List Wt} {hl : List Hd3} {pl : List (Rat × Rat)} {gb : Option Nat} {x : Option Rat} (h : Same ws vs) : brF vs wl hl pl gb x = brF ws wl hl pl gb x := by
  have e : fstIx (pT vs pl) vs.length = fstIx (pT ws pl) ws.length := by
    rw [h.len]
    refine fst_congr fun i hi => ?_
    obtain ⟨v, gv⟩ := get_some (xs := vs) (i := i) (by rw [h.len]; exact hi)
    obtain ⟨w, gw, e1, e2, e3⟩ := h.get gv
    unfold pT
    rw [gv, gw]
    cases pl[i]? with
    | none => rfl
    | some p => dsimp only; rw [e2, e3]
  unfold brF
  rw [e]
/-- a net that first_broken reads -/
structure NB (ws : List Wk) (wl : List Wt) (hl : List Hd3) : Prop where
  len : ws.length ≤ 100
  wk : ∀ w ∈ ws, w.cs ≠ [] ∧ w.cs.length < 100 ∧ ∀ p ∈ w.cs, Ok2 p
  wz : ∀ z ∈ wl, Sz 2000 3000 z.2.2
  wok : WOk wl ws.length
  wn : wl.length ≤ 100
  hz : ∀ h ∈ hl, Sz 2000 3000 h.2.2
  hok : ∀ h ∈ hl, h.2.1 < ws.length
  hn : hl.length ≤ 100
theorem NB_of {ws : List Wk} {wl : List Wt} {hl : List Hd3} {gr : List (Nat × List Nat)} (B : NetB ws wl hl gr) : NB ws wl hl :=
  ⟨by have := B.ten; omega, fun w m => ⟨(B.wk w m).good.one, by have := (B.wk w m).len; omega, fun p mp => ⟨((B.wk w m).sz p mp).1.mono (by decide) (by decide), ((B.wk w m).sz p mp).2.mono (by decide) (by decide)⟩⟩, fun z m => ((B.was z m).1.sz1 (B.was z m).2).mono (by decide) (by decide), B.wok, by have := B.wal; omega, fun h m => ((B.hos h m).1.sz1 (B.hos h m).2).mono (by decide) (by decide), fun h m => (B.hok h m).1, by have := B.hol; omega⟩
theorem NB.same {ws vs : List Wk} {wl : List Wt} {hl : List Hd3} (B : NB ws wl hl) (h : Same ws vs) : NB vs wl hl := by
  have hl := h.len
  refine ⟨by rw [hl]; exact B.len, fun v m => ?_, B.wz, by rw [hl]; exact B.wok, B.wn, B.hz, by rw [hl]; exact B.hok, B.hn⟩
  obtain ⟨i, gi⟩ := List.getElem?_of_mem m
  obtain ⟨w, gw, _, _, e⟩ := h.get gi
  rw [e]
  exact B.wk w (List.mem_of_getElem? gw)
section
variable {L : List Fn} {k : Nat} {S : Sto} {a b c e np : Nat} {ws : List Wk} {wl : List Wt} {hl : List Hd3} {pl : List (Rat × Rat)} {u : Rat} {n0 : Nat} {gr : List (Nat × List Nat)}
end
end HP
namespace HP
open PySem L2
section
variable {G : Tab} {k f l : Nat} {S : Sto} {begun take low plus minus times amount offer names waits holds groups order lag : Nat}
end
end HP
namespace HP
namespace K12
open PySem L2 PySem.Spec PyProof.Rows
def topS (i : Nat) : Stmt := PySem.Challenge.pw_hurryprice_k12_whole_first_broken.main.body.getD i (.Pass ⟨0, 0, 0, 0⟩)
def L_law_begun : Fn := ⟨2, 3,
 (.cons (.set 2 (.int 0))
 (.cons (.ite (.cmp .lt (.var 1) (.bcall .len (.cons (.var 0) .nil))) (.cons (.set 2 (.ix (.var 0) (.var 1)))
 .nil) .nil)
 (.cons (.ret (.lst (.cons (.var 2) (.cons (.bin .mod (.bin .add (.bin .add (.bin .mod (.var 2) (.int 2147483587)) (.bin .mul (.bin .mul (.int 104729) (.var 1)) (.var 1))) (.int 7)) (.int 2147483587)) (.cons (.cmp .ge (.var 2) (.bin .pow (.int 10) (.int 18))) .nil)))))
 .nil)))⟩
def L_law_take : Fn := ⟨2, 5,
 (.cons (.ite (.ix (.var 0) (.int 2)) (.cons (.set 2 (.bin .mod (.ix (.var 0) (.int 0)) (.var 1)))
 (.cons (.setIx (.var 0) (.int 0) (.bin .fdiv (.ix (.var 0) (.int 0)) (.var 1)))
 (.cons (.setIx (.var 0) (.int 2) (.cmp .gt (.ix (.var 0) (.int 0)) (.int 0)))
 (.cons (.ret (.var 2))
 .nil)))) .nil)
 (.cons (.set 3 (.int 0))
 (.cons (.for_ (.name 4) (.rng1 (.bin .add (.int 1) (.bin .mul (.int 8) (.bcall .int (.cons (.cmp .gt (.var 1) (.bin .pow (.int 10) (.int 6))) .nil))))) (.cons (.setIx (.var 0) (.int 1) (.bin .mod (.bin .add (.bin .mul (.ix (.var 0) (.int 1)) (.int 39373)) (.int 17)) (.int 2147483647)))
 (.cons (.set 3 (.bin .add (.bin .mul (.var 3) (.int 2147483587)) (.bin .mod (.bin .mul (.ix (.var 0) (.int 1)) (.ix (.var 0) (.int 1))) (.int 2147483587))))
 .nil)))
 (.cons (.ret (.bin .mod (.bin .fdiv (.var 3) (.int 64)) (.var 1)))
 .nil))))⟩
def L_law_low : Fn := ⟨2, 4,
 (.cons (.set 2 (.var 0))
 (.cons (.set 3 (.var 1))
 (.cons (.whl (.cmp .ne (.var 3) (.int 0)) (.cons (.par 2 3 (.var 3) (.bin .mod (.var 2) (.var 3)))
 .nil))
 (.cons (.ret (.tup (.cons (.bin .fdiv (.var 0) (.var 2)) (.cons (.bin .fdiv (.var 1) (.var 2)) .nil))))
 .nil))))⟩
def L_law_plus : Fn := ⟨2, 2,
 (.cons (.ret (.call 1002 (.cons (.bin .add (.bin .mul (.ix (.var 0) (.int 0)) (.ix (.var 1) (.int 1))) (.bin .mul (.ix (.var 1) (.int 0)) (.ix (.var 0) (.int 1)))) (.cons (.bin .mul (.ix (.var 0) (.int 1)) (.ix (.var 1) (.int 1))) .nil))))
 .nil)⟩
def L_law_minus : Fn := ⟨2, 2,
 (.cons (.ret (.call 1002 (.cons (.bin .sub (.bin .mul (.ix (.var 0) (.int 0)) (.ix (.var 1) (.int 1))) (.bin .mul (.ix (.var 1) (.int 0)) (.ix (.var 0) (.int 1)))) (.cons (.bin .mul (.ix (.var 0) (.int 1)) (.ix (.var 1) (.int 1))) .nil))))
 .nil)⟩
def L_law_times : Fn := ⟨2, 2,
 (.cons (.ret (.call 1002 (.cons (.bin .mul (.ix (.var 0) (.int 0)) (.ix (.var 1) (.int 0))) (.cons (.bin .mul (.ix (.var 0) (.int 1)) (.ix (.var 1) (.int 1))) .nil))))
 .nil)⟩
def L_law_under : Fn := ⟨2, 2,
 (.cons (.ret (.cmp .lt (.bin .mul (.ix (.var 0) (.int 0)) (.ix (.var 1) (.int 1))) (.bin .mul (.ix (.var 1) (.int 0)) (.ix (.var 0) (.int 1)))))
 .nil)⟩
def L_law_amount : Fn := ⟨3, 5,
 (.cons (.set 3 (.call 1001 (.cons (.var 0) (.cons (.int 6) .nil))))
 (.cons (.ite (.var 1) (.cons (.ret (.tup (.cons (.bin .add (.var 2) (.call 1001 (.cons (.var 0) (.cons (.ix (.lst (.cons (.int 2) (.cons (.int 3) (.cons (.int 3) (.cons (.int 4) (.cons (.int 5) (.cons (.int 6) .nil))))))) (.var 3)) .nil)))) (.cons (.int 1) .nil))))
 .nil) .nil)
 (.cons (.set 4 (.bin .add (.int 1) (.call 1001 (.cons (.var 0) (.cons (.ix (.lst (.cons (.int 1) (.cons (.int 1) (.cons (.int 2) (.cons (.int 4) (.cons (.int 12) (.cons (.int 60) .nil))))))) (.var 3)) .nil)))))
 (.cons (.ret (.call 1002 (.cons (.bin .add (.var 2) (.call 1001 (.cons (.var 0) (.cons (.ix (.lst (.cons (.int 3) (.cons (.int 9) (.cons (.int 12) (.cons (.int 30) (.cons (.bin .pow (.int 10) (.int 12)) (.cons (.int 90) .nil))))))) (.var 3)) .nil)))) (.cons (.var 4) .nil))))
 .nil))))⟩
def L_law_offer : Fn := ⟨4, 13,
 (.cons (.set 4 (.bin .add (.int 1) (.call 1001 (.cons (.var 0) (.cons (.var 2) .nil)))))
 (.cons (.set 5 (.call 1007 (.cons (.var 0) (.cons (.var 3) (.cons (.int 0) .nil)))))
 (.cons (.set 6 (.call 1007 (.cons (.var 0) (.cons (.var 3) (.cons (.int 0) .nil)))))
 (.cons (.set 7 (.lc (.call 1007 (.cons (.var 0) (.cons (.var 3) (.cons (.int 1) .nil)))) (.name 12) (.rng1 (.bin .sub (.var 4) (.int 1))) .none [12]))
 (.cons (.for_ (.name 8) (.seq (.var 7)) (.cons (.set 5 (.call 1003 (.cons (.var 5) (.cons (.var 8) .nil))))
 .nil))
 (.cons (.set 9 (.lst (.cons (.tup (.cons (.var 5) (.cons (.var 6) .nil))) .nil)))
 (.cons (.set 10 (.tup (.cons (.int 0) (.cons (.int 1) .nil))))
 (.cons (.for_ (.name 8) (.seq (.var 7)) (.cons (.set 11 (.call 1007 (.cons (.var 0) (.cons (.var 3) (.cons (.int 1) .nil)))))
 (.cons (.set 5 (.call 1004 (.cons (.var 5) (.cons (.var 8) .nil))))
 (.cons (.set 10 (.call 1003 (.cons (.var 10) (.cons (.var 11) .nil))))
 (.cons (.ite (.cmp .eq (.var 1) (.str "straight")) (.cons (.set 11 (.call 1005 (.cons (.var 10) (.cons (.var 8) .nil))))
 .nil) .nil)
 (.cons (.set 6 (.call 1003 (.cons (.var 6) (.cons (.var 11) .nil))))
 (.cons (.expr (.meth .append (.var 9) (.cons (.tup (.cons (.var 5) (.cons (.var 6) .nil))) .nil)))
 .nil)))))))
 (.cons (.ret (.tup (.cons (.var 1) (.cons (.var 9) .nil))))
 .nil)))))))))⟩
def L_law_names : Fn := ⟨2, 11,
 (.cons (.set 2 (.call 1001 (.cons (.var 0) (.cons (.int 4) .nil))))
 (.cons (.set 3 (.call 1001 (.cons (.var 0) (.cons (.int 26) .nil))))
 (.cons (.set 4 (.lc (.call 1001 (.cons (.var 0) (.cons (.int 26) .nil))) (.name 8) (.rng1 (.bin .add (.int 1) (.call 1001 (.cons (.var 0) (.cons (.int 8) .nil))))) .none [8]))
 (.cons (.set 5 (.call 1001 (.cons (.var 0) (.cons (.bcall .len (.cons (.var 4) .nil)) .nil))))
 (.cons (.set 6 (.lst (.cons (.str "from") (.cons (.str "till") (.cons (.str "by") (.cons (.str "work") (.cons (.str "wait") (.cons (.str "hold") (.cons (.str "none") (.cons (.str "start") (.cons (.str "end") (.cons (.str "steps") .nil))))))))))))
 (.cons (.set 7 (.lst .nil))
 (.cons (.for_ (.name 8) (.rng1 (.var 1)) (.cons (.set 9 (.bcall .list (.cons (.var 4) .nil)))
 (.cons (.setIx (.var 9) (.var 5) (.bin .mod (.bin .add (.var 3) (.var 8)) (.int 26)))
 (.cons (.ite (.cmp .eq (.var 2) (.int 1)) (.cons (.set 9 (.bin .add (.lst (.cons (.bin .mod (.bin .add (.var 3) (.var 8)) (.int 26)) .nil)) (.sl (.var 9) .none (.some (.bin .mod (.var 8) (.bcall .len (.cons (.var 4) .nil)))))))
 .nil) .nil)
 (.cons (.expr (.meth .append (.var 7) (.cons (.joinS "" (.lc (.ix (.str "abcdefghijklmnopqrstuvwxyz") (.var 10)) (.name 10) (.seq (.var 9)) .none [10])) .nil)))
 .nil)))))
 (.cons (.ret (.ix (.lst (.cons (.var 7) (.cons (.lc (.ix (.var 6) (.bin .mod (.bin .add (.var 3) (.var 8)) (.int 10))) (.name 8) (.rng1 (.var 1)) .none [8]) .nil))) (.bcall .int (.cons (.cmp .eq (.var 2) (.int 0)) .nil))))
 .nil))))))))⟩
def L_law_order : Fn := ⟨2, 4,
 (.cons (.set 2 (.lstR (.var 1)))
 (.cons (.set 3 (.lst .nil))
 (.cons (.whl (.cmp .ne (.var 2) (.lst .nil)) (.cons (.expr (.meth .append (.var 3) (.cons (.meth .pop (.var 2) (.cons (.call 1001 (.cons (.var 0) (.cons (.bcall .len (.cons (.var 2) .nil)) .nil))) .nil)) .nil)))
 .nil))
 (.cons (.ret (.var 3))
 .nil))))⟩
def L_law_lag : Fn := ⟨2, 3,
 (.cons (.set 2 (.call 1007 (.cons (.var 0) (.cons (.var 1) (.cons (.int 0) .nil)))))
 (.cons (.ite (.cmp .eq (.call 1001 (.cons (.var 0) (.cons (.int 4) .nil))) (.int 0)) (.cons (.ret (.call 1004 (.cons (.tup (.cons (.int 0) (.cons (.int 1) .nil))) (.cons (.var 2) .nil))))
 .nil) .nil)
 (.cons (.ret (.var 2))
 .nil)))⟩
def L_law_waits : Fn := ⟨3, 9,
 (.cons (.set 3 (.call 1010 (.cons (.var 0) (.cons (.var 1) .nil))))
 (.cons (.set 4 (.bin .add (.int 2) (.call 1001 (.cons (.var 0) (.cons (.int 3) .nil)))))
 (.cons (.set 5 (.lst .nil))
 (.cons (.for_ (.name 6) (.rng1 (.var 1)) (.cons (.for_ (.name 7) (.rng1 (.var 6)) (.cons (.ite (.cmp .eq (.call 1001 (.cons (.var 0) (.cons (.var 4) .nil))) (.int 0)) (.cons (.expr (.meth .append (.var 5) (.cons (.tup (.cons (.ix (.var 3) (.var 7)) (.cons (.ix (.var 3) (.var 6)) (.cons (.call 1011 (.cons (.var 0) (.cons (.var 2) .nil))) .nil)))) .nil)))
 .nil) .nil)
 (.cons (.ite (.cmp .eq (.call 1001 (.cons (.var 0) (.cons (.int 12) .nil))) (.int 0)) (.cons (.set 8 (.call 1003 (.cons (.call 1007 (.cons (.var 0) (.cons (.var 2) (.cons (.int 1) .nil)))) (.cons (.tup (.cons (.bin .mul (.int 4) (.var 1)) (.cons (.int 1) .nil))) .nil))))
 (.cons (.expr (.meth .append (.var 5) (.cons (.tup (.cons (.ix (.var 3) (.var 6)) (.cons (.ix (.var 3) (.var 7)) (.cons (.call 1004 (.cons (.tup (.cons (.int 0) (.cons (.int 1) .nil))) (.cons (.var 8) .nil))) .nil)))) .nil)))
 .nil)) .nil)
 .nil)))
 .nil))
 (.cons (.ret (.sl (.var 5) .none (.some (.int 40))))
 .nil)))))⟩
def L_law_holds : Fn := ⟨4, 8,
 (.cons (.set 4 (.lst .nil))
 (.cons (.for_ (.name 5) (.rng1 (.ix (.lst (.cons (.int 0) (.cons (.int 0) (.cons (.int 1) (.cons (.int 2) (.cons (.int 4) .nil)))))) (.call 1001 (.cons (.var 0) (.cons (.int 5) .nil))))) (.cons (.set 6 (.ix (.lst (.cons (.str "from") (.cons (.str "from") (.cons (.str "till") (.cons (.str "by") .nil))))) (.call 1001 (.cons (.var 0) (.cons (.int 4) .nil)))))
 (.cons (.set 7 (.call 1011 (.cons (.var 0) (.cons (.var 2) .nil))))
 (.cons (.ite (.band (.cons (.cmp .ne (.var 6) (.str "from")) (.cons (.cmp .gt (.call 1001 (.cons (.var 0) (.cons (.int 4) .nil))) (.int 0)) .nil))) (.cons (.set 7 (.call 1003 (.cons (.var 7) (.cons (.var 3) .nil))))
 .nil) .nil)
 (.cons (.expr (.meth .append (.var 4) (.cons (.tup (.cons (.var 6) (.cons (.call 1001 (.cons (.var 0) (.cons (.var 1) .nil))) (.cons (.var 7) .nil)))) .nil)))
 .nil)))))
 (.cons (.ret (.var 4))
 .nil)))⟩
def L_law_groups : Fn := ⟨2, 7,
 (.cons (.set 2 (.lc (.var 6) (.name 6) (.seq (.call 1010 (.cons (.var 0) (.cons (.bcall .len (.cons (.var 1) .nil)) .nil)))) (.some (.cmp .eq (.ix (.ix (.ix (.var 1) (.var 6)) (.int 1)) (.int 0)) (.str "steps"))) [6]))
 (.cons (.set 3 (.lst .nil))
 (.cons (.whl (.band (.cons (.cmp .gt (.bcall .len (.cons (.var 2) .nil)) (.int 1)) (.cons (.cmp .lt (.bcall .len (.cons (.var 3) .nil)) (.int 4)) .nil))) (.cons (.set 4 (.bcall .len (.cons (.ix (.ix (.ix (.var 1) (.ix (.var 2) (.int 0))) (.int 1)) (.int 1)) .nil)))
 (.cons (.set 5 (.sl (.lc (.var 6) (.name 6) (.seq (.var 2)) (.some (.cmp .eq (.bcall .len (.cons (.ix (.ix (.ix (.var 1) (.var 6)) (.int 1)) (.int 1)) .nil)) (.var 4))) [6]) .none (.some (.bin .add (.int 2) (.call 1001 (.cons (.var 0) (.cons (.int 2) .nil)))))))
 (.cons (.set 2 (.lc (.var 6) (.name 6) (.seq (.sl (.var 2) (.some (.int 1)) .none)) (.some (.cmp .nin (.var 6) (.var 5))) [6]))
 (.cons (.ite (.band (.cons (.cmp .gt (.bcall .len (.cons (.var 5) .nil)) (.int 1)) (.cons (.cmp .eq (.call 1001 (.cons (.var 0) (.cons (.int 2) .nil))) (.int 0)) .nil))) (.cons (.expr (.meth .append (.var 3) (.cons (.var 5) .nil)))
 .nil) .nil)
 .nil)))))
 (.cons (.ret (.var 3))
 .nil))))⟩
def L_law_net : Fn := ⟨6, 15,
 (.cons (.set 6 (.call 1000 (.cons (.var 0) (.cons (.var 1) .nil))))
 (.cons (.set 7 (.bin .add (.int 1) (.call 1001 (.cons (.var 6) (.cons (.var 2) .nil)))))
 (.cons (.set 8 (.call 1009 (.cons (.var 6) (.cons (.var 7) .nil))))
 (.cons (.set 6 (.call 1000 (.cons (.var 0) (.cons (.bin .add (.var 1) (.int 1)) .nil))))
 (.cons (.set 9 (.lst .nil))
 (.cons (.set 10 (.tup (.cons (.int 0) (.cons (.int 1) .nil))))
 (.cons (.for_ (.name 11) (.seq (.var 8)) (.cons (.set 12 (.call 1008 (.cons (.var 6) (.cons (.ix (.var 4) (.call 1001 (.cons (.var 6) (.cons (.bcall .len (.cons (.var 4) .nil)) .nil)))) (.cons (.var 3) (.cons (.var 5) .nil))))))
 (.cons (.set 10 (.call 1003 (.cons (.var 10) (.cons (.ix (.ix (.ix (.var 12) (.int 1)) (.int 0)) (.int 0)) .nil))))
 (.cons (.expr (.meth .append (.var 9) (.cons (.tup (.cons (.var 11) (.cons (.var 12) .nil))) .nil)))
 .nil))))
 (.cons (.set 6 (.call 1000 (.cons (.var 0) (.cons (.bin .add (.var 1) (.int 2)) .nil))))
 (.cons (.set 13 (.call 1012 (.cons (.var 6) (.cons (.var 7) (.cons (.var 5) .nil)))))
 (.cons (.set 6 (.call 1000 (.cons (.var 0) (.cons (.bin .add (.var 1) (.int 3)) .nil))))
 (.cons (.set 14 (.call 1013 (.cons (.var 6) (.cons (.var 7) (.cons (.var 5) (.cons (.var 10) .nil))))))
 (.cons (.ret (.tup (.cons (.var 9) (.cons (.var 13) (.cons (.var 14) (.cons (.call 1014 (.cons (.var 6) (.cons (.var 9) .nil))) .nil))))))
 .nil))))))))))))⟩
def L_law_alike : Fn := ⟨2, 4,
 (.cons (.ite (.bcall .isin (.cons (.var 1) (.cons (.tup (.cons (.con (.ty .list)) (.cons (.con (.ty .tuple)) .nil))) .nil))) (.cons (.ite (.bor (.cons (.bnot (.bcall .isin (.cons (.var 0) (.cons (.tup (.cons (.con (.ty .list)) (.cons (.con (.ty .tuple)) .nil))) .nil)))) (.cons (.cmp .ne (.bcall .isin (.cons (.var 0) (.cons (.con (.ty .list)) .nil))) (.bcall .isin (.cons (.var 1) (.cons (.con (.ty .list)) .nil)))) .nil))) (.cons (.ret (.bl false))
 .nil) .nil)
 (.cons (.ret (.band (.cons (.cmp .eq (.bcall .len (.cons (.var 0) .nil)) (.bcall .len (.cons (.var 1) .nil))) (.cons (.bcall .all (.cons (.lc (.call 1016 (.cons (.var 2) (.cons (.var 3) .nil))) (.tup (.cons (.name 2) (.cons (.name 3) .nil))) (.zip (.var 0) (.var 1)) .none [2, 3]) .nil)) .nil))))
 .nil)) .nil)
 (.cons (.ite (.bcall .isin (.cons (.var 1) (.cons (.con (.ty .str)) .nil))) (.cons (.ret (.band (.cons (.bcall .isin (.cons (.var 0) (.cons (.con (.ty .str)) .nil))) (.cons (.cmp .eq (.var 0) (.var 1)) .nil))))
 .nil) .nil)
 (.cons (.ite (.cmp .is (.var 1) .non) (.cons (.ret (.cmp .is (.var 0) .non))
 .nil) .nil)
 (.cons (.ite (.bcall .isin (.cons (.var 1) (.cons (.con (.ty .bool)) .nil))) (.cons (.ret (.band (.cons (.bcall .isin (.cons (.var 0) (.cons (.con (.ty .bool)) .nil))) (.cons (.cmp .eq (.var 0) (.var 1)) .nil))))
 .nil) .nil)
 (.cons (.ret (.band (.cons (.bcall .isin (.cons (.var 0) (.cons (.con (.ty .int)) .nil))) (.cons (.bnot (.bcall .isin (.cons (.var 0) (.cons (.con (.ty .bool)) .nil)))) (.cons (.cmp .eq (.var 0) (.var 1)) .nil)))))
 .nil)))))⟩
def L_law_copy : Fn := ⟨1, 5,
 (.cons (.set 1 (.lc (.tup (.cons (.var 2) (.cons (.tup (.cons (.ix (.var 3) (.int 0)) (.cons (.bcall .list (.cons (.ix (.var 3) (.int 1)) .nil)) .nil))) .nil))) (.tup (.cons (.name 2) (.cons (.name 3) .nil))) (.seq (.ix (.var 0) (.int 0))) .none [2, 3]))
 (.cons (.ret (.tup (.cons (.var 1) (.cons (.bcall .list (.cons (.ix (.var 0) (.int 1)) .nil)) (.cons (.bcall .list (.cons (.ix (.var 0) (.int 2)) .nil)) (.cons (.lc (.bcall .list (.cons (.var 4) .nil)) (.name 4) (.seq (.ix (.var 0) (.int 3))) .none [4]) .nil))))))
 .nil))⟩
def L_law_started : Fn := ⟨2, 11,
 (.cons (.set 2 (.bin .mul (.lst (.cons (.tup (.cons (.int 0) (.cons (.int 1) .nil))) .nil)) (.bcall .len (.cons (.var 1) .nil))))
 (.cons (.for_ (.name 3) (.rng1 (.int 3)) (.cons (.for_ (.tup (.cons (.name 4) (.cons (.name 5) (.cons (.name 6) .nil)))) (.seq (.ix (.var 0) (.int 1))) (.cons (.set 7 (.call 1003 (.cons (.call 1003 (.cons (.ix (.var 2) (.var 4)) (.cons (.ix (.var 1) (.var 4)) .nil))) (.cons (.var 6) .nil))))
 (.cons (.ite (.call 1006 (.cons (.ix (.var 2) (.var 5)) (.cons (.var 7) .nil))) (.cons (.setIx (.var 2) (.var 5) (.var 7))
 .nil) .nil)
 .nil)))
 (.cons (.for_ (.tup (.cons (.name 8) (.cons (.name 9) (.cons (.name 10) .nil)))) (.seq (.ix (.var 0) (.int 2))) (.cons (.ite (.band (.cons (.cmp .eq (.var 8) (.str "from")) (.cons (.call 1006 (.cons (.ix (.var 2) (.var 9)) (.cons (.var 10) .nil))) .nil))) (.cons (.setIx (.var 2) (.var 9) (.var 10))
 .nil) .nil)
 .nil))
 .nil)))
 (.cons (.ret (.lstZ (.var 2) (.var 1)))
 .nil)))⟩
def L_law_time : Fn := ⟨2, 6,
 (.cons (.asg (.tup (.cons (.name 2) (.cons (.name 3) .nil))) (.var 1))
 (.cons (.set 4 (.call 1001 (.cons (.var 0) (.cons (.bcall .len (.cons (.var 3) .nil)) .nil))))
 (.cons (.ite (.bor (.cons (.cmp .eq (.var 2) (.str "steps")) (.cons (.cmp .eq (.bcall .len (.cons (.var 3) .nil)) (.int 1)) (.cons (.cmp .eq (.call 1001 (.cons (.var 0) (.cons (.int 2) .nil))) (.int 0)) .nil)))) (.cons (.ret (.ix (.ix (.var 3) (.var 4)) (.int 0)))
 .nil) .nil)
 (.cons (.set 4 (.bcall .min (.cons (.var 4) (.cons (.bin .sub (.bcall .len (.cons (.var 3) .nil)) (.int 2)) .nil))))
 (.cons (.set 5 (.call 1004 (.cons (.ix (.ix (.var 3) (.var 4)) (.int 0)) (.cons (.ix (.ix (.var 3) (.bin .add (.var 4) (.int 1))) (.int 0)) .nil))))
 (.cons (.ret (.call 1003 (.cons (.ix (.ix (.var 3) (.bin .add (.var 4) (.int 1))) (.int 0)) (.cons (.call 1005 (.cons (.call 1002 (.cons (.call 1001 (.cons (.var 0) (.cons (.int 13) .nil))) (.cons (.int 12) .nil))) (.cons (.var 5) .nil))) .nil))))
 .nil))))))⟩
def L_law_offered : Fn := ⟨2, 5,
 (.cons (.asg (.tup (.cons (.name 2) (.cons (.name 3) .nil))) (.var 0))
 (.cons (.ite (.cmp .eq (.var 2) (.str "steps")) (.cons (.ret (.cmp .inn (.var 1) (.lc (.ix (.var 4) (.int 0)) (.name 4) (.seq (.var 3)) .none [4])))
 .nil) .nil)
 (.cons (.ret (.band (.cons (.bnot (.call 1006 (.cons (.var 1) (.cons (.ix (.ix (.var 3) (.neg (.int 1))) (.int 0)) .nil)))) (.cons (.bnot (.call 1006 (.cons (.ix (.ix (.var 3) (.int 0)) (.int 0)) (.cons (.var 1) .nil)))) .nil))))
 .nil)))⟩
def L_law_corner : Fn := ⟨3, 5,
 (.cons (.set 3 (.lc (.ix (.var 4) (.int 0)) (.name 4) (.seq (.ix (.ix (.ix (.ix (.var 0) (.int 0)) (.var 2)) (.int 1)) (.int 1))) .none [4]))
 (.cons (.ret (.meth .index (.var 3) (.cons (.ix (.ix (.var 1) (.var 2)) (.int 1)) .nil)))
 .nil))⟩
def L_law_bound : Fn := ⟨2, 14,
 (.cons (.for_ (.name 2) (.rng1 (.bcall .len (.cons (.ix (.var 0) (.int 3)) .nil))) (.cons (.set 3 (.ix (.ix (.var 0) (.int 3)) (.var 2)))
 (.cons (.set 4 (.call 1021 (.cons (.var 0) (.cons (.var 1) (.cons (.ix (.var 3) (.int 0)) .nil)))))
 (.cons (.ite (.cmp .ne (.lc (.var 10) (.name 10) (.seq (.var 3)) (.some (.cmp .ne (.call 1021 (.cons (.var 0) (.cons (.var 1) (.cons (.var 10) .nil)))) (.var 4))) [10]) (.lst .nil)) (.cons (.ret (.tup (.cons (.str "group") (.cons (.var 2) .nil))))
 .nil) .nil)
 .nil))))
 (.cons (.for_ (.name 2) (.rng1 (.bcall .len (.cons (.var 1) .nil))) (.cons (.ite (.cmp .lt (.ix (.ix (.ix (.var 1) (.var 2)) (.int 0)) (.int 0)) (.int 0)) (.cons (.ret (.tup (.cons (.str "start") (.cons (.var 2) .nil))))
 .nil) .nil)
 .nil))
 (.cons (.set 5 (.lc (.call 1003 (.cons (.var 12) (.cons (.var 13) .nil))) (.tup (.cons (.name 12) (.cons (.name 13) .nil))) (.seq (.var 1)) .none [12, 13]))
 (.cons (.for_ (.name 2) (.rng1 (.bcall .len (.cons (.ix (.var 0) (.int 1)) .nil))) (.cons (.asg (.tup (.cons (.name 6) (.cons (.name 7) (.cons (.name 8) .nil)))) (.ix (.ix (.var 0) (.int 1)) (.var 2)))
 (.cons (.ite (.call 1006 (.cons (.ix (.ix (.var 1) (.var 7)) (.int 0)) (.cons (.call 1003 (.cons (.ix (.var 5) (.var 6)) (.cons (.var 8) .nil))) .nil))) (.cons (.ret (.tup (.cons (.str "wait") (.cons (.var 2) .nil))))
 .nil) .nil)
 .nil)))
 (.cons (.for_ (.name 2) (.rng1 (.bcall .len (.cons (.ix (.var 0) (.int 2)) .nil))) (.cons (.asg (.tup (.cons (.name 9) (.cons (.name 10) (.cons (.name 11) .nil)))) (.ix (.ix (.var 0) (.int 2)) (.var 2)))
 (.cons (.ite (.band (.cons (.cmp .eq (.var 9) (.str "from")) (.cons (.call 1006 (.cons (.ix (.ix (.var 1) (.var 10)) (.int 0)) (.cons (.var 11) .nil))) .nil))) (.cons (.ret (.tup (.cons (.str "hold") (.cons (.var 2) .nil))))
 .nil) .nil)
 (.cons (.ite (.bor (.cons (.band (.cons (.cmp .eq (.var 9) (.str "till")) (.cons (.call 1006 (.cons (.var 11) (.cons (.ix (.ix (.var 1) (.var 10)) (.int 0)) .nil))) .nil))) (.cons (.band (.cons (.cmp .eq (.var 9) (.str "by")) (.cons (.call 1006 (.cons (.var 11) (.cons (.ix (.var 5) (.var 10)) .nil))) .nil))) .nil))) (.cons (.ret (.tup (.cons (.str "hold") (.cons (.var 2) .nil))))
 .nil) .nil)
 .nil))))
 (.cons (.ret .non)
 .nil))))))⟩
def L_law_held : Fn := ⟨2, 6,
 (.cons (.set 2 (.bcall .list (.cons (.ix (.var 1) (.int 2)) .nil)))
 (.cons (.whl (.cmp .lt (.bcall .len (.cons (.var 2) .nil)) (.int 40)) (.cons (.set 3 (.ix (.lst (.cons (.str "from") (.cons (.str "till") (.cons (.str "by") .nil)))) (.call 1001 (.cons (.var 0) (.cons (.int 3) .nil)))))
 (.cons (.set 4 (.call 1007 (.cons (.var 0) (.cons (.bl false) (.cons (.int 0) .nil)))))
 (.cons (.ite (.cmp .eq (.var 3) (.str "from")) (.cons (.set 4 (.call 1004 (.cons (.tup (.cons (.int 0) (.cons (.int 1) .nil))) (.cons (.var 4) .nil))))
 .nil) (.cons (.set 4 (.call 1003 (.cons (.var 4) (.cons (.tup (.cons (.bin .pow (.int 10) (.int 16)) (.cons (.int 1) .nil))) .nil))))
 .nil))
 (.cons (.expr (.meth .append (.var 2) (.cons (.tup (.cons (.var 3) (.cons (.call 1001 (.cons (.var 0) (.cons (.bcall .len (.cons (.ix (.var 1) (.int 0)) .nil)) .nil))) (.cons (.var 4) .nil)))) .nil)))
 .nil)))))
 (.cons (.set 5 (.call 1001 (.cons (.var 0) (.cons (.int 40) .nil))))
 (.cons (.ret (.tup (.cons (.ix (.var 1) (.int 0)) (.cons (.ix (.var 1) (.int 1)) (.cons (.bin .add (.sl (.var 2) (.some (.var 5)) .none) (.sl (.var 2) .none (.some (.var 5)))) (.cons (.ix (.var 1) (.int 3)) .nil))))))
 .nil))))⟩
def L_law_due : Fn := ⟨3, 5,
 (.cons (.for_ (.name 3) (.rng1 (.bcall .len (.cons (.var 1) .nil))) (.cons (.ite (.bnot (.call 1020 (.cons (.ix (.ix (.ix (.var 0) (.int 0)) (.var 3)) (.int 1)) (.cons (.ix (.ix (.var 1) (.var 3)) (.int 1)) .nil)))) (.cons (.ret (.tup (.cons (.str "time") (.cons (.var 3) .nil))))
 .nil) .nil)
 .nil))
 (.cons (.set 4 (.call 1022 (.cons (.var 0) (.cons (.var 1) .nil))))
 (.cons (.ite (.bor (.cons (.cmp .isn (.var 4) .non) (.cons (.cmp .is (.var 2) .non) .nil))) (.cons (.ret (.var 4))
 .nil) .nil)
 (.cons (.for_ (.name 3) (.rng1 (.bcall .len (.cons (.var 1) .nil))) (.cons (.ite (.call 1006 (.cons (.var 2) (.cons (.call 1003 (.cons (.ix (.ix (.var 1) (.var 3)) (.int 0)) (.cons (.ix (.ix (.var 1) (.var 3)) (.int 1)) .nil))) .nil))) (.cons (.ret (.tup (.cons (.str "whole") (.cons (.var 3) .nil))))
 .nil) .nil)
 .nil))
 (.cons (.ret .non)
 .nil)))))⟩
def L_law_times_drawn : Fn := ⟨2, 8,
 (.cons (.set 2 (.lc (.call 1019 (.cons (.var 0) (.cons (.var 7) .nil))) (.tup (.cons (.name 6) (.cons (.name 7) .nil))) (.seq (.ix (.var 1) (.int 0))) .none [6, 7]))
 (.cons (.for_ (.name 3) (.seq (.ix (.var 1) (.int 3))) (.cons (.set 4 (.call 1001 (.cons (.var 0) (.cons (.bcall .len (.cons (.ix (.ix (.ix (.ix (.var 1) (.int 0)) (.ix (.var 3) (.int 0))) (.int 1)) (.int 1)) .nil)) .nil))))
 (.cons (.ite (.cmp .gt (.call 1001 (.cons (.var 0) (.cons (.int 4) .nil))) (.int 0)) (.cons (.for_ (.name 5) (.seq (.var 3)) (.cons (.setIx (.var 2) (.var 5) (.ix (.ix (.ix (.ix (.ix (.ix (.var 1) (.int 0)) (.var 5)) (.int 1)) (.int 1)) (.var 4)) (.int 0)))
 .nil))
 .nil) .nil)
 .nil)))
 (.cons (.ret (.var 2))
 .nil)))⟩
def L_law_bent : Fn := ⟨3, 10,
 (.cons (.set 3 (.call 1001 (.cons (.var 0) (.cons (.bcall .len (.cons (.var 2) .nil)) .nil))))
 (.cons (.asg (.tup (.cons (.name 4) (.cons (.name 5) .nil))) (.ix (.var 2) (.var 3)))
 (.cons (.set 6 (.call 1001 (.cons (.var 0) (.cons (.int 10) .nil))))
 (.cons (.set 7 (.call 1007 (.cons (.var 0) (.cons (.bl false) (.cons (.int 1) .nil)))))
 (.cons (.ite (.cmp .eq (.var 6) (.int 0)) (.cons (.set 4 (.call 1004 (.cons (.var 4) (.cons (.var 7) .nil))))
 .nil) .nil)
 (.cons (.ite (.cmp .eq (.var 6) (.int 1)) (.cons (.set 4 (.call 1003 (.cons (.var 4) (.cons (.var 7) .nil))))
 .nil) .nil)
 (.cons (.ite (.cmp .eq (.var 6) (.int 2)) (.cons (.set 4 (.call 1004 (.cons (.tup (.cons (.int 0) (.cons (.int 1) .nil))) (.cons (.var 7) .nil))))
 .nil) .nil)
 (.cons (.ite (.cmp .eq (.var 6) (.int 3)) (.cons (.set 5 (.call 1003 (.cons (.var 5) (.cons (.var 7) .nil))))
 .nil) .nil)
 (.cons (.ite (.cmp .eq (.var 6) (.int 4)) (.cons (.set 5 (.call 1005 (.cons (.var 5) (.cons (.tup (.cons (.int 1) (.cons (.int 3) .nil))) .nil))))
 .nil) .nil)
 (.cons (.ite (.band (.cons (.cmp .eq (.var 6) (.int 5)) (.cons (.cmp .ne (.ix (.var 1) (.int 2)) (.lst .nil)) .nil))) (.cons (.asg (.tup (.cons (.name 8) (.cons (.name 3) (.cons (.name 9) .nil)))) (.ix (.ix (.var 1) (.int 2)) (.call 1001 (.cons (.var 0) (.cons (.bcall .len (.cons (.ix (.var 1) (.int 2)) .nil)) .nil)))))
 (.cons (.set 5 (.ix (.ix (.var 2) (.var 3)) (.int 1)))
 (.cons (.set 4 (.var 9))
 (.cons (.ite (.cmp .eq (.var 8) (.str "by")) (.cons (.set 4 (.call 1004 (.cons (.var 9) (.cons (.var 5) .nil))))
 .nil) .nil)
 .nil)))) .nil)
 (.cons (.ret (.bin .add (.bin .add (.sl (.var 2) .none (.some (.var 3))) (.lst (.cons (.tup (.cons (.var 4) (.cons (.var 5) .nil))) .nil))) (.sl (.var 2) (.some (.bin .add (.var 3) (.int 1))) .none)))
 .nil)))))))))))⟩
def L_law_whole : Fn := ⟨2, 7,
 (.cons (.set 2 (.call 1003 (.cons (.ix (.ix (.var 1) (.int 0)) (.int 0)) (.cons (.ix (.ix (.var 1) (.int 0)) (.int 1)) .nil))))
 (.cons (.for_ (.tup (.cons (.name 3) (.cons (.name 4) .nil))) (.seq (.var 1)) (.cons (.ite (.call 1006 (.cons (.var 2) (.cons (.call 1003 (.cons (.var 3) (.cons (.var 4) .nil))) .nil))) (.cons (.set 2 (.call 1003 (.cons (.var 3) (.cons (.var 4) .nil))))
 .nil) .nil)
 .nil))
 (.cons (.set 5 (.call 1007 (.cons (.var 0) (.cons (.bl false) (.cons (.int 1) .nil)))))
 (.cons (.set 6 (.lst (.cons .non (.cons (.var 2) (.cons (.var 2) (.cons (.call 1004 (.cons (.var 2) (.cons (.var 5) .nil))) (.cons (.call 1003 (.cons (.var 2) (.cons (.var 5) .nil))) (.cons (.call 1004 (.cons (.tup (.cons (.int 0) (.cons (.int 1) .nil))) (.cons (.var 5) .nil))) .nil))))))))
 (.cons (.ret (.ix (.var 6) (.call 1001 (.cons (.var 0) (.cons (.int 6) .nil)))))
 .nil)))))⟩
def L_law : Fn := ⟨1, 15,
 (.cons (.set 1 (.call 1000 (.cons (.var 0) (.cons (.int 4) .nil))))
 (.cons (.set 2 (.ix (.lst (.cons (.lst (.cons (.str "straight") .nil)) (.cons (.lst (.cons (.str "steps") .nil)) (.cons (.lst (.cons (.str "straight") (.cons (.str "steps") .nil))) .nil)))) (.call 1001 (.cons (.var 1) (.cons (.int 3) .nil)))))
 (.cons (.set 3 (.cmp .eq (.call 1001 (.cons (.var 1) (.cons (.int 4) .nil))) (.int 0)))
 (.cons (.set 4 (.call 1015 (.cons (.var 0) (.cons (.int 0) (.cons (.ix (.lst (.cons (.int 5) (.cons (.int 10) .nil))) (.bcall .int (.cons (.var 3) .nil))) (.cons (.ix (.lst (.cons (.int 3) (.cons (.int 5) .nil))) (.bcall .int (.cons (.var 3) .nil))) (.cons (.var 2) (.cons (.bl false) .nil))))))))
 (.cons (.set 5 (.lc (.tup (.cons (.var 12) (.cons (.var 13) (.cons (.call 1011 (.cons (.var 1) (.cons (.bl false) .nil))) .nil)))) (.tup (.cons (.name 12) (.cons (.name 13) (.cons (.name 14) .nil)))) (.seq (.ix (.var 4) (.int 1))) (.some (.cmp .eq (.call 1001 (.cons (.var 1) (.cons (.int 3) .nil))) (.int 0))) [12, 13, 14]))
 (.cons (.set 4 (.tup (.cons (.ix (.var 4) (.int 0)) (.cons (.sl (.bin .add (.ix (.var 4) (.int 1)) (.var 5)) .none (.some (.int 40))) (.cons (.ix (.var 4) (.int 2)) (.cons (.ix (.var 4) (.int 3)) .nil))))))
 (.cons (.ite (.var 3) (.cons (.set 4 (.call 1023 (.cons (.var 1) (.cons (.var 4) .nil))))
 .nil) .nil)
 (.cons (.for_ (.name 6) (.rng2 (.int 4) (.bcall .max (.cons (.int 5) (.cons (.bcall .min (.cons (.bcall .len (.cons (.var 0) .nil)) (.cons (.ix (.lst (.cons (.int 24) (.cons (.int 10) .nil))) (.bcall .int (.cons (.var 3) .nil))) .nil))) .nil)))) (.cons (.set 1 (.call 1000 (.cons (.var 0) (.cons (.var 6) .nil))))
 (.cons (.set 7 (.call 1018 (.cons (.var 4) (.cons (.call 1025 (.cons (.var 1) (.cons (.var 4) .nil))) .nil))))
 (.cons (.for_ (.name 8) (.rng1 (.bin .add (.int 1) (.call 1001 (.cons (.var 1) (.cons (.int 3) .nil))))) (.cons (.set 7 (.call 1026 (.cons (.var 1) (.cons (.var 4) (.cons (.var 7) .nil)))))
 .nil))
 (.cons (.set 9 (.call 1027 (.cons (.var 1) (.cons (.var 7) .nil))))
 (.cons (.set 10 (.call 1017 (.cons (.var 4) .nil)))
 (.cons (.set 11 (.bcall .list (.cons (.var 7) .nil)))
 (.cons (.ite (.bnot (.call 1016 (.cons (.call 53 (.cons (.var 10) (.cons (.var 11) (.cons (.var 9) .nil)))) (.cons (.call 1024 (.cons (.var 4) (.cons (.var 7) (.cons (.var 9) .nil)))) .nil)))) (.cons (.ret (.bl false))
 .nil) .nil)
 (.cons (.ite (.bor (.cons (.bnot (.call 1016 (.cons (.var 10) (.cons (.var 4) .nil)))) (.cons (.cmp .ne (.var 11) (.var 7)) .nil))) (.cons (.ret (.bl false))
 .nil) .nil)
 .nil)))))))))
 (.cons (.ret (.bl true))
 .nil)))))))))⟩
def lawL : List Fn := [L_law_begun, L_law_take, L_law_low, L_law_plus, L_law_minus, L_law_times, L_law_under, L_law_amount, L_law_offer, L_law_names, L_law_order, L_law_lag, L_law_waits, L_law_holds, L_law_groups, L_law_net, L_law_alike, L_law_copy, L_law_started, L_law_time, L_law_offered, L_law_corner, L_law_bound, L_law_held, L_law_due, L_law_times_drawn, L_law_bent, L_law_whole, L_law]
def fns : List (Str × Nat × Nat) := [(("divisor" : Str), 46, 2), (("in_lowest" : Str), 60, 2), (("plus" : Str), 164, 2), (("is_less" : Str), 74, 2), (("is_offered" : Str), 82, 2), (("ends_of" : Str), 50, 1), (("broken_time" : Str), 18, 2), (("corner_of" : Str), 43, 3), (("broken_group" : Str), 15, 2), (("broken_start" : Str), 17, 1), (("broken_wait" : Str), 19, 3), (("broken_hold" : Str), 16, 3), (("broken_whole" : Str), 20, 2), (("first_broken" : Str), 53, 3), (("_law_begun" : Str), 1000, 2), (("_law_take" : Str), 1001, 2), (("_law_low" : Str), 1002, 2), (("_law_plus" : Str), 1003, 2), (("_law_minus" : Str), 1004, 2), (("_law_times" : Str), 1005, 2), (("_law_under" : Str), 1006, 2), (("_law_amount" : Str), 1007, 3), (("_law_offer" : Str), 1008, 4), (("_law_names" : Str), 1009, 2), (("_law_order" : Str), 1010, 2), (("_law_lag" : Str), 1011, 2), (("_law_waits" : Str), 1012, 3), (("_law_holds" : Str), 1013, 4), (("_law_groups" : Str), 1014, 2), (("_law_net" : Str), 1015, 6), (("_law_alike" : Str), 1016, 2), (("_law_copy" : Str), 1017, 1), (("_law_started" : Str), 1018, 2), (("_law_time" : Str), 1019, 2), (("_law_offered" : Str), 1020, 2), (("_law_corner" : Str), 1021, 3), (("_law_bound" : Str), 1022, 2), (("_law_held" : Str), 1023, 2), (("_law_due" : Str), 1024, 3), (("_law_times_drawn" : Str), 1025, 2), (("_law_bent" : Str), 1026, 3), (("_law_whole" : Str), 1027, 2), (("law" : Str), 1028, 1)]
def cons : List (Str × D) := [("NOUGHT", (.tup [(.int 0), (.int 1)]))]
def blt : List Str := ["abs", "all", "bool", "enumerate", "int", "isinstance", "len", "list", "max", "min", "range", "str", "tuple", "zip"]
def cls : List (Str × Nat × Bool) := []
end K12
end HP
namespace HP
open PySem L2
namespace K12
abbrev G : Tab := Gof lawL
theorem fam : FN G where
  beg := rfl
  tak := rfl
  low := rfl
  plus := rfl
  minus := rfl
  times := rfl
  under := rfl
  amount := rfl
  offer := rfl
  nam := names_spec rfl (takes_A rfl)
  ord := rfl
  lag := rfl
  wai := rfl
  hol := rfl
  gro := rfl
  net := rfl
theorem g_alike : G 1016 = some (K_alike 1016) := rfl
theorem g_copy : G 1017 = some K_copyN := rfl
theorem g_started : G 1018 = some K_started := rfl
theorem g_time : G 1019 = some K_timeP := rfl
section
variable {k : Nat} {S : Sto} {a b c e np : Nat} {ws : List Wk} {wl : List Wt} {hl : List Hd3} {pl : List (Rat × Rat)} {n0 : Nat} {gr : List (Nat × List Nat)}
theorem offeredL_ok {kind : Str} {n : Nat} {cs : List (Rat × Rat)} {t : Rat} (h : S[n]? = some (.lst (cs.map pr))) (hz : ∀ c ∈ cs, Ok2 c) (ht : Sz 1000 1000 t) (hl : cs.length < 100) (hne : cs ≠ []) :
    Wp (callN G (k + 2) 1020 [.tup [.str kind, .loc n], q t] S) fun d S' => Ag (fun _ => False) S S' ∧ d = .bl (offeredB kind cs t) := by
  have hpos : 0 < cs.length := List.length_pos_iff.2 hne
  refine wp_def (fn := L_law_offered) rfl rfl ?_
  unfold L_law_offered
  walk_at "hp0"
  walk_at "hys"
  refine wps_ite ?_
  walk_at "hy"
  refine wq_dec (fun hk => ?_) (fun hk => ?_)
  · walk_at "hy"
    refine wi_loc h ?_
    refine comp_all (g := fun c : Rat × Rat => q c.1) (by omega) (fun U hU => still1 (hU.get h id)) (fun i c gc U hU => ?_) (fun S1 hag1 h1 => ?_)
    · unfold pr
      refine ⟨_, rfl, ?_⟩
      walk_at "hy"
      exact ⟨rfl, Ag.rfl⟩
    have h1 : S1[S.length]? = some (.lst ((cs.map (·.1)).map q)) := by rw [h1, List.map_map]; rfl
    refine wc_in (inD_qs h1 (by rw [List.length_map]; omega)) ?_
    refine ⟨hag1, ?_⟩
    unfold offeredB
    have hk : kind = ("steps" : Str) := hk
    rw [if_pos hk, List.any_map]
    rfl
  · have hk : ¬kind = ("steps" : Str) := hk
    obtain ⟨y, gb⟩ := get_some (xs := cs) (i := cs.length - 1) (by omega)
    obtain ⟨x, ga⟩ := get_some (xs := cs) (i := 0) hpos
    have hbz := hz y (List.mem_of_getElem? gb)
    have haz := hz x (List.mem_of_getElem? ga)
    have hb2 : (cs.map pr)[(cs.map pr).length - 1]? = some (pr y) := by rw [List.length_map, List.getElem?_map, gb]; rfl
    have ha2 : (cs.map pr)[0]? = some (pr x) := by rw [List.getElem?_map, ga]; rfl
    have eO : offeredB kind cs t = (!decide (t < y.1) && !decide (x.1 < t)) := by
      unfold offeredB
      rw [if_neg hk, gb, ga]
    walk_at "hy"
    refine wx_ix (seq_loc h) (atI_last hb2) ?_
    unfold pr
    walk_at "hy"
    refine wp_val (underL_ok fam.under ht hbz.1 (by decide) (by decide)) ?_
    walk_at "hy"
    refine ⟨fun h1 => ?_, fun h1 => ?_⟩
    · walk_at "hy"
      refine wx_ix (seq_loc h) (atI_get (i := 0) ha2) ?_
      unfold pr
      walk_at "hy"
      refine wp_val (underL_ok fam.under haz.1 ht (by decide) (by decide)) ?_
      walk_at "hy"
      exact ⟨Ag.rfl, by rw [eO, h1, Bool.true_and]⟩
    · exact ⟨Ag.rfl, by rw [eO, h1, Bool.false_and]⟩
theorem cornerL_ok {x : Nat} {w : Wk} {p : Rat × Rat} (ha : S[a]? = some (.lst (ws.map wkD))) (hp : S[np]? = some (.lst (pl.map pr))) (gw : ws[x]? = some w) (gp : pl[x]? = some p) (hcs : S[w.lc]? = some (.lst (w.cs.map pr))) (hl : w.cs.length ≤ 100) (ht : ∃ c ∈ w.cs, c.1 = p.2) :
    Wp (callN G (k + 2) 1021 [.tup [.loc a, .loc b, .loc c, .loc e], .loc np, .int (x : Nat)] S) fun d S' => Ag (fun _ => False) S S' ∧ d = .int (cnF ws pl x : Nat) := by
  refine wp_def (fn := L_law_corner) rfl rfl ?_
  unfold L_law_corner
  walk_at "hp0"
  walk_at "hys"
  refine wx_ix (seq_loc ha) (atI_get (x := wkD w) (by rw [List.getElem?_map, gw]; rfl)) ?_
  unfold wkD
  walk_at "hys"
  refine wi_loc hcs ?_
  refine comp_all (g := fun c : Rat × Rat => q c.1) (by omega) (fun U hU => still1 (hU.get hcs id)) (fun i c gc U hU => ?_) (fun S1 hag1 h1 => ?_)
  · unfold pr
    refine ⟨_, rfl, ?_⟩
    walk_at "hy"
    exact ⟨rfl, Ag.rfl⟩
  have h1 : S1[S.length]? = some (.lst ((w.cs.map (·.1)).map q)) := by rw [h1, List.map_map]; rfl
  walk_at "hys"
  refine ⟨isL_loc h1, ?_⟩
  walk_at "hys"
  refine wx_ix (seq_loc (hag1.get hp id)) (atI_get (x := pr p) (by rw [List.getElem?_map, gp]; rfl)) ?_
  unfold pr
  walk_at "hys"
  obtain ⟨c, mc, ec⟩ := ht
  refine index_qs h1 (by rw [List.length_map]; omega) (List.mem_map.2 ⟨c, mc, ec⟩) ?_
  walk_at "hys"
  refine ⟨hag1, ?_⟩
  unfold cnF
  rw [gw, gp]
/-- what the law tells of the binding wishes -/
def bdF (ws : List Wk) (wl : List Wt) (hl : List Hd3) (gs : List (List Nat)) (pl : List (Rat × Rat)) : Option (Str × Nat) :=
  orB (orB (orB (orB none "group" (fstIx (pG ws pl gs) gs.length)) "start" (fstIx (pS pl) pl.length)) "wait" (fstIx (pW wl pl) wl.length)) "hold" (fstIx (pH hl pl) hl.length)
theorem num_neg (x : Rat) : decide (x.num < 0) = decide (x < 0) := by
  refine decide_eq_decide.2 ?_
  rw [← Rat.not_le, ← Rat.num_nonneg]
  omega
theorem step_to {p : Nat → Bool} {i : Nat} (h0 : ∀ j, j < i → p j = false) (h : p i = false) : ∀ j, j < i + 1 → p j = false := fun j hj => by
  by_cases ej : j = i
  · rw [ej]; exact h
  · exact h0 j (by omega)
theorem bound_ok (N : NAtB S n0 a b c e ws wl hl gr) (B : NB ws wl hl) (hp : S[np]? = some (.lst (pl.map pr))) (hn : pl.length = ws.length) (hz : PlSz pl) (hg : gr.length ≤ 100)
    (hgo : ∀ g ∈ gr, 0 < g.2.length ∧ g.2.length ≤ 100 ∧ ∀ x ∈ g.2, ∃ w p, ws[x]? = some w ∧ pl[x]? = some p ∧ ∃ c ∈ w.cs, c.1 = p.2) :
    Wp (callN G (k + 3) 1022 [.tup [.loc a, .loc b, .loc c, .loc e], .loc np] S) fun d S' => Ag (fun _ => False) S S' ∧ d = brD (bdF ws wl hl (gr.map (·.2)) pl) := by
  have hw100 := B.len
  have hlw : ∀ w ∈ ws, w.cs.length ≤ 100 := fun w m => Nat.le_of_lt (B.wk w m).2.1
  refine wp_def (fn := L_law_bound) rfl rfl ?_
  unfold L_law_bound
  walk_at "hp0"
  walk_at "hys"
  refine wf_len (seq_loc N.e) ?_
  rw [List.length_map]
  walk_at "hys"
  refine ⟨by unfold okRng; simp; omega, ?_⟩
  rw [Int.toNat_natCast]
  refine forE_inv (fun i r T => Ag (fun _ => False) S T ∧ (∀ j, j < i → pG ws pl (gr.map (·.2)) j = false) ∧ ∃ z2 z3 z4, r = [some (.tup [.loc a, .loc b, .loc c, .loc e]), some (.loc np), z2, z3, z4, none, none, none, none, none, none, none, none, none]) ⟨Ag.rfl, (fun j hj => absurd hj (Nat.not_lt_zero _)), none, none, none, rfl⟩ (fun _ _ _ _ _ => still0) ?_ ?_
  · rintro i d r T hd ⟨hagT, h0, z2, z3, z4, rfl⟩
    obtain ⟨hi, rfl⟩ := rng0_get hd
    obtain ⟨g, gg⟩ := get_some (xs := gr) (i := i) hi
    have mg := List.mem_of_getElem? gg
    obtain ⟨hg0, hg1, hgx⟩ := hgo g mg
    have NT := N.ag0 hagT
    have hpT := hagT.get hp id
    obtain ⟨x0, gx0⟩ := get_some (xs := g.2) (i := 0) hg0
    have mx0 := List.mem_of_getElem? gx0
    have hgT := (NT.g g mg).2
    refine ⟨_, rfl, ?_⟩
    walk_at "hys"
    refine wx_ix (seq_loc NT.e) (atI_get (i := i) (x := D.loc g.1) (by rw [List.getElem?_map, gg]; rfl)) ?_
    walk_at "hys"
    refine wx_ix (seq_loc hgT) (atI_get (i := 0) (x := nD x0) (by rw [List.getElem?_map, gx0]; rfl)) ?_
    unfold nD
    walk_at "hys"
    obtain ⟨w, p, gw, gp, ht⟩ := hgx x0 mx0
    refine wp_mono (cornerL_ok (k := k) NT.a hpT gw gp (NT.wk w (List.mem_of_getElem? gw)).2 (hlw w (List.mem_of_getElem? gw)) ht) ?_
    rintro _ T1 ⟨hag1, rfl⟩
    have N1 := NT.ag0 hag1
    have hp1 := hag1.get hpT id
    have hg1' := hag1.get hgT id
    walk_at "hys"
    refine wps_ite ?_
    walk_at "hy"
    refine wi_loc hg1' ?_
    refine comp_ok (f := fun x : Nat => !decide (cnF ws pl x = cnF ws pl x0)) (g := nD) (by omega) (fun U hU => still1 (hU.get hg1' id)) (fun j x gx U hU => ?_) (fun T2 hag2 h2 => ?_)
    · obtain ⟨w, p, gw, gp, ht⟩ := hgx x (List.mem_of_getElem? gx)
      have NU := N1.ag0 hU
      unfold nD
      refine ⟨_, rfl, ?_⟩
      walk_at "hy"
      refine wp_mono (cornerL_ok (k := k) NU.a (hU.get hp1 id) gw gp (NU.wk w (List.mem_of_getElem? gw)).2 (hlw w (List.mem_of_getElem? gw)) ht) ?_
      rintro _ U1 ⟨hagU, rfl⟩
      walk_at "hy"
      refine ⟨?_, hagU, fun _ => ?_⟩
      · congr 1
        exact decide_eq_decide.2 Int.ofNat_inj
      · walk_at "hy"
        exact ⟨rfl, Ag.rfl⟩
    walk_at "hy"
    have hA3 : Ag (fun _ => False) T2 (T2 ++ [.lst []]) := Ag.app
    have hnil : (T2 ++ [.lst []])[T2.length]? = some (.lst (([] : List Nat).map nD)) := app_get
    have h2' := hA3.get h2 id
    have hag3 := (hag1.trans hag2).trans hA3
    generalize T2 ++ [O.lst []] = T3 at *
    refine wc_ne (eq_loc (dt_nats h2') (dt_nats hnil) (cmp_ints (by rw [List.length_map]; have := List.length_filter_le (fun x : Nat => !decide (cnF ws pl x = cnF ws pl x0)) g.2; omega)) (cmp_ints (by decide))) ?_
    have eP : pG ws pl (gr.map (·.2)) i = !(PyData.eqv (.list (((g.2.filter fun x : Nat => !decide (cnF ws pl x = cnF ws pl x0)).map fun u : Nat => (u : Int)).map PyData.int)) (.list ((([] : List Nat).map fun u : Nat => (u : Int)).map PyData.int))) := by
      have e1 : PyData.eqv (.list (((g.2.filter fun x : Nat => !decide (cnF ws pl x = cnF ws pl x0)).map fun u : Nat => (u : Int)).map PyData.int)) (.list ((([] : List Nat).map fun u : Nat => (u : Int)).map PyData.int)) = (g.2.filter fun x : Nat => !decide (cnF ws pl x = cnF ws pl x0)).isEmpty := by
        cases (g.2.filter fun x : Nat => !decide (cnF ws pl x = cnF ws pl x0)) with
        | nil => rfl
        | cons _ _ => rfl
      rw [e1]
      unfold pG
      rw [List.getElem?_map, gg]
      dsimp only [Option.map]
      rw [gx0]
      dsimp only [Option.getD]
      congr 1
      rw [Bool.eq_iff_iff, List.all_eq_true, List.isEmpty_iff, List.filter_eq_nil_iff]
      constructor
      · intro h x m
        rw [h x m]; decide
      · intro h x m
        have := h x m
        rw [Bool.not_eq_true, Bool.not_eq_false'] at this
        exact this
    rw [← eP]
    walk_at "hy"
    refine ⟨fun cT => ?_, fun cF => ?_⟩
    · walk_at "hy"
      refine ⟨hagT.trans hag3, ?_⟩
      unfold bdF
      rw [List.length_map, fst_some hi cT h0]
      rfl
    · walk_at "hy"
      exact ⟨hagT.trans hag3, step_to h0 cF, _, _, _, rfl⟩
  rintro r T ⟨hagT, h0, z2, z3, z4, rfl⟩
  rw [rngi_len] at h0
  have eG : fstIx (pG ws pl (gr.map (·.2))) (gr.map (·.2)).length = none := fst_eq_none.2 (by rw [List.length_map]; exact h0)
  clear h0
  have NT := N.ag0 hagT
  have hpT := hagT.get hp id
  walk_at "hys"
  rw [List.length_map]
  refine ⟨by unfold okRng; simp; omega, ?_⟩
  rw [Int.toNat_natCast]
  refine forE_inv (fun i r U => U = T ∧ (∀ j, j < i → pS pl j = false) ∧ ∃ z2, r = [some (.tup [.loc a, .loc b, .loc c, .loc e]), some (.loc np), z2, z3, z4, none, none, none, none, none, none, none, none, none]) ⟨rfl, (fun j hj => absurd hj (Nat.not_lt_zero _)), _, rfl⟩ (fun _ _ _ _ _ => still0) ?_ ?_
  · rintro i d r U hd ⟨rfl, h0, z2, rfl⟩
    obtain ⟨hi, rfl⟩ := rng0_get hd
    obtain ⟨p, gp⟩ := get_some (xs := pl) (i := i) hi
    have eP : pS pl i = decide (p.1.num < 0) := by unfold pS; rw [st_get gp, num_neg]
    refine ⟨_, rfl, ?_⟩
    walk_at "hys"
    refine wps_ite ?_
    walk_at "hy"
    refine wx_ix (seq_loc hpT) (atI_get (i := i) (x := pr p) (by rw [List.getElem?_map, gp]; rfl)) ?_
    unfold pr
    walk_at "hy"
    refine ⟨fun cT => ?_, fun cF => ?_⟩
    · walk_at "hy"
      refine ⟨hagT, ?_⟩
      unfold bdF
      rw [eG, fst_some hi (eP.trans cT) h0]
      rfl
    · walk_at "hy"
      exact ⟨rfl, step_to h0 (eP.trans cF), _, rfl⟩
  rintro r U ⟨rfl, h0, z2, rfl⟩
  rw [rngi_len] at h0
  have eS : fstIx (pS pl) pl.length = none := fst_eq_none.2 h0
  clear h0
  walk_at "hys"
  refine wi_loc hpT ?_
  refine comp_all (g := fun p : Rat × Rat => q (p.1 + p.2)) (by omega) (fun V hV => still1 (hV.get hpT id)) (fun i p gp V hV => ?_) (fun V hag h5 => ?_)
  · have hpz := hz.z p (List.mem_of_getElem? gp)
    unfold pr
    refine ⟨_, rfl, ?_⟩
    walk_at "hy"
    refine wp_val (plusL_ok fam.plus fam.low hpz.1 hpz.2 (by decide) (by decide)) ?_
    exact ⟨rfl, Ag.rfl⟩
  have NV := NT.ag0 hag
  have hpV := hag.get hpT id
  have hagV := hagT.trans hag
  generalize U.length = ne at *
  have ends : ∀ {i : Nat} {p : Rat × Rat}, pl[i]? = some p → (pl.map fun p : Rat × Rat => q (p.1 + p.2))[i]? = some (q (p.1 + p.2)) := fun g => by rw [List.getElem?_map, g]; rfl
  walk_at "hys"
  refine wf_len (seq_loc NV.b) ?_
  rw [List.length_map]
  walk_at "hys"
  refine ⟨by have := B.wn; unfold okRng; simp; omega, ?_⟩
  rw [Int.toNat_natCast]
  refine forE_inv (fun i r W => W = V ∧ (∀ j, j < i → pW wl pl j = false) ∧ ∃ z2 z6 z7 z8, r = [some (.tup [.loc a, .loc b, .loc c, .loc e]), some (.loc np), z2, z3, z4, some (.loc ne), z6, z7, z8, none, none, none, none, none]) ⟨rfl, (fun j hj => absurd hj (Nat.not_lt_zero _)), _, none, none, none, rfl⟩ (fun _ _ _ _ _ => still0) ?_ ?_
  · rintro i d r W hd ⟨rfl, h0, z2, z6, z7, z8, rfl⟩
    obtain ⟨hi, rfl⟩ := rng0_get hd
    obtain ⟨z, gz⟩ := get_some (xs := wl) (i := i) hi
    have mz := List.mem_of_getElem? gz
    obtain ⟨w1, w2, _⟩ := B.wok z mz
    obtain ⟨p1, g1⟩ := get_some (xs := pl) (i := z.1) (by omega)
    obtain ⟨p2, g2⟩ := get_some (xs := pl) (i := z.2.1) (by omega)
    have hz1 := hz.z p1 (List.mem_of_getElem? g1)
    have hz2 := hz.z p2 (List.mem_of_getElem? g2)
    have hzz := B.wz z mz
    have eP : pW wl pl i = decide (p2.1 < p1.1 + p1.2 + z.2.2) := by
      unfold pW
      rw [gz]
      dsimp only
      rw [st_get g2, en_get g1]
    refine ⟨_, rfl, ?_⟩
    walk_at "hys"
    refine wx_ix (seq_loc NV.b) (atI_get (i := i) (x := waN z) (by rw [List.getElem?_map, gz]; rfl)) ?_
    unfold waN
    refine ⟨_, rfl, ?_⟩
    walk_at "hys"
    refine wps_ite ?_
    walk_at "hy"
    refine wx_ix (seq_loc hpV) (atI_get (i := z.2.1) (x := pr p2) (by rw [List.getElem?_map, g2]; rfl)) ?_
    unfold pr
    walk_at "hy"
    refine wx_ix (seq_loc h5) (atI_get (i := z.1) (ends g1)) ?_
    walk_at "hy"
    refine wp_val (plusL_ok fam.plus fam.low (hz1.1.add hz1.2) hzz (by decide) (by decide)) ?_
    walk_at "hy"
    refine wp_val (underL_ok fam.under hz2.1 ((hz1.1.add hz1.2).add hzz) (by decide) (by decide)) ?_
    walk_at "hy"
    refine ⟨fun cT => ?_, fun cF => ?_⟩
    · walk_at "hy"
      refine ⟨hagV, ?_⟩
      unfold bdF
      rw [eG, eS, fst_some hi (eP.trans cT) h0]
      rfl
    · walk_at "hy"
      exact ⟨rfl, step_to h0 (eP.trans cF), _, _, _, _, rfl⟩
  rintro r W ⟨rfl, h0, z2, z6, z7, z8, rfl⟩
  rw [rngi_len] at h0
  have eW : fstIx (pW wl pl) wl.length = none := fst_eq_none.2 h0
  clear h0
  walk_at "hys"
  refine wf_len (seq_loc NV.c) ?_
  rw [List.length_map]
  walk_at "hys"
  refine ⟨by have := B.hn; unfold okRng; simp; omega, ?_⟩
  rw [Int.toNat_natCast]
  refine forE_inv (fun i r V => V = W ∧ (∀ j, j < i → pH hl pl j = false) ∧ ∃ z2 z9 z10 z11, r = [some (.tup [.loc a, .loc b, .loc c, .loc e]), some (.loc np), z2, z3, z4, some (.loc ne), z6, z7, z8, z9, z10, z11, none, none]) ⟨rfl, (fun j hj => absurd hj (Nat.not_lt_zero _)), _, none, none, none, rfl⟩ (fun _ _ _ _ _ => still0) ?_ ?_
  · rintro i d r V hd ⟨rfl, h0, z2, z9, z10, z11, rfl⟩
    obtain ⟨hi, rfl⟩ := rng0_get hd
    obtain ⟨z, gz⟩ := get_some (xs := hl) (i := i) hi
    have mz := List.mem_of_getElem? gz
    have w1 := B.hok z mz
    obtain ⟨p, gp⟩ := get_some (xs := pl) (i := z.2.1) (by omega)
    have hpz := hz.z p (List.mem_of_getElem? gp)
    have hs := hpz.1.add hpz.2
    have hzz := B.hz z mz
    have eP : pH hl pl i = ((decide (z.1 = ("till" : Str)) && decide (z.2.2 < p.1)) || (decide (z.1 = ("by" : Str)) && decide (z.2.2 < p.1 + p.2)) || (decide (z.1 = ("from" : Str)) && decide (p.1 < z.2.2))) := by
      unfold pH
      rw [gz]
      dsimp only
      rw [st_get gp, en_get gp]
    have gp2 : (pl.map pr)[z.2.1]? = some (pr p) := by rw [List.getElem?_map, gp]; rfl
    have ret : pH hl pl i = true → (Ag (fun _ => False) S V ∧ D.tup [.str "hold", .int (i : Nat)] = brD (bdF ws wl hl (gr.map (·.2)) pl)) := fun h => by
      refine ⟨hagV, ?_⟩
      unfold bdF
      rw [eG, eS, eW, fst_some hi h h0]
      rfl
    refine ⟨_, rfl, ?_⟩
    walk_at "hys"
    refine wx_ix (seq_loc NV.c) (atI_get (i := i) (x := hoN z) (by rw [List.getElem?_map, gz]; rfl)) ?_
    unfold hoN
    refine ⟨_, rfl, ?_⟩
    refine wps_cons ?_
    refine wps_cut (fun r1 V' => V' = V ∧ (decide (z.1 = ("from" : Str)) && decide (p.1 < z.2.2)) = false ∧ r1 = [some (.tup [.loc a, .loc b, .loc c, .loc e]), some (.loc np), some (.int (i : Nat)), z3, z4, some (.loc ne), z6, z7, z8, some (.str z.1), some (.int (z.2.1 : Nat)), some (q z.2.2), none, none]) ?_ ?_
    · refine wps_ite ?_
      walk_at "hy"
      refine ⟨fun c1 => ?_, fun c1 => ?_⟩
      · walk_at "hy"
        refine wx_ix (seq_loc hpV) (atI_get gp2) ?_
        unfold pr
        walk_at "hy"
        refine wp_val (underL_ok fam.under hpz.1 hzz (by decide) (by decide)) ?_
        walk_at "hy"
        refine ⟨fun c2 => ?_, fun c2 => ?_⟩
        · walk_at "hy"
          exact ret (by rw [eP, c1, c2, Bool.true_and, Bool.or_true])
        · walk_at "hy"
          exact ⟨rfl, by rw [c1, c2]; rfl, rfl⟩
      · walk_at "hy"
        exact ⟨rfl, by rw [c1]; rfl, rfl⟩
    rintro r1 V' ⟨rfl, eF, rfl⟩
    rw [eF, Bool.or_false] at eP
    walk_at "hys"
    refine wps_ite ?_
    walk_at "hy"
    have rest : (decide (z.1 = ("till" : Str)) && decide (z.2.2 < p.1)) = false → Wp (evT (callN G (k + 2)) (.bor (.cons (.band (.cons (.cmp .eq (.var 9) (.str "by")) (.cons (.call 1006 (.cons (.var 11) (.cons (.ix (.var 5) (.var 10)) .nil))) .nil))) .nil)) [some (.tup [.loc a, .loc b, .loc c, .loc e]), some (.loc np), some (.int (i : Nat)), z3, z4, some (.loc ne), z6, z7, z8, some (.str z.1), some (.int (z.2.1 : Nat)), some (q z.2.2), none, none] V') fun b S' => S' = V' ∧ b = pH hl pl i := fun e => by
      rw [e, Bool.false_or] at eP
      walk_at "hy"
      refine ⟨fun c1 => ?_, fun c1 => ?_⟩
      · rw [c1, Bool.true_and] at eP
        walk_at "hy"
        refine wx_ix (seq_loc h5) (atI_get (i := z.2.1) (ends gp)) ?_
        walk_at "hy"
        refine wp_val (underL_ok fam.under hzz hs (by decide) (by decide)) ?_
        walk_at "hy"
        exact ⟨rfl, eP.symm⟩
      · rw [c1, Bool.false_and] at eP
        exact ⟨rfl, eP.symm⟩
    refine ⟨fun c1 => ?_, fun c1 => ?_⟩
    · walk_at "hy"
      refine wx_ix (seq_loc hpV) (atI_get gp2) ?_
      unfold pr
      walk_at "hy"
      refine wp_val (underL_ok fam.under hzz hpz.1 (by decide) (by decide)) ?_
      walk_at "hy"
      refine ⟨fun c2 => ?_, fun c2 => ?_⟩
      · walk_at "hy"
        exact ret (by rw [eP, c1, c2]; rfl)
      · refine wp_mono (rest (by rw [c1, c2]; rfl)) ?_
        rintro bb _ ⟨rfl, rfl⟩
        refine ⟨fun c3 => ?_, fun c3 => ?_⟩
        · walk_at "hy"
          exact ret c3
        · walk_at "hy"
          exact ⟨rfl, step_to h0 c3, _, _, _, _, rfl⟩
    · refine wq_ff ?_
      refine wp_mono (rest (by rw [c1]; rfl)) ?_
      rintro bb _ ⟨rfl, rfl⟩
      refine ⟨fun c3 => ?_, fun c3 => ?_⟩
      · walk_at "hy"
        exact ret c3
      · walk_at "hy"
        exact ⟨rfl, step_to h0 c3, _, _, _, _, rfl⟩
  rintro r V ⟨rfl, h0, z2, z9, z10, z11, rfl⟩
  rw [rngi_len] at h0
  have eH : fstIx (pH hl pl) hl.length = none := fst_eq_none.2 h0
  walk_at "hys"
  refine ⟨hagV, ?_⟩
  unfold bdF
  rw [eG, eS, eW, eH]
  rfl
end
end K12
end HP
namespace HP
open PySem L2
namespace K12
theorem owD_ne (w : Option Rat) : noExc (owD w) = true := by cases w <;> rfl
section
variable {k : Nat} {S : Sto} {a b c e np l n0 : Nat} {ws : List Wk} {wl : List Wt} {hl : List Hd3} {pl : List (Rat × Rat)} {gr : List (Nat × List Nat)} {w : Option Rat}
/-- groups that can be asked -/
structure GB (ws : List Wk) (gr : List (Nat × List Nat)) : Prop where
  len : gr.length ≤ 100
  g : ∀ g ∈ gr, g.2 ≠ [] ∧ g.2.length ≤ 100 ∧ ∀ x ∈ g.2, x < ws.length ∧ ∀ w, ws[x]? = some w → w.kd = ("steps" : Str)
theorem GB_of (B : NetB ws wl hl gr) : GB ws gr := ⟨by have := B.grl; omega, fun g m => by
  have G := B.grs g m
  exact ⟨fun e => by have := G.two; rw [e] at this; exact absurd this (by decide), by have := G.three; omega, fun x mx => ⟨(G.at_ x mx).1, fun w gw => ((G.at_ x mx).2 w gw).1⟩⟩⟩
theorem GB.same {vs : List Wk} {gr' : List (Nat × List Nat)} (B : GB ws gr) (h : Same ws vs) (hg : gr'.map (·.2) = gr.map (·.2)) : GB vs gr' := by
  have hl : gr'.length = gr.length := by have := congrArg List.length hg; rw [List.length_map, List.length_map] at this; exact this
  refine ⟨by rw [hl]; exact B.len, fun g' m => ?_⟩
  have m2 : g'.2 ∈ gr'.map (·.2) := List.mem_map.2 ⟨g', m, rfl⟩
  rw [hg] at m2
  obtain ⟨g, mg, eg⟩ := List.mem_map.1 m2
  obtain ⟨q1, q2, q3⟩ := B.g g mg
  rw [← eg]
  refine ⟨q1, q2, fun x mx => ⟨by rw [h.len]; exact (q3 x mx).1, fun v gv => ?_⟩⟩
  obtain ⟨w, gw, _, e2, _⟩ := h.get gv
  rw [e2]
  exact (q3 x mx).2 w gw
theorem off_at (B : GB ws gr) (hn : pl.length = ws.length) (hT : fstIx (pT ws pl) ws.length = none) : ∀ g ∈ gr, 0 < g.2.length ∧ g.2.length ≤ 100 ∧ ∀ x ∈ g.2, ∃ w p, ws[x]? = some w ∧ pl[x]? = some p ∧ ∃ c ∈ w.cs, c.1 = p.2 := fun g m => by
  obtain ⟨g1, g2, g3⟩ := B.g g m
  refine ⟨List.length_pos_iff.2 g1, g2, fun x mx => ?_⟩
  obtain ⟨x1, x2⟩ := g3 x mx
  obtain ⟨w, gw⟩ := get_some (xs := ws) (i := x) x1
  obtain ⟨p, gp⟩ := get_some (xs := pl) (i := x) (by omega)
  refine ⟨w, p, gw, gp, ?_⟩
  have ho := fst_eq_none.1 hT x x1
  unfold pT at ho
  rw [gw, gp] at ho
  dsimp only at ho
  unfold offeredB at ho
  rw [if_pos (x2 w gw), Bool.not_eq_false', List.any_eq_true] at ho
  obtain ⟨c, mc, ec⟩ := ho
  exact ⟨c, mc, of_decide_eq_true ec⟩
/-- the first broken wish of all -/
abbrev allF (ws : List Wk) (wl : List Wt) (hl : List Hd3) (gs : List (List Nat)) (pl : List (Rat × Rat)) (w : Option Rat) : Option (Str × Nat) := brF ws wl hl pl (fstIx (pG ws pl gs) gs.length) w
theorem fbg_ok (N : NAtB S n0 a b c e ws wl hl gr) (B : NB ws wl hl) (BG : GB ws gr) (hp : S[np]? = some (.lst (pl.map pr))) (hn : pl.length = ws.length) (hz : PlSz pl) (hu : ∀ u, w = some u → Sz 3000 4000 u) :
    Wp (callN G (k + 5) 53 [.tup [.loc a, .loc b, .loc c, .loc e], .loc np, owD w] S) fun d S' => Ag (fun _ => False) S S' ∧ d = brD (allF ws wl hl (gr.map (·.2)) pl w) := by
  refine first_broken_ok (k := k) (w := w) N.a N.b N.c (fun w m => ⟨(B.wk w m).1, (B.wk w m).2.1, (B.wk w m).2.2, (N.wk w m).2⟩) hp hz hn (by have := B.len; omega) B.wz (by rw [hn]; exact B.wok) B.hz (by rw [hn]; exact B.hok) hu (fun S1 hag hT => ?_)
  have N1 := N.ag0 hag
  refine wp_mono (broken_group_ok N1.a N1.e (fun g m => (N1.g g m).2) (fun w m => ⟨Nat.le_of_lt (B.wk w m).2.1, (N1.wk w m).2⟩) (hag.get hp id) (off_at BG hn hT)) ?_
  rintro d S' ⟨h1, h2⟩
  rw [List.length_map]
  exact ⟨h1, h2⟩
theorem due_ok (N : NAtB S n0 a b c e ws wl hl gr) (B : NB ws wl hl) (BG : GB ws gr) (hp : S[np]? = some (.lst (pl.map pr))) (hn : pl.length = ws.length) (hz : PlSz pl) (hu : ∀ u, w = some u → Sz 3000 4000 u) :
    Wp (callN G (k + 4) 1024 [.tup [.loc a, .loc b, .loc c, .loc e], .loc np, owD w] S) fun d S' => Ag (fun _ => False) S S' ∧ d = brD (allF ws wl hl (gr.map (·.2)) pl w) := by
  have hw100 := B.len
  have hne := owD_ne w
  refine wp_def (fn := L_law_due) rfl rfl ?_
  unfold L_law_due
  walk_at "hp0"
  walk_at "hys"
  rw [List.length_map]
  refine ⟨by unfold okRng; simp; omega, ?_⟩
  rw [Int.toNat_natCast]
  refine forE_inv (fun i r T => Ag (fun _ => False) S T ∧ (∀ j, j < i → pT ws pl j = false) ∧ ∃ z3, r = [some (.tup [.loc a, .loc b, .loc c, .loc e]), some (.loc np), some (owD w), z3, none]) ⟨Ag.rfl, (fun j hj => absurd hj (Nat.not_lt_zero _)), none, rfl⟩ (fun _ _ _ _ _ => still0) ?_ ?_
  · rintro i d r T hd ⟨hagT, h0, z3, rfl⟩
    obtain ⟨hi, rfl⟩ := rng0_get hd
    obtain ⟨v, gv⟩ := get_some (xs := ws) (i := i) (by omega)
    obtain ⟨p, gp⟩ := get_some (xs := pl) (i := i) hi
    have mv := List.mem_of_getElem? gv
    have hpz := hz.z p (List.mem_of_getElem? gp)
    have NT := N.ag0 hagT
    have eP : pT ws pl i = !offeredB v.kd v.cs p.2 := by unfold pT; rw [gv, gp]
    refine ⟨_, rfl, ?_⟩
    walk_at "hys"
    refine wps_ite ?_
    walk_at "hy"
    refine wx_ix (seq_loc NT.a) (atI_get (i := i) (x := wkD v) (by rw [List.getElem?_map, gv]; rfl)) ?_
    unfold wkD
    walk_at "hy"
    refine wx_ix (seq_loc (hagT.get hp id)) (atI_get (i := i) (x := pr p) (by rw [List.getElem?_map, gp]; rfl)) ?_
    unfold pr
    walk_at "hy"
    refine wp_mono (offeredL_ok (k := k + 1) (NT.wk v mv).2 (B.wk v mv).2.2 hpz.2 (B.wk v mv).2.1 (B.wk v mv).1) ?_
    rintro _ T1 ⟨hag1, rfl⟩
    walk_at "hy"
    rw [← eP]
    refine ⟨fun cT => ?_, fun cF => ?_⟩
    · walk_at "hy"
      refine ⟨hagT.trans hag1, ?_⟩
      unfold allF brF brG
      rw [fst_some (by omega) cT h0]
      cases w <;> rfl
    · walk_at "hy"
      exact ⟨hagT.trans hag1, step_to h0 cF, _, rfl⟩
  rintro r T ⟨hagT, h0, z3, rfl⟩
  rw [rngi_len, hn] at h0
  have eT : fstIx (pT ws pl) ws.length = none := fst_eq_none.2 h0
  have NT := N.ag0 hagT
  walk_at "hys"
  refine wp_mono (bound_ok (k := k) NT B (hagT.get hp id) hn hz BG.len (off_at BG hn eT)) ?_
  rintro _ T1 ⟨hag1, rfl⟩
  have hag := hagT.trans hag1
  have hp1 := hag.get hp id
  generalize hbd : bdF ws wl hl (gr.map (·.2)) pl = bd at *
  have eA : allF ws wl hl (gr.map (·.2)) pl w = brG pl w bd := by
    rw [← hbd]
    unfold allF brF bdF
    rw [eT]
    rfl
  have hbn := brD_ne bd
  walk_at "hys"
  refine wps_ite ?_
  walk_at "hy"
  refine wc_isn (is_non bd) ?_
  walk_at "hy"
  cases bd with
  | some y =>
    refine wq_tt ?_
    walk_at "hy"
    refine ⟨hag, ?_⟩
    rw [eA]
    cases w <;> rfl
  | none =>
    refine wq_ff ?_
    walk_at "hy"
    cases w with
    | none =>
      walk_at "hy"
      refine wc_is rfl ?_
      walk_at "hy"
      exact ⟨hag, by rw [eA]; rfl⟩
    | some u =>
      have huz := hu u rfl
      have eA : allF ws wl hl (gr.map (·.2)) pl (some u) = orB none "whole" (fstIx (pE pl u) pl.length) := eA
      have oq : owD (some u) = q u := rfl
      rw [oq]
      walk_at "hy"
      refine wc_is rfl ?_
      walk_at "hy"
      rw [List.length_map]
      refine ⟨by unfold okRng; simp; omega, ?_⟩
      rw [Int.toNat_natCast]
      refine forE_inv (fun i r U => U = T1 ∧ (∀ j, j < i → pE pl u j = false) ∧ ∃ z3, r = [some (.tup [.loc a, .loc b, .loc c, .loc e]), some (.loc np), some (q u), z3, some .non]) ⟨rfl, (fun j hj => absurd hj (Nat.not_lt_zero _)), _, rfl⟩ (fun _ _ _ _ _ => still0) ?_ ?_
      · rintro i d r U hd ⟨rfl, h0, z3, rfl⟩
        obtain ⟨hi, rfl⟩ := rng0_get hd
        obtain ⟨p, gp⟩ := get_some (xs := pl) (i := i) hi
        have hpz := hz.z p (List.mem_of_getElem? gp)
        have gp2 : (pl.map pr)[i]? = some (pr p) := by rw [List.getElem?_map, gp]; rfl
        have eP : pE pl u i = decide (u < p.1 + p.2) := by unfold pE; rw [en_get gp]
        refine ⟨_, rfl, ?_⟩
        walk_at "hys"
        refine wps_ite ?_
        walk_at "hy"
        refine wx_ix (seq_loc hp1) (atI_get gp2) ?_
        unfold pr
        walk_at "hy"
        refine wx_ix (seq_loc hp1) (atI_get gp2) ?_
        unfold pr
        walk_at "hy"
        refine wp_val (plusL_ok fam.plus fam.low hpz.1 hpz.2 (by decide) (by decide)) ?_
        walk_at "hy"
        refine wp_val (underL_ok fam.under huz (hpz.1.add hpz.2) (by decide) (by decide)) ?_
        walk_at "hy"
        refine ⟨fun cT => ?_, fun cF => ?_⟩
        · walk_at "hy"
          refine ⟨hag, ?_⟩
          rw [eA, fst_some hi (eP.trans cT) h0]
          rfl
        · walk_at "hy"
          exact ⟨rfl, step_to h0 (eP.trans cF), _, rfl⟩
      · rintro r U ⟨rfl, h0, z3, rfl⟩
        rw [rngi_len] at h0
        walk_at "hys"
        refine ⟨hag, ?_⟩
        rw [eA, fst_eq_none.2 h0]
        rfl
end
end K12
end HP
namespace HP
open PySem L2
namespace K12
section
variable {k : Nat} {S : Sto} {a b c e np l n0 : Nat} {ws : List Wk} {wl : List Wt} {hl : List Hd3} {pl : List (Rat × Rat)} {gr : List (Nat × List Nat)}
/-- a hold that can stand in the drawn net -/
abbrev HdO (n : Nat) (h : Hd3) : Prop := (h.2.1 < n ∧ (h.1 = ("from" : Str) ∨ h.1 = ("till" : Str) ∨ h.1 = ("by" : Str))) ∧ V 110 h.2.2 ∧ h.2.2.den ∣ LC
theorem netAt_c {c' : Nat} {hl' : List Hd3} (N : NAtB S n0 a b c e ws wl hl gr) (h : S[c']? = some (.lst (hl'.map hoN))) (hc : n0 ≤ c') : NAtB S n0 a b c' e ws wl hl' gr :=
  { N with lo := ⟨N.lo.1, N.lo.2.1, hc, N.lo.2.2.2⟩, c := h }
theorem e16_q : D.tup [.int 10000000000000000, .int 1] = q 10000000000000000 := by
  have h1 : (10000000000000000 : Rat).num = 10000000000000000 := by decide +kernel
  have h2 : (10000000000000000 : Rat).den = 1 := by decide +kernel
  unfold q
  rw [h1, h2]; rfl
theorem e16_sz : Sz 60 0 (10000000000000000 : Rat) := by
  have h1 : (10000000000000000 : Rat).num = 10000000000000000 := by decide +kernel
  have h2 : (10000000000000000 : Rat).den = 1 := by decide +kernel
  exact ⟨by rw [h1, h2]; decide, by rw [h2]; decide⟩
theorem held_ok (hst : StAt l S) (hl0 : l < n0) (N : NAtB S n0 a b c e ws wl hl gr) (B : NetB ws wl hl gr) :
    Wp (callN G (k + 4) 1023 [.loc l, .tup [.loc a, .loc b, .loc c, .loc e]] S) fun d S' => StAt l S' ∧ Ag (· = l) S S' ∧ ∃ (c' : Nat) (hl' : List Hd3), d = .tup [.loc a, .loc b, .loc c', .loc e] ∧ NAtB S' n0 a b c' e ws wl hl' gr ∧ NetB ws wl hl' gr := by
  have hls := stAt_lt hst
  have h1 := B.one
  have h10 := B.ten
  have hcl : c ≠ l := by have := N.lo.2.2.1; omega
  have hal : a ≠ l := by have := N.lo.1; omega
  refine wp_def (fn := L_law_held) rfl rfl ?_
  unfold L_law_held
  walk_at "hp0"
  walk_at "hys"
  refine wf_list (seq_loc N.c) ?_
  walk_at "hys"
  have hA : Ag (fun _ => False) S (S ++ [.lst (hl.map hoN)]) := Ag.app
  refine wps_whl (n := 40 - hl.length) (fun w r T => StAt l T ∧ Ag (· = l) S T ∧ ∃ (hs : List Hd3) (z3 z4 : Option D), r = [some (.loc l), some (.tup [.loc a, .loc b, .loc c, .loc e]), some (.loc S.length), z3, z4, none] ∧ T[S.length]? = some (.lst (hs.map hoN)) ∧ w = 40 - hs.length ∧ hs.length ≤ 40 ∧ ∀ h ∈ hs, HdO ws.length h) ⟨hst.ag hA id, hA.mono (fun i h => h.elim), hl, none, none, rfl, app_get, rfl, B.hol, fun h m => ⟨B.hok h m, B.hos h m⟩⟩ ?_
  rintro w r T ⟨hstT, hag, hs, z3, z4, rfl, hT, rfl, hs40, hok⟩
  walk_at "hy"
  rw [List.length_map]
  refine wq_dec (fun c1 => ?_) (fun c1 => ?_)
  · have c1 : ((hs.length : Nat) : Int) < 40 := c1
    walk_at "hys"
    have hA1 : Ag (fun _ => False) T (T ++ [.lst [.str "from", .str "till", .str "by"]]) := Ag.app
    have k1 : (T ++ [.lst [.str "from", .str "till", .str "by"]])[T.length]? = some (.lst [.str "from", .str "till", .str "by"]) := app_get
    have hst1 := hstT.ag hA1 id
    have hT1 := hA1.get hT id
    have hag1 := hag.trans (hA1.mono fun i h => h.elim)
    have hlT := stAt_lt hstT
    generalize T ++ [O.lst [.str "from", .str "till", .str "by"]] = T1 at *
    generalize T.length = nk at *
    refine wp_mono (fam.take _ _ _ _ hst1 (by decide) (by decide)) ?_
    rintro _ T2 ⟨hst2, hag2, y, rfl, hy0, hy1⟩
    obtain ⟨kd, gk, hkd⟩ : ∃ kd : Str, atI [D.str "from", .str "till", .str "by"] y = some (.str kd) ∧ (kd = ("from" : Str) ∨ kd = ("till" : Str) ∨ kd = ("by" : Str)) := by
      rcases (show y = 0 ∨ y = 1 ∨ y = 2 by omega) with rfl | rfl | rfl
      · exact ⟨"from", rfl, Or.inl rfl⟩
      · exact ⟨"till", rfl, Or.inr (Or.inl rfl)⟩
      · exact ⟨"by", rfl, Or.inr (Or.inr rfl)⟩
    refine wx_ix (seq_loc (hag2.get k1 (by omega))) gk ?_
    walk_at "hys"
    refine wp_mono (amount_ok fam.amount fam.take fam.low hst2 (by decide) (by decide)) ?_
    rintro _ T3 ⟨hst3, hag3, x, rfl, _, _, hx, _⟩
    have hag13 := (hag1.trans hag2).trans hag3
    have hT3 := (hag2.trans hag3).get hT1 (by omega)
    walk_at "hys"
    refine wps_cut (fun r1 U => U = T3 ∧ ∃ m : Rat, (V 110 m ∧ m.den ∣ LC) ∧ r1 = [some (.loc l), some (.tup [.loc a, .loc b, .loc c, .loc e]), some (.loc S.length), some (.str kd), some (q m), none]) ?_ ?_
    · refine wps_ite ?_
      walk_at "hy"
      refine wq_dec (fun _ => ?_) (fun _ => ?_)
      · walk_at "hy"
        refine wp_val (show callN G (k + 3) 1004 [.tup [.int 0, .int 1], q x] T3 = .ok (q (0 - x)) T3 from minusL_ok (x := 0) fam.minus fam.low sz0 hx (by decide) (by decide)) ?_
        walk_at "hy"
        exact ⟨rfl, _, ⟨V.mono (sz0.sub hx).v (by decide), dvd_sub LC0 ⟨LC, (Nat.one_mul _).symm⟩ (sz_LC hx)⟩, rfl⟩
      · walk_at "hy"
        have e1 : (10 : Int) ^ Int.toNat 16 = 10000000000000000 := by decide
        rw [e1, e16_q]
        refine wp_val (plusL_ok fam.plus fam.low hx e16_sz (by decide) (by decide)) ?_
        walk_at "hy"
        exact ⟨rfl, _, ⟨V.mono (hx.add e16_sz).v (by decide), dvd_add LC0 (sz_LC hx) (sz_LC (e16_sz.mono (Nat.le_refl _) (by decide)))⟩, rfl⟩
    rintro r1 U ⟨rfl, m, hm, rfl⟩
    walk_at "hys"
    refine ⟨isL_loc hT3, ?_⟩
    walk_at "hys"
    refine wf_len (seq_loc (hag13.get N.a hal)) ?_
    rw [List.length_map]
    walk_at "hys"
    refine wp_mono (fam.take _ _ _ _ hst3 (by omega) (Nat.le_trans (m := 100) (by omega) (by decide))) ?_
    rintro _ U2 ⟨hstU, hagU, v, rfl, hv0, hv1⟩
    obtain ⟨j, rfl, hj⟩ := int_nat hv0 hv1
    have hU := hagU.get hT3 (by omega)
    walk_at "hys"
    refine wm_append hU (by rw [List.length_map]; show hs.length < 16777216; omega) ?_
    have hC := Ag.set (P := (· = S.length)) (S := U2) (o := .lst (hs.map hoN ++ [.tup [.str kd, .int (j : Nat), q m]])) (Or.inl rfl)
    walk_at "hys"
    refine ⟨40 - (hs.length + 1), by omega, hstU.ag hC (by omega), (hag13.trans hagU).new (hC.mono fun i h => Or.inr (by have h : i = S.length := h; omega)), hs ++ [(kd, j, m)], _, _, rfl, by rw [set_get hU, List.map_append]; rfl, by rw [List.length_append]; rfl, by rw [List.length_append]; show _ + 1 ≤ 40; omega, fun h mh => ?_⟩
    rcases List.mem_append.1 mh with mh | mh
    · exact hok h mh
    · rw [List.mem_singleton.1 mh]; exact ⟨⟨hj, hkd⟩, hm⟩
  · walk_at "hys"
    refine wp_mono (fam.take _ _ _ _ hstT (by decide) (by decide)) ?_
    rintro _ T2 ⟨hst2, hag2, y, rfl, hy0, hy1⟩
    have c1 : ¬((hs.length : Nat) : Int) < 40 := c1
    have h40 : hs.length = 40 := by omega
    obtain ⟨j, rfl, hj⟩ : ∃ j : Nat, y = j ∧ j < 40 := ⟨y.toNat, by omega, by omega⟩
    have hT2 := hag2.get hT (by omega)
    have hag02 := hag.trans hag2
    walk_at "hys"
    refine ws_lst (lst_loc hT2) ?_
    rw [cut_end (by rw [List.length_map]; omega)]
    have hA3 : Ag (fun _ => False) T2 (T2 ++ [.lst ((hs.map hoN).drop j)]) := Ag.app
    have k3 : (T2 ++ [.lst ((hs.map hoN).drop j)])[T2.length]? = some (.lst ((hs.map hoN).drop j)) := app_get
    have hT3 := hA3.get hT2 id
    have hst3 := hst2.ag hA3 id
    have hag03 := hag02.trans (hA3.mono fun i h => h.elim)
    generalize T2 ++ [O.lst ((hs.map hoN).drop j)] = T3 at *
    generalize T2.length = n2 at *
    walk_at "hys"
    refine ws_lst (lst_loc hT3) ?_
    rw [cut_start (by rw [List.length_map]; omega)]
    have hA4 : Ag (fun _ => False) T3 (T3 ++ [.lst ((hs.map hoN).take j)]) := Ag.app
    have k4 : (T3 ++ [.lst ((hs.map hoN).take j)])[T3.length]? = some (.lst ((hs.map hoN).take j)) := app_get
    have k34 := hA4.get k3 id
    have hst4 := hst3.ag hA4 id
    have hag04 := hag03.trans (hA4.mono fun i h => h.elim)
    generalize T3 ++ [O.lst ((hs.map hoN).take j)] = T4 at *
    generalize T3.length = n3 at *
    walk_at "hys"
    have hlen : ((hs.drop j) ++ (hs.take j)).length = 40 := by rw [List.length_append, List.length_drop, List.length_take]; omega
    have emap : (hs.map hoN).drop j ++ (hs.map hoN).take j = ((hs.drop j) ++ (hs.take j)).map hoN := by rw [List.map_append, List.map_drop, List.map_take]
    refine wb_addl k34 k4 (by rw [← List.length_append, emap, List.length_map, hlen]; decide) ?_
    rw [emap]
    have hA5 : Ag (fun _ => False) T4 (T4 ++ [.lst (((hs.drop j) ++ (hs.take j)).map hoN)]) := Ag.app
    have hlT4 := stAt_lt hst4
    have hlo := N.lo.2.2.1
    have hag4l := hag04.1
    have hcS := get_lt N.c
    walk_at "hys"
    refine ⟨hst4.ag hA5 id, hag04.trans (hA5.mono fun i h => h.elim), _, (hs.drop j) ++ (hs.take j), rfl, netAt_c ((N.ag hag04 (fun i h => by have h : i = l := h; omega)).ag0 hA5) app_get (by omega), ?_⟩
    have hok2 : ∀ h ∈ (hs.drop j) ++ (hs.take j), HdO ws.length h := fun h m => hok h ((List.mem_append.1 m).elim List.mem_of_mem_drop List.mem_of_mem_take)
    exact { B with hol := by omega, hok := fun h m => (hok2 h m).1, hos := fun h m => (hok2 h m).2 }
end
end K12
end HP
namespace HP
open PySem L2
namespace K12
/-- the state's place is none of the net's -/
structure Apart (l a b c e : Nat) (ws : List Wk) (gr : List (Nat × List Nat)) : Prop where
  a : a ≠ l
  b : b ≠ l
  c : c ≠ l
  e : e ≠ l
  w : ∀ w ∈ ws, w.lc ≠ l
  g : ∀ g ∈ gr, g.1 ≠ l
theorem agl {S S' : Sto} {n0 l a b c e : Nat} {ws : List Wk} {wl : List Wt} {hl : List Hd3} {gr : List (Nat × List Nat)} (h : NAtB S n0 a b c e ws wl hl gr) (k : Ag (· = l) S S') (d : Apart l a b c e ws gr) : NAtB S' n0 a b c e ws wl hl gr :=
  ⟨h.lo, k.get h.a d.a, k.get h.b d.b, k.get h.c d.c, k.get h.e d.e, fun w m => ⟨(h.wk w m).1, k.get (h.wk w m).2 (d.w w m)⟩, fun g m => ⟨(h.g g m).1, k.get (h.g g m).2 (d.g g m)⟩⟩
theorem apart_new {S : Sto} {n0 l a b c e : Nat} {ws : List Wk} {wl : List Wt} {hl : List Hd3} {gr : List (Nat × List Nat)} (h : NAtB S n0 a b c e ws wl hl gr) (hl0 : S.length ≤ l) : Apart l a b c e ws gr := by
  have q : ∀ {i : Nat} {o : O}, S[i]? = some o → i ≠ l := fun g => by have := get_lt g; omega
  exact ⟨q h.a, q h.b, q h.c, q h.e, fun w m => q (h.wk w m).2, fun g m => q (h.g g m).2⟩
section
variable {k : Nat} {S : Sto}
theorem set_cut {A : Type} {xs : List A} {w : Nat} {x : A} (h : w < xs.length) : xs.take w ++ [x] ++ xs.drop (w + 1) = xs.set w x := by
  rw [List.set_eq_take_append_cons_drop, if_pos h, List.append_assoc]
  rfl
/-- one thing of a list put otherwise -/
theorem cut3 {cc : Call} {r : Ev} {np w : Nat} {xs : List D} {x : E} {d : D} {iP iW : Nat} {Q : D → Sto → Prop} (rP : r[iP]? = some (some (.loc np))) (rW : r[iW]? = some (some (.int (w : Nat)))) (hp : S[np]? = some (.lst xs)) (hw : w < xs.length) (hl : xs.length ≤ 1000)
    (hx : ∀ (T : Sto) (Q : D → Sto → Prop), Ag (fun _ => False) S T → Q d T → Wp (evE cc x r T) Q) (q : ∀ T, Ag (fun _ => False) S T → ∀ n, S.length ≤ n → T[n]? = some (.lst (xs.set w d)) → Q (.loc n) T) :
    Wp (evE cc (.bin .add (.bin .add (.sl (.var iP) .none (.some (.var iW))) (.lst (.cons x .nil))) (.sl (.var iP) (.some (.bin .add (.var iW) (.int 1))) .none)) r S) Q := by
  refine wp_bin (wp_bin (wp_sl (wp_var rP rfl (wp_oN (wp_oS (wp_var rW rfl ⟨_, rfl, ?_⟩)))))) 
  refine ws_lst (lst_loc hp) ?_
  rw [cut_start (Nat.le_of_lt hw)]
  have hA1 : Ag (fun _ => False) S (S ++ [.lst (xs.take w)]) := Ag.app
  have h1 : (S ++ [.lst (xs.take w)])[S.length]? = some (.lst (xs.take w)) := app_get
  generalize S ++ [O.lst (xs.take w)] = S1 at *
  refine wp_lst (wp_cons (hx S1 _ hA1 (wp_nil ?_)))
  have hA2 : Ag (fun _ => False) S1 (S1 ++ [.lst [d]]) := Ag.app
  have h2 : (S1 ++ [.lst [d]])[S1.length]? = some (.lst [d]) := app_get
  have h12 := hA2.get h1 id
  have hl1 := hA1.1
  have hAA := hA1.trans hA2
  generalize S1 ++ [O.lst [d]] = S2 at *
  refine wb_addl h12 h2 (by rw [List.length_take]; show _ + 1 ≤ 16777216; omega) ?_
  have hA3 : Ag (fun _ => False) S2 (S2 ++ [.lst (xs.take w ++ [d])]) := Ag.app
  have h3 : (S2 ++ [.lst (xs.take w ++ [d])])[S2.length]? = some (.lst (xs.take w ++ [d])) := app_get
  have hAA := hAA.trans hA3
  generalize S2 ++ [O.lst (xs.take w ++ [d])] = S3 at *
  refine wp_sl (wp_var rP rfl (wp_oS (wp_bin (wp_var rW rfl (wp_int (wb_add ⟨_, rfl, wp_oN ?_⟩))))))
  refine ws_lst (lst_loc (hAA.get hp id)) ?_
  have ecut : cutL xs (some ((w : Int) + 1)) none = xs.drop (w + 1) := cut_end (j := w + 1) (by omega)
  rw [ecut]
  have hA4 : Ag (fun _ => False) S3 (S3 ++ [.lst (xs.drop (w + 1))]) := Ag.app
  have h4 : (S3 ++ [.lst (xs.drop (w + 1))])[S3.length]? = some (.lst (xs.drop (w + 1))) := app_get
  have h34 := hA4.get h3 id
  have hAA := hAA.trans hA4
  generalize S3 ++ [O.lst (xs.drop (w + 1))] = S4 at *
  refine wb_addl h34 h4 (by rw [← List.length_append, set_cut hw, List.length_set]; show _ ≤ 16777216; omega) ?_
  rw [set_cut hw]
  exact q _ (hAA.trans Ag.app) _ hAA.1 app_get
theorem ne_nil {c n : Nat} {hl : List Hd3} {Q : D → Sto → Prop} (h : S[c]? = some (.lst (hl.map hoN))) (hn : S[n]? = some (.lst [])) (hl40 : hl.length ≤ 40) (hk : ∀ h ∈ hl, h.1 = ("from" : Str) ∨ h.1 = ("till" : Str) ∨ h.1 = ("by" : Str)) (q : Q (.bl (!hl.isEmpty)) S) : Wp (cmpD S .ne (.loc c) (.loc n)) Q := by
  have L := lay_hos (wl := hl.map chI) (fun w m => by obtain ⟨h, mh, rfl⟩ := List.mem_map.1 m; exact kinds_ok (hk h mh)) (by rw [List.length_map]; exact hl40)
  refine wc_ne (eq_loc (P := fun _ => True) (P' := fun _ => True) (x := .list ((hl.map chI).map hoP)) (y := .list []) (dt_lst (g := hoD) (by rw [ch_map]; exact h) trivial fun x _ => dt_ho x) ⟨_, Or.inr ⟨_, rfl, trivial, hn⟩, rfl⟩ L.cmp (cmp_list (f := hoP) (xs := []) (n := 20) (fun w m => nomatch m) (by decide))) ?_
  · have e : PyData.eqv (.list ((hl.map chI).map hoP)) (.list []) = hl.isEmpty := by
      cases hl with
      | nil => rfl
      | cons _ _ => rfl
    rw [e]; exact q
end
section
variable {S : Sto}
/-- times drawn, one a work -/
theorem times_lc {k l n0 a : Nat} {ws : List Wk} {r : Ev} {i2 i7 i8 : Nat} {b c e : Nat} {wl : List Wt} {hl : List Hd3} {gr : List (Nat × List Nat)} {Q : D → Sto → Prop} (hst : StAt l S) (hd0 : Apart l a b c e ws gr) (N : NAtB S n0 a b c e ws wl hl gr) (B : ∀ w ∈ ws, WkOk w ∧ WkLc w) (h10 : ws.length ≤ 10)
    (hbody : ∀ (w : Wk) (T : Sto), ∃ r1, asgT (.tup (.cons (.name i7) (.cons (.name i8) .nil))) (wkD w) (wipeD r [i7, i8]) = some r1 ∧ r1[i2]? = some (some (.loc l)) ∧ r1[i8]? = some (some (.tup [.str w.kd, .loc w.lc])))
    (hq : ∀ T (ts : List Rat), StAt l T → Ag (· = l) S T → T[S.length]? = some (.lst (ts.map q)) → ts.length = ws.length → (∀ t ∈ ts, V 103 t ∧ t.den ∣ LC12N) → Q (.loc S.length) T) :
    Wp (compE (callN G (k + 3)) (.call 1019 (.cons (.var i2) (.cons (.var i8) .nil))) (.tup (.cons (.name i7) (.cons (.name i8) .nil))) .none [i7, i8] r S.length (ws.map wkD, [(a, ws.map wkD)]) (S ++ [.lst []])) Q := by
  have hls := stAt_lt hst
  have hal : a ≠ l := hd0.a
  refine compE_inv (fun i T => StAt l T ∧ Ag (· = l) S T ∧ ∃ ts : List Rat, T[S.length]? = some (.lst (ts.map q)) ∧ ts.length = i ∧ ∀ t ∈ ts, V 103 t ∧ t.den ∣ LC12N) ⟨hst.ag (P := fun _ => False) Ag.app id, Ag.app, [], app_get, rfl, fun t m => nomatch m⟩ (fun i T _ hh => still1 (hh.2.1.get N.a hal)) ?_ ?_
  · rintro i d T hd ⟨hstT, hag, ts, hT, hlen, hts⟩
    rw [List.getElem?_map, Option.map_eq_some_iff] at hd
    obtain ⟨w, gw, rfl⟩ := hd
    have mw := List.mem_of_getElem? gw
    have hi := (List.getElem?_eq_some_iff.1 gw).1
    obtain ⟨r1, e1, e2, e3⟩ := hbody w T
    have hwlc : w.lc ≠ l := hd0.w w mw
    refine ⟨r1, e1, wpc_none ⟨fun _ => ?_, nofun⟩⟩
    refine wp_call (wp_cons (wp_var e2 rfl (wp_cons (wp_var e3 rfl (wp_nil ?_)))))
    refine wp_mono (timeP_ok (k := k) fam g_time hstT (hag.get (N.wk w mw).2 hwlc) hwlc (B w mw).1 (B w mw).2) ?_
    rintro _ T2 ⟨hst2, hag2, t, rfl, ht1, ht2, _⟩
    have hT2 := hag2.get hT (by omega)
    have hC := Ag.set (P := (· = S.length)) (S := T2) (o := .lst (ts.map q ++ [q t])) (Or.inl rfl)
    refine ⟨_, hT2, by rw [List.length_map]; show ts.length < 16777216; omega, hst2.ag hC (by omega), (hag.trans hag2).new (hC.mono fun j h => Or.inr (by have h : j = S.length := h; omega)), ts ++ [t], by rw [set_get hT2, List.map_append]; rfl, by rw [List.length_append, hlen]; rfl, fun z m => ?_⟩
    rcases List.mem_append.1 m with m | m
    · exact hts z m
    · rw [List.mem_singleton.1 m]; exact ⟨ht1, ht2⟩
  · rintro T ⟨hstT, hag, ts, hT, hlen, hts⟩
    rw [List.length_map] at hlen
    exact hq T ts hstT hag hT hlen hts
end
section
variable {k : Nat} {S : Sto} {a b c e np l n0 : Nat} {ws : List Wk} {wl : List Wt} {hl : List Hd3} {pl : List (Rat × Rat)} {gr : List (Nat × List Nat)}
/-- the drawn times, those of a group by one corner -/
theorem timesD_ok (hst : StAt l S) (hd0 : Apart l a b c e ws gr) (N : NAtB S n0 a b c e ws wl hl gr) (B : NetB ws wl hl gr) :
    Wp (callN G (k + 4) 1025 [.loc l, .tup [.loc a, .loc b, .loc c, .loc e]] S) fun d S' => StAt l S' ∧ Ag (· = l) S S' ∧ ∃ (nt : Nat) (ts : List Rat), d = .loc nt ∧ S.length ≤ nt ∧ S'[nt]? = some (.lst (ts.map q)) ∧ ts.length = ws.length ∧ ∀ t ∈ ts, V 103 t ∧ t.den ∣ LC12N := by
  have hls := stAt_lt hst
  have h10 := B.ten
  refine wp_def (fn := L_law_times_drawn) rfl rfl ?_
  unfold L_law_times_drawn
  walk_at "hp0"
  walk_at "hys"
  refine wi_loc N.a ?_
  refine times_lc (k := k) (i2 := 0) (i7 := 6) (i8 := 7) hst hd0 N (fun w m => ⟨B.wk w m, B.lc w m⟩) B.ten (fun w T => ⟨_, rfl, rfl, rfl⟩) fun T1 ts hst1 hag1 hts htl htz => ?_
  have N1 := agl N hag1 hd0
  generalize hnt : S.length = nt at *
  have hel : e ≠ l := hd0.e
  have hen : e ≠ nt := by have := get_lt N.e; omega
  have hal : a ≠ l := hd0.a
  have han : a ≠ nt := by have := get_lt N.a; omega
  let J : Sto → Prop := fun T => StAt l T ∧ Ag (· = l) S T ∧ ∃ ts : List Rat, T[nt]? = some (.lst (ts.map q)) ∧ ts.length = ws.length ∧ ∀ t ∈ ts, V 103 t ∧ t.den ∣ LC12N
  have hJ1 : J T1 := ⟨hst1, hag1, ts, hts, htl, htz⟩
  walk_at "hys"
  refine wi_loc N1.e ?_
  refine forE_inv (fun i r T => J T ∧ ∃ z3 z4 z5, r = [some (.loc l), some (.tup [.loc a, .loc b, .loc c, .loc e]), some (.loc nt), z3, z4, z5, none, none]) ⟨hJ1, none, none, none, rfl⟩ (fun i r T _ hh => still1 (hh.1.2.1.get N.e hel)) ?_ ?_
  · rintro i d r T hd ⟨hJ, z3, z4, z5, rfl⟩
    obtain ⟨hstT, hag, _⟩ := id hJ
    rw [List.getElem?_map, Option.map_eq_some_iff] at hd
    obtain ⟨g, gg, rfl⟩ := hd
    have mg := List.mem_of_getElem? gg
    have GR := B.grs g mg
    obtain ⟨x0, gx0⟩ := get_some (xs := g.2) (i := 0) (by have := GR.two; omega)
    have mx0 := List.mem_of_getElem? gx0
    obtain ⟨hx0, hw0⟩ := GR.at_ x0 mx0
    obtain ⟨w0, gw0⟩ := get_some (xs := ws) (i := x0) hx0
    have mw0 := List.mem_of_getElem? gw0
    have NT := agl N hag hd0
    have hgT := (NT.g g mg).2
    have hwT := (NT.wk w0 mw0).2
    have hpos : 0 < w0.cs.length := List.length_pos_iff.2 (B.wk w0 mw0).good.one
    have h5 := (B.wk w0 mw0).len
    refine ⟨_, rfl, ?_⟩
    walk_at "hys"
    refine wx_ix (seq_loc hgT) (atI_get (i := 0) (x := nD x0) (by rw [List.getElem?_map, gx0]; rfl)) ?_
    unfold nD
    refine wx_ix (seq_loc NT.a) (atI_get (i := x0) (x := wkD w0) (by rw [List.getElem?_map, gw0]; rfl)) ?_
    unfold wkD
    walk_at "hys"
    rw [List.length_map]
    refine wp_mono (fam.take _ _ _ _ hstT (by omega) (Nat.le_trans (m := 100) (by omega) (by decide))) ?_
    rintro _ T2 ⟨hst2, hag2, v, rfl, hv0, hv1⟩
    obtain ⟨j, rfl, hj⟩ := int_nat hv0 hv1
    walk_at "hys"
    refine wps_ite ?_
    walk_at "hy"
    refine wp_mono (fam.take _ _ _ _ hst2 (by decide) (by decide)) ?_
    rintro _ T3 ⟨hst3, hag3, v, rfl, _, _⟩
    have hag23 := hag2.trans hag3
    have hnl : nt ≠ l := by omega
    have hJ3 : J T3 := by
      obtain ⟨_, q2, ts, q3, q4, q5⟩ := hJ
      exact ⟨hst3, q2.trans hag23, ts, hag23.get q3 hnl, q4, q5⟩
    have hg3 := hJ3.2.1.get (N.g g mg).2 (hd0.g g mg)
    walk_at "hy"
    refine wq_dec (fun _ => ?_) (fun _ => ?_)
    · walk_at "hys"
      refine wi_loc hg3 ?_
      refine forE_inv (fun i r T => J T ∧ ∃ z5, r = [some (.loc l), some (.tup [.loc a, .loc b, .loc c, .loc e]), some (.loc nt), some (.loc g.1), some (.int (j : Nat)), z5, none, none]) ⟨hJ3, _, rfl⟩ (fun i r T _ hh => still1 (hh.1.2.1.get (N.g g mg).2 (hd0.g g mg))) ?_ ?_
      · rintro i d r U hd ⟨⟨hstU, hagU, ts, hU, hlen, hts⟩, z5, rfl⟩
        rw [List.getElem?_map, Option.map_eq_some_iff] at hd
        obtain ⟨x, gx, rfl⟩ := hd
        have mx := List.mem_of_getElem? gx
        obtain ⟨hx, hwx⟩ := GR.at_ x mx
        obtain ⟨w, gw⟩ := get_some (xs := ws) (i := x) hx
        have mw := List.mem_of_getElem? gw
        have hcl : w.cs.length = w0.cs.length := ((hw0 w0 gw0).2 x w mx gw)
        obtain ⟨p, gp⟩ := get_some (xs := w.cs) (i := j) (by omega)
        have mp := List.mem_of_getElem? gp
        have NU := agl N hagU hd0
        unfold nD
        refine ⟨_, rfl, ?_⟩
        walk_at "hys"
        refine wx_ix (seq_loc NU.a) (atI_get (i := x) (x := wkD w) (by rw [List.getElem?_map, gw]; rfl)) ?_
        unfold wkD
        walk_at "hys"
        refine wx_ix (seq_loc (NU.wk w mw).2) (atI_get (i := j) (x := pr p) (by rw [List.getElem?_map, gp]; rfl)) ?_
        unfold pr
        walk_at "hys"
        refine ⟨_, setIx_loc (j := x) hU (ixN_nat (by rw [List.length_map]; omega)), ?_⟩
        have hC := Ag.set (P := (· = nt)) (S := U) (o := .lst ((ts.map q).set x (q p.1))) (Or.inl rfl)
        walk_at "hys"
        refine ⟨⟨hstU.ag hC (by omega), hagU.new (hC.mono fun i h => Or.inr (by have h : i = nt := h; omega)), ts.set x p.1, by rw [set_get hU, List.map_set], by rw [List.length_set]; exact hlen, fun t m => ?_⟩, _, rfl⟩
        rcases List.mem_or_eq_of_mem_set m with m | rfl
        · exact hts t m
        · exact ⟨V.mono ((B.wk w mw).sz p mp).1.v (by decide), LC12Nd (B.lc w mw p mp).1⟩
      · rintro r U ⟨hJU, z5, rfl⟩
        walk_at "hys"
        exact ⟨hJU, _, _, _, rfl⟩
    · walk_at "hys"
      exact ⟨hJ3, _, _, _, rfl⟩
  · rintro r T ⟨⟨hstT, hag, ts, hT, hlen, hts⟩, z3, z4, z5, rfl⟩
    walk_at "hys"
    exact ⟨hstT, hag, nt, ts, rfl, Nat.le_refl _, hT, hlen, hts⟩
end
end K12
end HP
namespace HP
open PySem L2
namespace K12
section
variable {k : Nat} {S : Sto} {a b c e np l n0 : Nat} {ws : List Wk} {wl : List Wt} {hl : List Hd3} {pl : List (Rat × Rat)} {gr : List (Nat × List Nat)}
/-- a plan that was put otherwise so often -/
abbrev PlB (j : Nat) (pl : List (Rat × Rat)) : Prop := ∀ p ∈ pl, Sz (130 + 10 * j) (230 + 20 * j) p.1 ∧ Sz (110 + 10 * j) (120 + 10 * j) p.2
theorem PlB.sz {j : Nat} {pl : List (Rat × Rat)} (h : PlB j pl) (hj : j ≤ 3) : PlSz pl := ⟨fun p m => ⟨(h p m).1.mono (by omega) (by omega), (h p m).2.mono (by omega) (by omega)⟩⟩
theorem third_q : D.tup [.int 1, .int 3] = q (1 / 3) := by
  have h1 : (1 / 3 : Rat).num = 1 := by decide +kernel
  have h2 : (1 / 3 : Rat).den = 3 := by decide +kernel
  unfold q
  rw [h1, h2]; rfl
theorem third_sz : Sz 0 2 (1 / 3 : Rat) := by
  have h1 : (1 / 3 : Rat).num = 1 := by decide +kernel
  have h2 : (1 / 3 : Rat).den = 3 := by decide +kernel
  exact ⟨by rw [h1, h2]; decide, by rw [h2]; decide⟩
theorem bent_ok {j : Nat} (hj : j ≤ 2) (hst : StAt l S) (hd0 : Apart l a b c e ws gr) (N : NAtB S n0 a b c e ws wl hl gr) (B : NetB ws wl hl gr) (hp : S[np]? = some (.lst (pl.map pr))) (hpn : np ≠ l) (hn : pl.length = ws.length) (hz : PlB j pl) :
    Wp (callN G (k + 4) 1026 [.loc l, .tup [.loc a, .loc b, .loc c, .loc e], .loc np] S) fun d S' => StAt l S' ∧ Ag (· = l) S S' ∧ ∃ (n : Nat) (pl' : List (Rat × Rat)), d = .loc n ∧ S.length ≤ n ∧ S'[n]? = some (.lst (pl'.map pr)) ∧ pl'.length = ws.length ∧ PlB (j + 1) pl' := by
  have hls := stAt_lt hst
  have h10 := B.ten
  have h1 := B.one
  have hcl : c ≠ l := hd0.c
  refine wp_def (fn := L_law_bent) rfl rfl ?_
  unfold L_law_bent
  walk_at "hp0"
  walk_at "hys"
  rw [List.length_map]
  refine wp_mono (fam.take _ _ _ _ hst (by omega) (Nat.le_trans (m := 100) (by omega) (by decide))) ?_
  rintro _ S1 ⟨hst1, hag1, v, rfl, hv0, hv1⟩
  obtain ⟨i, rfl, hi⟩ := int_nat hv0 hv1
  obtain ⟨p, gp⟩ := get_some (xs := pl) (i := i) hi
  have hpz := hz p (List.mem_of_getElem? gp)
  have hp1 := hag1.get hp hpn
  walk_at "hys"
  refine wx_ix (seq_loc hp1) (atI_get (x := pr p) (by rw [List.getElem?_map, gp]; rfl)) ?_
  unfold pr
  refine ⟨_, rfl, ?_⟩
  walk_at "hys"
  refine wp_mono (fam.take _ _ _ _ hst1 (by decide) (by decide)) ?_
  rintro _ S2 ⟨hst2, hag2, y, rfl, _, _⟩
  walk_at "hys"
  refine wp_mono (amount_ok fam.amount fam.take fam.low hst2 (by decide) (by decide)) ?_
  rintro _ S3 ⟨hst3, hag3, x, rfl, _, _, hx, _⟩
  have hag03 := (hag1.trans hag2).trans hag3
  -- one way of putting it otherwise
  let R : Nat → Nat → Nat → Nat → Ev → Sto → Prop := fun s1 s2 t1 t2 r T => T = S3 ∧ ∃ st tm : Rat, Sz s1 s2 st ∧ Sz t1 t2 tm ∧ r = [some (.loc l), some (.tup [.loc a, .loc b, .loc c, .loc e]), some (.loc np), some (.int (i : Nat)), some (q st), some (q tm), some (.int y), some (q x), none, none]
  walk_at "hys"
  refine wps_cut (R (131 + 10 * j) (236 + 20 * j) (110 + 10 * j) (120 + 10 * j)) ?_ ?_
  · refine wps_ite ?_
    walk_at "hy"
    refine wq_dec (fun _ => ?_) (fun _ => ?_)
    · walk_at "hy"
      refine wp_val (minusL_ok fam.minus fam.low hpz.1 hx (by omega) (by omega)) ?_
      walk_at "hy"
      exact ⟨rfl, _, _, (hpz.1.sub hx).mono (by omega) (by omega), hpz.2, rfl⟩
    · walk_at "hy"
      exact ⟨rfl, _, _, hpz.1.mono (by omega) (by omega), hpz.2, rfl⟩
  rintro r T ⟨rfl, st, tm, hs, ht, rfl⟩
  refine wps_cons ?_
  refine wps_cut (R (132 + 10 * j) (242 + 20 * j) (110 + 10 * j) (120 + 10 * j)) ?_ ?_
  · refine wps_ite ?_
    walk_at "hy"
    refine wq_dec (fun _ => ?_) (fun _ => ?_)
    · walk_at "hy"
      refine wp_val (plusL_ok fam.plus fam.low hs hx (by omega) (by omega)) ?_
      walk_at "hy"
      exact ⟨rfl, _, _, (hs.add hx).mono (by omega) (by omega), ht, rfl⟩
    · walk_at "hy"
      exact ⟨rfl, _, _, hs.mono (by omega) (by omega), ht, rfl⟩
  clear hs ht st tm
  rintro r _ ⟨rfl, st, tm, hs, ht, rfl⟩
  refine wps_cons ?_
  refine wps_cut (R (132 + 10 * j) (242 + 20 * j) (110 + 10 * j) (120 + 10 * j)) ?_ ?_
  · refine wps_ite ?_
    walk_at "hy"
    refine wq_dec (fun _ => ?_) (fun _ => ?_)
    · walk_at "hy"
      refine wp_val (show callN G (k + 3) 1004 [.tup [.int 0, .int 1], q x] _ = .ok (q (0 - x)) _ from minusL_ok (x := 0) fam.minus fam.low sz0 hx (by omega) (by omega)) ?_
      walk_at "hy"
      exact ⟨rfl, _, _, (sz0.sub hx).mono (by omega) (by omega), ht, rfl⟩
    · walk_at "hy"
      exact ⟨rfl, _, _, hs, ht, rfl⟩
  clear hs ht st tm
  rintro r _ ⟨rfl, st, tm, hs, ht, rfl⟩
  refine wps_cons ?_
  refine wps_cut (R (132 + 10 * j) (242 + 20 * j) (111 + 10 * j) (126 + 10 * j)) ?_ ?_
  · refine wps_ite ?_
    walk_at "hy"
    refine wq_dec (fun _ => ?_) (fun _ => ?_)
    · walk_at "hy"
      refine wp_val (plusL_ok fam.plus fam.low ht hx (by omega) (by omega)) ?_
      walk_at "hy"
      exact ⟨rfl, _, _, hs, (ht.add hx).mono (by omega) (by omega), rfl⟩
    · walk_at "hy"
      exact ⟨rfl, _, _, hs, ht.mono (by omega) (by omega), rfl⟩
  clear hs ht st tm
  rintro r _ ⟨rfl, st, tm, hs, ht, rfl⟩
  refine wps_cons ?_
  refine wps_cut (R (132 + 10 * j) (242 + 20 * j) (111 + 10 * j) (128 + 10 * j)) ?_ ?_
  · refine wps_ite ?_
    walk_at "hy"
    refine wq_dec (fun _ => ?_) (fun _ => ?_)
    · walk_at "hy"
      rw [third_q]
      refine wp_val (timesL_ok fam.times fam.low ht third_sz (by omega) (by omega)) ?_
      walk_at "hy"
      exact ⟨rfl, _, _, hs, (ht.mul third_sz).mono (by omega) (by omega), rfl⟩
    · walk_at "hy"
      exact ⟨rfl, _, _, hs, ht.mono (by omega) (by omega), rfl⟩
  clear hs ht st tm
  rintro r T ⟨rfl, st, tm, hs, ht, rfl⟩
  have hcT := hag03.get N.c hcl
  have hpT := hag03.get hp hpn
  refine wps_cons ?_
  refine wps_cut (fun r U => StAt l U ∧ Ag (· = l) S U ∧ ∃ (i : Nat) (st tm : Rat) (z6 z7 z8 z9 : Option D), i < pl.length ∧ Sz (132 + 10 * j) (242 + 20 * j) st ∧ Sz (111 + 10 * j) (128 + 10 * j) tm ∧ r = [some (.loc l), some (.tup [.loc a, .loc b, .loc c, .loc e]), some (.loc np), some (.int (i : Nat)), some (q st), some (q tm), z6, z7, z8, z9]) ?_ ?_
  · refine wps_ite ?_
    walk_at "hy"
    refine wq_dec (fun _ => ?_) (fun _ => ?_)
    · walk_at "hy"
      have hA1 : Ag (fun _ => False) T (T ++ [.lst []]) := Ag.app
      have hst4 := hst3.ag hA1 id
      have hag04 := hag03.trans (hA1.mono fun i h => h.elim)
      refine ne_nil (hA1.get hcT id) app_get B.hol (fun h m => (B.hok h m).2) ?_
      have hcT := hA1.get hcT id
      have hpT := hA1.get hpT id
      generalize T ++ [O.lst []] = T1 at *
      walk_at "hy"
      cases hl with
      | nil =>
        refine wq_ff ?_
        walk_at "hy"
        exact ⟨hst4, hag04, i, st, tm, _, _, _, _, hi, hs, ht, rfl⟩
      | cons h0 hs' =>
        refine wq_tt ?_
        walk_at "hys"
        rw [List.length_map]
        have h40 := B.hol
        refine wp_mono (fam.take _ _ _ _ hst4 (by rw [List.length_cons]; omega) (Nat.le_trans (m := 100) (by omega) (by decide))) ?_
        rintro _ T2 ⟨hst5, hag5, v, rfl, hv0, hv1⟩
        obtain ⟨m, rfl, hm⟩ := int_nat hv0 hv1
        obtain ⟨h, gh⟩ := get_some (xs := h0 :: hs') (i := m) hm
        have mh := List.mem_of_getElem? gh
        have hh := (B.hok h mh).1
        have hmz := (B.hos h mh).1.sz1 (B.hos h mh).2
        obtain ⟨p', gp'⟩ := get_some (xs := pl) (i := h.2.1) (by omega)
        have hpz' := hz p' (List.mem_of_getElem? gp')
        have hag05 := hag04.trans hag5
        refine wx_ix (seq_loc (hag5.get hcT hcl)) (atI_get (i := m) (x := hoN h) (by rw [List.getElem?_map, gh]; rfl)) ?_
        unfold hoN
        refine ⟨_, rfl, ?_⟩
        walk_at "hys"
        refine wx_ix (seq_loc (hag5.get hpT hpn)) (atI_get (i := h.2.1) (x := pr p') (by rw [List.getElem?_map, gp']; rfl)) ?_
        unfold pr
        walk_at "hys"
        refine wps_ite ?_
        walk_at "hy"
        refine wq_dec (fun _ => ?_) (fun _ => ?_)
        · walk_at "hy"
          refine wp_val (minusL_ok fam.minus fam.low hmz hpz'.2 (by omega) (by omega)) ?_
          walk_at "hy"
          exact ⟨hst5, hag05, h.2.1, _, _, _, _, _, _, by omega, (hmz.sub hpz'.2).mono (by omega) (by omega), hpz'.2.mono (by omega) (by omega), rfl⟩
        · walk_at "hy"
          exact ⟨hst5, hag05, h.2.1, _, _, _, _, _, _, by omega, hmz.mono (by omega) (by omega), hpz'.2.mono (by omega) (by omega), rfl⟩
    · walk_at "hy"
      exact ⟨hst3, hag03, i, st, tm, _, _, _, _, hi, hs, ht, rfl⟩
  clear hs ht st tm gp hpz hi
  rintro r U ⟨hstU, hagU, i, st, tm, z6, z7, z8, z9, hi, hs, ht, rfl⟩
  refine wps_cons (wps_ret ?_)
  refine cut3 (np := np) (w := i) (xs := pl.map pr) (d := pr (st, tm)) rfl rfl (hagU.get hp hpn) (by rw [List.length_map]; exact hi) (by rw [List.length_map]; omega) (fun T Q _ h => ?_) (fun T2 hagT n hnn hnT => ?_)
  · walk_at "hy"
    exact h
  rw [← List.map_set] at hnT
  have hlU := hagU.1
  refine ⟨hstU.ag hagT id, hagU.trans (hagT.mono fun i h => h.elim), n, _, rfl, by omega, hnT, by rw [List.length_set]; exact hn, fun z m => ?_⟩
  rcases List.mem_or_eq_of_mem_set m with m | rfl
  · exact ⟨(hz z m).1.mono (by omega) (by omega), (hz z m).2.mono (by omega) (by omega)⟩
  · exact ⟨hs.mono (by omega) (by omega), ht.mono (by omega) (by omega)⟩
theorem wholeL_ok {p0 : Rat × Rat} (hst : StAt l S) (hp : S[np]? = some (.lst ((p0 :: pl).map pr))) (hpn : np ≠ l) (hz : PlB 3 (p0 :: pl)) :
    Wp (callN G (k + 4) 1027 [.loc l, .loc np] S) fun d S' => StAt l S' ∧ Ag (· = l) S S' ∧ ∃ w : Option Rat, d = owD w ∧ ∀ u, w = some u → Sz 3000 4000 u := by
  have zz : ∀ p ∈ p0 :: pl, Sz 160 290 p.1 ∧ Sz 140 150 p.2 := hz
  have h0 := zz p0 List.mem_cons_self
  refine wp_def (fn := L_law_whole) rfl rfl ?_
  unfold L_law_whole
  walk_at "hp0"
  walk_at "hys"
  refine wx_ix (seq_loc hp) (atI_get (i := 0) (x := pr p0) rfl) ?_
  unfold pr
  walk_at "hys"
  refine wx_ix (seq_loc hp) (atI_get (i := 0) (x := pr p0) rfl) ?_
  unfold pr
  walk_at "hys"
  refine wp_val (plusL_ok fam.plus fam.low h0.1 h0.2 (by decide) (by decide)) ?_
  walk_at "hys"
  refine wi_loc hp ?_
  refine forE_inv (fun i r T => T = S ∧ ∃ (u : Rat) (z3 z4 : Option D), Sz 161 440 u ∧ r = [some (.loc l), some (.loc np), some (q u), z3, z4, none, none]) ⟨rfl, p0.1 + p0.2, none, none, (h0.1.add h0.2).mono (by decide) (by decide), rfl⟩ (fun i r T _ hh => by rw [hh.1]; exact still1 hp) ?_ ?_
  · rintro i d r T hd ⟨rfl, u, z3, z4, hu, rfl⟩
    rw [List.getElem?_map, Option.map_eq_some_iff] at hd
    obtain ⟨p, gp, rfl⟩ := hd
    have hpz := zz p (List.mem_of_getElem? gp)
    have hs := hpz.1.add hpz.2
    unfold pr
    refine ⟨_, rfl, ?_⟩
    walk_at "hys"
    refine wps_ite ?_
    walk_at "hy"
    refine wp_val (plusL_ok fam.plus fam.low hpz.1 hpz.2 (by decide) (by decide)) ?_
    walk_at "hy"
    refine wp_val (underL_ok fam.under hu hs (by decide) (by decide)) ?_
    walk_at "hy"
    refine wq_dec (fun c => ?_) (fun c => ?_)
    · walk_at "hy"
      refine wp_val (plusL_ok fam.plus fam.low hpz.1 hpz.2 (by decide) (by decide)) ?_
      walk_at "hy"
      exact ⟨rfl, _, _, _, hs.mono (by decide) (by decide), rfl⟩
    · walk_at "hy"
      exact ⟨rfl, _, _, _, hu, rfl⟩
  rintro r T ⟨rfl, u, z3, z4, hu, rfl⟩
  walk_at "hys"
  refine wp_mono (amount_ok fam.amount fam.take fam.low hst (by decide) (by decide)) ?_
  rintro _ S1 ⟨hst1, hag1, x, rfl, _, _, hx, _⟩
  walk_at "hys"
  refine wp_val (minusL_ok fam.minus fam.low hu hx (by decide) (by decide)) ?_
  walk_at "hys"
  refine wp_val (plusL_ok fam.plus fam.low hu hx (by decide) (by decide)) ?_
  walk_at "hys"
  refine wp_val (show callN G (k + 3) 1004 [.tup [.int 0, .int 1], q x] _ = .ok (q (0 - x)) _ from minusL_ok (x := 0) fam.minus fam.low sz0 hx (by decide) (by decide)) ?_
  walk_at "hys"
  have hA2 : Ag (fun _ => False) S1 (S1 ++ [.lst [.non, q u, q u, q (u - x), q (u + x), q (0 - x)]]) := Ag.app
  have k2 : (S1 ++ [.lst [.non, q u, q u, q (u - x), q (u + x), q (0 - x)]])[S1.length]? = some (.lst [.non, q u, q u, q (u - x), q (u + x), q (0 - x)]) := app_get
  have hst2 := hst1.ag hA2 id
  have hag02 := hag1.trans (hA2.mono fun i h => h.elim)
  have hl1 := stAt_lt hst1
  generalize S1 ++ [O.lst [.non, q u, q u, q (u - x), q (u + x), q (0 - x)]] = S2 at *
  generalize S1.length = n2 at *
  refine wp_mono (fam.take _ _ _ _ hst2 (by decide) (by decide)) ?_
  rintro _ S3 ⟨hst3, hag3, y, rfl, hy0, hy1⟩
  obtain ⟨w, gw, hw⟩ : ∃ w : Option Rat, atI [D.non, q u, q u, q (u - x), q (u + x), q (0 - x)] y = some (owD w) ∧ ∀ v, w = some v → Sz 3000 4000 v := by
    have f : ∀ {z : Rat} {A B : Nat}, Sz A B z → A ≤ 3000 → B ≤ 4000 → ∀ v, some z = some v → Sz 3000 4000 v := fun h h1 h2 v e => by cases e; exact h.mono h1 h2
    rcases (show y = 0 ∨ y = 1 ∨ y = 2 ∨ y = 3 ∨ y = 4 ∨ y = 5 by omega) with rfl | rfl | rfl | rfl | rfl | rfl
    · exact ⟨none, rfl, nofun⟩
    · exact ⟨some u, rfl, f hu (by decide) (by decide)⟩
    · exact ⟨some u, rfl, f hu (by decide) (by decide)⟩
    · exact ⟨some (u - x), rfl, f (hu.sub hx) (by decide) (by decide)⟩
    · exact ⟨some (u + x), rfl, f (hu.add hx) (by decide) (by decide)⟩
    · exact ⟨some (0 - x), rfl, f (sz0.sub hx) (by decide) (by decide)⟩
  refine wx_ix (seq_loc (hag3.get k2 (by omega))) gw ?_
  exact ⟨hst3, hag02.trans hag3, w, rfl, hw⟩
end
end K12
end HP
namespace HP
open PySem L2
namespace K12
/-- what first_broken tells, as data -/
def brP : Option (Str × Nat) → PyData
  | none => .none
  | some p => .tuple [.str p.1, .int (p.2 : Nat)]
theorem dt_br {P : Nat → Prop} {S : Sto} (x : Option (Str × Nat)) : Dt P S (brP x) (brD x) := by
  cases x with
  | none => rfl
  | some p => exact ⟨_, rfl, _, _, rfl, rfl, _, _, rfl, rfl, rfl⟩
theorem ok_br (x : Option (Str × Nat)) : okA (brP x) = true := by cases x <;> rfl
theorem depth_br (x : Option (Str × Nat)) : PyData.depth (brP x) < 5 := by
  cases x with
  | none => decide
  | some p => show max 0 (max 0 0) + 1 < 5; decide
section
variable {k : Nat} {S : Sto} {a b c e np l n0 : Nat} {ws vs : List Wk} {wl : List Wt} {hl : List Hd3} {pl : List (Rat × Rat)} {gr : List (Nat × List Nat)}
theorem alike_br (x : Option (Str × Nat)) : Wp (callN G (k + 5) 1016 [brD x, brD x] S) fun d S' => d = .bl true ∧ Ag (fun _ => False) S S' :=
  alike_ok g_alike (P := fun _ => True) (k + 5) (brP x) _ _ _ (by have := depth_br x; omega) (ok_br x) (dt_br x) (dt_br x)
theorem plain_prs (xs : List (Rat × Rat)) : plain (.list (xs.map prd)) = true := plain_map (f := prd) fun _ _ => rfl
theorem ne_prs {n m : Nat} {xs : List (Rat × Rat)} {Q : D → Sto → Prop} (h1 : S[n]? = some (.lst (xs.map pr))) (h2 : S[m]? = some (.lst (xs.map pr))) (hl : xs.length < 190) (q : Q (.bl false) S) : Wp (cmpD S .ne (.loc n) (.loc m)) Q := by
  refine wc_ne (eq_loc (P := fun _ => True) (P' := fun _ => True) (dt_prs h1 trivial) (dt_prs h2 trivial) (cmp_prs hl) (cmp_prs hl)) ?_
  rw [eqv_refl _ (plain_prs xs)]; exact q
theorem cnF_same (h : Same ws vs) (x : Nat) : cnF vs pl x = cnF ws pl x := by
  unfold cnF
  cases gv : vs[x]? with
  | none =>
    have : ws[x]? = none := by rw [List.getElem?_eq_none_iff] at gv ⊢; rw [h.len] at gv; exact gv
    rw [this]
  | some v =>
    obtain ⟨w, gw, _, _, e3⟩ := h.get gv
    rw [gw]
    cases pl[x]? with
    | none => rfl
    | some p => dsimp only; rw [e3]
theorem allF_same {gs : List (List Nat)} {w : Option Rat} (h : Same ws vs) : allF vs wl hl gs pl w = allF ws wl hl gs pl w := by
  unfold allF
  rw [brF_same h]
  congr 1
  refine fst_congr fun i hi => ?_
  unfold pG
  cases gs[i]? with
  | none => rfl
  | some g => dsimp only; simp only [cnF_same h]
theorem PlB.up {j j' : Nat} (h : PlB j pl) (hj : j ≤ j') : PlB j' pl := fun p m => ⟨(h p m).1.mono (by omega) (by omega), (h p m).2.mono (by omega) (by omega)⟩
theorem netAt_b {b' : Nat} {wl' : List Wt} (N : NAtB S n0 a b c e ws wl hl gr) (h : S[b']? = some (.lst (wl'.map waN))) (hb : n0 ≤ b') : NAtB S n0 a b' c e ws wl' hl gr :=
  { N with lo := ⟨N.lo.1, hb, N.lo.2.2.1, N.lo.2.2.2⟩, b := h }
theorem law_true (ns : List Int) (hns : ns.length ≤ 63) : ∃ S, callN G 14 1028 [.frl (ns.map D.int)] [] = .ok (.bl true) S := by
  refine wp_true (wp_def (fn := L_law) rfl rfl ?_)
  unfold L_law
  walk_at "hp0"
  walk_at "hys"
  refine wp_mono (begun_ok (i := 4) fam.beg (by decide) (by decide) (by decide)) ?_
  rintro _ T1 ⟨rfl, hst1, _⟩
  generalize hl : ([] : Sto).length = l at *
  have hl1 := stAt_lt hst1
  walk_at "hys"
  have hA2 : Ag (fun _ => False) T1 (T1 ++ [.lst [.str "straight"]]) := Ag.app
  have k1 : (T1 ++ [.lst [.str "straight"]])[T1.length]? = some (.lst ((["straight"] : List Str).map D.str)) := app_get
  have hst2 := hst1.ag hA2 id
  generalize T1 ++ [O.lst [.str "straight"]] = T2 at *
  generalize T1.length = n1 at *
  have hA3 : Ag (fun _ => False) T2 (T2 ++ [.lst [.str "steps"]]) := Ag.app
  have k2 : (T2 ++ [.lst [.str "steps"]])[T2.length]? = some (.lst ((["steps"] : List Str).map D.str)) := app_get
  have hst3 := hst2.ag hA3 id
  have k1 := hA3.get k1 id
  have hl2 := stAt_lt hst2
  generalize T2 ++ [O.lst [.str "steps"]] = T3 at *
  generalize T2.length = n2 at *
  have hA4 : Ag (fun _ => False) T3 (T3 ++ [.lst [.str "straight", .str "steps"]]) := Ag.app
  have k3 : (T3 ++ [.lst [.str "straight", .str "steps"]])[T3.length]? = some (.lst ((["straight", "steps"] : List Str).map D.str)) := app_get
  have hst4 := hst3.ag hA4 id
  have k1 := hA4.get k1 id
  have k2 := hA4.get k2 id
  have hl3 := stAt_lt hst3
  generalize T3 ++ [O.lst [.str "straight", .str "steps"]] = T4 at *
  generalize T3.length = n3 at *
  have hA5 : Ag (fun _ => False) T4 (T4 ++ [.lst [.loc n1, .loc n2, .loc n3]]) := Ag.app
  have k4 : (T4 ++ [.lst [.loc n1, .loc n2, .loc n3]])[T4.length]? = some (.lst [.loc n1, .loc n2, .loc n3]) := app_get
  have hst5 := hst4.ag hA5 id
  have k1 := hA5.get k1 id
  have k2 := hA5.get k2 id
  have k3 := hA5.get k3 id
  have hl4 := stAt_lt hst4
  generalize T4 ++ [O.lst [.loc n1, .loc n2, .loc n3]] = T5 at *
  generalize T4.length = n4 at *
  refine wp_mono (fam.take _ _ _ _ hst5 (by decide) (by decide)) ?_
  rintro _ T6 ⟨hst6, hag6, y, rfl, hy0, hy1⟩
  obtain ⟨nk, kinds, gk, hk, hk0, hk1, hkk⟩ : ∃ (nk : Nat) (kinds : List Str), atI [D.loc n1, .loc n2, .loc n3] y = some (.loc nk) ∧ T6[nk]? = some (.lst (kinds.map D.str)) ∧ 0 < kinds.length ∧ kinds.length ≤ 10 ∧ ∀ x ∈ kinds, x = ("straight" : Str) ∨ x = ("steps" : Str) := by
    rcases (show y = 0 ∨ y = 1 ∨ y = 2 by omega) with rfl | rfl | rfl
    · exact ⟨n1, ["straight"], rfl, hag6.get k1 (by omega), by decide, by decide, by decide⟩
    · exact ⟨n2, ["steps"], rfl, hag6.get k2 (by omega), by decide, by decide, by decide⟩
    · exact ⟨n3, ["straight", "steps"], rfl, hag6.get k3 (by omega), by decide, by decide, by decide⟩
  refine wx_ix (seq_loc (hag6.get k4 (by omega))) gk ?_
  have hnk : nk ≠ l := by
    rcases (show y = 0 ∨ y = 1 ∨ y = 2 by omega) with rfl | rfl | rfl <;> (cases gk; omega)
  walk_at "hys"
  refine wp_mono (fam.take _ _ _ _ hst6 (by decide) (by decide)) ?_
  rintro _ T7 ⟨hst7, hag7, y2, rfl, _, _⟩
  have hk7 := hag7.get hk hnk
  walk_at "hys"
  generalize decide (y2 = 0) = gt
  have hA8 : Ag (fun _ => False) T7 (T7 ++ [.lst [.int 5, .int 10]]) := Ag.app
  have k8 : (T7 ++ [.lst [.int 5, .int 10]])[T7.length]? = some (.lst [.int 5, .int 10]) := app_get
  have hst8 := hst7.ag hA8 id
  have hk8 := hA8.get hk7 id
  generalize T7 ++ [O.lst [.int 5, .int 10]] = T8 at *
  generalize T7.length = n7 at *
  obtain ⟨most, gm, hm0, hm1⟩ : ∃ m : Int, atI [D.int 5, .int 10] (if gt = true then 1 else 0) = some (.int m) ∧ 0 < m ∧ m ≤ 10 := by
    cases gt
    · exact ⟨5, rfl, by decide, by decide⟩
    · exact ⟨10, rfl, by decide, by decide⟩
  refine wx_ix (seq_loc k8) gm ?_
  walk_at "hys"
  have hA9 : Ag (fun _ => False) T8 (T8 ++ [.lst [.int 3, .int 5]]) := Ag.app
  have k9 : (T8 ++ [.lst [.int 3, .int 5]])[T8.length]? = some (.lst [.int 3, .int 5]) := app_get
  have hst9 := hst8.ag hA9 id
  have hk9 := hA9.get hk8 id
  generalize T8 ++ [O.lst [.int 3, .int 5]] = T9 at *
  generalize T8.length = n8 at *
  obtain ⟨cor, gc, hc0, hc1⟩ : ∃ m : Int, atI [D.int 3, .int 5] (if gt = true then 1 else 0) = some (.int m) ∧ 0 < m ∧ m ≤ 5 := by
    cases gt
    · exact ⟨3, rfl, by decide, by decide⟩
    · exact ⟨5, rfl, by decide, by decide⟩
  refine wx_ix (seq_loc k9) gc ?_
  walk_at "hys"
  have hl9 := stAt_lt hst9
  refine wp_mono (net_okN (k := 8) (at_ := 0) fam (by decide) hm0 hm1 hc0 hc1 hk9 hk0 hk1 hkk) ?_
  rintro _ T10 ⟨hag10, a, b, c, e, ws, wl, hl', gr, rfl, N10, B, _, _⟩
  have hst10 := hst9.ag hag10 id
  have N10 := N10.lower (n1 := l + 1) (by omega)
  walk_at "hys"
  refine wi_loc N10.b ?_
  have hl10 := stAt_lt hst10
  have hbl : b ≠ l := by have := N10.lo.2.1; omega
  refine compE_inv (fun i T => StAt l T ∧ Ag (· = l) T10 T ∧ ∃ zs : List Wt, T[T10.length]? = some (.lst (zs.map waN)) ∧ zs.length ≤ i ∧ ∀ z ∈ zs, (z.1 < ws.length ∧ z.2.1 < ws.length ∧ z.1 ≠ z.2.1) ∧ V 60 z.2.2 ∧ z.2.2.den ∣ LC) ⟨hst10.ag (P := fun _ => False) Ag.app id, Ag.app, [], app_get, Nat.zero_le _, fun z m => nomatch m⟩ (fun i T _ hh => still1 (hh.2.1.get N10.b hbl)) ?_ ?_
  · rintro i d T hd ⟨hstT, hag, zs, hT, hlen, hzs⟩
    rw [List.getElem?_map, Option.map_eq_some_iff] at hd
    obtain ⟨z, gz, rfl⟩ := hd
    have mz := List.mem_of_getElem? gz
    have hiw := (List.getElem?_eq_some_iff.1 gz).1
    have h40 := B.wal
    unfold waN
    refine ⟨_, rfl, ?_⟩
    walk_at "hy"
    refine wp_mono (fam.take _ _ _ _ hstT (by decide) (by decide)) ?_
    rintro _ U1 ⟨hstU, hagU, v, rfl, _, _⟩
    have hU := hagU.get hT (by omega)
    walk_at "hy"
    refine wq_dec (fun _ => ?_) (fun _ => ?_)
    · walk_at "hy"
      refine wp_mono (lag_ok3 (k := 10) fam.lag fam.take fam.low fam.minus fam.amount hstU) ?_
      rintro _ U2 ⟨hstU2, hagU2, x, rfl, hx, hxd⟩
      have hU2 := hagU2.get hU (by omega)
      walk_at "hy"
      have hC := Ag.set (P := (· = T10.length)) (S := U2) (o := .lst (zs.map waN ++ [.tup [.int (z.1 : Nat), .int (z.2.1 : Nat), q x]])) (Or.inl rfl)
      refine ⟨_, hU2, by rw [List.length_map]; show zs.length < 16777216; omega, hstU2.ag hC (by omega), ((hag.trans hagU).trans hagU2).new (hC.mono fun j h => Or.inr (by have h : j = T10.length := h; omega)), zs ++ [(z.1, z.2.1, x)], by rw [set_get hU2, List.map_append]; rfl, by rw [List.length_append]; show _ + 1 ≤ _; omega, fun y m => ?_⟩
      rcases List.mem_append.1 m with m | m
      · exact hzs y m
      · rw [List.mem_singleton.1 m]; exact ⟨B.wok z mz, V.mono hx.v (by decide), hxd⟩
    · exact ⟨hstU, hag.trans hagU, zs, hU, by omega, hzs⟩
  rintro T11 ⟨hst11, hag11, zs, hzT, hzl, hzs⟩
  rw [List.length_map] at hzl
  have N11 := N10.ag hag11 (fun i h => by have h : i = l := h; omega)
  generalize T10.length = n10 at *
  walk_at "hys"
  have h40 := B.wal
  refine wb_addl N11.b hzT (by rw [List.length_map, List.length_map]; show _ ≤ 16777216; omega) ?_
  rw [← List.map_append]
  have hA12 : Ag (fun _ => False) T11 (T11 ++ [.lst ((wl ++ zs).map waN)]) := Ag.app
  have k12 : (T11 ++ [.lst ((wl ++ zs).map waN)])[T11.length]? = some (.lst ((wl ++ zs).map waN)) := app_get
  have hst12 := hst11.ag hA12 id
  have N12 := N11.ag0 hA12
  generalize T11 ++ [O.lst ((wl ++ zs).map waN)] = T12 at *
  generalize T11.length = n11 at *
  walk_at "hys"
  refine ws_lst (lst_loc k12) ?_
  rw [cutL_map]
  have hcl := cut_len (xs := wl ++ zs) (j := 40)
  have hcm : ∀ z ∈ cutL (wl ++ zs) none (some ((40 : Nat) : Int)), (z.1 < ws.length ∧ z.2.1 < ws.length ∧ z.1 ≠ z.2.1) ∧ V 60 z.2.2 ∧ z.2.2.den ∣ LC := fun z m => by
    rcases List.mem_append.1 (mem_cutL m) with m | m
    · exact ⟨B.wok z m, B.was z m⟩
    · exact hzs z m
  change (cutL (wl ++ zs) none (some (40 : Int))).length ≤ 40 at hcl
  change ∀ z ∈ cutL (wl ++ zs) none (some (40 : Int)), _ at hcm
  generalize cutL (wl ++ zs) none (some (40 : Int)) = wl' at *
  have hA13 : Ag (fun _ => False) T12 (T12 ++ [.lst (wl'.map waN)]) := Ag.app
  have k13 : (T12 ++ [.lst (wl'.map waN)])[T12.length]? = some (.lst (wl'.map waN)) := app_get
  have hst13 := hst12.ag hA13 id
  have hl12 := stAt_lt hst12
  have N13 := netAt_b (N12.ag0 hA13) k13 (by omega)
  have B13 : NetB ws wl' hl' gr := { B with wal := hcl, wok := fun z m => (hcm z m).1, was := fun z m => (hcm z m).2 }
  generalize T12 ++ [O.lst (wl'.map waN)] = T13 at *
  generalize T12.length = b' at *
  clear N10 N11 N12 hst10 hst11 hst12 hag11 hzT
  walk_at "hys"
  refine wps_cut (fun r T => StAt l T ∧ ∃ (c' : Nat) (hl2 : List Hd3) (z5 : Option D), NAtB T (l + 1) a b' c' e ws wl' hl2 gr ∧ NetB ws wl' hl2 gr ∧ r = [some (.frl (ns.map D.int)), some (.loc l), some (.loc nk), some (.bl gt), some (.tup [.loc a, .loc b', .loc c', .loc e]), z5, none, none, none, none, none, none, none, none, none]) ?_ ?_
  · refine wps_ite ?_
    walk_at "hy"
    refine ⟨fun _ => ?_, fun _ => ?_⟩
    · walk_at "hy"
      refine wp_mono (held_ok (k := 9) hst13 (Nat.lt_succ_self l) N13 B13) ?_
      rintro _ T14 ⟨hst14, _, c', hl2, rfl, N14, B14⟩
      walk_at "hy"
      exact ⟨hst14, c', hl2, _, N14, B14, rfl⟩
    · walk_at "hy"
      exact ⟨hst13, c, hl', _, N13, B13, rfl⟩
  clear N13 B13 hst13 hcm hcl k12 k13 B
  rintro r T ⟨_, c', hl2, z5, N, B, rfl⟩
  have h10 := B.ten
  have h1 := B.one
  walk_at "hys"
  rw [List.length_map]
  have hA : Ag (fun _ => False) T (T ++ [.lst [.int 24, .int 10]]) := Ag.app
  have kk : (T ++ [.lst [.int 24, .int 10]])[T.length]? = some (.lst [.int 24, .int 10]) := app_get
  have N := N.ag0 hA
  generalize T ++ [O.lst [.int 24, .int 10]] = T0 at *
  obtain ⟨top, gtp⟩ : ∃ m : Int, atI [D.int 24, .int 10] (if gt = true then 1 else 0) = some (.int m) := by
    cases gt
    · exact ⟨24, rfl⟩
    · exact ⟨10, rfl⟩
  refine wx_ix (seq_loc kk) gtp ?_
  walk_at "hys"
  obtain ⟨j, ej, hj⟩ : ∃ j : Int, (if (if top < (ns.length : Int) then top else (ns.length : Int)) > 5 then if top < (ns.length : Int) then top else (ns.length : Int) else 5) = j ∧ j ≤ 63 ∧ 5 ≤ j := by
    refine ⟨_, rfl, ?_, ?_⟩ <;> (repeat' split) <;> omega
  rw [ej]
  refine ⟨_, _, rfl, rfl, by decide, by unfold okRng; simp; omega, ?_⟩
  have Bn := NB_of B
  have BG := GB_of B
  refine forE_inv (fun i r T => NAtB T (l + 1) a b' c' e ws wl' hl2 gr ∧ ∃ z1 z5 z6 z7 z8 z9 z10 z11, r = [some (.frl (ns.map D.int)), z1, some (.loc nk), some (.bl gt), some (.tup [.loc a, .loc b', .loc c', .loc e]), z5, z6, z7, z8, z9, z10, z11, none, none, none]) ⟨N, _, _, none, none, none, none, none, none, rfl⟩ (fun _ _ _ _ _ => still0) ?_ ?_
  · clear N
    rintro i d r T hd ⟨N, z1, z5, z6, z7, z8, z9, z10, z11, rfl⟩
    obtain ⟨hi, rfl⟩ := rngi_get hd
    obtain ⟨at_, eat, hat⟩ : ∃ at_ : Nat, (4 : Int) + (i : Nat) = (at_ : Nat) ∧ at_ ≤ 100 := ⟨4 + i, by omega, by omega⟩
    rw [eat]
    refine ⟨_, rfl, ?_⟩
    walk_at "hys"
    refine wp_mono (begun_ok fam.beg (by decide) (by decide) (by omega)) ?_
    rintro _ T1 ⟨rfl, hst1, o, e1⟩
    have hag1 : Ag (fun _ => False) T T1 := by rw [e1]; exact Ag.app
    clear e1 o
    have hd0 := apart_new N (l := T.length) (Nat.le_refl _)
    generalize hm : T.length = m at *
    have hml := stAt_lt hst1
    have N1 := N.ag0 hag1
    walk_at "hys"
    refine wp_mono (timesD_ok (k := 9) hst1 hd0 N1 B) ?_
    rintro _ T2 ⟨hst2, hag2, nt, ts, rfl, hnt, hts, htl, htz⟩
    have N2 := agl N1 hag2 hd0
    walk_at "hys"
    refine wp_mono (started_ok (k := 10) fam g_started N2 hts htz htl (by omega) B.wal B.wok B.was (fun h m => (B.hok h m).1) B.hos) ?_
    rintro _ T3 ⟨hag3, np, pl, rfl, hnp, hp, hpl, _, hpz⟩
    have hst3 := hst2.ag hag3 id
    have N3 := N2.ag0 hag3
    have hP0 : PlB 0 pl := fun p mp => ⟨Sz.mono ⟨(hpz p mp).1.1, dvd_le (hpz p mp).1.2 LC12N0 LC12Nb⟩ (by decide) (by decide), Sz.mono ⟨(hpz p mp).2.1, dvd_le (hpz p mp).2.2 LC12N0 LC12Nb⟩ (by decide) (by decide)⟩
    have hnm : np ≠ m := by have := stAt_lt hst2; omega
    walk_at "hys"
    refine wp_mono (fam.take _ _ _ _ hst3 (by decide) (by decide)) ?_
    rintro _ T4 ⟨hst4, hag4, v, rfl, hv0, hv1⟩
    have N4 := agl N3 hag4 hd0
    walk_at "hys"
    refine ⟨by unfold okRng; simp; omega, ?_⟩
    refine forE_inv (fun i r T => StAt m T ∧ m < T.length ∧ NAtB T (l + 1) a b' c' e ws wl' hl2 gr ∧ ∃ (np : Nat) (pl : List (Rat × Rat)) (z8 : Option D), np ≠ m ∧ T[np]? = some (.lst (pl.map pr)) ∧ pl.length = ws.length ∧ PlB i pl ∧ r = [some (.frl (ns.map D.int)), some (.loc m), some (.loc nk), some (.bl gt), some (.tup [.loc a, .loc b', .loc c', .loc e]), z5, some (.int (at_ : Nat)), some (.loc np), z8, z9, z10, z11, none, none, none]) ⟨hst4, stAt_lt hst4, N4, np, pl, _, hnm, hag4.get hp hnm, by omega, hP0, rfl⟩ (fun _ _ _ _ _ => still0) ?_ ?_
    · rintro i2 d r T hd ⟨hstT, hmT, NT, np, pl, z8, hnm, hpT, hpl, hPB, rfl⟩
      obtain ⟨hi2, rfl⟩ := rng0_get hd
      refine ⟨_, rfl, ?_⟩
      walk_at "hys"
      refine wp_mono (bent_ok (k := 9) (j := i2) (by omega) hstT hd0 NT B hpT hnm hpl hPB) ?_
      rintro _ T5 ⟨hst5, hag5, n5, pl5, rfl, hn5, hp5, hpl5, hPB5⟩
      walk_at "hys"
      exact ⟨hst5, stAt_lt hst5, agl NT hag5 hd0, n5, pl5, _, by omega, hp5, hpl5, hPB5, rfl⟩
    clear hnm hP0 hpz hpl hp hnp N1 N2 N3 N4 hst1 hst2 hst3 hst4
    rintro r T5 ⟨hst5, hm5, N5, np, pl, z8, hnm, hp5, hpl, hPB, rfl⟩
    have hP3 : PlB 3 pl := PlB.up hPB (by rw [rngi_len]; omega)
    walk_at "hys"
    cases pl with
    | nil => exact absurd hpl (by show ¬ 0 = _; omega)
    | cons p0 ps =>
      refine wp_mono (wholeL_ok (k := 9) hst5 hp5 hnm hP3) ?_
      rintro _ T6 ⟨hst6, hag6, w, rfl, hw⟩
      have N6 := agl N5 hag6 hd0
      have hp6 := hag6.get hp5 hnm
      have hwn := owD_ne w
      have hsz := hP3.sz (Nat.le_refl 3)
      walk_at "hys"
      refine wp_mono (copyN_ok (k := 12) g_copy N6 (by omega) (by have := BG.len; omega)) ?_
      rintro _ T7 ⟨hag7, a7, b7, c7, e7, vs, gr7, rfl, N7, hsame, hgr7⟩
      have N67 := N6.ag0 hag7
      have hp7 := hag7.get hp6 id
      walk_at "hys"
      refine wf_list (seq_loc hp7) ?_
      have hA8 : Ag (fun _ => False) T7 (T7 ++ [.lst ((p0 :: ps).map pr)]) := Ag.app
      have hq8 : (T7 ++ [.lst ((p0 :: ps).map pr)])[T7.length]? = some (.lst ((p0 :: ps).map pr)) := app_get
      have hp8 := hA8.get hp7 id
      have N68 := N67.ag0 hA8
      have N78 := N7.ag0 hA8
      generalize T7 ++ [O.lst ((p0 :: ps).map pr)] = T8 at *
      generalize T7.length = n8 at *
      walk_at "hys"
      refine wps_ite ?_
      walk_at "hy"
      refine wp_mono (fbg_ok (k := 8) (w := w) N78 (Bn.same hsame) (BG.same hsame hgr7) hq8 (by rw [hsame.len]; exact hpl) hsz hw) ?_
      rintro _ T9 ⟨hag9, rfl⟩
      rw [allF_same hsame, hgr7]
      walk_at "hy"
      refine wp_mono (due_ok (k := 9) (w := w) (N68.ag0 hag9) Bn BG (hag9.get hp8 id) hpl hsz hw) ?_
      rintro _ T10 ⟨hag10, rfl⟩
      have hag810 := hag9.trans hag10
      have hbn := brD_ne (allF ws wl' hl2 (gr.map (·.2)) (p0 :: ps) w)
      walk_at "hy"
      refine wp_mono (alike_br (k := 8) _) ?_
      rintro _ T11 ⟨rfl, hag11⟩
      have hag811 := hag810.trans hag11
      walk_at "hy"
      have ok := ok_netB B
      have hd1 := dt_netB (N78.ag0 hag811)
      rw [hgr7, same_netB hsame] at hd1
      refine wp_mono (alike_ok g_alike (P := fun _ => True) 13 (netPB ws wl' hl2 (gr.map (·.2))) _ _ _ (by omega) ok.1 hd1 (dt_netB (N68.ag0 hag811))) ?_
      rintro _ T12 ⟨rfl, hag12⟩
      have hag812 := hag811.trans hag12
      walk_at "hy"
      refine ne_prs (hag812.get hq8 id) (hag812.get hp8 id) (by omega) ?_
      walk_at "hy"
      exact ⟨N68.ag0 hag812, _, _, _, _, _, _, _, _, rfl⟩
  · rintro r T ⟨_, z1, z5, z6, z7, z8, z9, z10, z11, rfl⟩
    walk_at "hys"
    rfl
end
end K12
end HP
namespace HP
namespace K12
open PySem L2 PySem.Spec PyProof.Rows
theorem sc_1 : FnScope ["one", "other"] ["one", "other"] (defScope (topS 1)) := ⟨rfl, rfl, rfl, by decide +kernel, rfl, by decide +kernel, by decide +kernel⟩
theorem ok_1 : okSs F_divisor.body ⟨["one", "other"], defScope (topS 1), fun _ => true, false, fns, cons, blt, cls⟩ (defBody (topS 1)) = true := by decide +kernel
theorem sc_3 : FnScope ["top", "bottom", "by"] ["top", "bottom"] (defScope (topS 3)) := ⟨rfl, rfl, rfl, by decide +kernel, rfl, by decide +kernel, by decide +kernel⟩
theorem ok_3 : okSs F_in_lowest.body ⟨["top", "bottom", "by"], defScope (topS 3), fun _ => true, false, fns, cons, blt, cls⟩ (defBody (topS 3)) = true := by decide +kernel
theorem sc_4 : FnScope ["one", "other"] ["one", "other"] (defScope (topS 4)) := ⟨rfl, rfl, rfl, by decide +kernel, rfl, by decide +kernel, by decide +kernel⟩
theorem ok_4 : okSs F_plus.body ⟨["one", "other"], defScope (topS 4), fun _ => true, false, fns, cons, blt, cls⟩ (defBody (topS 4)) = true := by decide +kernel
theorem sc_5 : FnScope ["one", "other"] ["one", "other"] (defScope (topS 5)) := ⟨rfl, rfl, rfl, by decide +kernel, rfl, by decide +kernel, by decide +kernel⟩
theorem ok_5 : okSs F_is_less.body ⟨["one", "other"], defScope (topS 5), fun _ => true, false, fns, cons, blt, cls⟩ (defBody (topS 5)) = true := by decide +kernel
theorem sc_7 : FnScope ["offer", "time", "kind", "corners", "corner"] ["offer", "time"] (defScope (topS 7)) := ⟨rfl, rfl, rfl, by decide +kernel, rfl, by decide +kernel, by decide +kernel⟩
theorem ok_7 : okSs F_is_offered.body ⟨["offer", "time", "kind", "corners", "corner"], defScope (topS 7), fun _ => true, false, fns, cons, blt, cls⟩ (defBody (topS 7)) = true := by decide +kernel
theorem sc_10 : FnScope ["plan", "start", "time"] ["plan"] (defScope (topS 10)) := ⟨rfl, rfl, rfl, by decide +kernel, rfl, by decide +kernel, by decide +kernel⟩
theorem ok_10 : okSs F_ends_of.body ⟨["plan", "start", "time"], defScope (topS 10), fun _ => true, false, fns, cons, blt, cls⟩ (defBody (topS 10)) = true := by decide +kernel
theorem sc_11 : FnScope ["net", "plan", "work", "name", "offer"] ["net", "plan"] (defScope (topS 11)) := ⟨rfl, rfl, rfl, by decide +kernel, rfl, by decide +kernel, by decide +kernel⟩
theorem ok_11 : okSs F_broken_time.body ⟨["net", "plan", "work", "name", "offer"], defScope (topS 11), fun _ => true, false, fns, cons, blt, cls⟩ (defBody (topS 11)) = true := by decide +kernel
theorem sc_12 : FnScope ["net", "plan", "work", "times", "corner"] ["net", "plan", "work"] (defScope (topS 12)) := ⟨rfl, rfl, rfl, by decide +kernel, rfl, by decide +kernel, by decide +kernel⟩
theorem ok_12 : okSs F_corner_of.body ⟨["net", "plan", "work", "times", "corner"], defScope (topS 12), fun _ => true, false, fns, cons, blt, cls⟩ (defBody (topS 12)) = true := by decide +kernel
theorem sc_13 : FnScope ["net", "plan", "number", "group", "corners", "work"] ["net", "plan"] (defScope (topS 13)) := ⟨rfl, rfl, rfl, by decide +kernel, rfl, by decide +kernel, by decide +kernel⟩
theorem ok_13 : okSs F_broken_group.body ⟨["net", "plan", "number", "group", "corners", "work"], defScope (topS 13), fun _ => true, false, fns, cons, blt, cls⟩ (defBody (topS 13)) = true := by decide +kernel
theorem sc_14 : FnScope ["plan", "work", "place"] ["plan"] (defScope (topS 14)) := ⟨rfl, rfl, rfl, by decide +kernel, rfl, by decide +kernel, by decide +kernel⟩
theorem ok_14 : okSs F_broken_start.body ⟨["plan", "work", "place"], defScope (topS 14), fun _ => true, false, fns, cons, blt, cls⟩ (defBody (topS 14)) = true := by decide +kernel
theorem sc_15 : FnScope ["net", "plan", "ends", "number", "one", "other", "wait"] ["net", "plan", "ends"] (defScope (topS 15)) := ⟨rfl, rfl, rfl, by decide +kernel, rfl, by decide +kernel, by decide +kernel⟩
theorem ok_15 : okSs F_broken_wait.body ⟨["net", "plan", "ends", "number", "one", "other", "wait"], defScope (topS 15), fun _ => true, false, fns, cons, blt, cls⟩ (defBody (topS 15)) = true := by decide +kernel
theorem sc_16 : FnScope ["net", "plan", "ends", "number", "kind", "work", "moment", "late"] ["net", "plan", "ends"] (defScope (topS 16)) := ⟨rfl, rfl, rfl, by decide +kernel, rfl, by decide +kernel, by decide +kernel⟩
theorem ok_16 : okSs F_broken_hold.body ⟨["net", "plan", "ends", "number", "kind", "work", "moment", "late"], defScope (topS 16), fun _ => true, false, fns, cons, blt, cls⟩ (defBody (topS 16)) = true := by decide +kernel
theorem sc_17 : FnScope ["ends", "whole", "work", "end"] ["ends", "whole"] (defScope (topS 17)) := ⟨rfl, rfl, rfl, by decide +kernel, rfl, by decide +kernel, by decide +kernel⟩
theorem ok_17 : okSs F_broken_whole.body ⟨["ends", "whole", "work", "end"], defScope (topS 17), fun _ => true, false, fns, cons, blt, cls⟩ (defBody (topS 17)) = true := by decide +kernel
theorem sc_18 : FnScope ["net", "plan", "whole", "found", "ends"] ["net", "plan", "whole"] (defScope (topS 18)) := ⟨rfl, rfl, rfl, by decide +kernel, rfl, by decide +kernel, by decide +kernel⟩
theorem ok_18 : okSs F_first_broken.body ⟨["net", "plan", "whole", "found", "ends"], defScope (topS 18), fun _ => true, false, fns, cons, blt, cls⟩ (defBody (topS 18)) = true := by decide +kernel
theorem sc_20 : FnScope ["_law_script", "_law_k", "_law_cell"] ["_law_script", "_law_k"] (defScope (topS 20)) := ⟨rfl, rfl, rfl, by decide +kernel, rfl, by decide +kernel, by decide +kernel⟩
theorem ok_20 : okSs L_law_begun.body ⟨["_law_script", "_law_k", "_law_cell"], defScope (topS 20), fun _ => true, false, fns, cons, blt, cls⟩ (defBody (topS 20)) = true := by decide +kernel
theorem sc_21 : FnScope ["_law_state", "_law_many", "_law_digit", "_law_made", "_law_turn"] ["_law_state", "_law_many"] (defScope (topS 21)) := ⟨rfl, rfl, rfl, by decide +kernel, rfl, by decide +kernel, by decide +kernel⟩
theorem ok_21 : okSs L_law_take.body ⟨["_law_state", "_law_many", "_law_digit", "_law_made", "_law_turn"], defScope (topS 21), fun _ => true, false, fns, cons, blt, cls⟩ (defBody (topS 21)) = true := by decide +kernel
theorem sc_22 : FnScope ["_law_top", "_law_bottom", "_law_one", "_law_other"] ["_law_top", "_law_bottom"] (defScope (topS 22)) := ⟨rfl, rfl, rfl, by decide +kernel, rfl, by decide +kernel, by decide +kernel⟩
theorem ok_22 : okSs L_law_low.body ⟨["_law_top", "_law_bottom", "_law_one", "_law_other"], defScope (topS 22), fun _ => true, false, fns, cons, blt, cls⟩ (defBody (topS 22)) = true := by decide +kernel
theorem sc_23 : FnScope ["_law_one", "_law_other"] ["_law_one", "_law_other"] (defScope (topS 23)) := ⟨rfl, rfl, rfl, by decide +kernel, rfl, by decide +kernel, by decide +kernel⟩
theorem ok_23 : okSs L_law_plus.body ⟨["_law_one", "_law_other"], defScope (topS 23), fun _ => true, false, fns, cons, blt, cls⟩ (defBody (topS 23)) = true := by decide +kernel
theorem sc_24 : FnScope ["_law_one", "_law_other"] ["_law_one", "_law_other"] (defScope (topS 24)) := ⟨rfl, rfl, rfl, by decide +kernel, rfl, by decide +kernel, by decide +kernel⟩
theorem ok_24 : okSs L_law_minus.body ⟨["_law_one", "_law_other"], defScope (topS 24), fun _ => true, false, fns, cons, blt, cls⟩ (defBody (topS 24)) = true := by decide +kernel
theorem sc_25 : FnScope ["_law_one", "_law_other"] ["_law_one", "_law_other"] (defScope (topS 25)) := ⟨rfl, rfl, rfl, by decide +kernel, rfl, by decide +kernel, by decide +kernel⟩
theorem ok_25 : okSs L_law_times.body ⟨["_law_one", "_law_other"], defScope (topS 25), fun _ => true, false, fns, cons, blt, cls⟩ (defBody (topS 25)) = true := by decide +kernel
theorem sc_26 : FnScope ["_law_one", "_law_other"] ["_law_one", "_law_other"] (defScope (topS 26)) := ⟨rfl, rfl, rfl, by decide +kernel, rfl, by decide +kernel, by decide +kernel⟩
theorem ok_26 : okSs L_law_under.body ⟨["_law_one", "_law_other"], defScope (topS 26), fun _ => true, false, fns, cons, blt, cls⟩ (defBody (topS 26)) = true := by decide +kernel
theorem sc_27 : FnScope ["_law_state", "_law_plain", "_law_least", "_law_way", "_law_bottom"] ["_law_state", "_law_plain", "_law_least"] (defScope (topS 27)) := ⟨rfl, rfl, rfl, by decide +kernel, rfl, by decide +kernel, by decide +kernel⟩
theorem ok_27 : okSs L_law_amount.body ⟨["_law_state", "_law_plain", "_law_least", "_law_way", "_law_bottom"], defScope (topS 27), fun _ => true, false, fns, cons, blt, cls⟩ (defBody (topS 27)) = true := by decide +kernel
theorem sc_28 : FnScope ["_law_state", "_law_kind", "_law_most", "_law_plain", "_law_many", "_law_time_here", "_law_price", "_law_gaps", "_law_gap", "_law_corners", "_law_rate", "_law_step", "_law_k"] ["_law_state", "_law_kind", "_law_most", "_law_plain"] (defScope (topS 28)) := ⟨rfl, rfl, rfl, by decide +kernel, rfl, by decide +kernel, by decide +kernel⟩
theorem ok_28 : okSs L_law_offer.body ⟨["_law_state", "_law_kind", "_law_most", "_law_plain", "_law_many", "_law_time_here", "_law_price", "_law_gaps", "_law_gap", "_law_corners", "_law_rate", "_law_step", "_law_k"], defScope (topS 28), fun _ => true, false, fns, cons, blt, cls⟩ (defBody (topS 28)) = true := by decide +kernel
theorem sc_29 : FnScope ["_law_state", "_law_many", "_law_way", "_law_turn", "_law_base", "_law_at", "_law_words", "_law_made", "_law_k", "_law_letters", "_law_letter"] ["_law_state", "_law_many"] (defScope (topS 29)) := ⟨rfl, rfl, rfl, by decide +kernel, rfl, by decide +kernel, by decide +kernel⟩
theorem ok_29 : okSs L_law_names.body ⟨["_law_state", "_law_many", "_law_way", "_law_turn", "_law_base", "_law_at", "_law_words", "_law_made", "_law_k", "_law_letters", "_law_letter"], defScope (topS 29), fun _ => true, false, fns, cons, blt, cls⟩ (defBody (topS 29)) = true := by decide +kernel
theorem sc_30 : FnScope ["_law_state", "_law_many", "_law_left", "_law_made"] ["_law_state", "_law_many"] (defScope (topS 30)) := ⟨rfl, rfl, rfl, by decide +kernel, rfl, by decide +kernel, by decide +kernel⟩
theorem ok_30 : okSs L_law_order.body ⟨["_law_state", "_law_many", "_law_left", "_law_made"], defScope (topS 30), fun _ => true, false, fns, cons, blt, cls⟩ (defBody (topS 30)) = true := by decide +kernel
theorem sc_31 : FnScope ["_law_state", "_law_plain", "_law_lag_here"] ["_law_state", "_law_plain"] (defScope (topS 31)) := ⟨rfl, rfl, rfl, by decide +kernel, rfl, by decide +kernel, by decide +kernel⟩
theorem ok_31 : okSs L_law_lag.body ⟨["_law_state", "_law_plain", "_law_lag_here"], defScope (topS 31), fun _ => true, false, fns, cons, blt, cls⟩ (defBody (topS 31)) = true := by decide +kernel
theorem sc_32 : FnScope ["_law_state", "_law_many", "_law_plain", "_law_order_here", "_law_rare", "_law_made", "_law_k", "_law_j", "_law_far"] ["_law_state", "_law_many", "_law_plain"] (defScope (topS 32)) := ⟨rfl, rfl, rfl, by decide +kernel, rfl, by decide +kernel, by decide +kernel⟩
theorem ok_32 : okSs L_law_waits.body ⟨["_law_state", "_law_many", "_law_plain", "_law_order_here", "_law_rare", "_law_made", "_law_k", "_law_j", "_law_far"], defScope (topS 32), fun _ => true, false, fns, cons, blt, cls⟩ (defBody (topS 32)) = true := by decide +kernel
theorem sc_33 : FnScope ["_law_state", "_law_many", "_law_plain", "_law_late", "_law_made", "_law_k", "_law_kind", "_law_moment"] ["_law_state", "_law_many", "_law_plain", "_law_late"] (defScope (topS 33)) := ⟨rfl, rfl, rfl, by decide +kernel, rfl, by decide +kernel, by decide +kernel⟩
theorem ok_33 : okSs L_law_holds.body ⟨["_law_state", "_law_many", "_law_plain", "_law_late", "_law_made", "_law_k", "_law_kind", "_law_moment"], defScope (topS 33), fun _ => true, false, fns, cons, blt, cls⟩ (defBody (topS 33)) = true := by decide +kernel
theorem sc_34 : FnScope ["_law_state", "_law_works", "_law_left", "_law_made", "_law_size", "_law_alike_here", "_law_at"] ["_law_state", "_law_works"] (defScope (topS 34)) := ⟨rfl, rfl, rfl, by decide +kernel, rfl, by decide +kernel, by decide +kernel⟩
theorem ok_34 : okSs L_law_groups.body ⟨["_law_state", "_law_works", "_law_left", "_law_made", "_law_size", "_law_alike_here", "_law_at"], defScope (topS 34), fun _ => true, false, fns, cons, blt, cls⟩ (defBody (topS 34)) = true := by decide +kernel
theorem sc_35 : FnScope ["_law_script", "_law_at", "_law_most", "_law_corners", "_law_kinds", "_law_plain", "_law_state", "_law_many", "_law_names_here", "_law_works", "_law_late", "_law_name", "_law_offer_here", "_law_waits_here", "_law_holds_here"] ["_law_script", "_law_at", "_law_most", "_law_corners", "_law_kinds", "_law_plain"] (defScope (topS 35)) := ⟨rfl, rfl, rfl, by decide +kernel, rfl, by decide +kernel, by decide +kernel⟩
theorem ok_35 : okSs L_law_net.body ⟨["_law_script", "_law_at", "_law_most", "_law_corners", "_law_kinds", "_law_plain", "_law_state", "_law_many", "_law_names_here", "_law_works", "_law_late", "_law_name", "_law_offer_here", "_law_waits_here", "_law_holds_here"], defScope (topS 35), fun _ => true, false, fns, cons, blt, cls⟩ (defBody (topS 35)) = true := by decide +kernel
theorem sc_36 : FnScope ["_law_found", "_law_due_here", "_law_one", "_law_other"] ["_law_found", "_law_due_here"] (defScope (topS 36)) := ⟨rfl, rfl, rfl, by decide +kernel, rfl, by decide +kernel, by decide +kernel⟩
theorem ok_36 : okSs L_law_alike.body ⟨["_law_found", "_law_due_here", "_law_one", "_law_other"], defScope (topS 36), fun _ => true, false, fns, cons, blt, cls⟩ (defBody (topS 36)) = true := by decide +kernel
theorem sc_37 : FnScope ["_law_net_here", "_law_works", "_law_name", "_law_offer_here", "_law_group"] ["_law_net_here"] (defScope (topS 37)) := ⟨rfl, rfl, rfl, by decide +kernel, rfl, by decide +kernel, by decide +kernel⟩
theorem ok_37 : okSs L_law_copy.body ⟨["_law_net_here", "_law_works", "_law_name", "_law_offer_here", "_law_group"], defScope (topS 37), fun _ => true, false, fns, cons, blt, cls⟩ (defBody (topS 37)) = true := by decide +kernel
theorem sc_38 : FnScope ["_law_net_here", "_law_times_here", "_law_starts", "_law_turn", "_law_one", "_law_other", "_law_wait", "_law_least", "_law_kind", "_law_work", "_law_moment"] ["_law_net_here", "_law_times_here"] (defScope (topS 38)) := ⟨rfl, rfl, rfl, by decide +kernel, rfl, by decide +kernel, by decide +kernel⟩
theorem ok_38 : okSs L_law_started.body ⟨["_law_net_here", "_law_times_here", "_law_starts", "_law_turn", "_law_one", "_law_other", "_law_wait", "_law_least", "_law_kind", "_law_work", "_law_moment"], defScope (topS 38), fun _ => true, false, fns, cons, blt, cls⟩ (defBody (topS 38)) = true := by decide +kernel
theorem sc_39 : FnScope ["_law_state", "_law_offer_here", "_law_kind", "_law_corners", "_law_at", "_law_gap"] ["_law_state", "_law_offer_here"] (defScope (topS 39)) := ⟨rfl, rfl, rfl, by decide +kernel, rfl, by decide +kernel, by decide +kernel⟩
theorem ok_39 : okSs L_law_time.body ⟨["_law_state", "_law_offer_here", "_law_kind", "_law_corners", "_law_at", "_law_gap"], defScope (topS 39), fun _ => true, false, fns, cons, blt, cls⟩ (defBody (topS 39)) = true := by decide +kernel
theorem sc_40 : FnScope ["_law_offer_here", "_law_time_here", "_law_kind", "_law_corners", "_law_corner_here"] ["_law_offer_here", "_law_time_here"] (defScope (topS 40)) := ⟨rfl, rfl, rfl, by decide +kernel, rfl, by decide +kernel, by decide +kernel⟩
theorem ok_40 : okSs L_law_offered.body ⟨["_law_offer_here", "_law_time_here", "_law_kind", "_law_corners", "_law_corner_here"], defScope (topS 40), fun _ => true, false, fns, cons, blt, cls⟩ (defBody (topS 40)) = true := by decide +kernel
theorem sc_41 : FnScope ["_law_net_here", "_law_plan", "_law_work", "_law_times_here", "_law_corner_here"] ["_law_net_here", "_law_plan", "_law_work"] (defScope (topS 41)) := ⟨rfl, rfl, rfl, by decide +kernel, rfl, by decide +kernel, by decide +kernel⟩
theorem ok_41 : okSs L_law_corner.body ⟨["_law_net_here", "_law_plan", "_law_work", "_law_times_here", "_law_corner_here"], defScope (topS 41), fun _ => true, false, fns, cons, blt, cls⟩ (defBody (topS 41)) = true := by decide +kernel
theorem sc_42 : FnScope ["_law_net_here", "_law_plan", "_law_at", "_law_group", "_law_first", "_law_ends", "_law_one", "_law_other", "_law_wait", "_law_kind", "_law_work", "_law_moment", "_law_start", "_law_time_here"] ["_law_net_here", "_law_plan"] (defScope (topS 42)) := ⟨rfl, rfl, rfl, by decide +kernel, rfl, by decide +kernel, by decide +kernel⟩
theorem ok_42 : okSs L_law_bound.body ⟨["_law_net_here", "_law_plan", "_law_at", "_law_group", "_law_first", "_law_ends", "_law_one", "_law_other", "_law_wait", "_law_kind", "_law_work", "_law_moment", "_law_start", "_law_time_here"], defScope (topS 42), fun _ => true, false, fns, cons, blt, cls⟩ (defBody (topS 42)) = true := by decide +kernel
theorem sc_43 : FnScope ["_law_state", "_law_net_here", "_law_holds_here", "_law_kind", "_law_moment", "_law_turn"] ["_law_state", "_law_net_here"] (defScope (topS 43)) := ⟨rfl, rfl, rfl, by decide +kernel, rfl, by decide +kernel, by decide +kernel⟩
theorem ok_43 : okSs L_law_held.body ⟨["_law_state", "_law_net_here", "_law_holds_here", "_law_kind", "_law_moment", "_law_turn"], defScope (topS 43), fun _ => true, false, fns, cons, blt, cls⟩ (defBody (topS 43)) = true := by decide +kernel
theorem sc_44 : FnScope ["_law_net_here", "_law_plan", "_law_whole_here", "_law_at", "_law_bound_here"] ["_law_net_here", "_law_plan", "_law_whole_here"] (defScope (topS 44)) := ⟨rfl, rfl, rfl, by decide +kernel, rfl, by decide +kernel, by decide +kernel⟩
theorem ok_44 : okSs L_law_due.body ⟨["_law_net_here", "_law_plan", "_law_whole_here", "_law_at", "_law_bound_here"], defScope (topS 44), fun _ => true, false, fns, cons, blt, cls⟩ (defBody (topS 44)) = true := by decide +kernel
theorem sc_45 : FnScope ["_law_state", "_law_net_here", "_law_times_here", "_law_group", "_law_corner_here", "_law_work", "_law_name", "_law_offer_here"] ["_law_state", "_law_net_here"] (defScope (topS 45)) := ⟨rfl, rfl, rfl, by decide +kernel, rfl, by decide +kernel, by decide +kernel⟩
theorem ok_45 : okSs L_law_times_drawn.body ⟨["_law_state", "_law_net_here", "_law_times_here", "_law_group", "_law_corner_here", "_law_work", "_law_name", "_law_offer_here"], defScope (topS 45), fun _ => true, false, fns, cons, blt, cls⟩ (defBody (topS 45)) = true := by decide +kernel
theorem sc_46 : FnScope ["_law_state", "_law_net_here", "_law_plan", "_law_at", "_law_start", "_law_time_here", "_law_way", "_law_gap", "_law_kind", "_law_moment"] ["_law_state", "_law_net_here", "_law_plan"] (defScope (topS 46)) := ⟨rfl, rfl, rfl, by decide +kernel, rfl, by decide +kernel, by decide +kernel⟩
theorem ok_46 : okSs L_law_bent.body ⟨["_law_state", "_law_net_here", "_law_plan", "_law_at", "_law_start", "_law_time_here", "_law_way", "_law_gap", "_law_kind", "_law_moment"], defScope (topS 46), fun _ => true, false, fns, cons, blt, cls⟩ (defBody (topS 46)) = true := by decide +kernel
theorem sc_47 : FnScope ["_law_state", "_law_plan", "_law_behind", "_law_start", "_law_time_here", "_law_gap", "_law_some"] ["_law_state", "_law_plan"] (defScope (topS 47)) := ⟨rfl, rfl, rfl, by decide +kernel, rfl, by decide +kernel, by decide +kernel⟩
theorem ok_47 : okSs L_law_whole.body ⟨["_law_state", "_law_plan", "_law_behind", "_law_start", "_law_time_here", "_law_gap", "_law_some"], defScope (topS 47), fun _ => true, false, fns, cons, blt, cls⟩ (defBody (topS 47)) = true := by decide +kernel
theorem sc_48 : FnScope ["_law_script", "_law_state", "_law_kinds", "_law_great", "_law_net_here", "_law_again", "_law_at", "_law_plan", "_law_turn", "_law_whole_here", "_law_handed", "_law_given", "_law_one", "_law_other", "_law_wait"] ["_law_script"] (defScope (topS 48)) := ⟨rfl, rfl, rfl, by decide +kernel, rfl, by decide +kernel, by decide +kernel⟩
theorem ok_48 : okSs L_law.body ⟨["_law_script", "_law_state", "_law_kinds", "_law_great", "_law_net_here", "_law_again", "_law_at", "_law_plan", "_law_turn", "_law_whole_here", "_law_handed", "_law_given", "_law_one", "_law_other", "_law_wait"], defScope (topS 48), fun _ => true, false, fns, cons, blt, cls⟩ (defBody (topS 48)) = true := by decide +kernel
theorem all_mk (lt : ∀ ns : List Int, ns.length ≤ 63 → ∃ S, callN (Gof lawL) 14 1028 [.frl (ns.map D.int)] [] = .ok (.bl true) S)
    {P : Program} {w : World} {K : PySem.W.Frag} {h : Heap} {mg : Str → Option Value} {fa : Addr} (X : K.In h) (G : h.Ns mainGlobals mg) (hfa : mg "law" = some (.ref fa))
    {t2 : Tok} {t3 : Tok} {a1 : Addr} {n1 : Nat} {s1 : Array (Option Value)} {d1 : Option Addr} {f19 : Addr} {od19 an19 : Option Addr} {sl19 : Array (Option Value)} {oc19 kV19 dc19 pm19 cd19 ct19 : Value} {f20 : Addr} {od20 an20 : Option Addr} {sl20 : Array (Option Value)} {oc20 kV20 dc20 pm20 cd20 ct20 : Value} {f21 : Addr} {od21 an21 : Option Addr} {sl21 : Array (Option Value)} {oc21 kV21 dc21 pm21 cd21 ct21 : Value} {f22 : Addr} {od22 an22 : Option Addr} {sl22 : Array (Option Value)} {oc22 kV22 dc22 pm22 cd22 ct22 : Value} {f23 : Addr} {od23 an23 : Option Addr} {sl23 : Array (Option Value)} {oc23 kV23 dc23 pm23 cd23 ct23 : Value} {f24 : Addr} {od24 an24 : Option Addr} {sl24 : Array (Option Value)} {oc24 kV24 dc24 pm24 cd24 ct24 : Value} {f25 : Addr} {od25 an25 : Option Addr} {sl25 : Array (Option Value)} {oc25 kV25 dc25 pm25 cd25 ct25 : Value} {f26 : Addr} {od26 an26 : Option Addr} {sl26 : Array (Option Value)} {oc26 kV26 dc26 pm26 cd26 ct26 : Value} {f27 : Addr} {od27 an27 : Option Addr} {sl27 : Array (Option Value)} {oc27 kV27 dc27 pm27 cd27 ct27 : Value} {f28 : Addr} {od28 an28 : Option Addr} {sl28 : Array (Option Value)} {oc28 kV28 dc28 pm28 cd28 ct28 : Value} {f29 : Addr} {od29 an29 : Option Addr} {sl29 : Array (Option Value)} {oc29 kV29 dc29 pm29 cd29 ct29 : Value} {f30 : Addr} {od30 an30 : Option Addr} {sl30 : Array (Option Value)} {oc30 kV30 dc30 pm30 cd30 ct30 : Value} {f31 : Addr} {od31 an31 : Option Addr} {sl31 : Array (Option Value)} {oc31 kV31 dc31 pm31 cd31 ct31 : Value} {f32 : Addr} {od32 an32 : Option Addr} {sl32 : Array (Option Value)} {oc32 kV32 dc32 pm32 cd32 ct32 : Value} {f33 : Addr} {od33 an33 : Option Addr} {sl33 : Array (Option Value)} {oc33 kV33 dc33 pm33 cd33 ct33 : Value} {f34 : Addr} {od34 an34 : Option Addr} {sl34 : Array (Option Value)} {oc34 kV34 dc34 pm34 cd34 ct34 : Value} {f35 : Addr} {od35 an35 : Option Addr} {sl35 : Array (Option Value)} {oc35 kV35 dc35 pm35 cd35 ct35 : Value} {f36 : Addr} {od36 an36 : Option Addr} {sl36 : Array (Option Value)} {oc36 kV36 dc36 pm36 cd36 ct36 : Value} {f37 : Addr} {od37 an37 : Option Addr} {sl37 : Array (Option Value)} {oc37 kV37 dc37 pm37 cd37 ct37 : Value} {f38 : Addr} {od38 an38 : Option Addr} {sl38 : Array (Option Value)} {oc38 kV38 dc38 pm38 cd38 ct38 : Value} {f39 : Addr} {od39 an39 : Option Addr} {sl39 : Array (Option Value)} {oc39 kV39 dc39 pm39 cd39 ct39 : Value} {f40 : Addr} {od40 an40 : Option Addr} {sl40 : Array (Option Value)} {oc40 kV40 dc40 pm40 cd40 ct40 : Value} {f41 : Addr} {od41 an41 : Option Addr} {sl41 : Array (Option Value)} {oc41 kV41 dc41 pm41 cd41 ct41 : Value} {f42 : Addr} {od42 an42 : Option Addr} {sl42 : Array (Option Value)} {oc42 kV42 dc42 pm42 cd42 ct42 : Value} {f43 : Addr} {od43 an43 : Option Addr} {sl43 : Array (Option Value)} {oc43 kV43 dc43 pm43 cd43 ct43 : Value} {f44 : Addr} {od44 an44 : Option Addr} {sl44 : Array (Option Value)} {oc44 kV44 dc44 pm44 cd44 ct44 : Value} {f45 : Addr} {od45 an45 : Option Addr} {sl45 : Array (Option Value)} {oc45 kV45 dc45 pm45 cd45 ct45 : Value} {f46 : Addr} {od46 an46 : Option Addr} {sl46 : Array (Option Value)} {oc46 kV46 dc46 pm46 cd46 ct46 : Value} {f47 : Addr} {od47 an47 : Option Addr} {sl47 : Array (Option Value)} {oc47 kV47 dc47 pm47 cd47 ct47 : Value} {f48 : Addr} {od48 an48 : Option Addr} {sl48 : Array (Option Value)} {oc48 kV48 dc48 pm48 cd48 ct48 : Value} {f49 : Addr} {od49 an49 : Option Addr} {sl49 : Array (Option Value)} {oc49 kV49 dc49 pm49 cd49 ct49 : Value} {f50 : Addr} {od50 an50 : Option Addr} {sl50 : Array (Option Value)} {oc50 kV50 dc50 pm50 cd50 ct50 : Value} {f51 : Addr} {od51 an51 : Option Addr} {sl51 : Array (Option Value)} {oc51 kV51 dc51 pm51 cd51 ct51 : Value} {f52 : Addr} {od52 an52 : Option Addr} {sl52 : Array (Option Value)} {oc52 kV52 dc52 pm52 cd52 ct52 : Value} {f53 : Addr} {od53 an53 : Option Addr} {sl53 : Array (Option Value)} {oc53 kV53 dc53 pm53 cd53 ct53 : Value} {f54 : Addr} {od54 an54 : Option Addr} {sl54 : Array (Option Value)} {oc54 kV54 dc54 pm54 cd54 ct54 : Value} {f55 : Addr} {od55 an55 : Option Addr} {sl55 : Array (Option Value)} {oc55 kV55 dc55 pm55 cd55 ct55 : Value} {f56 : Addr} {od56 an56 : Option Addr} {sl56 : Array (Option Value)} {oc56 kV56 dc56 pm56 cd56 ct56 : Value} {f57 : Addr} {od57 an57 : Option Addr} {sl57 : Array (Option Value)} {oc57 kV57 dc57 pm57 cd57 ct57 : Value} {f58 : Addr} {od58 an58 : Option Addr} {sl58 : Array (Option Value)} {oc58 kV58 dc58 pm58 cd58 ct58 : Value} {f59 : Addr} {od59 an59 : Option Addr} {sl59 : Array (Option Value)} {oc59 kV59 dc59 pm59 cd59 ct59 : Value} {f60 : Addr} {od60 an60 : Option Addr} {sl60 : Array (Option Value)} {oc60 kV60 dc60 pm60 cd60 ct60 : Value} {f61 : Addr} {od61 an61 : Option Addr} {sl61 : Array (Option Value)} {oc61 kV61 dc61 pm61 cd61 ct61 : Value}
    (g4 : PySem.W.nsIn K mainGlobals "NOUGHT" = some (some (.ref a1)))
    (q1 : K.lookup a1 = some ⟨.type "tuple", d1, .seq #[.int 0 t2, .int 1 t3] n1, s1⟩)
    (z5 : PySem.W.nsIn K mainGlobals "abs" = some none)
    (z6 : PySem.W.nsIn K mainGlobals "all" = some none)
    (z7 : PySem.W.nsIn K mainGlobals "bool" = some none)
    (z8 : PySem.W.nsIn K mainGlobals "enumerate" = some none)
    (z9 : PySem.W.nsIn K mainGlobals "int" = some none)
    (z10 : PySem.W.nsIn K mainGlobals "isinstance" = some none)
    (z11 : PySem.W.nsIn K mainGlobals "len" = some none)
    (z12 : PySem.W.nsIn K mainGlobals "list" = some none)
    (z13 : PySem.W.nsIn K mainGlobals "max" = some none)
    (z14 : PySem.W.nsIn K mainGlobals "min" = some none)
    (z15 : PySem.W.nsIn K mainGlobals "range" = some none)
    (z16 : PySem.W.nsIn K mainGlobals "str" = some none)
    (z17 : PySem.W.nsIn K mainGlobals "tuple" = some none)
    (z18 : PySem.W.nsIn K mainGlobals "zip" = some none)
    (b19 : PySem.W.nsIn K mainGlobals "divisor" = some (some (.ref f19)))
    (l19 : K.lookup f19 = some ⟨oc19, od19, .func (PySem.W.fnOf "divisor" "divisor" (defArgs (topS 1)) (defBody (topS 1)) (defScope (topS 1)) .none kV19 dc19 pm19 an19 cd19 ct19), sl19⟩)
    (c19 : PySem.W.codeIn K cd19 "divisor" = true)
    (k19 : PySem.W.keepIn K (.ref f19) = true)
    (b20 : PySem.W.nsIn K mainGlobals "in_lowest" = some (some (.ref f20)))
    (l20 : K.lookup f20 = some ⟨oc20, od20, .func (PySem.W.fnOf "in_lowest" "in_lowest" (defArgs (topS 3)) (defBody (topS 3)) (defScope (topS 3)) .none kV20 dc20 pm20 an20 cd20 ct20), sl20⟩)
    (c20 : PySem.W.codeIn K cd20 "in_lowest" = true)
    (k20 : PySem.W.keepIn K (.ref f20) = true)
    (b21 : PySem.W.nsIn K mainGlobals "plus" = some (some (.ref f21)))
    (l21 : K.lookup f21 = some ⟨oc21, od21, .func (PySem.W.fnOf "plus" "plus" (defArgs (topS 4)) (defBody (topS 4)) (defScope (topS 4)) .none kV21 dc21 pm21 an21 cd21 ct21), sl21⟩)
    (c21 : PySem.W.codeIn K cd21 "plus" = true)
    (k21 : PySem.W.keepIn K (.ref f21) = true)
    (b22 : PySem.W.nsIn K mainGlobals "is_less" = some (some (.ref f22)))
    (l22 : K.lookup f22 = some ⟨oc22, od22, .func (PySem.W.fnOf "is_less" "is_less" (defArgs (topS 5)) (defBody (topS 5)) (defScope (topS 5)) .none kV22 dc22 pm22 an22 cd22 ct22), sl22⟩)
    (c22 : PySem.W.codeIn K cd22 "is_less" = true)
    (k22 : PySem.W.keepIn K (.ref f22) = true)
    (b23 : PySem.W.nsIn K mainGlobals "is_offered" = some (some (.ref f23)))
    (l23 : K.lookup f23 = some ⟨oc23, od23, .func (PySem.W.fnOf "is_offered" "is_offered" (defArgs (topS 7)) (defBody (topS 7)) (defScope (topS 7)) .none kV23 dc23 pm23 an23 cd23 ct23), sl23⟩)
    (c23 : PySem.W.codeIn K cd23 "is_offered" = true)
    (k23 : PySem.W.keepIn K (.ref f23) = true)
    (b24 : PySem.W.nsIn K mainGlobals "ends_of" = some (some (.ref f24)))
    (l24 : K.lookup f24 = some ⟨oc24, od24, .func (PySem.W.fnOf "ends_of" "ends_of" (defArgs (topS 10)) (defBody (topS 10)) (defScope (topS 10)) .none kV24 dc24 pm24 an24 cd24 ct24), sl24⟩)
    (c24 : PySem.W.codeIn K cd24 "ends_of" = true)
    (k24 : PySem.W.keepIn K (.ref f24) = true)
    (b25 : PySem.W.nsIn K mainGlobals "broken_time" = some (some (.ref f25)))
    (l25 : K.lookup f25 = some ⟨oc25, od25, .func (PySem.W.fnOf "broken_time" "broken_time" (defArgs (topS 11)) (defBody (topS 11)) (defScope (topS 11)) .none kV25 dc25 pm25 an25 cd25 ct25), sl25⟩)
    (c25 : PySem.W.codeIn K cd25 "broken_time" = true)
    (k25 : PySem.W.keepIn K (.ref f25) = true)
    (b26 : PySem.W.nsIn K mainGlobals "corner_of" = some (some (.ref f26)))
    (l26 : K.lookup f26 = some ⟨oc26, od26, .func (PySem.W.fnOf "corner_of" "corner_of" (defArgs (topS 12)) (defBody (topS 12)) (defScope (topS 12)) .none kV26 dc26 pm26 an26 cd26 ct26), sl26⟩)
    (c26 : PySem.W.codeIn K cd26 "corner_of" = true)
    (k26 : PySem.W.keepIn K (.ref f26) = true)
    (b27 : PySem.W.nsIn K mainGlobals "broken_group" = some (some (.ref f27)))
    (l27 : K.lookup f27 = some ⟨oc27, od27, .func (PySem.W.fnOf "broken_group" "broken_group" (defArgs (topS 13)) (defBody (topS 13)) (defScope (topS 13)) .none kV27 dc27 pm27 an27 cd27 ct27), sl27⟩)
    (c27 : PySem.W.codeIn K cd27 "broken_group" = true)
    (k27 : PySem.W.keepIn K (.ref f27) = true)
    (b28 : PySem.W.nsIn K mainGlobals "broken_start" = some (some (.ref f28)))
    (l28 : K.lookup f28 = some ⟨oc28, od28, .func (PySem.W.fnOf "broken_start" "broken_start" (defArgs (topS 14)) (defBody (topS 14)) (defScope (topS 14)) .none kV28 dc28 pm28 an28 cd28 ct28), sl28⟩)
    (c28 : PySem.W.codeIn K cd28 "broken_start" = true)
    (k28 : PySem.W.keepIn K (.ref f28) = true)
    (b29 : PySem.W.nsIn K mainGlobals "broken_wait" = some (some (.ref f29)))
    (l29 : K.lookup f29 = some ⟨oc29, od29, .func (PySem.W.fnOf "broken_wait" "broken_wait" (defArgs (topS 15)) (defBody (topS 15)) (defScope (topS 15)) .none kV29 dc29 pm29 an29 cd29 ct29), sl29⟩)
    (c29 : PySem.W.codeIn K cd29 "broken_wait" = true)
    (k29 : PySem.W.keepIn K (.ref f29) = true)
    (b30 : PySem.W.nsIn K mainGlobals "broken_hold" = some (some (.ref f30)))
    (l30 : K.lookup f30 = some ⟨oc30, od30, .func (PySem.W.fnOf "broken_hold" "broken_hold" (defArgs (topS 16)) (defBody (topS 16)) (defScope (topS 16)) .none kV30 dc30 pm30 an30 cd30 ct30), sl30⟩)
    (c30 : PySem.W.codeIn K cd30 "broken_hold" = true)
    (k30 : PySem.W.keepIn K (.ref f30) = true)
    (b31 : PySem.W.nsIn K mainGlobals "broken_whole" = some (some (.ref f31)))
    (l31 : K.lookup f31 = some ⟨oc31, od31, .func (PySem.W.fnOf "broken_whole" "broken_whole" (defArgs (topS 17)) (defBody (topS 17)) (defScope (topS 17)) .none kV31 dc31 pm31 an31 cd31 ct31), sl31⟩)
    (c31 : PySem.W.codeIn K cd31 "broken_whole" = true)
    (k31 : PySem.W.keepIn K (.ref f31) = true)
    (b32 : PySem.W.nsIn K mainGlobals "first_broken" = some (some (.ref f32)))
    (l32 : K.lookup f32 = some ⟨oc32, od32, .func (PySem.W.fnOf "first_broken" "first_broken" (defArgs (topS 18)) (defBody (topS 18)) (defScope (topS 18)) .none kV32 dc32 pm32 an32 cd32 ct32), sl32⟩)
    (c32 : PySem.W.codeIn K cd32 "first_broken" = true)
    (k32 : PySem.W.keepIn K (.ref f32) = true)
    (b33 : PySem.W.nsIn K mainGlobals "_law_begun" = some (some (.ref f33)))
    (l33 : K.lookup f33 = some ⟨oc33, od33, .func (PySem.W.fnOf "_law_begun" "_law_begun" (defArgs (topS 20)) (defBody (topS 20)) (defScope (topS 20)) .none kV33 dc33 pm33 an33 cd33 ct33), sl33⟩)
    (c33 : PySem.W.codeIn K cd33 "_law_begun" = true)
    (k33 : PySem.W.keepIn K (.ref f33) = true)
    (b34 : PySem.W.nsIn K mainGlobals "_law_take" = some (some (.ref f34)))
    (l34 : K.lookup f34 = some ⟨oc34, od34, .func (PySem.W.fnOf "_law_take" "_law_take" (defArgs (topS 21)) (defBody (topS 21)) (defScope (topS 21)) .none kV34 dc34 pm34 an34 cd34 ct34), sl34⟩)
    (c34 : PySem.W.codeIn K cd34 "_law_take" = true)
    (k34 : PySem.W.keepIn K (.ref f34) = true)
    (b35 : PySem.W.nsIn K mainGlobals "_law_low" = some (some (.ref f35)))
    (l35 : K.lookup f35 = some ⟨oc35, od35, .func (PySem.W.fnOf "_law_low" "_law_low" (defArgs (topS 22)) (defBody (topS 22)) (defScope (topS 22)) .none kV35 dc35 pm35 an35 cd35 ct35), sl35⟩)
    (c35 : PySem.W.codeIn K cd35 "_law_low" = true)
    (k35 : PySem.W.keepIn K (.ref f35) = true)
    (b36 : PySem.W.nsIn K mainGlobals "_law_plus" = some (some (.ref f36)))
    (l36 : K.lookup f36 = some ⟨oc36, od36, .func (PySem.W.fnOf "_law_plus" "_law_plus" (defArgs (topS 23)) (defBody (topS 23)) (defScope (topS 23)) .none kV36 dc36 pm36 an36 cd36 ct36), sl36⟩)
    (c36 : PySem.W.codeIn K cd36 "_law_plus" = true)
    (k36 : PySem.W.keepIn K (.ref f36) = true)
    (b37 : PySem.W.nsIn K mainGlobals "_law_minus" = some (some (.ref f37)))
    (l37 : K.lookup f37 = some ⟨oc37, od37, .func (PySem.W.fnOf "_law_minus" "_law_minus" (defArgs (topS 24)) (defBody (topS 24)) (defScope (topS 24)) .none kV37 dc37 pm37 an37 cd37 ct37), sl37⟩)
    (c37 : PySem.W.codeIn K cd37 "_law_minus" = true)
    (k37 : PySem.W.keepIn K (.ref f37) = true)
    (b38 : PySem.W.nsIn K mainGlobals "_law_times" = some (some (.ref f38)))
    (l38 : K.lookup f38 = some ⟨oc38, od38, .func (PySem.W.fnOf "_law_times" "_law_times" (defArgs (topS 25)) (defBody (topS 25)) (defScope (topS 25)) .none kV38 dc38 pm38 an38 cd38 ct38), sl38⟩)
    (c38 : PySem.W.codeIn K cd38 "_law_times" = true)
    (k38 : PySem.W.keepIn K (.ref f38) = true)
    (b39 : PySem.W.nsIn K mainGlobals "_law_under" = some (some (.ref f39)))
    (l39 : K.lookup f39 = some ⟨oc39, od39, .func (PySem.W.fnOf "_law_under" "_law_under" (defArgs (topS 26)) (defBody (topS 26)) (defScope (topS 26)) .none kV39 dc39 pm39 an39 cd39 ct39), sl39⟩)
    (c39 : PySem.W.codeIn K cd39 "_law_under" = true)
    (k39 : PySem.W.keepIn K (.ref f39) = true)
    (b40 : PySem.W.nsIn K mainGlobals "_law_amount" = some (some (.ref f40)))
    (l40 : K.lookup f40 = some ⟨oc40, od40, .func (PySem.W.fnOf "_law_amount" "_law_amount" (defArgs (topS 27)) (defBody (topS 27)) (defScope (topS 27)) .none kV40 dc40 pm40 an40 cd40 ct40), sl40⟩)
    (c40 : PySem.W.codeIn K cd40 "_law_amount" = true)
    (k40 : PySem.W.keepIn K (.ref f40) = true)
    (b41 : PySem.W.nsIn K mainGlobals "_law_offer" = some (some (.ref f41)))
    (l41 : K.lookup f41 = some ⟨oc41, od41, .func (PySem.W.fnOf "_law_offer" "_law_offer" (defArgs (topS 28)) (defBody (topS 28)) (defScope (topS 28)) .none kV41 dc41 pm41 an41 cd41 ct41), sl41⟩)
    (c41 : PySem.W.codeIn K cd41 "_law_offer" = true)
    (k41 : PySem.W.keepIn K (.ref f41) = true)
    (b42 : PySem.W.nsIn K mainGlobals "_law_names" = some (some (.ref f42)))
    (l42 : K.lookup f42 = some ⟨oc42, od42, .func (PySem.W.fnOf "_law_names" "_law_names" (defArgs (topS 29)) (defBody (topS 29)) (defScope (topS 29)) .none kV42 dc42 pm42 an42 cd42 ct42), sl42⟩)
    (c42 : PySem.W.codeIn K cd42 "_law_names" = true)
    (k42 : PySem.W.keepIn K (.ref f42) = true)
    (b43 : PySem.W.nsIn K mainGlobals "_law_order" = some (some (.ref f43)))
    (l43 : K.lookup f43 = some ⟨oc43, od43, .func (PySem.W.fnOf "_law_order" "_law_order" (defArgs (topS 30)) (defBody (topS 30)) (defScope (topS 30)) .none kV43 dc43 pm43 an43 cd43 ct43), sl43⟩)
    (c43 : PySem.W.codeIn K cd43 "_law_order" = true)
    (k43 : PySem.W.keepIn K (.ref f43) = true)
    (b44 : PySem.W.nsIn K mainGlobals "_law_lag" = some (some (.ref f44)))
    (l44 : K.lookup f44 = some ⟨oc44, od44, .func (PySem.W.fnOf "_law_lag" "_law_lag" (defArgs (topS 31)) (defBody (topS 31)) (defScope (topS 31)) .none kV44 dc44 pm44 an44 cd44 ct44), sl44⟩)
    (c44 : PySem.W.codeIn K cd44 "_law_lag" = true)
    (k44 : PySem.W.keepIn K (.ref f44) = true)
    (b45 : PySem.W.nsIn K mainGlobals "_law_waits" = some (some (.ref f45)))
    (l45 : K.lookup f45 = some ⟨oc45, od45, .func (PySem.W.fnOf "_law_waits" "_law_waits" (defArgs (topS 32)) (defBody (topS 32)) (defScope (topS 32)) .none kV45 dc45 pm45 an45 cd45 ct45), sl45⟩)
    (c45 : PySem.W.codeIn K cd45 "_law_waits" = true)
    (k45 : PySem.W.keepIn K (.ref f45) = true)
    (b46 : PySem.W.nsIn K mainGlobals "_law_holds" = some (some (.ref f46)))
    (l46 : K.lookup f46 = some ⟨oc46, od46, .func (PySem.W.fnOf "_law_holds" "_law_holds" (defArgs (topS 33)) (defBody (topS 33)) (defScope (topS 33)) .none kV46 dc46 pm46 an46 cd46 ct46), sl46⟩)
    (c46 : PySem.W.codeIn K cd46 "_law_holds" = true)
    (k46 : PySem.W.keepIn K (.ref f46) = true)
    (b47 : PySem.W.nsIn K mainGlobals "_law_groups" = some (some (.ref f47)))
    (l47 : K.lookup f47 = some ⟨oc47, od47, .func (PySem.W.fnOf "_law_groups" "_law_groups" (defArgs (topS 34)) (defBody (topS 34)) (defScope (topS 34)) .none kV47 dc47 pm47 an47 cd47 ct47), sl47⟩)
    (c47 : PySem.W.codeIn K cd47 "_law_groups" = true)
    (k47 : PySem.W.keepIn K (.ref f47) = true)
    (b48 : PySem.W.nsIn K mainGlobals "_law_net" = some (some (.ref f48)))
    (l48 : K.lookup f48 = some ⟨oc48, od48, .func (PySem.W.fnOf "_law_net" "_law_net" (defArgs (topS 35)) (defBody (topS 35)) (defScope (topS 35)) .none kV48 dc48 pm48 an48 cd48 ct48), sl48⟩)
    (c48 : PySem.W.codeIn K cd48 "_law_net" = true)
    (k48 : PySem.W.keepIn K (.ref f48) = true)
    (b49 : PySem.W.nsIn K mainGlobals "_law_alike" = some (some (.ref f49)))
    (l49 : K.lookup f49 = some ⟨oc49, od49, .func (PySem.W.fnOf "_law_alike" "_law_alike" (defArgs (topS 36)) (defBody (topS 36)) (defScope (topS 36)) .none kV49 dc49 pm49 an49 cd49 ct49), sl49⟩)
    (c49 : PySem.W.codeIn K cd49 "_law_alike" = true)
    (k49 : PySem.W.keepIn K (.ref f49) = true)
    (b50 : PySem.W.nsIn K mainGlobals "_law_copy" = some (some (.ref f50)))
    (l50 : K.lookup f50 = some ⟨oc50, od50, .func (PySem.W.fnOf "_law_copy" "_law_copy" (defArgs (topS 37)) (defBody (topS 37)) (defScope (topS 37)) .none kV50 dc50 pm50 an50 cd50 ct50), sl50⟩)
    (c50 : PySem.W.codeIn K cd50 "_law_copy" = true)
    (k50 : PySem.W.keepIn K (.ref f50) = true)
    (b51 : PySem.W.nsIn K mainGlobals "_law_started" = some (some (.ref f51)))
    (l51 : K.lookup f51 = some ⟨oc51, od51, .func (PySem.W.fnOf "_law_started" "_law_started" (defArgs (topS 38)) (defBody (topS 38)) (defScope (topS 38)) .none kV51 dc51 pm51 an51 cd51 ct51), sl51⟩)
    (c51 : PySem.W.codeIn K cd51 "_law_started" = true)
    (k51 : PySem.W.keepIn K (.ref f51) = true)
    (b52 : PySem.W.nsIn K mainGlobals "_law_time" = some (some (.ref f52)))
    (l52 : K.lookup f52 = some ⟨oc52, od52, .func (PySem.W.fnOf "_law_time" "_law_time" (defArgs (topS 39)) (defBody (topS 39)) (defScope (topS 39)) .none kV52 dc52 pm52 an52 cd52 ct52), sl52⟩)
    (c52 : PySem.W.codeIn K cd52 "_law_time" = true)
    (k52 : PySem.W.keepIn K (.ref f52) = true)
    (b53 : PySem.W.nsIn K mainGlobals "_law_offered" = some (some (.ref f53)))
    (l53 : K.lookup f53 = some ⟨oc53, od53, .func (PySem.W.fnOf "_law_offered" "_law_offered" (defArgs (topS 40)) (defBody (topS 40)) (defScope (topS 40)) .none kV53 dc53 pm53 an53 cd53 ct53), sl53⟩)
    (c53 : PySem.W.codeIn K cd53 "_law_offered" = true)
    (k53 : PySem.W.keepIn K (.ref f53) = true)
    (b54 : PySem.W.nsIn K mainGlobals "_law_corner" = some (some (.ref f54)))
    (l54 : K.lookup f54 = some ⟨oc54, od54, .func (PySem.W.fnOf "_law_corner" "_law_corner" (defArgs (topS 41)) (defBody (topS 41)) (defScope (topS 41)) .none kV54 dc54 pm54 an54 cd54 ct54), sl54⟩)
    (c54 : PySem.W.codeIn K cd54 "_law_corner" = true)
    (k54 : PySem.W.keepIn K (.ref f54) = true)
    (b55 : PySem.W.nsIn K mainGlobals "_law_bound" = some (some (.ref f55)))
    (l55 : K.lookup f55 = some ⟨oc55, od55, .func (PySem.W.fnOf "_law_bound" "_law_bound" (defArgs (topS 42)) (defBody (topS 42)) (defScope (topS 42)) .none kV55 dc55 pm55 an55 cd55 ct55), sl55⟩)
    (c55 : PySem.W.codeIn K cd55 "_law_bound" = true)
    (k55 : PySem.W.keepIn K (.ref f55) = true)
    (b56 : PySem.W.nsIn K mainGlobals "_law_held" = some (some (.ref f56)))
    (l56 : K.lookup f56 = some ⟨oc56, od56, .func (PySem.W.fnOf "_law_held" "_law_held" (defArgs (topS 43)) (defBody (topS 43)) (defScope (topS 43)) .none kV56 dc56 pm56 an56 cd56 ct56), sl56⟩)
    (c56 : PySem.W.codeIn K cd56 "_law_held" = true)
    (k56 : PySem.W.keepIn K (.ref f56) = true)
    (b57 : PySem.W.nsIn K mainGlobals "_law_due" = some (some (.ref f57)))
    (l57 : K.lookup f57 = some ⟨oc57, od57, .func (PySem.W.fnOf "_law_due" "_law_due" (defArgs (topS 44)) (defBody (topS 44)) (defScope (topS 44)) .none kV57 dc57 pm57 an57 cd57 ct57), sl57⟩)
    (c57 : PySem.W.codeIn K cd57 "_law_due" = true)
    (k57 : PySem.W.keepIn K (.ref f57) = true)
    (b58 : PySem.W.nsIn K mainGlobals "_law_times_drawn" = some (some (.ref f58)))
    (l58 : K.lookup f58 = some ⟨oc58, od58, .func (PySem.W.fnOf "_law_times_drawn" "_law_times_drawn" (defArgs (topS 45)) (defBody (topS 45)) (defScope (topS 45)) .none kV58 dc58 pm58 an58 cd58 ct58), sl58⟩)
    (c58 : PySem.W.codeIn K cd58 "_law_times_drawn" = true)
    (k58 : PySem.W.keepIn K (.ref f58) = true)
    (b59 : PySem.W.nsIn K mainGlobals "_law_bent" = some (some (.ref f59)))
    (l59 : K.lookup f59 = some ⟨oc59, od59, .func (PySem.W.fnOf "_law_bent" "_law_bent" (defArgs (topS 46)) (defBody (topS 46)) (defScope (topS 46)) .none kV59 dc59 pm59 an59 cd59 ct59), sl59⟩)
    (c59 : PySem.W.codeIn K cd59 "_law_bent" = true)
    (k59 : PySem.W.keepIn K (.ref f59) = true)
    (b60 : PySem.W.nsIn K mainGlobals "_law_whole" = some (some (.ref f60)))
    (l60 : K.lookup f60 = some ⟨oc60, od60, .func (PySem.W.fnOf "_law_whole" "_law_whole" (defArgs (topS 47)) (defBody (topS 47)) (defScope (topS 47)) .none kV60 dc60 pm60 an60 cd60 ct60), sl60⟩)
    (c60 : PySem.W.codeIn K cd60 "_law_whole" = true)
    (k60 : PySem.W.keepIn K (.ref f60) = true)
    (b61 : PySem.W.nsIn K mainGlobals "law" = some (some (.ref f61)))
    (l61 : K.lookup f61 = some ⟨oc61, od61, .func (PySem.W.fnOf "law" "law" (defArgs (topS 48)) (defBody (topS 48)) (defScope (topS 48)) .none kV61 dc61 pm61 an61 cd61 ct61), sl61⟩)
    (c61 : PySem.W.codeIn K cd61 "law" = true)
    (k61 : PySem.W.keepIn K (.ref f61) = true) :
    ∃ fd : FuncData, (∀ (s : Shared) (v : Value), BindsTo s fd ⟨[v], []⟩ [("_law_script", v)]) ∧ ∀ base : Heap, K.In base → base.Ns mainGlobals mg → FnOk P w K mg base (L2.CX P w) 14 fa fd ["_law_script"] (spLaw K 63) := by
  have e : f61 = fa := by
    have q := (PySem.W.mg_of X G b61).symm.trans hfa
    cases q
    rfl
  subst e
  have T : Top w K mg (fun _ => 0) (Gof lawL) fns cons blt cls := top_of
    (List.forall_mem_nil _)
    (show ∀ k ∈ [], KnF K (fun _ => 0) cls k from List.forall_mem_nil _)
    (List.forall_mem_cons.mpr ⟨⟨_, .ref a1, PySem.W.mg_of X G g4, rfl, fun th H => (.tup (vs := [.int 0, .int 1]) (.inr ⟨_, _, _, q1, rfl, rfl, (by show 2 ≤ sizeLine; decide), (.cons ⟨_, rfl⟩ (.cons ⟨_, rfl⟩ .nil))⟩) (.inl rfl) (.cons (.int _) (.cons (.int _) .nil))), kdF_no fun _ e => by cases e⟩,
    List.forall_mem_nil _⟩)
    (List.forall_mem_cons.mpr ⟨PySem.W.mg_none_of X G z5,
    List.forall_mem_cons.mpr ⟨PySem.W.mg_none_of X G z6,
    List.forall_mem_cons.mpr ⟨PySem.W.mg_none_of X G z7,
    List.forall_mem_cons.mpr ⟨PySem.W.mg_none_of X G z8,
    List.forall_mem_cons.mpr ⟨PySem.W.mg_none_of X G z9,
    List.forall_mem_cons.mpr ⟨PySem.W.mg_none_of X G z10,
    List.forall_mem_cons.mpr ⟨PySem.W.mg_none_of X G z11,
    List.forall_mem_cons.mpr ⟨PySem.W.mg_none_of X G z12,
    List.forall_mem_cons.mpr ⟨PySem.W.mg_none_of X G z13,
    List.forall_mem_cons.mpr ⟨PySem.W.mg_none_of X G z14,
    List.forall_mem_cons.mpr ⟨PySem.W.mg_none_of X G z15,
    List.forall_mem_cons.mpr ⟨PySem.W.mg_none_of X G z16,
    List.forall_mem_cons.mpr ⟨PySem.W.mg_none_of X G z17,
    List.forall_mem_cons.mpr ⟨PySem.W.mg_none_of X G z18,
    List.forall_mem_nil _⟩⟩⟩⟩⟩⟩⟩⟩⟩⟩⟩⟩⟩⟩)
    (List.forall_mem_cons.mpr ⟨⟨topS 1, _, _, F_divisor, f19, _, "divisor", "divisor", fun_mk (st := topS 1) l19 c19 k19, PySem.W.mg_of X G b19, (fun_mk (st := topS 1) l19 c19 k19).binds (ps := ["one", "other"]) (fun _ _ _ _ _ _ us hl => match us, hl with | [_, _], _ => rfl), rfl, sc_1, rfl, rfl, rfl, ok_1⟩,
    List.forall_mem_cons.mpr ⟨⟨topS 3, _, _, F_in_lowest, f20, _, "in_lowest", "in_lowest", fun_mk (st := topS 3) l20 c20 k20, PySem.W.mg_of X G b20, (fun_mk (st := topS 3) l20 c20 k20).binds (ps := ["top", "bottom"]) (fun _ _ _ _ _ _ us hl => match us, hl with | [_, _], _ => rfl), rfl, sc_3, rfl, rfl, rfl, ok_3⟩,
    List.forall_mem_cons.mpr ⟨⟨topS 4, _, _, F_plus, f21, _, "plus", "plus", fun_mk (st := topS 4) l21 c21 k21, PySem.W.mg_of X G b21, (fun_mk (st := topS 4) l21 c21 k21).binds (ps := ["one", "other"]) (fun _ _ _ _ _ _ us hl => match us, hl with | [_, _], _ => rfl), rfl, sc_4, rfl, rfl, rfl, ok_4⟩,
    List.forall_mem_cons.mpr ⟨⟨topS 5, _, _, F_is_less, f22, _, "is_less", "is_less", fun_mk (st := topS 5) l22 c22 k22, PySem.W.mg_of X G b22, (fun_mk (st := topS 5) l22 c22 k22).binds (ps := ["one", "other"]) (fun _ _ _ _ _ _ us hl => match us, hl with | [_, _], _ => rfl), rfl, sc_5, rfl, rfl, rfl, ok_5⟩,
    List.forall_mem_cons.mpr ⟨⟨topS 7, _, _, F_is_offered, f23, _, "is_offered", "is_offered", fun_mk (st := topS 7) l23 c23 k23, PySem.W.mg_of X G b23, (fun_mk (st := topS 7) l23 c23 k23).binds (ps := ["offer", "time"]) (fun _ _ _ _ _ _ us hl => match us, hl with | [_, _], _ => rfl), rfl, sc_7, rfl, rfl, rfl, ok_7⟩,
    List.forall_mem_cons.mpr ⟨⟨topS 10, _, _, F_ends_of, f24, _, "ends_of", "ends_of", fun_mk (st := topS 10) l24 c24 k24, PySem.W.mg_of X G b24, (fun_mk (st := topS 10) l24 c24 k24).binds (ps := ["plan"]) (fun _ _ _ _ _ _ us hl => match us, hl with | [_], _ => rfl), rfl, sc_10, rfl, rfl, rfl, ok_10⟩,
    List.forall_mem_cons.mpr ⟨⟨topS 11, _, _, F_broken_time, f25, _, "broken_time", "broken_time", fun_mk (st := topS 11) l25 c25 k25, PySem.W.mg_of X G b25, (fun_mk (st := topS 11) l25 c25 k25).binds (ps := ["net", "plan"]) (fun _ _ _ _ _ _ us hl => match us, hl with | [_, _], _ => rfl), rfl, sc_11, rfl, rfl, rfl, ok_11⟩,
    List.forall_mem_cons.mpr ⟨⟨topS 12, _, _, F_corner_of, f26, _, "corner_of", "corner_of", fun_mk (st := topS 12) l26 c26 k26, PySem.W.mg_of X G b26, (fun_mk (st := topS 12) l26 c26 k26).binds (ps := ["net", "plan", "work"]) (fun _ _ _ _ _ _ us hl => match us, hl with | [_, _, _], _ => rfl), rfl, sc_12, rfl, rfl, rfl, ok_12⟩,
    List.forall_mem_cons.mpr ⟨⟨topS 13, _, _, F_broken_group, f27, _, "broken_group", "broken_group", fun_mk (st := topS 13) l27 c27 k27, PySem.W.mg_of X G b27, (fun_mk (st := topS 13) l27 c27 k27).binds (ps := ["net", "plan"]) (fun _ _ _ _ _ _ us hl => match us, hl with | [_, _], _ => rfl), rfl, sc_13, rfl, rfl, rfl, ok_13⟩,
    List.forall_mem_cons.mpr ⟨⟨topS 14, _, _, F_broken_start, f28, _, "broken_start", "broken_start", fun_mk (st := topS 14) l28 c28 k28, PySem.W.mg_of X G b28, (fun_mk (st := topS 14) l28 c28 k28).binds (ps := ["plan"]) (fun _ _ _ _ _ _ us hl => match us, hl with | [_], _ => rfl), rfl, sc_14, rfl, rfl, rfl, ok_14⟩,
    List.forall_mem_cons.mpr ⟨⟨topS 15, _, _, F_broken_wait, f29, _, "broken_wait", "broken_wait", fun_mk (st := topS 15) l29 c29 k29, PySem.W.mg_of X G b29, (fun_mk (st := topS 15) l29 c29 k29).binds (ps := ["net", "plan", "ends"]) (fun _ _ _ _ _ _ us hl => match us, hl with | [_, _, _], _ => rfl), rfl, sc_15, rfl, rfl, rfl, ok_15⟩,
    List.forall_mem_cons.mpr ⟨⟨topS 16, _, _, F_broken_hold, f30, _, "broken_hold", "broken_hold", fun_mk (st := topS 16) l30 c30 k30, PySem.W.mg_of X G b30, (fun_mk (st := topS 16) l30 c30 k30).binds (ps := ["net", "plan", "ends"]) (fun _ _ _ _ _ _ us hl => match us, hl with | [_, _, _], _ => rfl), rfl, sc_16, rfl, rfl, rfl, ok_16⟩,
    List.forall_mem_cons.mpr ⟨⟨topS 17, _, _, F_broken_whole, f31, _, "broken_whole", "broken_whole", fun_mk (st := topS 17) l31 c31 k31, PySem.W.mg_of X G b31, (fun_mk (st := topS 17) l31 c31 k31).binds (ps := ["ends", "whole"]) (fun _ _ _ _ _ _ us hl => match us, hl with | [_, _], _ => rfl), rfl, sc_17, rfl, rfl, rfl, ok_17⟩,
    List.forall_mem_cons.mpr ⟨⟨topS 18, _, _, F_first_broken, f32, _, "first_broken", "first_broken", fun_mk (st := topS 18) l32 c32 k32, PySem.W.mg_of X G b32, (fun_mk (st := topS 18) l32 c32 k32).binds (ps := ["net", "plan", "whole"]) (fun _ _ _ _ _ _ us hl => match us, hl with | [_, _, _], _ => rfl), rfl, sc_18, rfl, rfl, rfl, ok_18⟩,
    List.forall_mem_cons.mpr ⟨⟨topS 20, _, _, L_law_begun, f33, _, "_law_begun", "_law_begun", fun_mk (st := topS 20) l33 c33 k33, PySem.W.mg_of X G b33, (fun_mk (st := topS 20) l33 c33 k33).binds (ps := ["_law_script", "_law_k"]) (fun _ _ _ _ _ _ us hl => match us, hl with | [_, _], _ => rfl), rfl, sc_20, rfl, rfl, rfl, ok_20⟩,
    List.forall_mem_cons.mpr ⟨⟨topS 21, _, _, L_law_take, f34, _, "_law_take", "_law_take", fun_mk (st := topS 21) l34 c34 k34, PySem.W.mg_of X G b34, (fun_mk (st := topS 21) l34 c34 k34).binds (ps := ["_law_state", "_law_many"]) (fun _ _ _ _ _ _ us hl => match us, hl with | [_, _], _ => rfl), rfl, sc_21, rfl, rfl, rfl, ok_21⟩,
    List.forall_mem_cons.mpr ⟨⟨topS 22, _, _, L_law_low, f35, _, "_law_low", "_law_low", fun_mk (st := topS 22) l35 c35 k35, PySem.W.mg_of X G b35, (fun_mk (st := topS 22) l35 c35 k35).binds (ps := ["_law_top", "_law_bottom"]) (fun _ _ _ _ _ _ us hl => match us, hl with | [_, _], _ => rfl), rfl, sc_22, rfl, rfl, rfl, ok_22⟩,
    List.forall_mem_cons.mpr ⟨⟨topS 23, _, _, L_law_plus, f36, _, "_law_plus", "_law_plus", fun_mk (st := topS 23) l36 c36 k36, PySem.W.mg_of X G b36, (fun_mk (st := topS 23) l36 c36 k36).binds (ps := ["_law_one", "_law_other"]) (fun _ _ _ _ _ _ us hl => match us, hl with | [_, _], _ => rfl), rfl, sc_23, rfl, rfl, rfl, ok_23⟩,
    List.forall_mem_cons.mpr ⟨⟨topS 24, _, _, L_law_minus, f37, _, "_law_minus", "_law_minus", fun_mk (st := topS 24) l37 c37 k37, PySem.W.mg_of X G b37, (fun_mk (st := topS 24) l37 c37 k37).binds (ps := ["_law_one", "_law_other"]) (fun _ _ _ _ _ _ us hl => match us, hl with | [_, _], _ => rfl), rfl, sc_24, rfl, rfl, rfl, ok_24⟩,
    List.forall_mem_cons.mpr ⟨⟨topS 25, _, _, L_law_times, f38, _, "_law_times", "_law_times", fun_mk (st := topS 25) l38 c38 k38, PySem.W.mg_of X G b38, (fun_mk (st := topS 25) l38 c38 k38).binds (ps := ["_law_one", "_law_other"]) (fun _ _ _ _ _ _ us hl => match us, hl with | [_, _], _ => rfl), rfl, sc_25, rfl, rfl, rfl, ok_25⟩,
    List.forall_mem_cons.mpr ⟨⟨topS 26, _, _, L_law_under, f39, _, "_law_under", "_law_under", fun_mk (st := topS 26) l39 c39 k39, PySem.W.mg_of X G b39, (fun_mk (st := topS 26) l39 c39 k39).binds (ps := ["_law_one", "_law_other"]) (fun _ _ _ _ _ _ us hl => match us, hl with | [_, _], _ => rfl), rfl, sc_26, rfl, rfl, rfl, ok_26⟩,
    List.forall_mem_cons.mpr ⟨⟨topS 27, _, _, L_law_amount, f40, _, "_law_amount", "_law_amount", fun_mk (st := topS 27) l40 c40 k40, PySem.W.mg_of X G b40, (fun_mk (st := topS 27) l40 c40 k40).binds (ps := ["_law_state", "_law_plain", "_law_least"]) (fun _ _ _ _ _ _ us hl => match us, hl with | [_, _, _], _ => rfl), rfl, sc_27, rfl, rfl, rfl, ok_27⟩,
    List.forall_mem_cons.mpr ⟨⟨topS 28, _, _, L_law_offer, f41, _, "_law_offer", "_law_offer", fun_mk (st := topS 28) l41 c41 k41, PySem.W.mg_of X G b41, (fun_mk (st := topS 28) l41 c41 k41).binds (ps := ["_law_state", "_law_kind", "_law_most", "_law_plain"]) (fun _ _ _ _ _ _ us hl => match us, hl with | [_, _, _, _], _ => rfl), rfl, sc_28, rfl, rfl, rfl, ok_28⟩,
    List.forall_mem_cons.mpr ⟨⟨topS 29, _, _, L_law_names, f42, _, "_law_names", "_law_names", fun_mk (st := topS 29) l42 c42 k42, PySem.W.mg_of X G b42, (fun_mk (st := topS 29) l42 c42 k42).binds (ps := ["_law_state", "_law_many"]) (fun _ _ _ _ _ _ us hl => match us, hl with | [_, _], _ => rfl), rfl, sc_29, rfl, rfl, rfl, ok_29⟩,
    List.forall_mem_cons.mpr ⟨⟨topS 30, _, _, L_law_order, f43, _, "_law_order", "_law_order", fun_mk (st := topS 30) l43 c43 k43, PySem.W.mg_of X G b43, (fun_mk (st := topS 30) l43 c43 k43).binds (ps := ["_law_state", "_law_many"]) (fun _ _ _ _ _ _ us hl => match us, hl with | [_, _], _ => rfl), rfl, sc_30, rfl, rfl, rfl, ok_30⟩,
    List.forall_mem_cons.mpr ⟨⟨topS 31, _, _, L_law_lag, f44, _, "_law_lag", "_law_lag", fun_mk (st := topS 31) l44 c44 k44, PySem.W.mg_of X G b44, (fun_mk (st := topS 31) l44 c44 k44).binds (ps := ["_law_state", "_law_plain"]) (fun _ _ _ _ _ _ us hl => match us, hl with | [_, _], _ => rfl), rfl, sc_31, rfl, rfl, rfl, ok_31⟩,
    List.forall_mem_cons.mpr ⟨⟨topS 32, _, _, L_law_waits, f45, _, "_law_waits", "_law_waits", fun_mk (st := topS 32) l45 c45 k45, PySem.W.mg_of X G b45, (fun_mk (st := topS 32) l45 c45 k45).binds (ps := ["_law_state", "_law_many", "_law_plain"]) (fun _ _ _ _ _ _ us hl => match us, hl with | [_, _, _], _ => rfl), rfl, sc_32, rfl, rfl, rfl, ok_32⟩,
    List.forall_mem_cons.mpr ⟨⟨topS 33, _, _, L_law_holds, f46, _, "_law_holds", "_law_holds", fun_mk (st := topS 33) l46 c46 k46, PySem.W.mg_of X G b46, (fun_mk (st := topS 33) l46 c46 k46).binds (ps := ["_law_state", "_law_many", "_law_plain", "_law_late"]) (fun _ _ _ _ _ _ us hl => match us, hl with | [_, _, _, _], _ => rfl), rfl, sc_33, rfl, rfl, rfl, ok_33⟩,
    List.forall_mem_cons.mpr ⟨⟨topS 34, _, _, L_law_groups, f47, _, "_law_groups", "_law_groups", fun_mk (st := topS 34) l47 c47 k47, PySem.W.mg_of X G b47, (fun_mk (st := topS 34) l47 c47 k47).binds (ps := ["_law_state", "_law_works"]) (fun _ _ _ _ _ _ us hl => match us, hl with | [_, _], _ => rfl), rfl, sc_34, rfl, rfl, rfl, ok_34⟩,
    List.forall_mem_cons.mpr ⟨⟨topS 35, _, _, L_law_net, f48, _, "_law_net", "_law_net", fun_mk (st := topS 35) l48 c48 k48, PySem.W.mg_of X G b48, (fun_mk (st := topS 35) l48 c48 k48).binds (ps := ["_law_script", "_law_at", "_law_most", "_law_corners", "_law_kinds", "_law_plain"]) (fun _ _ _ _ _ _ us hl => match us, hl with | [_, _, _, _, _, _], _ => rfl), rfl, sc_35, rfl, rfl, rfl, ok_35⟩,
    List.forall_mem_cons.mpr ⟨⟨topS 36, _, _, L_law_alike, f49, _, "_law_alike", "_law_alike", fun_mk (st := topS 36) l49 c49 k49, PySem.W.mg_of X G b49, (fun_mk (st := topS 36) l49 c49 k49).binds (ps := ["_law_found", "_law_due_here"]) (fun _ _ _ _ _ _ us hl => match us, hl with | [_, _], _ => rfl), rfl, sc_36, rfl, rfl, rfl, ok_36⟩,
    List.forall_mem_cons.mpr ⟨⟨topS 37, _, _, L_law_copy, f50, _, "_law_copy", "_law_copy", fun_mk (st := topS 37) l50 c50 k50, PySem.W.mg_of X G b50, (fun_mk (st := topS 37) l50 c50 k50).binds (ps := ["_law_net_here"]) (fun _ _ _ _ _ _ us hl => match us, hl with | [_], _ => rfl), rfl, sc_37, rfl, rfl, rfl, ok_37⟩,
    List.forall_mem_cons.mpr ⟨⟨topS 38, _, _, L_law_started, f51, _, "_law_started", "_law_started", fun_mk (st := topS 38) l51 c51 k51, PySem.W.mg_of X G b51, (fun_mk (st := topS 38) l51 c51 k51).binds (ps := ["_law_net_here", "_law_times_here"]) (fun _ _ _ _ _ _ us hl => match us, hl with | [_, _], _ => rfl), rfl, sc_38, rfl, rfl, rfl, ok_38⟩,
    List.forall_mem_cons.mpr ⟨⟨topS 39, _, _, L_law_time, f52, _, "_law_time", "_law_time", fun_mk (st := topS 39) l52 c52 k52, PySem.W.mg_of X G b52, (fun_mk (st := topS 39) l52 c52 k52).binds (ps := ["_law_state", "_law_offer_here"]) (fun _ _ _ _ _ _ us hl => match us, hl with | [_, _], _ => rfl), rfl, sc_39, rfl, rfl, rfl, ok_39⟩,
    List.forall_mem_cons.mpr ⟨⟨topS 40, _, _, L_law_offered, f53, _, "_law_offered", "_law_offered", fun_mk (st := topS 40) l53 c53 k53, PySem.W.mg_of X G b53, (fun_mk (st := topS 40) l53 c53 k53).binds (ps := ["_law_offer_here", "_law_time_here"]) (fun _ _ _ _ _ _ us hl => match us, hl with | [_, _], _ => rfl), rfl, sc_40, rfl, rfl, rfl, ok_40⟩,
    List.forall_mem_cons.mpr ⟨⟨topS 41, _, _, L_law_corner, f54, _, "_law_corner", "_law_corner", fun_mk (st := topS 41) l54 c54 k54, PySem.W.mg_of X G b54, (fun_mk (st := topS 41) l54 c54 k54).binds (ps := ["_law_net_here", "_law_plan", "_law_work"]) (fun _ _ _ _ _ _ us hl => match us, hl with | [_, _, _], _ => rfl), rfl, sc_41, rfl, rfl, rfl, ok_41⟩,
    List.forall_mem_cons.mpr ⟨⟨topS 42, _, _, L_law_bound, f55, _, "_law_bound", "_law_bound", fun_mk (st := topS 42) l55 c55 k55, PySem.W.mg_of X G b55, (fun_mk (st := topS 42) l55 c55 k55).binds (ps := ["_law_net_here", "_law_plan"]) (fun _ _ _ _ _ _ us hl => match us, hl with | [_, _], _ => rfl), rfl, sc_42, rfl, rfl, rfl, ok_42⟩,
    List.forall_mem_cons.mpr ⟨⟨topS 43, _, _, L_law_held, f56, _, "_law_held", "_law_held", fun_mk (st := topS 43) l56 c56 k56, PySem.W.mg_of X G b56, (fun_mk (st := topS 43) l56 c56 k56).binds (ps := ["_law_state", "_law_net_here"]) (fun _ _ _ _ _ _ us hl => match us, hl with | [_, _], _ => rfl), rfl, sc_43, rfl, rfl, rfl, ok_43⟩,
    List.forall_mem_cons.mpr ⟨⟨topS 44, _, _, L_law_due, f57, _, "_law_due", "_law_due", fun_mk (st := topS 44) l57 c57 k57, PySem.W.mg_of X G b57, (fun_mk (st := topS 44) l57 c57 k57).binds (ps := ["_law_net_here", "_law_plan", "_law_whole_here"]) (fun _ _ _ _ _ _ us hl => match us, hl with | [_, _, _], _ => rfl), rfl, sc_44, rfl, rfl, rfl, ok_44⟩,
    List.forall_mem_cons.mpr ⟨⟨topS 45, _, _, L_law_times_drawn, f58, _, "_law_times_drawn", "_law_times_drawn", fun_mk (st := topS 45) l58 c58 k58, PySem.W.mg_of X G b58, (fun_mk (st := topS 45) l58 c58 k58).binds (ps := ["_law_state", "_law_net_here"]) (fun _ _ _ _ _ _ us hl => match us, hl with | [_, _], _ => rfl), rfl, sc_45, rfl, rfl, rfl, ok_45⟩,
    List.forall_mem_cons.mpr ⟨⟨topS 46, _, _, L_law_bent, f59, _, "_law_bent", "_law_bent", fun_mk (st := topS 46) l59 c59 k59, PySem.W.mg_of X G b59, (fun_mk (st := topS 46) l59 c59 k59).binds (ps := ["_law_state", "_law_net_here", "_law_plan"]) (fun _ _ _ _ _ _ us hl => match us, hl with | [_, _, _], _ => rfl), rfl, sc_46, rfl, rfl, rfl, ok_46⟩,
    List.forall_mem_cons.mpr ⟨⟨topS 47, _, _, L_law_whole, f60, _, "_law_whole", "_law_whole", fun_mk (st := topS 47) l60 c60 k60, PySem.W.mg_of X G b60, (fun_mk (st := topS 47) l60 c60 k60).binds (ps := ["_law_state", "_law_plan"]) (fun _ _ _ _ _ _ us hl => match us, hl with | [_, _], _ => rfl), rfl, sc_47, rfl, rfl, rfl, ok_47⟩,
    List.forall_mem_cons.mpr ⟨⟨topS 48, _, _, L_law, f61, _, "law", "law", fun_mk (st := topS 48) l61 c61 k61, PySem.W.mg_of X G b61, (fun_mk (st := topS 48) l61 c61 k61).binds (ps := ["_law_script"]) (fun _ _ _ _ _ _ us hl => match us, hl with | [_], _ => rfl), rfl, sc_48, rfl, rfl, rfl, ok_48⟩,
    List.forall_mem_nil _⟩⟩⟩⟩⟩⟩⟩⟩⟩⟩⟩⟩⟩⟩⟩⟩⟩⟩⟩⟩⟩⟩⟩⟩⟩⟩⟩⟩⟩⟩⟩⟩⟩⟩⟩⟩⟩⟩⟩⟩⟩⟩⟩)
  exact ⟨_, fun s v => .of_eq rfl, fun base _ _ => law_imp (fn_one (n := 1) (f := 1028) T (fn_ok T 13) (fun_mk (st := topS 48) l61 c61 k61) rfl sc_48 rfl rfl rfl ok_48) lt⟩
end K12
end HP
open PySem PySem.W PyProof.Rows
theorem PySem.Challenge.cw_hurryprice_k12_whole_first_broken_holds : PySem.Challenge.rw_hurryprice_k12_whole_first_broken.Holds := by
  w_on; o_law; k_head; (case hw => w_witness2)
  k_fill
  refine L2.walk_of (l := PySem.Challenge.rw_hurryprice_k12_whole_first_broken) (n := 63) (k := 14) (x := "_law_script") (CX := fun w => L2.CX PySem.Challenge.rw_hurryprice_k12_whole_first_broken.prog w) (sp := fun w => HP.spLaw _ 63) rfl (by decide) rfl ⟨rfl, by decide, by decide⟩ (fun w h Y => PySem.W.kIn_of Y) ?F (fun w H a ns hl hO hS => ⟨a, ns, rfl, HP.only_fz hO hS, hl, fun _ => rfl⟩) (fun w H s e s' h => HP.cx_false h)
  case F =>
    intro w mg fa h KX G hmg
    refine' HP.K12.all_mk HP.K12.law_true KX G hmg ?g4 ?q1 ?z5 ?z6 ?z7 ?z8 ?z9 ?z10 ?z11 ?z12 ?z13 ?z14 ?z15 ?z16 ?z17 ?z18 ?b19 ?l19 ?c19 ?k19 ?b20 ?l20 ?c20 ?k20 ?b21 ?l21 ?c21 ?k21 ?b22 ?l22 ?c22 ?k22 ?b23 ?l23 ?c23 ?k23 ?b24 ?l24 ?c24 ?k24 ?b25 ?l25 ?c25 ?k25 ?b26 ?l26 ?c26 ?k26 ?b27 ?l27 ?c27 ?k27 ?b28 ?l28 ?c28 ?k28 ?b29 ?l29 ?c29 ?k29 ?b30 ?l30 ?c30 ?k30 ?b31 ?l31 ?c31 ?k31 ?b32 ?l32 ?c32 ?k32 ?b33 ?l33 ?c33 ?k33 ?b34 ?l34 ?c34 ?k34 ?b35 ?l35 ?c35 ?k35 ?b36 ?l36 ?c36 ?k36 ?b37 ?l37 ?c37 ?k37 ?b38 ?l38 ?c38 ?k38 ?b39 ?l39 ?c39 ?k39 ?b40 ?l40 ?c40 ?k40 ?b41 ?l41 ?c41 ?k41 ?b42 ?l42 ?c42 ?k42 ?b43 ?l43 ?c43 ?k43 ?b44 ?l44 ?c44 ?k44 ?b45 ?l45 ?c45 ?k45 ?b46 ?l46 ?c46 ?k46 ?b47 ?l47 ?c47 ?k47 ?b48 ?l48 ?c48 ?k48 ?b49 ?l49 ?c49 ?k49 ?b50 ?l50 ?c50 ?k50 ?b51 ?l51 ?c51 ?k51 ?b52 ?l52 ?c52 ?k52 ?b53 ?l53 ?c53 ?k53 ?b54 ?l54 ?c54 ?k54 ?b55 ?l55 ?c55 ?k55 ?b56 ?l56 ?c56 ?k56 ?b57 ?l57 ?c57 ?k57 ?b58 ?l58 ?c58 ?k58 ?b59 ?l59 ?c59 ?k59 ?b60 ?l60 ?c60 ?k60 ?b61 ?l61 ?c61 ?k61
    (case g4 => k_is); (case q1 => k_is); (case z5 => k_is); (case z6 => k_is); (case z7 => k_is); (case z8 => k_is); (case z9 => k_is); (case z10 => k_is); (case z11 => k_is); (case z12 => k_is); (case z13 => k_is); (case z14 => k_is); (case z15 => k_is); (case z16 => k_is); (case z17 => k_is); (case z18 => k_is); (case b19 => k_is); (case l19 => k_is); (case c19 => k_is); (case k19 => k_is); (case b20 => k_is); (case l20 => k_is); (case c20 => k_is); (case k20 => k_is); (case b21 => k_is); (case l21 => k_is); (case c21 => k_is); (case k21 => k_is); (case b22 => k_is); (case l22 => k_is); (case c22 => k_is); (case k22 => k_is); (case b23 => k_is); (case l23 => k_is); (case c23 => k_is); (case k23 => k_is); (case b24 => k_is); (case l24 => k_is); (case c24 => k_is); (case k24 => k_is); (case b25 => k_is); (case l25 => k_is); (case c25 => k_is); (case k25 => k_is); (case b26 => k_is); (case l26 => k_is); (case c26 => k_is); (case k26 => k_is); (case b27 => k_is); (case l27 => k_is); (case c27 => k_is); (case k27 => k_is); (case b28 => k_is); (case l28 => k_is); (case c28 => k_is); (case k28 => k_is); (case b29 => k_is); (case l29 => k_is); (case c29 => k_is); (case k29 => k_is); (case b30 => k_is); (case l30 => k_is); (case c30 => k_is); (case k30 => k_is); (case b31 => k_is); (case l31 => k_is); (case c31 => k_is); (case k31 => k_is); (case b32 => k_is); (case l32 => k_is); (case c32 => k_is); (case k32 => k_is); (case b33 => k_is); (case l33 => k_is); (case c33 => k_is); (case k33 => k_is); (case b34 => k_is); (case l34 => k_is); (case c34 => k_is); (case k34 => k_is); (case b35 => k_is); (case l35 => k_is); (case c35 => k_is); (case k35 => k_is); (case b36 => k_is); (case l36 => k_is); (case c36 => k_is); (case k36 => k_is); (case b37 => k_is); (case l37 => k_is); (case c37 => k_is); (case k37 => k_is); (case b38 => k_is); (case l38 => k_is); (case c38 => k_is); (case k38 => k_is); (case b39 => k_is); (case l39 => k_is); (case c39 => k_is); (case k39 => k_is); (case b40 => k_is); (case l40 => k_is); (case c40 => k_is); (case k40 => k_is); (case b41 => k_is); (case l41 => k_is); (case c41 => k_is); (case k41 => k_is); (case b42 => k_is); (case l42 => k_is); (case c42 => k_is); (case k42 => k_is); (case b43 => k_is); (case l43 => k_is); (case c43 => k_is); (case k43 => k_is); (case b44 => k_is); (case l44 => k_is); (case c44 => k_is); (case k44 => k_is); (case b45 => k_is); (case l45 => k_is); (case c45 => k_is); (case k45 => k_is); (case b46 => k_is); (case l46 => k_is); (case c46 => k_is); (case k46 => k_is); (case b47 => k_is); (case l47 => k_is); (case c47 => k_is); (case k47 => k_is); (case b48 => k_is); (case l48 => k_is); (case c48 => k_is); (case k48 => k_is); (case b49 => k_is); (case l49 => k_is); (case c49 => k_is); (case k49 => k_is); (case b50 => k_is); (case l50 => k_is); (case c50 => k_is); (case k50 => k_is); (case b51 => k_is); (case l51 => k_is); (case c51 => k_is); (case k51 => k_is); (case b52 => k_is); (case l52 => k_is); (case c52 => k_is); (case k52 => k_is); (case b53 => k_is); (case l53 => k_is); (case c53 => k_is); (case k53 => k_is); (case b54 => k_is); (case l54 => k_is); (case c54 => k_is); (case k54 => k_is); (case b55 => k_is); (case l55 => k_is); (case c55 => k_is); (case k55 => k_is); (case b56 => k_is); (case l56 => k_is); (case c56 => k_is); (case k56 => k_is); (case b57 => k_is); (case l57 => k_is); (case c57 => k_is); (case k57 => k_is); (case b58 => k_is); (case l58 => k_is); (case c58 => k_is); (case k58 => k_is); (case b59 => k_is); (case l59 => k_is); (case c59 => k_is); (case k59 => k_is); (case b60 => k_is); (case l60 => k_is); (case c60 => k_is); (case k60 => k_is); (case b61 => k_is); (case l61 => k_is); (case c61 => k_is); (case k61 => k_is)
