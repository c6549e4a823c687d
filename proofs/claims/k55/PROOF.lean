import PyProof.Rows.All
import Wide.All
import OpenK.AllK
import Wide.FinOn
import HandS.ForMost
import HandS.ForExc
import HandS.CallSlots
import HandS.TryMany
import HandS.IsInst
import HandS.Flow
import HandS.Style
import HandS.Deep
import HandS.Zip
import HandS.WordsExc
import HandS.WordsList
import HandS.ExcIs
import HandS.ExcField
import HandS.Conv
import HandS.Iter
import HandS.Dict
import HandS.TupAny
import HandS.More
import HandS.Lambda
import HandS.ExcInit
import HandS.EndTab
import PyProof.ReprRoads
import KE.KDictZip
import KE.KDictItemsList
import HandS.ListItems
import HandS.TryOnly
import HandS.CallRecv
import HandS.HeadWalk
import PySem.Challenge.RW_hurryprice_k55_shapes_joined
set_option Elab.async false
set_option linter.all false
set_option maxRecDepth 100000
set_option maxHeartbeats 4000000
namespace HP
open PySem L2
/-- the built-in types that the programs name -/
inductive Bt where
  | int | bool | str | tuple | list | dict | non
  deriving DecidableEq
def Bt.name : Bt → String
  | .int => "int" | .bool => "bool" | .str => "str" | .tuple => "tuple" | .list => "list" | .dict => "dict" | .non => "NoneType"
/-- a value: tuples and frozen lists by their items, objects by their place in the store; exc: what an except clause holds -/
inductive D where
  | non | bl (b : Bool) | int (i : Int) | str (x : Str)
  | tup (ds : List D) | frl (ds : List D) | loc (l : Nat) | ty (n : Bt) | cls (c : Nat)
  | exc (c : Nat) (fs : List (Str × D)) | kd (kvs : List (Str × Int)) | lam (k : Nat) (ds : List D)
/-- an object of the store -/
inductive O where
  | lst (ds : List D) | dic (kvs : List (Key × D)) | ins (c : Nat) (fs : List (Str × D)) | dct (kvs : List (List Key × D))
abbrev Sto := List O
abbrev Ev := List (Option D)
/-- an exception: its class, its fields -/
structure Xn where
  c : Nat
  fs : List (Str × D)
/-- how an expression ends -/
inductive R (A : Type) where
  | ok (a : A) (S : Sto) | exn (x : Xn) (S : Sto) | bad
/-- how a statement ends -/
inductive RS where
  | nx (r : Ev) (S : Sto) | rt (d : D) (S : Sto) | bk (r : Ev) (S : Sto) | ct (r : Ev) (S : Sto) | ex (x : Xn) (r : Ev) (S : Sto) | bad
/-- what never changes once it is laid -/
def Imm : HO → Bool
  | .tup _ => true | .frz _ _ => true | .own _ => true | .xd _ => true | .ext _ => true | _ => false
/-- what is a store's object -/
def Mut : HO → Bool
  | .lst _ => true | .dK _ => true | .dT _ => true | .ins _ _ _ => true | _ => false
theorem Mut.imm {o : HO} (h : Mut o = true) : Imm o = false := by
  cases o <;> first | rfl | (cases h)
/-- where the classes stand; the tables of the code objects of lambdas, with these' names -/
structure CA where
  f : Nat → Addr
  T : List (Addr × Str)
  cs : List (Addr × Addr)
instance : CoeFun CA (fun _ => Nat → Addr) := ⟨CA.f⟩
theorem tabs_new {T : List (Addr × Str)} {H : Hp} {p : Addr} {u : HO} (t : LamX.Tabs T H) (h : H p = none) : LamX.Tabs T (upd H p u) := fun q hq => by
  obtain ⟨ps, h1, h2, h3⟩ := t q hq
  refine ⟨ps, by rw [upd_ne (ne_of_none h1 h)]; exact h1, h2, fun pos cv hc => ?_⟩
  obtain ⟨c, e1, e2⟩ := h3 pos cv hc
  exact ⟨c, e1, by rw [upd_ne (ne_of_none e2 h)]; exact e2⟩
theorem tabs_put {T : List (Addr × Str)} {H : Hp} {p : Addr} {w u : HO} (t : LamX.Tabs T H) (h : H p = some w) (m : Mut w = true) : LamX.Tabs T (upd H p u) := fun q hq => by
  obtain ⟨ps, h1, h2, h3⟩ := t q hq
  have ne : ∀ {b : Addr} {o : HO}, H b = some o → Mut o = false → b ≠ p := fun {b o} e k z => by
    rw [z, h] at e
    cases e
    rw [m] at k
    cases k
  refine ⟨ps, by rw [upd_ne (ne h1 rfl)]; exact h1, h2, fun pos cv hc => ?_⟩
  obtain ⟨c, e1, e2⟩ := h3 pos cv hc
  exact ⟨c, e1, by rw [upd_ne (ne e2 rfl)]; exact e2⟩
def Frm (H H' : Hp) : Prop := ∀ a o, H a = some o → Imm o = true → H' a = some o
theorem Frm.refl (H : Hp) : Frm H H := fun _ _ h _ => h
theorem Frm.trans {H H1 H2 : Hp} (a : Frm H H1) (b : Frm H1 H2) : Frm H H2 := fun x o h i => b x o (a x o h i) i
theorem Frm.new {H : Hp} {p : Addr} {o : HO} (h : H p = none) : Frm H (upd H p o) := fun a u e _ => by
  rw [upd_ne (ne_of_none e h)]; exact e
theorem Frm.put {H : Hp} {p : Addr} {o o' : HO} (h : H p = some o) (m : Imm o = false) : Frm H (upd H p o') := fun a u e i => by
  by_cases ha : a = p
  · subst ha; rw [h] at e; cases e; rw [m] at i; cases i
  · rw [upd_ne ha]; exact e
/-- a list that is never written -/
def FzL (K : PySem.W.Frag) (H : Hp) (a : Addr) (xs : List V) : Prop :=
  (∃ o, H a = some (.frz o (.lst xs))) ∨
    ∃ (o : Obj) (its : Array Value) (n : Nat), K.lookup a = some o ∧ o.cls = .type "list" ∧ o.dict = none ∧ o.data = .seq its n ∧ its.size ≤ sizeLine ∧ Vals xs its.toList
theorem FzL.sq {K : PySem.W.Frag} {H : Hp} {a : Addr} {xs : List V} (h : FzL K H a xs) : SqL K H a xs := by
  rcases h with ⟨o, h⟩ | h
  · exact .inl (.inr ⟨o, h⟩)
  · exact .inr h
/-- a tuple that is no key of the programs' dicts: it may be a constant -/
def nsB : List D → Bool
  | [.str _, .int _] => false
  | _ => true
mutual
inductive RV (K : PySem.W.Frag) (ca : CA) (th : List Addr) (H : Hp) : D → V → Prop
  | non : RV K ca th H .non .non
  | bl (b : Bool) : RV K ca th H (.bl b) (.bl b)
  | int (i : Int) : RV K ca th H (.int i) (.int i)
  | str (x : Str) : RV K ca th H (.str x) (.str x)
  | tup {a : Addr} {vs : List V} {ds : List D} (h : SqT K H a vs) (t : nsB ds = true ∨ H a = some (.tup vs)) (r : RVs K ca th H ds vs) : RV K ca th H (.tup ds) (.ref a)
  | frl {a : Addr} {vs : List V} {ds : List D} (h : FzL K H a vs) (r : RVs K ca th H ds vs) : RV K ca th H (.frl ds) (.ref a)
  | loc {l : Nat} {a : Addr} (h : th[l]? = some a) : RV K ca th H (.loc l) (.ref a)
  | ty (n : Bt) : RV K ca th H (.ty n) (.ty n.name)
  | cls (c : Nat) : RV K ca th H (.cls c) (.ref (ca c))
  | kd {kvs : List (Str × Int)} {a : Addr} : RV K ca th H (.kd kvs) (.ref a)
inductive RVs (K : PySem.W.Frag) (ca : CA) (th : List Addr) (H : Hp) : List D → List V → Prop
  | nil : RVs K ca th H [] []
  | cons {d : D} {v : V} {ds : List D} {vs : List V} (h : RV K ca th H d v) (r : RVs K ca th H ds vs) : RVs K ca th H (d :: ds) (v :: vs)
end
section
variable {K : PySem.W.Frag} {ca : CA} {th th' th2 : List Addr} {H H' H2 : Hp}
/-- further on: more objects, nothing lost -/
structure Go (th : List Addr) (H : Hp) (th' : List Addr) (H' : Hp) : Prop where
  ext : th <+: th'
  frm : Frm H H'
theorem Go.refl (th : List Addr) (H : Hp) : Go th H th H := ⟨List.prefix_refl _, Frm.refl _⟩
theorem Go.trans (a : Go th H th' H') (b : Go th' H' th2 H2) : Go th H th2 H2 := ⟨a.ext.trans b.ext, a.frm.trans b.frm⟩
theorem Go.at (g : Go th H th' H') {l : Nat} {a : Addr} (h : th[l]? = some a) : th'[l]? = some a := by
  obtain ⟨t, e⟩ := g.ext
  rw [← e, List.getElem?_append_left]
  · exact h
  · exact (List.getElem?_eq_some_iff.mp h).1
theorem Frm.rd (f : Frm H H') {a : Addr} {u : HO} (i : Imm u = true) (h : Rd H a u) : Rd H' a u := by
  rcases h with h | ⟨o, h⟩
  · exact .inl (f _ _ h i)
  · exact .inr ⟨o, f _ _ h rfl⟩
theorem Frm.sqT (f : Frm H H') {a : Addr} {xs : List V} (h : SqT K H a xs) : SqT K H' a xs := by
  rcases h with h | h
  · exact .inl (f.rd rfl h)
  · exact .inr h
theorem Frm.fz (f : Frm H H') {a : Addr} {xs : List V} (h : FzL K H a xs) : FzL K H' a xs := by
  rcases h with ⟨o, h⟩ | h
  · exact .inl ⟨o, f _ _ h rfl⟩
  · exact .inr h
mutual
theorem RV.go (g : Go th H th' H') : ∀ {d : D} {v : V}, RV K ca th H d v → RV K ca th' H' d v
  | _, _, .non => .non
  | _, _, .bl b => .bl b
  | _, _, .int i => .int i
  | _, _, .str x => .str x
  | _, _, .tup h t r => .tup (g.frm.sqT h) (t.imp id fun e => g.frm _ _ e rfl) (RVs.go g r)
  | _, _, .frl h r => .frl (g.frm.fz h) (RVs.go g r)
  | _, _, .loc h => .loc (g.at h)
  | _, _, .ty n => .ty n
  | _, _, .cls c => .cls c
  | _, _, .kd => .kd
theorem RVs.go (g : Go th H th' H') : ∀ {ds : List D} {vs : List V}, RVs K ca th H ds vs → RVs K ca th' H' ds vs
  | _, _, .nil => .nil
  | _, _, .cons h r => .cons (RV.go g h) (RVs.go g r)
end
theorem RVs.length : ∀ {ds : List D} {vs : List V}, RVs K ca th H ds vs → ds.length = vs.length
  | _, _, .nil => rfl
  | _, _, .cons _ r => by simp [RVs.length r]
theorem RVs.get : ∀ {ds : List D} {vs : List V} {i : Nat} {d : D}, RVs K ca th H ds vs → ds[i]? = some d → ∃ v, vs[i]? = some v ∧ RV K ca th H d v
  | _, _, 0, _, .cons h _, e => by simp at e; subst e; exact ⟨_, rfl, h⟩
  | _, _, i + 1, _, .cons _ r, e => by
    obtain ⟨v, h1, h2⟩ := RVs.get (i := i) r (by simpa using e)
    exact ⟨v, by simpa using h1, h2⟩
theorem RVs.append : ∀ {ds es : List D} {vs us : List V}, RVs K ca th H ds vs → RVs K ca th H es us → RVs K ca th H (ds ++ es) (vs ++ us)
  | _, _, _, _, .nil, s => s
  | _, _, _, _, .cons h r, s => .cons h (RVs.append r s)
theorem RVs.one {d : D} {v : V} (h : RV K ca th H d v) : RVs K ca th H [d] [v] := .cons h .nil
theorem RVs.set {d : D} {v : V} (h : RV K ca th H d v) : ∀ {ds : List D} {vs : List V} (i : Nat), RVs K ca th H ds vs → RVs K ca th H (ds.set i d) (vs.set i v)
  | _, _, _, .nil => .nil
  | _, _, 0, .cons _ r => .cons h r
  | _, _, i + 1, .cons q r => .cons q (RVs.set h i r)
theorem RVs.take : ∀ {ds : List D} {vs : List V} (n : Nat), RVs K ca th H ds vs → RVs K ca th H (ds.take n) (vs.take n)
  | _, _, 0, _ => by simp; exact .nil
  | _, _, _ + 1, .nil => by simp; exact .nil
  | _, _, n + 1, .cons h r => .cons h (RVs.take n r)
theorem RVs.drop : ∀ {ds : List D} {vs : List V} (n : Nat), RVs K ca th H ds vs → RVs K ca th H (ds.drop n) (vs.drop n)
  | _, _, 0, r => r
  | _, _, _ + 1, .nil => .nil
  | _, _, n + 1, .cons _ r => RVs.drop n r
theorem RVs.reverse : ∀ {ds : List D} {vs : List V}, RVs K ca th H ds vs → RVs K ca th H ds.reverse vs.reverse
  | _, _, .nil => .nil
  | _, _, .cons h r => by rw [List.reverse_cons, List.reverse_cons]; exact (RVs.reverse r).append (.one h)
theorem RVs.dropLast {ds : List D} {vs : List V} (r : RVs K ca th H ds vs) : RVs K ca th H ds.dropLast vs.dropLast := by
  rw [List.dropLast_eq_take, List.dropLast_eq_take, r.length]; exact r.take _
theorem RVs.eraseIdx : ∀ {ds : List D} {vs : List V} (i : Nat), RVs K ca th H ds vs → RVs K ca th H (ds.eraseIdx i) (vs.eraseIdx i)
  | _, _, _, .nil => .nil
  | _, _, 0, .cons _ r => r
  | _, _, i + 1, .cons h r => .cons h (RVs.eraseIdx i r)
theorem RVs.isEmpty {ds : List D} {vs : List V} (r : RVs K ca th H ds vs) : ds.isEmpty = vs.isEmpty := by
  cases r <;> rfl
/-- what stands at an object's address -/
def RO (K : PySem.W.Frag) (ca : CA) (th : List Addr) (H : Hp) (a : Addr) : O → Prop
  | .lst ds => ∃ vs, H a = some (.lst vs) ∧ RVs K ca th H ds vs
  | .dic kvs => ∃ kus : List (Key × V), H a = some (.dK kus) ∧ kvs.map (·.1) = kus.map (·.1) ∧ RVs K ca th H (kvs.map (·.2)) (kus.map (·.2))
  | .dct kvs => ∃ kus : List (List Key × V), H a = some (.dT kus) ∧ kvs.map (·.1) = kus.map (·.1) ∧ RVs K ca th H (kvs.map (·.2)) (kus.map (·.2))
  | .ins c fs => ∃ dx, ∃ gs : List (Str × V), H a = some (.ins (ca c) dx gs) ∧ H dx = some (.own a) ∧ fs.map (·.1) = gs.map (·.1) ∧ RVs K ca th H (fs.map (·.2)) (gs.map (·.2))
theorem RO.go (g : Go th H th' H') {a : Addr} {o : O} (e : H' a = H a) (h : RO K ca th H a o) : RO K ca th' H' a o := by
  cases o with
  | lst ds => obtain ⟨vs, h, r⟩ := h; exact ⟨vs, e.trans h, r.go g⟩
  | dic kvs => obtain ⟨ks, h, k, r⟩ := h; exact ⟨ks, e.trans h, k, r.go g⟩
  | dct kvs => obtain ⟨ks, h, k, r⟩ := h; exact ⟨ks, e.trans h, k, r.go g⟩
  | ins c fs => obtain ⟨dx, gs, h, h2, k, r⟩ := h; exact ⟨dx, gs, e.trans h, g.frm _ _ h2 rfl, k, r.go g⟩
theorem RO.lstI {a : Addr} {vs : List V} {ds : List D} (h : H a = some (.lst vs)) (r : RVs K ca th H ds vs) : RO K ca th H a (.lst ds) := ⟨vs, h, r⟩
theorem RO.mut {a : Addr} {o : O} (h : RO K ca th H a o) : ∃ u, H a = some u ∧ Mut u = true := by
  cases o with
  | lst ds => obtain ⟨vs, h, r⟩ := h; exact ⟨_, h, rfl⟩
  | dic kvs => obtain ⟨ks, h, k, r⟩ := h; exact ⟨_, h, rfl⟩
  | dct kvs => obtain ⟨ks, h, k, r⟩ := h; exact ⟨_, h, rfl⟩
  | ins c fs => obtain ⟨dx, gs, h, _⟩ := h; exact ⟨_, h, rfl⟩
/-- the store stands in the abstract heap -/
structure Rep (K : PySem.W.Frag) (ca : CA) (th : List Addr) (H : Hp) (S : Sto) : Prop where
  len : th.length = S.length
  nd : th.Nodup
  obj : ∀ (l : Nat) (a : Addr) (o : O), th[l]? = some a → S[l]? = some o → RO K ca th H a o
  tabs : LamX.Tabs ca.T H
/-- an exception's class and own dict -/
def RX (K : PySem.W.Frag) (ca : CA) (th : List Addr) (H : Hp) (c : Nat) (fs : List (Str × D)) (cls : Value) (dd : Option Addr) : Prop :=
  cls = .ref (ca c) ∧ ((fs = [] ∧ dd = none) ∨ fs ≠ [] ∧ ∃ (d : Addr) (gs : List (Str × V)), dd = some d ∧ H d = some (.xd gs) ∧ fs.map (·.1) = gs.map (·.1) ∧ RVs K ca th H (fs.map (·.2)) (gs.map (·.2)))
theorem RX.go (g : Go th H th' H') {c : Nat} {fs : List (Str × D)} {cls : Value} {dd : Option Addr} (h : RX K ca th H c fs cls dd) : RX K ca th' H' c fs cls dd := by
  refine ⟨h.1, ?_⟩
  rcases h.2 with h | ⟨h0, d, gs, h1, h2, h3, h4⟩
  · exact .inl h
  · exact .inr ⟨h0, d, gs, h1, g.frm _ _ h2 rfl, h3, h4.go g⟩
/-- the exception that an except suite holds: its address, class, dict -/
structure Lm where
  P : List Addr → Hp → Nat → List D → Addr → Prop
  go : ∀ {th th' : List Addr} {H H' : Hp} {k : Nat} {ds : List D} {f : Addr}, Go th H th' H' → P th H k ds f → P th' H' k ds f
/-- .. and what is known of the lambda that the def got -/
structure Hd where
  x : Option (Addr × Value × Option Addr)
  l : Option Lm
abbrev Hd.no : Hd := ⟨none, none⟩
/-- what a slot holds -/
def SV (K : PySem.W.Frag) (ca : CA) (hd : Hd) (th : List Addr) (H : Hp) (d : D) (v : V) : Prop :=
  RV K ca th H d v ∨ (∃ c fs a cls dd, d = .exc c fs ∧ v = .ref a ∧ hd.x = some (a, cls, dd) ∧ RX K ca th H c fs cls dd) ∨
    ∃ k ds f m, d = .lam k ds ∧ v = .ref f ∧ hd.l = some m ∧ m.P th H k ds f
theorem SV.go {hd : Hd} (g : Go th H th' H') {d : D} {v : V} (h : SV K ca hd th H d v) : SV K ca hd th' H' d v := by
  rcases h with h | ⟨c, fs, a, cls, dd, h1, h2, h3, h4⟩ | ⟨k, ds, f, m, h1, h2, h3, h4⟩
  · exact .inl (h.go g)
  · exact .inr (.inl ⟨c, fs, a, cls, dd, h1, h2, h3, h4.go g⟩)
  · exact .inr (.inr ⟨k, ds, f, m, h1, h2, h3, m.go g h4⟩)
/-- .. and the names' values -/
structure Sim (K : PySem.W.Frag) (ca : CA) (hd : Hd) (th : List Addr) (H : Hp) (S : Sto) (r : Ev) (sg : L2.St) : Prop where
  rep : Rep K ca th H S
  len : r.length = sg.length
  env : ∀ (i : Nat) (d : D), r[i]? = some (some d) → ∃ v, sg[i]? = some (some v) ∧ SV K ca hd th H d v
variable {S S' : Sto} {r : Ev} {sg : L2.St} {hd : Hd}
theorem Rep.at (R : Rep K ca th H S) {l : Nat} {o : O} (h : S[l]? = some o) : ∃ a, th[l]? = some a ∧ RO K ca th H a o := by
  have hl : l < S.length := (List.getElem?_eq_some_iff.mp h).1
  have hl' : l < th.length := by rw [R.len]; exact hl
  exact ⟨th[l], List.getElem?_eq_getElem hl', R.obj l _ o (List.getElem?_eq_getElem hl') h⟩
theorem Rep.same (R : Rep K ca th H S) (f : Frm H H') (e : ∀ a, a ∈ th → H' a = H a) (t : LamX.Tabs ca.T H') : Rep K ca th H' S :=
  ⟨R.len, R.nd, fun l a o h1 h2 => (R.obj l a o h1 h2).go ⟨List.prefix_refl _, f⟩ (e a (List.mem_of_getElem? h1)), t⟩
theorem Rep.there (R : Rep K ca th H S) {a : Addr} (h : a ∈ th) : ∃ u, H a = some u ∧ Mut u = true := by
  obtain ⟨l, hl⟩ := List.mem_iff_getElem?.mp h
  have hl' : l < S.length := by rw [← R.len]; exact (List.getElem?_eq_some_iff.mp hl).1
  exact (R.obj l a _ hl (List.getElem?_eq_getElem hl')).mut
/-- an untracked thing is laid (a tuple ..) -/
theorem Rep.lay (R : Rep K ca th H S) {p : Addr} {o : HO} (h : H p = none) : Rep K ca th (upd H p o) S :=
  R.same (Frm.new h) (fun a ha => by
    obtain ⟨u, hu, _⟩ := R.there ha
    rw [upd_ne (ne_of_none hu h)]) (tabs_new R.tabs h)
theorem Go.lay {p : Addr} {o : HO} (h : H p = none) : Go th H th (upd H p o) := ⟨List.prefix_refl _, Frm.new h⟩
/-- a new object -/
theorem Rep.new (R : Rep K ca th H S) {p : Addr} {u : HO} {o : O} (h : H p = none) (ho : RO K ca (th ++ [p]) (upd H p u) p o) : Rep K ca (th ++ [p]) (upd H p u) (S ++ [o]) := by
  have hp : p ∉ th := fun hm => by
    obtain ⟨v, hv, _⟩ := R.there hm
    rw [h] at hv; cases hv
  refine ⟨by simp [R.len], ?_, fun l a o' h1 h2 => ?_, tabs_new R.tabs h⟩
  · rw [List.nodup_append]
    exact ⟨R.nd, by simp, fun a ha b hb => by simp at hb; subst hb; exact fun z => hp (z ▸ ha)⟩
  · have hl : l < (th ++ [p]).length := (List.getElem?_eq_some_iff.mp h1).1
    rw [List.length_append] at hl
    by_cases e : l < th.length
    · rw [List.getElem?_append_left e] at h1
      rw [List.getElem?_append_left (by rw [← R.len]; exact e)] at h2
      have hm : a ∈ th := List.mem_of_getElem? h1
      refine (R.obj l a o' h1 h2).go ⟨List.prefix_append _ _, Frm.new h⟩ (upd_ne fun z => hp (z ▸ hm))
    · have e' : l = th.length := by simp at hl; omega
      subst e'
      rw [List.getElem?_append_right (Nat.le_refl _)] at h1
      rw [R.len, List.getElem?_append_right (Nat.le_refl _)] at h2
      simp at h1 h2
      subst h1 h2
      exact ho
theorem Go.new {p : Addr} {u : HO} (h : H p = none) : Go th H (th ++ [p]) (upd H p u) := ⟨List.prefix_append _ _, Frm.new h⟩
theorem nodup_inj {A : Type} {l : List A} (h : l.Nodup) {i j : Nat} (hi : i < l.length) (hj : j < l.length) (e : l[i] = l[j]) : i = j := by
  have q := List.pairwise_iff_getElem.mp h
  rcases Nat.lt_trichotomy i j with z | z | z
  · exact absurd e (q i j hi hj z)
  · exact z
  · exact absurd e.symm (q j i hj hi z)
/-- an object is changed -/
theorem Rep.put (R : Rep K ca th H S) {l : Nat} {a : Addr} {o : O} {u : HO} (h1 : th[l]? = some a) (ho : RO K ca th (upd H a u) a o) : Rep K ca th (upd H a u) (S.set l o) := by
  have hl : l < th.length := (List.getElem?_eq_some_iff.mp h1).1
  obtain ⟨w, hw, hm⟩ := R.there (List.mem_of_getElem? h1)
  refine ⟨by simp [R.len], R.nd, fun k b o' e1 e2 => ?_, tabs_put R.tabs hw hm⟩
  by_cases hk : k = l
  · subst hk
    rw [h1] at e1; cases e1
    rw [List.getElem?_set_self (by rw [← R.len]; exact hl)] at e2
    cases e2
    exact ho
  · rw [List.getElem?_set_ne (Ne.symm hk)] at e2
    have hb : b ≠ a := fun z => hk (by
      have q1 := (List.getElem?_eq_some_iff.mp e1)
      have q2 := (List.getElem?_eq_some_iff.mp h1)
      obtain ⟨k1, k2⟩ := q1
      obtain ⟨l1, l2⟩ := q2
      exact nodup_inj R.nd k1 l1 (by rw [k2, l2, z]))
    exact (R.obj k b o' e1 e2).go ⟨List.prefix_refl _, Frm.put hw (Mut.imm hm)⟩ (upd_ne hb)
theorem Rep.goPut (R : Rep K ca th H S) {l : Nat} {a : Addr} {u : HO} (h1 : th[l]? = some a) : Go th H th (upd H a u) := by
  obtain ⟨w, hw, hm⟩ := R.there (List.mem_of_getElem? h1)
  exact ⟨List.prefix_refl _, Frm.put hw (Mut.imm hm)⟩
theorem Sim.go (m : Sim K ca hd th H S r sg) (R : Rep K ca th' H' S') (g : Go th H th' H') : Sim K ca hd th' H' S' r sg :=
  ⟨R, m.len, fun i d h => by
    obtain ⟨v, h1, h2⟩ := m.env i d h
    exact ⟨v, h1, h2.go g⟩⟩
theorem Sim.set (m : Sim K ca hd th H S r sg) {i : Nat} {d : D} {v : V} (h : SV K ca hd th H d v) : Sim K ca hd th H S (r.set i (some d)) (sg.set i (some v)) := by
  refine ⟨m.rep, by simp [m.len], fun j e he => ?_⟩
  by_cases hj : i = j
  · subst hj
    have hl : i < r.length := by
      have q := (List.getElem?_eq_some_iff.mp he).1
      simpa using q
    rw [List.getElem?_set_self hl] at he
    cases he
    exact ⟨v, List.getElem?_set_self (by rw [← m.len]; exact hl), h⟩
  · rw [List.getElem?_set_ne hj] at he
    obtain ⟨w, h1, h2⟩ := m.env j e he
    exact ⟨w, by rw [List.getElem?_set_ne hj]; exact h1, h2⟩
theorem Sim.unset (m : Sim K ca hd th H S r sg) (i : Nat) : Sim K ca hd th H S (r.set i none) (sg.set i none) := by
  refine ⟨m.rep, by simp [m.len], fun j e he => ?_⟩
  by_cases hj : i = j
  · subst hj
    have hl : i < r.length := by
      have q := (List.getElem?_eq_some_iff.mp he).1
      simpa using q
    rw [List.getElem?_set_self hl] at he
    cases he
  · rw [List.getElem?_set_ne hj] at he
    obtain ⟨w, h1, h2⟩ := m.env j e he
    exact ⟨w, by rw [List.getElem?_set_ne hj]; exact h1, h2⟩
/-- the slots of the names of a comprehension forgotten -/
def wipeD (r : Ev) : List Nat → Ev
  | [] => r
  | v :: vs => (wipeD r vs).set v none
theorem Sim.wipe (m : Sim K ca hd th H S r sg) : ∀ vs : List Nat, Sim K ca hd th H S (wipeD r vs) (L2.wipe sg vs)
  | [] => m
  | v :: vs => (Sim.wipe m vs).unset v
end
end HP
namespace HP
open PySem L2
inductive Bop where
  | add | sub | mul | fdiv | mod | pow
  deriving DecidableEq
inductive Cop where
  | eq | ne | lt | le | gt | ge | is | isn | inn | nin
  deriving DecidableEq
/-- built-in functions by their names -/
inductive Bf where
  | len | abs | min | max | int | list | tuple | all | any | isin | sum
  deriving DecidableEq
/-- methods of built-in types -/
inductive Mt where
  | append | pop | clear | extend | index
  deriving DecidableEq
mutual
inductive Tg where
  | name (i : Nat) | tup (ts : Tgs)
inductive Tgs where
  | nil | cons (t : Tg) (r : Tgs)
end
mutual
inductive E where
  | var (i : Nat) | con (d : D)
  | int (i : Int) | bl (b : Bool) | str (s : Str) | non
  | tup (es : Es) | lst (es : Es) | dic0
  | bin (o : Bop) (a b : E) | neg (a : E)
  | cmp (o : Cop) (a b : E) | chain (o o2 : Cop) (a b c : E)
  | band (es : Es) | bor (es : Es) | bnot (a : E) | ife (c a b : E)
  | call (f : Nat) (es : Es) | bcall (f : Bf) (es : Es) | meth (m : Mt) (o : E) (es : Es)
  | ix (a b : E) | sl (a : E) (lo hi : Eo) | rev (a : E)
  | lc (x : E) (tg : Tg) (it : It) (c : Eo) (own : List Nat)
  | dic1 (k : Key) (v : Int) | joinS (s : Str) (e : E) | lstR (e : E) | lstZ (a b : E) | shw (t : Bool) (e : E)
  | dicT | kin (neg : Bool) (e : E) (kvs : List (Str × Int)) | kix (kvs : List (Str × Int)) (e : E) | din (neg : Bool) (e d : E)
  | exIs (i : Nat) (tp : Bool) (cs kn : List Nat) | exVe (i : Nat) (kn : List Nat) | exFld (i : Nat) (f : Str) (kn : List Nat)
  | act (i : Nat) | lamC (f k : Nat) (cs : List Nat) (b : E)
inductive Es where
  | nil | cons (e : E) (r : Es)
inductive Eo where
  | none | some (e : E) | nox
inductive It where
  | seq (e : E) | rng1 (e : E) | rng2 (a b : E) | rng3 (a b c : E) | enm (e : E) | zip (a b : E)
end
mutual
inductive St where
  | set (i : Nat) (e : E) | asg (t : Tg) (e : E) | setIx (o i e : E) | setD (o i e : E) | aug (i : Nat) (o : Bop) (e : E)
  | expr (e : E) | ret (e : E) | retN | ite (c : E) (a b : Ss) | whl (c : E) (b : Ss) | for_ (t : Tg) (it : It) (b : Ss)
  | brk | cnt | pass | par (i j : Nat) (a b : E) | par3 (i j k : Nat) (a b c : E)
  | rse (c : Nat) (fl : List Str) (es : Es) | try_ (b : Ss) (h : Hs) (kn : List Nat) | never
  | lamB (cs : List Nat) (n : Nat) (e : E)
inductive Ss where
  | nil | cons (s : St) (r : Ss)
/-- except clauses: the class (none: ValueError), the slot of its name, the suite -/
inductive Hs where
  | nil | cons (c : Option Nat) (i : Option Nat) (b : Ss) (r : Hs)
end
/-- a def: parameters, slots, body -/
structure Fn where
  ar : Nat
  n : Nat
  body : Ss
abbrev szL : Nat := 16777216
def okMul (i j : Int) : Bool := decide (i.natAbs.log2 + j.natAbs.log2 < 1000000)
def okDiv (i j : Int) : Bool := decide (j ≠ 0) && !Builtin.divisionGoesByPylong i j
def okPow (i j : Int) : Bool := decide (0 ≤ j) && decide (j ≤ 1000000) && decide (i.natAbs < 2 ^ 64)
def okRng (i : Int) : Bool := decide (-(2 ^ 62) ≤ i) && decide (i < 2 ^ 62)
def newO (o : O) (S : Sto) : R D := .ok (.loc S.length) (S ++ [o])
/-- the items of a list -/
def lstOf (S : Sto) : D → Option (List D)
  | .frl ds => some ds
  | .loc l => match S[l]? with
    | some (.lst ds) => some ds
    | _ => none
  | _ => none
/-- of a list or a tuple -/
def seqOf (S : Sto) : D → Option (List D)
  | .tup ds => some ds
  | d => lstOf S d
def repS (x : Str) (n : Int) : Str := if (n == 1 || x.length == 0) = true then x else { cps := List.foldl (fun x1 x2 => x1 ++ x2) #[] (List.replicate n.toNat x.cps) }
def binD (S : Sto) : Bop → D → D → R D
  | .add, .int i, .int j => .ok (.int (i + j)) S
  | .add, .str x, .str y => if x.length + y.length ≤ szL then .ok (.str (x ++ y)) S else .bad
  | .add, .tup xs, .tup ys => if xs ≠ [] ∧ xs.length + ys.length ≤ szL then .ok (.tup (xs ++ ys)) S else .bad
  | .add, .loc l, .loc m => match S[l]?, S[m]? with
    | some (.lst xs), some (.lst ys) => if xs.length + ys.length ≤ szL then newO (.lst (xs ++ ys)) S else .bad
    | _, _ => .bad
  | .sub, .int i, .int j => .ok (.int (i - j)) S
  | .mul, .int i, .int j => if okMul i j = true then .ok (.int (i * j)) S else .bad
  | .mul, .loc l, .int k => match S[l]? with
    | some (.lst xs) => if -(2 ^ 63) ≤ k ∧ k < 2 ^ 63 ∧ xs.length * k.toNat ≤ szL then newO (.lst (List.replicate k.toNat xs).flatten) S else .bad
    | _ => .bad
  | .mul, .str x, .int k => if 1 ≤ k ∧ k < 2 ^ 31 ∧ x.length * k.toNat ≤ szL then .ok (.str (repS x k)) S else .bad
  | .fdiv, .int i, .int j => if okDiv i j = true then .ok (.int (i.fdiv j)) S else .bad
  | .mod, .int i, .int j => if j ≠ 0 then .ok (.int (i.fmod j)) S else .bad
  | .pow, .int i, .int j => if okPow i j = true then .ok (.int (i ^ j.toNat)) S else .bad
  | _, _, _ => .bad
mutual
/-- data of any depth, read -/
def rdD (S : Sto) : Nat → D → Option PyData
  | _, .non => some .none
  | _, .bl b => some (.bool b)
  | _, .int i => some (.int i)
  | _, .str x => some (.str x)
  | n + 1, .tup ds => (rdAll S n ds).map .tuple
  | n + 1, .frl ds => (rdAll S n ds).map .list
  | n + 1, .loc l => match S[l]? with
    | some (.lst ds) => (rdAll S n ds).map .list
    | _ => none
  | _, _ => none
def rdAll (S : Sto) : Nat → List D → Option (List PyData)
  | _, [] => some []
  | 0, _ :: _ => none
  | n + 1, d :: ds => match rdD S n d, rdAll S n ds with
    | some x, some xs => some (x :: xs)
    | _, _ => none
end
def eqD (S : Sto) : D → D → Option Bool
  | .int i, .int j => some (decide (i = j))
  | .bl i, .bl j => some (decide (i = j))
  | .str i, .str j => some (decide (i = j))
  | .int _, .str _ => some false
  | .str _, .int _ => some false
  | .non, .non => some true
  | .int _, .non => some false
  | .str _, .non => some false
  | .bl _, .non => some false
  | a, b => match rdD S 200 a, rdD S 200 b with
    | some x, some y => if SeqAt.shaped x = true ∧ SeqAt.shaped y = true then some (PyData.eqv x y) else none
    | _, _ => none
def inD (S : Sto) : D → D → Option Bool
  | .str x, .str y => some (!(Builtin.Str.occurrences y x 0 y.length 1).isEmpty)
  | a, b => match rdD S 200 a, rdD S 200 b with
    | some x, some (.list ys) => if SeqAt.shaped x = true ∧ SeqAt.shaped (.list ys) = true then some (ys.any fun y => PyData.eqv y x) else none
    | some x, some (.tuple ys) => if SeqAt.shaped x = true ∧ SeqAt.shaped (.tuple ys) = true then some (ys.any fun y => PyData.eqv y x) else none
    | _, _ => none
/-- a list or an instance -/
def isLI (S : Sto) (l : Nat) : Bool :=
  match S[l]? with
  | some (.lst _) => true
  | some (.ins _ _) => true
  | _ => false
def isD (S : Sto) : D → D → Option Bool
  | .non, .non => some true
  | .bl a, .bl b => some (decide (a = b))
  | .bl _, .non => some false
  | .int _, .non => some false
  | .str _, .non => some false
  | .tup _, .non => some false
  | .frl _, .non => some false
  | .loc _, .non => some false
  | .loc l, .loc m => if (isLI S l && isLI S m) = true then some (decide (l = m)) else none
  | _, _ => none
def resB (S : Sto) : Option Bool → R D
  | some b => .ok (.bl b) S
  | none => .bad
def cmpD (S : Sto) : Cop → D → D → R D
  | .eq, a, b => resB S (eqD S a b)
  | .ne, a, b => resB S ((eqD S a b).map (!·))
  | .lt, .int i, .int j => .ok (.bl (decide (i < j))) S
  | .le, .int i, .int j => .ok (.bl (decide (i ≤ j))) S
  | .gt, .int i, .int j => .ok (.bl (decide (j < i))) S
  | .ge, .int i, .int j => .ok (.bl (decide (j ≤ i))) S
  | .is, a, b => resB S (isD S a b)
  | .isn, a, b => resB S ((isD S a b).map (!·))
  | .inn, a, b => resB S (inD S a b)
  | .nin, a, b => resB S ((inD S a b).map (!·))
  | _, _, _ => .bad
def tyD (S : Sto) : D → Option Bt
  | .non => some .non
  | .bl _ => some .bool
  | .int _ => some .int
  | .str _ => some .str
  | .tup _ => some .tuple
  | .frl _ => some .list
  | .loc l => match S[l]? with
    | some (.lst _) => some .list
    | some (.dic _) => some .dict
    | _ => none
  | _ => none
def isTy (a b : Bt) : Bool := decide (a = b) || (decide (a = .bool) && decide (b = .int))
def truD (S : Sto) : D → Option Bool
  | .non => some false
  | .bl b => some b
  | .int i => some (i != 0)
  | .str x => if x.length ≤ szL then some ((x.length : Int) != 0) else none
  | .tup ds => some (!ds.isEmpty)
  | .frl ds => some (!ds.isEmpty)
  | .loc l => match S[l]? with
    | some (.lst ds) => some (!ds.isEmpty)
    | some (.dic kvs) => some (!kvs.isEmpty)
    | _ => none
  | _ => none
def blOf : D → Option Bool
  | .bl b => some b
  | _ => none
def intOf : D → Option Int
  | .int i => some i
  | _ => none
def tyOf : D → Option Bt
  | .ty b => some b
  | _ => none
def allOf {A : Type} (f : D → Option A) : List D → Option (List A)
  | [] => some []
  | d :: ds => match f d, allOf f ds with
    | some x, some xs => some (x :: xs)
    | _, _ => none
def bfD (S : Sto) : Bf → List D → R D
  | .len, [.str x] => if x.length ≤ szL then .ok (.int x.length) S else .bad
  | .len, [d] => match seqOf S d with
    | some ds => .ok (.int ds.length) S
    | none => .bad
  | .abs, [.int i] => .ok (.int (if i < 0 then -i else i)) S
  | .min, [.int i, .int j] => .ok (.int (if j < i then j else i)) S
  | .max, [.int i, .int j] => .ok (.int (if j > i then j else i)) S
  | .int, [.int i] => .ok (.int i) S
  | .int, [.bl k] => .ok (.int (if k then 1 else 0)) S
  | .list, [.str x] => if x.length ≤ szL then newO (.lst (x.cps.toList.map fun c => .str ⟨#[c]⟩)) S else .bad
  | .list, [d] => match seqOf S d with
    | some ds => newO (.lst ds) S
    | none => .bad
  | .tuple, [d] => match seqOf S d with
    | some ds => .ok (.tup ds) S
    | none => .bad
  | .all, [d] => match (lstOf S d).bind (allOf blOf) with
    | some bs => .ok (.bl (bs.all id)) S
    | none => .bad
  | .any, [d] => match (lstOf S d).bind (allOf blOf) with
    | some bs => .ok (.bl (bs.any id)) S
    | none => .bad
  | .sum, [d] => match (lstOf S d).bind (allOf intOf) with
    | some ns => .ok (.int ns.sum) S
    | none => .bad
  | .isin, [d, .ty b] => match tyD S d with
    | some a => .ok (.bl (isTy a b)) S
    | none => .bad
  | .isin, [d, .tup ts] => match tyD S d, allOf tyOf ts with
    | some a, some bs => .ok (.bl (bs.any (isTy a))) S
    | _, _ => .bad
  | _, _ => .bad
/-- the first place of an equal one -/
def firstEq (d : PyData) : List PyData → Option Nat
  | [] => none
  | x :: xs => if PyData.eqv x d = true then some 0 else (firstEq d xs).map (· + 1)
def mtD (S : Sto) : Mt → D → List D → R D
  | .append, .loc l, [y] => match S[l]? with
    | some (.lst ds) => if ds.length < szL then .ok .non (S.set l (.lst (ds ++ [y]))) else .bad
    | _ => .bad
  | .pop, .loc l, [] => match S[l]? with
    | some (.lst ds) => match ds[ds.length - 1]? with
      | some y => .ok y (S.set l (.lst ds.dropLast))
      | none => .bad
    | _ => .bad
  | .pop, .loc l, [.int i] => match S[l]? with
    | some (.lst ds) => match ds[i.toNat]? with
      | some y => if 0 ≤ i ∧ i < 2 ^ 62 then .ok y (S.set l (.lst (ds.eraseIdx i.toNat))) else .bad
      | none => .bad
    | _ => .bad
  | .clear, .loc l, [] => match S[l]? with
    | some (.lst ds) => .ok .non (S.set l (.lst []))
    | _ => .bad
  | .extend, .loc l, [.loc m] => match S[l]?, S[m]? with
    | some (.lst xs), some (.lst ys) => if xs.length + ys.length ≤ szL then .ok .non (S.set l (.lst (xs ++ ys))) else .bad
    | _, _ => .bad
  | .index, .loc l, [y] => match rdD S 200 (.loc l), rdD S 200 y with
    | some (.list xs), some d => if SeqAt.shaped (.list xs) = true ∧ SeqAt.shaped d = true then (match firstEq d xs with
        | some j => .ok (.int (j : Nat)) S
        | none => .bad) else .bad
    | _, _ => .bad
  | _, _, _ => .bad
/-- a list that may be changed -/
def isL (S : Sto) : D → Bool
  | .loc l => match S[l]? with
    | some (.lst _) => true
    | _ => false
  | _ => false
def ixD (S : Sto) : D → D → R D
  | .str x, .int i => if x.length ≤ szL then (match atI x.cps.toList i with
    | some c => .ok (.str ⟨#[c]⟩) S
    | none => .bad) else .bad
  | d, .int i => match seqOf S d with
    | some ds => (match atI ds i with
      | some v => .ok v S
      | none => .bad)
    | none => .bad
  | _, _ => .bad
def cutL {A : Type} (xs : List A) (lo hi : Option Int) : List A := (xs.drop (HT.sIx xs.length 0 lo)).take (HT.sIx xs.length xs.length hi - HT.sIx xs.length 0 lo)
def slD (S : Sto) (d : D) (lo hi : Option Int) : R D :=
  match d with
  | .tup ds => if HT.sIx ds.length 0 lo = 0 ∧ HT.sIx ds.length ds.length hi = ds.length then .ok (.tup ds) S else .ok (.tup (cutL ds lo hi)) S
  | d => match lstOf S d with
    | some ds => newO (.lst (cutL ds lo hi)) S
    | none => .bad
/-- a key of a dict: a word and a number -/
def keyD : D → Option (List Key)
  | .tup [.str x, .int i] => some [.inr x, .inl i]
  | _ => none
/-- k in d, k not in d -/
def dinD (S : Sto) (neg : Bool) (x : D) : D → R D
  | .loc l => (match S[l]?, keyD x with
    | some (.dct kvs), some k => .ok (.bl (if neg = true then !((kvs.map (·.1)).any fun j => decide (j = k)) else (kvs.map (·.1)).any fun j => decide (j = k))) S
    | _, _ => .bad)
  | _ => .bad
/-- d[k] = v, for a new key -/
def setDD (S : Sto) : D → D → D → Option Sto
  | .loc l, x, v => (match S[l]?, keyD x with
    | some (.dct kvs), some k => if ((kvs.map (·.1)).any fun j => decide (j = k)) = true ∨ ¬kvs.length < szL then none else some (S.set l (.dct (kvs ++ [(k, v)])))
    | _, _ => none)
  | _, _, _ => none
/-- x in a dict that the module tells -/
def kinD (S : Sto) (neg : Bool) (kvs : List (Str × Int)) : D → R D
  | .str z => (match kvs.lookup z with
    | some i => .ok (.bl (if i = -1 then neg else !neg)) S
    | none => .bad)
  | _ => .bad
def kixD (S : Sto) (kvs : List (Str × Int)) : D → R D
  | .str z => (match kvs.lookup z with
    | some i => if i = -1 then .bad else .ok (.int i) S
    | none => .bad)
  | _ => .bad
def setIxD (S : Sto) : D → D → D → Option Sto
  | .loc l, .int k, v => match S[l]? with
    | some (.lst ds) => (match ixN ds.length k with
      | some j => some (S.set l (.lst (ds.set j v)))
      | none => none)
    | _ => none
  | _, _, _ => none
mutual
def asgT : Tg → D → Ev → Option Ev
  | .name i, d, r => some (r.set i (some d))
  | .tup ts, .tup ds, r => asgTs ts ds r
  | .tup _, _, _ => none
def asgTs : Tgs → List D → Ev → Option Ev
  | .nil, [], r => some r
  | .cons t ts, d :: ds, r => match asgT t d r with
    | some r1 => asgTs ts ds r1
    | none => none
  | _, _, _ => none
end
/-- what is taken apart: a list's items, too -/
def unL (S : Sto) : D → D
  | .loc l => match S[l]? with
    | some (.lst ds) => .tup ds
    | _ => .loc l
  | d => d
abbrev Ck := List (Nat × List D)
/-- the lists that are walked stand as they stood -/
def Still (ck : Ck) (S : Sto) : Prop := ∀ p ∈ ck, S[p.1]? = some (.lst p.2)
open Classical in
noncomputable def forL (ck : Ck) (t : D → Ev → Option Ev) (b : Ev → Sto → RS) : List D → Ev → Sto → RS
  | [], r, S => if Still ck S then .nx r S else .bad
  | d :: ds, r, S => if Still ck S then
      (match t d r with
      | none => .bad
      | some r1 => match b r1 S with
        | .nx r2 S2 => forL ck t b ds r2 S2
        | .ct r2 S2 => forL ck t b ds r2 S2
        | .bk r2 S2 => .nx r2 S2
        | x => x) else .bad
def whN (c : Ev → Sto → R Bool) (b : Ev → Sto → RS) : Nat → Ev → Sto → Option RS
  | 0, _, _ => none
  | n + 1, r, S => match c r S with
    | .ok true S1 => (match b r S1 with
      | .nx r2 S2 => whN c b n r2 S2
      | .ct r2 S2 => whN c b n r2 S2
      | .bk r2 S2 => some (.nx r2 S2)
      | x => some x)
    | .ok false S1 => some (.nx r S1)
    | .exn x S1 => some (.ex x r S1)
    | .bad => some .bad
open Classical in
noncomputable def whR (c : Ev → Sto → R Bool) (b : Ev → Sto → RS) (r : Ev) (S : Sto) : RS :=
  if h : ∃ n x, whN c b n r S = some x then Classical.choose (Classical.choose_spec h) else .bad
/-- the comprehension may raise -/
def eoX : Eo → Bool
  | .nox => true
  | _ => false
open Classical in
/-- the turns of a comprehension: the new list at l -/
noncomputable def compL (b : Bool) (ck : Ck) (l : Nat) (f : D → Sto → R (Option D)) : List D → Sto → R D
  | [], S => if Still ck S then .ok (.loc l) S else .bad
  | d :: ds, S => if Still ck S then
      (match f d S with
      | .ok none S2 => compL b ck l f ds S2
      | .ok (some y) S2 => (match S2[l]? with
        | some (.lst acc) => if acc.length < szL then compL b ck l f ds (S2.set l (.lst (acc ++ [y]))) else .bad
        | _ => .bad)
      | .exn y S2 => if b = true then .exn y S2 else .bad
      | .bad => .bad) else .bad
/-- what is walked -/
def itSeq (S : Sto) : D → R (List D × Ck)
  | .tup ds => .ok (ds, []) S
  | .frl ds => .ok (ds, []) S
  | .loc l => match S[l]? with
    | some (.lst ds) => .ok (ds, [(l, ds)]) S
    | _ => .bad
  | .str x => .ok (x.cps.toList.map fun c => .str ⟨#[c]⟩, []) S
  | _ => .bad
def itLst (S : Sto) : D → Option (List D × Ck)
  | .frl ds => some (ds, [])
  | .loc l => match S[l]? with
    | some (.lst ds) => some (ds, [(l, ds)])
    | _ => none
  | _ => none
def enmL : Nat → List D → List D
  | _, [] => []
  | n, d :: ds => .tup [.int n, d] :: enmL (n + 1) ds
def zipL : List D → List D → List D
  | a :: as, b :: bs => .tup [a, b] :: zipL as bs
  | _, _ => []
def rngL (lo : Int) (n : Nat) : List D := (List.range n).map fun i => .int (lo + (i : Nat))
def rngC (lo c : Int) (n : Nat) : List D := (List.range n).map fun i => .int (lo + (i : Nat) * c)
def rngN (i j c : Int) : Nat := (Builtin.Range.rangeSize i j c).toNat
def strsD : List D → Option (List Str)
  | [] => some []
  | .str s :: r => (match strsD r with
    | some ys => some (s :: ys)
    | none => none)
  | _ => none
def joinD (S : Sto) (a : Str) (y : D) : R D :=
  match seqOf S y with
  | some ds => (match strsD ds with
    | some ys => if (ys.map (·.length)).sum + ys.length * a.length ≤ 16777216 then .ok (.str (Txt.join a ys)) S else .bad
    | none => .bad)
  | none => .bad
def lstRD (S : Sto) : D → R D
  | .int j => if okRng j = true ∧ j.toNat ≤ 2 ^ 24 then newO (.lst (rngL 0 j.toNat)) S else .bad
  | _ => .bad
/-- a list or tuple shown, where no other one is being shown -/
def shwD (S : Sto) (d : D) : R D := match rdD S 200 d with
  | some (.list xs) => if (PyData.list xs).showable = true ∧ (PyData.list xs).hasDict = false ∧ (PyData.list xs).depth ≤ 60 ∧ (PyData.list xs).shown.length ≤ szL then .ok (.str (PyData.list xs).shown) S else .bad
  | some (.tuple xs) => if (PyData.tuple xs).showable = true ∧ (PyData.tuple xs).hasDict = false ∧ (PyData.tuple xs).depth ≤ 60 ∧ (PyData.tuple xs).shown.length ≤ szL then .ok (.str (PyData.tuple xs).shown) S else .bad
  | _ => .bad
def lstZD (S : Sto) (x y : D) : R D :=
  match lstOf S x, lstOf S y with
  | some xs, some ys => if (zipL xs ys).length ≤ szL then newO (.lst (zipL xs ys)) S else .bad
  | _, _ => .bad
/-- the values of what a lambda holds -/
def capD (r : Ev) : List Nat → Option (List D)
  | [] => some []
  | i :: is => match r[i]?, capD r is with
    | some (some d), some ds => some (d :: ds)
    | _, _ => none
/-- .. and these put back to their slots -/
def plcD (n : Nat) : List Nat → Ev → Ev
  | i :: is, d :: ds => (plcD n is ds).set i d
  | _, _ => List.replicate n none
def noExn {A : Type} : R A → R A
  | .exn _ _ => .bad
  | z => z
/-- no exception, no lambda -/
def capOk : List D → Bool := fun ds => ds.all fun d => match d with
  | .exc _ _ => false
  | .lam _ _ => false
  | _ => true
/-- one class over another: 0 is over all -/
def subC (k j : Nat) : Bool := decide (k = j) || decide (j = 0)
abbrev Call := Nat → List D → Sto → R D
def R.bnd {A B : Type} (x : R A) (f : A → Sto → R B) : R B :=
  match x with
  | .ok a S => f a S
  | .exn x S => .exn x S
  | .bad => .bad
def R.bndS {A : Type} (x : R A) (r : Ev) (f : A → Sto → RS) : RS :=
  match x with
  | .ok a S => f a S
  | .exn x S => .ex x r S
  | .bad => .bad
def negD (S : Sto) : D → R D
  | .int i => .ok (.int (-i)) S
  | _ => .bad
def truR (S : Sto) (d : D) : R Bool :=
  match truD S d with
  | some b => .ok b S
  | none => .bad
def partD (S : Sto) : D → R (Option Int)
  | .int i => .ok (some i) S
  | _ => .bad
def revD (S : Sto) (d : D) : R D :=
  match lstOf S d with
  | some ds => newO (.lst ds.reverse) S
  | none => .bad
/-- behind a truth value -/
def onB (S : Sto) (d : D) (t f : Sto → R D) : R D :=
  match d with
  | .bl true => t S
  | .bl false => f S
  | _ => .bad
def rng1D (S : Sto) : D → R (List D × Ck)
  | .int j => if okRng j = true then .ok (rngL 0 j.toNat, []) S else .bad
  | _ => .bad
def rng2D (S : Sto) : D → D → R (List D × Ck)
  | .int i, .int j => if okRng i = true ∧ okRng j = true then .ok (rngL i (j - i).toNat, []) S else .bad
  | _, _ => .bad
def rng3D (S : Sto) : D → D → D → R (List D × Ck)
  | .int i, .int j, .int c => if c ≠ 0 ∧ c.natAbs < 1073741824 ∧ Builtin.Range.small i j c = true ∧ Builtin.Range.rangeSize i j c = (rngN i j c : Nat) then .ok (rngC i c (rngN i j c), []) S else .bad
  | _, _, _ => .bad
def enmD (S : Sto) (d : D) : R (List D × Ck) :=
  match itLst S d with
  | some (ds, ck) => .ok (enmL 0 ds, ck) S
  | none => .bad
def zipD (S : Sto) : D → D → R (List D × Ck)
  | .tup xs, .tup ys => .ok (zipL xs ys, []) S
  | x, y => match itLst S x, itLst S y with
    | some (xs, ck), some (ys, ck2) => .ok (zipL xs ys, ck ++ ck2) S
    | _, _ => .bad
mutual
noncomputable def evE (c : Call) : E → Ev → Sto → R D
  | .var i, r, S => match r[i]? with
    | some (some (.exc _ _)) => .bad
    | some (some (.lam _ _)) => .bad
    | some (some d) => .ok d S
    | _ => .bad
  | .con d, _, S => .ok d S
  | .int i, _, S => .ok (.int i) S
  | .bl b, _, S => .ok (.bl b) S
  | .str x, _, S => .ok (.str x) S
  | .non, _, S => .ok .non S
  | .tup es, r, S => (evEs c es r S).bnd fun ds S1 => .ok (.tup ds) S1
  | .lst es, r, S => (evEs c es r S).bnd fun ds S1 => newO (.lst ds) S1
  | .dic0, _, S => newO (.dic []) S
  | .bin o a b, r, S => (evE c a r S).bnd fun x S1 => (evE c b r S1).bnd fun y S2 => binD S2 o x y
  | .neg a, r, S => (evE c a r S).bnd fun x S1 => negD S1 x
  | .cmp o a b, r, S => (evE c a r S).bnd fun x S1 => (evE c b r S1).bnd fun y S2 => cmpD S2 o x y
  | .chain o o2 a b d, r, S => (evE c a r S).bnd fun x S1 => (evE c b r S1).bnd fun y S2 => (cmpD S2 o x y).bnd fun k S3 =>
      onB S3 k (fun S3 => (evE c d r S3).bnd fun z S4 => cmpD S4 o2 y z) fun S3 => .ok (.bl false) S3
  | .band es, r, S => evAnd c es r S
  | .bor es, r, S => evOr c es r S
  | .bnot a, r, S => (evE c a r S).bnd fun x S1 => (truR S1 x).bnd fun b S2 => .ok (.bl (!b)) S2
  | .ife t a b, r, S => (evT c t r S).bnd fun k S1 => if k = true then evE c a r S1 else evE c b r S1
  | .call f es, r, S => (evEs c es r S).bnd fun ds S1 => c f ds S1
  | .bcall f es, r, S => (evEs c es r S).bnd fun ds S1 => bfD S1 f ds
  | .meth m o es, r, S => (evE c o r S).bnd fun x S1 => if isL S1 x = true then (evEs c es r S1).bnd fun ds S2 => mtD S2 m x ds else .bad
  | .ix a b, r, S => (evE c a r S).bnd fun x S1 => (evE c b r S1).bnd fun y S2 => ixD S2 x y
  | .sl a lo hi, r, S => (evE c a r S).bnd fun x S1 => (evO c lo r S1).bnd fun l S2 => (evO c hi r S2).bnd fun h S3 => slD S3 x l h
  | .rev a, r, S => (evE c a r S).bnd fun x S1 => revD S1 x
  | .lc x tg it cd own, r, S => (evI c it r S).bnd fun p S1 =>
      compL (eoX cd) p.2 S1.length (fun d S2 => match asgT tg d (wipeD r own) with
        | none => .bad
        | some r2 => (evC c cd r2 S2).bnd fun k S3 => if k = true then (evE c x r2 S3).bnd fun y S4 => .ok (some y) S4 else .ok none S3) p.1 (S1 ++ [.lst []])
  | .dic1 k v, _, S => newO (.dic [(k, .int v)]) S
  | .joinS s e, r, S => (evE c e r S).bnd fun d S1 => joinD S1 s d
  | .lstR e, r, S => (evE c e r S).bnd fun d S1 => lstRD S1 d
  | .lstZ a b, r, S => (evE c a r S).bnd fun x S1 => (evE c b r S1).bnd fun y S2 => lstZD S2 x y
  | .shw _ e, r, S => (evE c e r S).bnd fun d S1 => shwD S1 d
  | .dicT, _, S => newO (.dct []) S
  | .kin neg e kvs, r, S => (evE c e r S).bnd fun d S1 => kinD S1 neg kvs d
  | .kix kvs e, r, S => (evE c e r S).bnd fun d S1 => kixD S1 kvs d
  | .din neg a b, r, S => (evE c a r S).bnd fun x S1 => (evE c b r S1).bnd fun y S2 => dinD S2 neg x y
  | .exIs i tp cs kn, r, S => match r[i]? with
    | some (some (.exc k _)) => if k ∈ kn then .ok (.bl (cs.any (subC k))) S else .bad
    | _ => .bad
  | .exVe i kn, r, S => match r[i]? with
    | some (some (.exc k _)) => if k ∈ kn then .ok (.bl true) S else .bad
    | _ => .bad
  | .exFld i f kn, r, S => match r[i]? with
    | some (some (.exc k fs)) => if k ∈ kn then (match fs.lookup f with
      | some d => .ok d S
      | none => .bad) else .bad
    | _ => .bad
  | .act i, r, S => match r[i]? with
    | some (some (.lam k ds)) => c k ds S
    | _ => .bad
  | .lamC f k cs _, r, S => match capD r cs with
    | some ds => if capOk ds = true then noExn (c f [.lam k ds] S) else .bad
    | none => .bad
noncomputable def evEs (c : Call) : Es → Ev → Sto → R (List D)
  | .nil, _, S => .ok [] S
  | .cons e es, r, S => (evE c e r S).bnd fun d S1 => (evEs c es r S1).bnd fun ds S2 => .ok (d :: ds) S2
/-- a and b and .., truth values -/
noncomputable def evAnd (c : Call) : Es → Ev → Sto → R D
  | .nil, _, _ => .bad
  | .cons e .nil, r, S => evE c e r S
  | .cons e (.cons e2 es), r, S => (evE c e r S).bnd fun x S1 => onB S1 x (fun S1 => evAnd c (.cons e2 es) r S1) fun S1 => .ok (.bl false) S1
noncomputable def evOr (c : Call) : Es → Ev → Sto → R D
  | .nil, _, _ => .bad
  | .cons e .nil, r, S => evE c e r S
  | .cons e (.cons e2 es), r, S => (evE c e r S).bnd fun x S1 => onB S1 x (fun S1 => .ok (.bl true) S1) fun S1 => evOr c (.cons e2 es) r S1
noncomputable def evO (c : Call) : Eo → Ev → Sto → R (Option Int)
  | .none, _, S => .ok none S
  | .nox, _, S => .bad
  | .some e, r, S => (evE c e r S).bnd fun d S1 => partD S1 d
/-- a comprehension's test -/
noncomputable def evC (c : Call) : Eo → Ev → Sto → R Bool
  | .none, _, S => .ok true S
  | .nox, _, S => .ok true S
  | .some e, r, S => evT c e r S
/-- a test -/
noncomputable def evT (c : Call) : E → Ev → Sto → R Bool
  | .band es, r, S => evTA c es r S
  | .bor es, r, S => evTO c es r S
  | .bnot a, r, S => (evT c a r S).bnd fun b S1 => .ok (!b) S1
  | .ife _ _ _, _, _ => .bad
  | .var i, r, S => (evE c (.var i) r S).bnd fun d S1 => truR S1 d
  | .con d, r, S => (evE c (.con d) r S).bnd fun d S1 => truR S1 d
  | .int i, r, S => (evE c (.int i) r S).bnd fun d S1 => truR S1 d
  | .bl b, r, S => (evE c (.bl b) r S).bnd fun d S1 => truR S1 d
  | .str x, r, S => (evE c (.str x) r S).bnd fun d S1 => truR S1 d
  | .non, r, S => (evE c .non r S).bnd fun d S1 => truR S1 d
  | .tup es, r, S => (evE c (.tup es) r S).bnd fun d S1 => truR S1 d
  | .lst es, r, S => (evE c (.lst es) r S).bnd fun d S1 => truR S1 d
  | .dic0, r, S => (evE c .dic0 r S).bnd fun d S1 => truR S1 d
  | .bin o a b, r, S => (evE c (.bin o a b) r S).bnd fun d S1 => truR S1 d
  | .neg a, r, S => (evE c (.neg a) r S).bnd fun d S1 => truR S1 d
  | .cmp o a b, r, S => (evE c (.cmp o a b) r S).bnd fun d S1 => truR S1 d
  | .chain o o2 a b d, r, S => (evE c (.chain o o2 a b d) r S).bnd fun d S1 => truR S1 d
  | .call f es, r, S => (evE c (.call f es) r S).bnd fun d S1 => truR S1 d
  | .bcall f es, r, S => (evE c (.bcall f es) r S).bnd fun d S1 => truR S1 d
  | .meth m o es, r, S => (evE c (.meth m o es) r S).bnd fun d S1 => truR S1 d
  | .ix a b, r, S => (evE c (.ix a b) r S).bnd fun d S1 => truR S1 d
  | .sl a l h, r, S => (evE c (.sl a l h) r S).bnd fun d S1 => truR S1 d
  | .rev a, r, S => (evE c (.rev a) r S).bnd fun d S1 => truR S1 d
  | .lc x t i d o, r, S => (evE c (.lc x t i d o) r S).bnd fun d S1 => truR S1 d
  | .dic1 k v, r, S => (evE c (.dic1 k v) r S).bnd fun d S1 => truR S1 d
  | .joinS s e, r, S => (evE c (.joinS s e) r S).bnd fun d S1 => truR S1 d
  | .lstR e, r, S => (evE c (.lstR e) r S).bnd fun d S1 => truR S1 d
  | .lstZ a b, r, S => (evE c (.lstZ a b) r S).bnd fun d S1 => truR S1 d
  | .shw t e, r, S => (evE c (.shw t e) r S).bnd fun d S1 => truR S1 d
  | .dicT, r, S => (evE c .dicT r S).bnd fun d S1 => truR S1 d
  | .kin neg e kvs, r, S => (evE c (.kin neg e kvs) r S).bnd fun d S1 => truR S1 d
  | .kix kvs e, r, S => (evE c (.kix kvs e) r S).bnd fun d S1 => truR S1 d
  | .din neg a b, r, S => (evE c (.din neg a b) r S).bnd fun d S1 => truR S1 d
  | .exIs i tp cs kn, r, S => (evE c (.exIs i tp cs kn) r S).bnd fun d S1 => truR S1 d
  | .exVe i kn, r, S => (evE c (.exVe i kn) r S).bnd fun d S1 => truR S1 d
  | .exFld i f kn, r, S => (evE c (.exFld i f kn) r S).bnd fun d S1 => truR S1 d
  | .act i, r, S => (evE c (.act i) r S).bnd fun d S1 => truR S1 d
  | .lamC f k cs b, r, S => (evE c (.lamC f k cs b) r S).bnd fun d S1 => truR S1 d
noncomputable def evTA (c : Call) : Es → Ev → Sto → R Bool
  | .nil, _, _ => .bad
  | .cons e .nil, r, S => evT c e r S
  | .cons e (.cons e2 es), r, S => (evT c e r S).bnd fun k S1 => if k = true then evTA c (.cons e2 es) r S1 else .ok false S1
noncomputable def evTO (c : Call) : Es → Ev → Sto → R Bool
  | .nil, _, _ => .bad
  | .cons e .nil, r, S => evT c e r S
  | .cons e (.cons e2 es), r, S => (evT c e r S).bnd fun k S1 => if k = true then .ok true S1 else evTO c (.cons e2 es) r S1
noncomputable def evI (c : Call) : It → Ev → Sto → R (List D × Ck)
  | .seq e, r, S => (evE c e r S).bnd fun d S1 => itSeq S1 d
  | .rng1 e, r, S => (evE c e r S).bnd fun d S1 => rng1D S1 d
  | .rng2 a b, r, S => (evE c a r S).bnd fun x S1 => (evE c b r S1).bnd fun y S2 => rng2D S2 x y
  | .rng3 a b d, r, S => (evE c a r S).bnd fun x S1 => (evE c b r S1).bnd fun y S2 => (evE c d r S2).bnd fun z S3 => rng3D S3 x y z
  | .enm e, r, S => (evE c e r S).bnd fun d S1 => enmD S1 d
  | .zip a b, r, S => (evE c a r S).bnd fun x S1 => (evE c b r S1).bnd fun y S2 => zipD S2 x y
end
/-- no slot holds an exception -/
def noX (r : Ev) : Bool := r.all fun o => match o with
  | some (.exc _ _) => false
  | _ => true
/-- the end of an except suite -/
def coolR (f : Ev → Ev) : RS → RS
  | .nx r S => if noX (f r) = true then .nx (f r) S else .bad
  | .bk r S => if noX (f r) = true then .bk (f r) S else .bad
  | .ct r S => if noX (f r) = true then .ct (f r) S else .bad
  | .rt d S => .rt d S
  | _ => .bad
/-- x op= y -/
def augD (S : Sto) : Bop → D → D → R D
  | .add, .int a, .int b => .ok (.int (a + b)) S
  | .sub, .int a, .int b => .ok (.int (a - b)) S
  | _, _, _ => .bad
mutual
noncomputable def evS (c : Call) : St → Ev → Sto → RS
  | .set i e, r, S => (evE c e r S).bndS r fun d S1 => .nx (r.set i (some d)) S1
  | .asg t e, r, S => (evE c e r S).bndS r fun d S1 => (match asgT t (unL S1 d) r with
      | some r1 => .nx r1 S1
      | none => .bad)
  | .setIx o i e, r, S => (evE c e r S).bndS r fun d S1 => (evE c o r S1).bndS r fun x S2 => (evE c i r S2).bndS r fun k S3 => (match setIxD S3 x k d with
      | some S4 => .nx r S4
      | none => .bad)
  | .setD o i e, r, S => (evE c e r S).bndS r fun d S1 => (evE c o r S1).bndS r fun x S2 => (evE c i r S2).bndS r fun k S3 => (match setDD S3 x k d with
      | some S4 => .nx r S4
      | none => .bad)
  | .aug i o e, r, S => (evE c (.var i) r S).bndS r fun x S1 => (evE c e r S1).bndS r fun y S2 => (augD S2 o x y).bndS r fun z S3 => .nx (r.set i (some z)) S3
  | .expr e, r, S => (evE c e r S).bndS r fun _ S1 => .nx r S1
  | .ret e, r, S => (evE c e r S).bndS r fun d S1 => .rt d S1
  | .retN, _, S => .rt .non S
  | .ite t a b, r, S => (evT c t r S).bndS r fun k S1 => if k = true then evSs c a r S1 else evSs c b r S1
  | .whl t b, r, S => whR (fun r S => evT c t r S) (fun r S => evSs c b r S) r S
  | .for_ t it b, r, S => (evI c it r S).bndS r fun p S1 => forL p.2 (fun d r => asgT t d r) (fun r S => evSs c b r S) p.1 r S1
  | .brk, r, S => .bk r S
  | .cnt, r, S => .ct r S
  | .pass, r, S => .nx r S
  | .par i j a b, r, S => (evE c a r S).bndS r fun x S1 => (evE c b r S1).bndS r fun y S2 => .nx ((r.set i (some x)).set j (some y)) S2
  | .par3 i j k a b d, r, S => (evE c a r S).bndS r fun x S1 => (evE c b r S1).bndS r fun y S2 => (evE c d r S2).bndS r fun z S3 =>
      .nx (((r.set i (some x)).set j (some y)).set k (some z)) S3
  | .rse k fl es, r, S => (evEs c es r S).bndS r fun ds S1 => if fl.length = ds.length then .ex ⟨k, (fl.zip ds).reverse⟩ r S1 else .bad
  | .try_ b h kn, r, S => match evSs c b r S with
    | .ex x r1 S1 => if x.c ∈ kn then evH c h x r1 S1 else .bad
    | z => z
  | .never, _, _ => .bad
  | .lamB cs n e, r, S => (evE c e (plcD n cs r) S).bndS r fun d S1 => .rt d S1
noncomputable def evSs (c : Call) : Ss → Ev → Sto → RS
  | .nil, r, S => .nx r S
  | .cons s ss, r, S => match evS c s r S with
    | .nx r1 S1 => evSs c ss r1 S1
    | z => z
/-- the except clauses -/
noncomputable def evH (c : Call) : Hs → Xn → Ev → Sto → RS
  | .nil, x, r, S => .ex x r S
  | .cons k i b h, x, r, S =>
    if k.all (subC x.c) = true then
      (match i with
      | none => coolR id (evSs c b r S)
      | some i => coolR (fun r => r.set i none) (evSs c b (r.set i (some (.exc x.c x.fs))) S))
    else evH c h x r S
end
/-- a def called -/
noncomputable def runF (c : Call) (f : Fn) (ds : List D) (S : Sto) : R D :=
  if ds.length = f.ar then
    match evSs c f.body (ds.map some ++ List.replicate (f.n - f.ar) none) S with
    | .nx _ S1 => .ok .non S1
    | .rt d S1 => .ok d S1
    | .ex x _ S1 => .exn x S1
    | _ => .bad
  else .bad
abbrev Tab := Nat → Option Fn
/-- calls so deep -/
noncomputable def callN (G : Tab) : Nat → Call
  | 0 => fun _ _ _ => .bad
  | n + 1 => fun f ds S => match G f with
    | some fn => runF (callN G n) fn ds S
    | none => .bad
end HP
namespace HP
open PySem L2 PySem.Spec PyProof.Rows
section
variable {K : PySem.W.Frag} {ca : CA} {th th1 th2 : List Addr} {H H1 H2 : Hp} {A B : Type}
/-- what is wanted behind an evaluation -/
def Po (K : PySem.W.Frag) (ca : CA) (th : List Addr) (H : Hp) (rel : List Addr → Hp → A → B → Prop) (Wx : Value → Option Addr → Hp → Prop) (Q : B → Hp → Prop) : R A → Prop
  | .ok a S => ∀ th' H' b, Go th H th' H' → Rep K ca th' H' S → rel th' H' a b → Q b H'
  | .exn x S => ∀ th' H' cls dd, Go th H th' H' → Rep K ca th' H' S → RX K ca th' H' x.c x.fs cls dd → Wx cls dd H'
  | .bad => False
variable {rel : List Addr → Hp → A → B → Prop} {Wx : Value → Option Addr → Hp → Prop} {Q : B → Hp → Prop} {x : R A}
theorem Po.later (g : Go th H th1 H1) (h : Po K ca th H rel Wx Q x) : Po K ca th1 H1 rel Wx Q x := by
  cases x with
  | ok a S => exact fun th' H' b g' => h th' H' b (g.trans g')
  | exn y S => exact fun th' H' c d g' => h th' H' c d (g.trans g')
  | bad => exact h
theorem Po.bnd {A' B' : Type} {rel' : List Addr → Hp → A' → B' → Prop} {Q' : B' → Hp → Prop} {f : A → Sto → R A'} (h : Po K ca th H rel' Wx Q' (x.bnd f))
    (k : ∀ a S th1 H1 b, Go th H th1 H1 → Rep K ca th1 H1 S → rel th1 H1 a b → Po K ca th1 H1 rel' Wx Q' (f a S) → Q b H1) : Po K ca th H rel Wx Q x := by
  cases x with
  | ok a S => exact fun th' H' b g r e => k a S th' H' b g r e (Po.later g h)
  | exn y S => exact h
  | bad => exact h
theorem Po.ok {a : A} {b : B} {S : Sto} (R : Rep K ca th H S) (e : rel th H a b) (h : Po K ca th H rel Wx Q (.ok a S)) : Q b H := h th H b (Go.refl _ _) R e
theorem Po.mono {Q' : B → Hp → Prop} (h : Po K ca th H rel Wx Q x) (k : ∀ b H, Q b H → Q' b H) : Po K ca th H rel Wx Q' x := by
  cases x with
  | ok a S => exact fun th' H' b g r e => k _ _ (h th' H' b g r e)
  | exn y S => exact h
  | bad => exact h
/-- a new object of the store -/
theorem Po.newLst {ds : List D} {vs : List V} {S : Sto} {Q : V → Hp → Prop} (R : Rep K ca th H S) (e : RVs K ca th H ds vs) (h : Po K ca th H (RV K ca) Wx Q (newO (.lst ds) S)) : ∀ p, H p = none → Q (.ref p) (upd H p (.lst vs)) := fun p hp =>
  h (th ++ [p]) _ (.ref p) (Go.new hp) (R.new hp ⟨vs, upd_same, e.go (Go.new hp)⟩) (.loc (by rw [← R.len, List.getElem?_append_right (Nat.le_refl _)]; simp))
theorem Po.newDic {S : Sto} {Q : V → Hp → Prop} (R : Rep K ca th H S) (h : Po K ca th H (RV K ca) Wx Q (newO (.dic []) S)) : ∀ p, H p = none → Q (.ref p) (upd H p (.dK [])) := fun p hp =>
  h (th ++ [p]) _ (.ref p) (Go.new hp) (R.new hp ⟨[], upd_same, rfl, .nil⟩) (.loc (by rw [← R.len, List.getElem?_append_right (Nat.le_refl _)]; simp))
theorem Po.newDct {S : Sto} {Q : V → Hp → Prop} (R : Rep K ca th H S) (h : Po K ca th H (RV K ca) Wx Q (newO (.dct []) S)) : ∀ p, H p = none → Q (.ref p) (upd H p (.dT [])) := fun p hp =>
  h (th ++ [p]) _ (.ref p) (Go.new hp) (R.new hp ⟨[], upd_same, rfl, .nil⟩) (.loc (by rw [← R.len, List.getElem?_append_right (Nat.le_refl _)]; simp))
theorem Po.tup {ds : List D} {vs : List V} {S : Sto} {Q : V → Hp → Prop} (R : Rep K ca th H S) (e : RVs K ca th H ds vs) (h : Po K ca th H (RV K ca) Wx Q (.ok (.tup ds) S)) : ∀ p, H p = none → Q (.ref p) (upd H p (.tup vs)) := fun p hp =>
  h th _ (.ref p) (Go.lay hp) (R.lay hp) (.tup (.inl (.inl upd_same)) (.inr upd_same) (e.go (Go.lay hp)))
theorem RV.int_inv {i : Int} {v : V} (h : RV K ca th H (.int i) v) : v = .int i := by cases h; rfl
theorem RV.bl_inv {i : Bool} {v : V} (h : RV K ca th H (.bl i) v) : v = .bl i := by cases h; rfl
theorem RV.str_inv {i : Str} {v : V} (h : RV K ca th H (.str i) v) : v = .str i := by cases h; rfl
theorem RV.non_inv {v : V} (h : RV K ca th H .non v) : v = .non := by cases h; rfl
theorem RV.tup_inv {ds : List D} {v : V} (h : RV K ca th H (.tup ds) v) : ∃ a vs, v = .ref a ∧ SqT K H a vs ∧ RVs K ca th H ds vs := by cases h with | tup h t r => exact ⟨_, _, rfl, h, r⟩
theorem RV.tup_inv3 {ds : List D} {v : V} (h : RV K ca th H (.tup ds) v) : ∃ a vs, v = .ref a ∧ SqT K H a vs ∧ (nsB ds = true ∨ H a = some (.tup vs)) ∧ RVs K ca th H ds vs := by cases h with | tup h t r => exact ⟨_, _, rfl, h, t, r⟩
theorem RV.frl_inv {ds : List D} {v : V} (h : RV K ca th H (.frl ds) v) : ∃ a vs, v = .ref a ∧ FzL K H a vs ∧ RVs K ca th H ds vs := by cases h with | frl h r => exact ⟨_, _, rfl, h, r⟩
theorem RV.loc_inv {l : Nat} {v : V} (h : RV K ca th H (.loc l) v) : ∃ a, v = .ref a ∧ th[l]? = some a := by cases h with | loc h => exact ⟨_, rfl, h⟩
theorem RV.lst_inv {l : Nat} {v : V} {S : Sto} {ds : List D} (R : Rep K ca th H S) (h : RV K ca th H (.loc l) v) (e : S[l]? = some (.lst ds)) : ∃ a vs, v = .ref a ∧ th[l]? = some a ∧ H a = some (.lst vs) ∧ RVs K ca th H ds vs := by
  obtain ⟨a, h1, h2⟩ := h.loc_inv
  obtain ⟨vs, h3, h4⟩ := R.obj l a _ h2 e
  exact ⟨a, vs, h1, h2, h3, h4⟩
/-- a list is read -/
theorem lstOf_ok {S : Sto} {d : D} {v : V} {ds : List D} (R : Rep K ca th H S) (h : RV K ca th H d v) (e : lstOf S d = some ds) : ∃ a vs, v = .ref a ∧ SqL K H a vs ∧ RVs K ca th H ds vs := by
  cases d with
  | frl es =>
    obtain rfl : es = ds := Option.some.inj e
    obtain ⟨a, vs, h1, h2, h3⟩ := h.frl_inv
    exact ⟨a, vs, h1, h2.sq, h3⟩
  | loc l =>
    have e' : (match S[l]? with | some (.lst ds) => some ds | _ => none) = some ds := e
    split at e'
    · rename_i es he
      cases e'
      obtain ⟨a, vs, h1, h2, h3, h4⟩ := h.lst_inv R he
      exact ⟨a, vs, h1, .inl (.inl h3), h4⟩
    · cases e'
  | _ => cases e
theorem seqOf_ok {S : Sto} {d : D} {v : V} {ds : List D} (R : Rep K ca th H S) (h : RV K ca th H d v) (e : seqOf S d = some ds) : ∃ a vs, v = .ref a ∧ (SqL K H a vs ∨ SqT K H a vs) ∧ RVs K ca th H ds vs := by
  have other : ∀ d', d' = d → lstOf S d' = some ds → ∃ a vs, v = .ref a ∧ (SqL K H a vs ∨ SqT K H a vs) ∧ RVs K ca th H ds vs := fun d' q e' => by
    rw [q] at e'
    obtain ⟨a, vs, h1, h2, h3⟩ := lstOf_ok R h e'
    exact ⟨a, vs, h1, .inl h2, h3⟩
  cases d with
  | tup es =>
    obtain rfl : es = ds := Option.some.inj e
    obtain ⟨a, vs, h1, h2, h3⟩ := h.tup_inv
    exact ⟨a, vs, h1, .inr h2, h3⟩
  | _ => exact other _ rfl e
theorem map_some {A B : Type} {f : A → B} {o : Option A} {b : B} (h : o.map f = some b) : ∃ a, o = some a ∧ f a = b := by
  cases o with
  | none => cases h
  | some a => exact ⟨a, rfl, Option.some.inj h⟩
mutual
theorem rdD_ok {S : Sto} (R : Rep K ca th H S) : ∀ (n : Nat) (d : D) (v : V) (p : PyData), RV K ca th H d v → rdD S n d = some p → Dp K H v p
  | n, .non, v, p, h, e => by rw [h.non_inv]; simp only [rdD] at e; cases e; exact .non
  | n, .bl b, v, p, h, e => by rw [h.bl_inv]; simp only [rdD] at e; cases e; exact .bl b
  | n, .int b, v, p, h, e => by rw [h.int_inv]; simp only [rdD] at e; cases e; exact .int b
  | n, .str b, v, p, h, e => by rw [h.str_inv]; simp only [rdD] at e; cases e; exact .str b
  | 0, .tup _, v, p, h, e => by simp only [rdD] at e; cases e
  | 0, .frl _, v, p, h, e => by simp only [rdD] at e; cases e
  | 0, .loc _, v, p, h, e => by simp only [rdD] at e; cases e
  | n, .ty _, v, p, h, e => by cases n <;> (simp only [rdD] at e; cases e)
  | n, .cls _, v, p, h, e => by cases n <;> (simp only [rdD] at e; cases e)
  | n, .exc _ _, v, p, h, e => by cases h
  | n, .kd _, v, p, h, e => by cases n <;> (simp only [rdD] at e; cases e)
  | n + 1, .tup ds, v, p, h, e => by
    simp only [rdD] at e
    obtain ⟨ps, e1, e2⟩ := map_some e
    subst e2
    obtain ⟨a, vs, rfl, h2, h3⟩ := h.tup_inv
    exact .tup h2 (rdAll_ok R n ds vs ps h3 e1)
  | n + 1, .frl ds, v, p, h, e => by
    simp only [rdD] at e
    obtain ⟨ps, e1, e2⟩ := map_some e
    subst e2
    obtain ⟨a, vs, rfl, h2, h3⟩ := h.frl_inv
    exact .lst h2.sq (rdAll_ok R n ds vs ps h3 e1)
  | n + 1, .loc l, v, p, h, e => by
    simp only [rdD] at e
    split at e
    · rename_i ds he
      obtain ⟨ps, e1, e2⟩ := map_some e
      subst e2
      obtain ⟨a, vs, rfl, h2, h3, h4⟩ := h.lst_inv R he
      exact .lst (.inl (.inl h3)) (rdAll_ok R n ds vs ps h4 e1)
    · cases e
theorem rdAll_ok {S : Sto} (R : Rep K ca th H S) : ∀ (n : Nat) (ds : List D) (vs : List V) (ps : List PyData), RVs K ca th H ds vs → rdAll S n ds = some ps → DpAll K H vs ps
  | n, [], vs, ps, h, e => by
    cases h
    have e' : ps = [] := by cases n <;> (simp only [rdAll] at e; cases e; rfl)
    subst e'
    exact .nil
  | 0, d :: ds, vs, ps, h, e => by simp only [rdAll] at e; cases e
  | n + 1, d :: ds, vs, ps, h, e => by
    cases h with
    | cons h1 h2 =>
      simp only [rdAll] at e
      split at e
      · rename_i x xs e1 e2
        cases e
        exact .cons (rdD_ok R n d _ x h1 e1) (rdAll_ok R n ds _ xs h2 e2)
      · cases e
end
end
section
variable {X : Cx} {ca : CA} {Wx : Value → Option Addr → Hp → Prop}
/-- an operation on two values, as the small language has it -/
def rD2 (K : PySem.W.Frag) (ca : CA) (Wx : Value → Option Addr → Hp → Prop) (f : Sto → D → D → R D) : R2 := fun x y H Q =>
  ∃ th S a b, Rep K ca th H S ∧ RV K ca th H a x ∧ RV K ca th H b y ∧ Po K ca th H (RV K ca) Wx Q (f S a b)
def bopO : Bop → Operator
  | .add => .Add | .sub => .Sub | .mul => .Mult | .fdiv => .FloorDiv | .mod => .Mod | .pow => .Pow
def copO : Cop → CmpOp
  | .eq => .Eq | .ne => .NotEq | .lt => .Lt | .le => .LtE | .gt => .Gt | .ge => .GtE | .is => .Is | .isn => .IsNot | .inn => .In | .nin => .NotIn
theorem okDiv_1 {i j : Int} (h : okDiv i j = true) : j ≠ 0 := by
  unfold okDiv at h
  rw [Bool.and_eq_true] at h
  exact of_decide_eq_true h.1
theorem okDiv_2 {i j : Int} (h : okDiv i j = true) : Builtin.divisionGoesByPylong i j = false := by
  unfold okDiv at h
  rw [Bool.and_eq_true] at h
  simpa using h.2
theorem okMul_ok {i j : Int} (h : okMul i j = true) : IntMulOk i j := by
  have h3 : i.natAbs.log2 + j.natAbs.log2 < 1000000 := of_decide_eq_true h
  have b : ∀ x : Int, Builtin.Int.intBits x ≤ x.natAbs.log2 + 1 := fun x => by
    unfold Builtin.Int.intBits
    split <;> omega
  have h1 := b i
  have h2 := b j
  have e : bitsLine = 134217728 := by decide
  unfold IntMulOk
  intro z
  rw [Bool.and_eq_true] at z
  have z2 := z.2
  unfold Builtin.Int.intTooBig at z2
  have z3 := of_decide_eq_true z2
  rw [e] at z3
  omega
theorem szL_eq : szL = sizeLine := sizeLine_eq.symm
theorem op_repS {pins : List (Addr × Obj)} {s : Shared} {sg : L2.St} {H : Hp} {x : Str} {n : Int} {t u : Tok} {Q : V → Hp → Prop} (h1 : 1 ≤ n) (h2 : n < 2 ^ 31) (h3 : x.length * n.toNat ≤ sizeLine) (I : L2.Inv X pins sg H s) (q : Q (.str (repS x n)) H) :
    wpAny (model X.prog X.w) X.A (binaryOp Operator.Mult (.str x t) (.int n u)) (EP X pins sg Q) X.xe s := by
  have hs : sizeLine = 16777216 := sizeLine_eq
  refine PySem.P.mul_str ?_ ?_ ?_ ?_
  · simp; omega
  · intro _ _
    rw [hs] at h3
    have hx : (x.length : Int) * n ≤ 16777216 := by
      have : ((x.length * n.toNat : Nat) : Int) ≤ 16777216 := by omega
      rw [Int.natCast_mul, Int.toNat_of_nonneg (by omega)] at this
      exact this
    have : (x.length : Int) ≤ (2 ^ 63 - 1) / n := (Int.le_ediv_iff_mul_le (by omega)).2 (by omega)
    omega
  · intro _ _
    unfold Builtin.Str.tooLong
    simp only [decide_eq_false_iff_not]
    omega
  · rw [if_neg (by omega)]
    unfold repS at q
    split
    · rename_i e
      rw [if_pos e] at q
      exact ⟨.str _, H, I, ⟨t, rfl⟩, q⟩
    · rename_i e
      rw [if_neg e] at q
      refine ⟨?_, ⟨.str _, H, I.tok _, ⟨_, rfl⟩, q⟩⟩
      have key : ∀ (m : Nat) (acc : Array Nat), (List.foldl (fun x1 x2 => x1 ++ x2) acc (List.replicate m x.cps)).size = acc.size + m * x.cps.size := by
        intro m
        induction m with
        | zero => intro acc; simp
        | succ m ih =>
          intro acc
          rw [List.replicate_succ, List.foldl_cons, ih, Array.size_append, Nat.succ_mul]
          omega
      show (List.foldl (fun x1 x2 => x1 ++ x2) #[] (List.replicate n.toNat x.cps)).size ≤ sizeLine
      rw [key]
      have : x.length = x.cps.size := rfl
      rw [this, Nat.mul_comm] at h3
      simpa using h3
theorem op_binD (o : Bop) : OpR X (binaryOp (bopO o)) (rD2 X.K ca Wx fun S => binD S o) := by
  intro pins s sg H x y v u Q I rx ry h
  obtain ⟨th, S, a, b, R, ha, hb, h⟩ := h
  have hs : sizeLine = szL := sizeLine_eq
  change Po X.K ca th H (RV X.K ca) Wx Q (binD S o a b) at h
  unfold binD at h
  split at h
  · cases ha.int_inv; cases hb.int_inv
    exact op_add pins s sg H _ _ v u Q I rx ry ⟨_, _, rfl, rfl, h.ok R (.int _)⟩
  · cases ha.str_inv; cases hb.str_inv
    split at h
    · rename_i hl
      exact op_add_str pins s sg H _ _ v u Q I rx ry ⟨_, _, rfl, rfl, by rw [hs]; exact hl, h.ok R (.str _)⟩
    · exact h.elim
  · rename_i xs ys
    split at h
    · rename_i hl
      obtain ⟨a1, vs, rfl, h1, r1⟩ := ha.tup_inv
      obtain ⟨a2, ws, rfl, h2, r2⟩ := hb.tup_inv
      have l1 := r1.length
      have l2 := r2.length
      have hne : vs ≠ [] := fun z => by
        subst z
        exact hl.1 (List.length_eq_zero_iff.mp l1)
      refine op_catT pins s sg H _ _ v u Q I rx ry ⟨a1, a2, vs, ws, rfl, rfl, h1, h2, hne, by rw [hs]; omega, ?_⟩
      first
        | exact ⟨fun z => by
            subst z
            have e : ys = [] := List.length_eq_zero_iff.mp l2
            subst e
            exact h.ok R (by rw [List.append_nil]; exact ha), fun _ => h.tup R (r1.append r2)⟩
        | exact ⟨fun z => by
            have e : ys = [] := List.length_eq_zero_iff.mp (by rw [l2, z]; rfl)
            subst e
            exact h.ok R (by rw [List.append_nil]; exact ha), h.tup R (r1.append r2)⟩
    · exact h.elim
  · split at h
    · rename_i xs ys e1 e2
      split at h
      · rename_i hl
        obtain ⟨a1, vs, rfl, h0, h1, r1⟩ := ha.lst_inv R e1
        obtain ⟨a2, ws, rfl, h0', h2, r2⟩ := hb.lst_inv R e2
        have l1 := r1.length
        have l2 := r2.length
        exact op_cat pins s sg H _ _ v u Q I rx ry ⟨a1, a2, vs, ws, rfl, rfl, h1, h2, by rw [hs]; omega, h.newLst R (r1.append r2)⟩
      · exact h.elim
    · exact h.elim
  · cases ha.int_inv; cases hb.int_inv
    exact op_sub pins s sg H _ _ v u Q I rx ry ⟨_, _, rfl, rfl, h.ok R (.int _)⟩
  · cases ha.int_inv; cases hb.int_inv
    split at h
    · rename_i hl
      obtain ⟨t1, rfl⟩ := rx
      obtain ⟨t2, rfl⟩ := ry
      exact mul_int (show EP X pins sg Q (.int _ _) _ from ⟨.int _, H, I.tok _, ⟨_, rfl⟩, h.ok R (.int _)⟩) (okMul_ok hl)
    · exact h.elim
  · split at h
    · rename_i xs e1
      split at h
      · rename_i hl
        cases hb.int_inv
        obtain ⟨a1, vs, rfl, h0, h1, r1⟩ := ha.lst_inv R e1
        have l1 := r1.length
        refine op_rep pins s sg H _ _ v u Q I rx ry ⟨a1, _, vs, rfl, rfl, h1, hl.1, hl.2.1, by rw [hs, ← l1]; exact hl.2.2, ?_⟩
        refine h.newLst R ?_
        clear h
        have : ∀ k : Nat, RVs X.K ca th H (List.replicate k xs).flatten (List.replicate k vs).flatten := fun k => by
          induction k with
          | zero => exact .nil
          | succ k ih => rw [List.replicate_succ, List.replicate_succ, List.flatten_cons, List.flatten_cons]; exact r1.append ih
        exact this _
      · exact h.elim
    · exact h.elim
  · cases ha.str_inv; cases hb.int_inv
    split at h
    · rename_i hl
      obtain ⟨t1, rfl⟩ := rx
      obtain ⟨t2, rfl⟩ := ry
      exact op_repS hl.1 hl.2.1 (by rw [hs]; exact hl.2.2) I (h.ok R (.str _))
    · exact h.elim
  · cases ha.int_inv; cases hb.int_inv
    split at h
    · rename_i hl
      obtain ⟨t1, rfl⟩ := rx
      obtain ⟨t2, rfl⟩ := ry
      exact floordiv_int (okDiv_1 hl) (show EP X pins sg Q (.int _ _) _ from ⟨.int _, H, I.tok _, ⟨_, rfl⟩, h.ok R (.int _)⟩) (.inl (okDiv_2 hl))
    · exact h.elim
  · cases ha.int_inv; cases hb.int_inv
    split at h
    · rename_i hl
      exact op_modN pins s sg H _ _ v u Q I rx ry ⟨_, _, rfl, rfl, hl, h.ok R (.int _)⟩
    · exact h.elim
  · cases ha.int_inv; cases hb.int_inv
    split at h
    · rename_i hl
      unfold okPow at hl
      simp only [Bool.and_eq_true, decide_eq_true_eq] at hl
      exact op_pow pins s sg H _ _ v u Q I rx ry ⟨_, _, rfl, rfl, ⟨hl.1.1, hl.1.2, hl.2⟩, h.ok R (.int _)⟩
    · exact h.elim
  · exact h.elim
end
end HP
namespace HP
namespace LCX
open PySem L2 PySem.Spec PyProof.Rows
theorem noteFrame_env {e : Value} {env env' : Env} (h : env'.frame = env.frame) : noteFrame e env' = noteFrame e env := by
  unfold noteFrame PySem.frameOf
  rw [h]
section
open HandSPX
variable {M : Model} {A : Around} {E : Value → Shared → Prop} {s : Shared} {Z : Obj → Prop} {base : Heap} {env : Env} {outer l : List Env} {L L' e : Addr}
theorem looks_heldZ {fl : Value} {Q : Unit → Shared → Prop} (hZ : Steady Z) (hfr : A.frames = some (env :: outer)) (hf : env.frame = some L) (hkb : base.StaysIn s.heap) (hen : base.get? e = none) (hl : s.heap.FunFrames base (env :: outer)) (ht : TracedZ s.heap base e Z fl)
    (hQ : ∀ h', HeldZ base (env :: outer) e Z L h' → s.heap.UpToSlots h' → Q () { s with heap := h' }) : wpAny M A (noteFrame (.ref e) env) Q E s := by
  by_cases hfl : (fl == rawInt L) = true
  · have hfl := eq_of_beq hfl
    subst hfl
    exact againZ hf ht (hQ s.heap ⟨hkb, hen, hl, ht⟩ (Heap.UpToSlots.refl _))
  obtain ⟨oe, vs, T, oT, ts, he, hz, hd, h1, hnT, hTe, hT, hdT, h3⟩ := ht
  unfold noteFrame
  simp only [hf]
  refine wpAny_bind (wpAny_field he hd h1 ?_)
  rw [if_pos (show (Value.ref T != Value.none) = true from by simp)]
  refine wpAny_bind (wpAny_field hT hdT h3 ?_)
  rw [if_neg hfl]
  refine wpAny_bind (wpAny_setField hT hdT (Array.getElem?_eq_some_iff.mp h3).1 ?_)
  have other : ∀ b, b ≠ T → (s.heap.update T (Obj.mapFields (·.setIfInBounds 3 Value.none))).get? b = s.heap.get? b := fun b hb => Heap.get?_update_other _ _ (Ne.symm hb)
  have noRecord : ∀ b o, s.heap.get? b = some o → (∀ vs, o.data ≠ .fields vs) → b ≠ T := fun b o hb hnf q => by
    rw [q, hT] at hb; injection hb with hb; subst hb; exact hnf ts hdT
  refine wpAny_entryZ hZ hfr (hl.of_keeps fun b o hb hnf => ⟨o, (other b (noRecord b o hb hnf)).trans hb, rfl⟩) hf ((other e (Ne.symm hTe)).trans he)
    (fun b o hbo => (other b fun q => by rw [q, hnT] at hbo; cases hbo).trans (hkb b o hbo)) hen hd (Array.getElem?_eq_some_iff.mp h1).1 hz fun h' hN => ?_
  obtain ⟨x1, x2, x3, x4⟩ := hN
  exact hQ h' ⟨x1, hen, x2, x3⟩ fun b o hb hnf => x4 b o ((other b (noRecord b o hb hnf)).trans hb) hnf
/-- noted by the frame that it is in -/
theorem sky_note {Q : Unit → Shared → Prop} (hZ : Steady Z) (hfr : A.frames = some (env :: outer)) (hf : env.frame = some L) (x : Sky base (env :: outer) e Z L' s.heap)
    (hQ : ∀ h', HeldZ base (env :: outer) e Z L h' → s.heap.UpToSlots h' → Q () { s with heap := h' }) : wpAny M A (noteFrame (.ref e) env) Q E s := by
  rcases x with ⟨hB, hn, hl, oe, vs, he, hz, hd, h1⟩ | fl | hh
  · exact look_newZ hZ hfr hl hf he hB hn hd h1 hz hQ
  · exact looks_onZ hZ hfr hf fl hQ
  · exact looks_heldZ hZ hfr hf hh.1 hh.2.1 hh.2.2.1 hh.2.2.2 hQ
theorem passOn_held {α : Type} {tag : String} {ce : Env} (hf : ce.frame = some L) (hh : HeldZ base l e Z L s.heap)
    (hE : ∀ h', HeldZ base l e Z L h' → s.heap.UpToSlots h' → E (.ref e) { s with heap := h' }) : wpAny M A (PySem.passOn tag (.ref e) ce : Sem α) (fun _ _ => False) E s := by
  have h0 := hh
  obtain ⟨f1, f2, f3, oe, vs, T, oT, ts, he, hz, hd, h1, hnT, hTe, hT, hdT, h3⟩ := hh
  unfold PySem.passOn
  refine wpAny_bind (wpAny_field he hd h1 ?_)
  rw [if_neg (show ¬ (Value.ref T == Value.none) = true from by simp), hf]
  exact wpAny_bind (setFlight_onZ h0 fun h' k1 k2 => wpAny_throw (hE h' k1 k2))
end
section
variable {M : Model} {A : Around} {E : Value → Shared → Prop} {s : Shared} {env : Env}
/-- what a comprehension's block leaves: where it raises, the environment's frame is told -/
def compPostX (M : Model) (A : Around) (E : Value → Shared → Prop) (use : Option (Value → Sem Unit)) (Q : Value → Shared → Prop) (acc : Value) (C : Addr) (f : Option Addr) (r : Result) (s' : Shared) : Prop :=
  match r, use with
  | .ok _, none => ∃ m, s'.heap.Ns C m ∧ ∀ h', Heap.SameBut C s'.heap h' → Q acc { s' with heap := h' }
  | .ok _, some u => wpAny M A (u acc) (fun _ s'' => ∃ m, s''.heap.Ns C m ∧ ∀ h', Heap.SameBut C s''.heap h' → Q .none { s'' with heap := h' }) E s'
  | .error x, _ => ∃ m, s'.heap.Ns C m ∧ ∀ h', Heap.SameBut C s'.heap h' → ∀ cenv : Env, cenv.locals = C → cenv.frame = f → wpAny M A (PySem.passOn "comprehension.variables-let-go" x cenv : Sem Value) (fun _ _ => False) E { s' with heap := h' }
theorem comprehension_freeX {e : Expr} {scope : Scope} {pos : Pos} {newAcc first : Sem Value} {g : Comprehension} {gs : List Comprehension} {cl : List (Str × Addr)} {use : Option (Value → Sem Unit)}
    {Q : Value → Shared → Prop}
    (hcl : clausesOf e = g :: gs) (hs : ∀ x, foldedSetIterable g.iter env x = pure x) (hclos : closureFor scope env = pure cl)
    (hkind : scope.kind = .function) (hnames : ∀ x ∈ scope.names, x.2 = .local → scope.names.lookup x.1 = some .local)
    (h : wpAny M A first (fun x s₁ => wpAny M A (pyIter x) (fun it s₂ => wpAny M A newAcc (fun acc s₃ =>
      wpAny M A (newFunctionEnv scope env.globals cl [] env.qual none .none (some env)) (fun cenv s₄ =>
        codeAny M A (.compStart e 0 it acc { cenv with scope := relabel scope env }) (compPostX M A E use Q acc cenv.locals cenv.frame) s₄) E s₃) E s₂) E s₁) E s) :
    wpAny M A (comprehension e scope env pos newAcc false first use) Q E s := by
  unfold comprehension
  rw [hclos, hcl]
  refine wpAny_bind (wpAny_mono h (fun x s₁ h₁ => wpAny_bind (wpAny_standAt (wpAny_bind (wpAny_of_eq (hs x) (wpAny_bind (wpAny_holding (wpAny_mono h₁ (fun it s₂ h₂ =>
    wpAny_standIf (wpAny_bind (wpAny_mono h₂ (fun acc s₃ h₃ => wpAny_bind (wpAny_pure (wpAny_bind (wpAny_mono h₃ (fun cenv s₄ h₄ => ?_) fun _ _ h' => h')))) fun _ _ h' => h')))
      fun _ _ h' => h'))))))) fun _ _ h' => h')
  dsimp only
  have hv : ∀ x ∈ (scope.names.filter fun x => (x.2 == .local || x.2 == .cell) && x.1 != (".0" : Str)).reverse, x.2 = .local →
      Env.kindOf { cenv with scope := relabel scope env } x.1 = some .local := fun x hx hl => lookup_relabel_local (hnames x (List.mem_filter.mp (List.mem_reverse.mp hx)).1 hl)
  have hv' : ∀ x ∈ (scope.names.filter fun x => (x.2 == .local || x.2 == .cell) && x.1 != (".0" : Str)).reverse.drop 1 ++ (scope.names.filter fun x => (x.2 == .local || x.2 == .cell) && x.1 != (".0" : Str)).reverse.take 1,
      x.2 = .local → Env.kindOf { cenv with scope := relabel scope env } x.1 = some .local := fun x hx hl => by
    rcases List.mem_append.mp hx with h1 | h1
    · exact hv x (List.mem_of_mem_drop h1) hl
    · exact hv x (List.mem_of_mem_take h1) hl
  refine wpAny_holding (wpAny_bind (wpAny_attempt (wpAny_holding (wpAny_run (codeAny_mono h₄ fun r s' hr => ?_)))))
  cases r with
  | ok f =>
    cases use with
    | none =>
      obtain ⟨m, hn, hr⟩ := hr
      exact wpAny_bind (wpAny_holding (wpAny_comp_letGo (cenv := { cenv with scope := relabel scope env }) hkind _ s' m hv hn fun h' m' _ hs' => wpAny_pure (hr h' hs')))
    | some u =>
      refine wpAny_bind (wpAny_rule (wpAny_bind (wpAny_holding (wpAny_mono hr (fun _ s'' hr' => ?_) fun _ _ h' => h'))))
      obtain ⟨m, hn, hr'⟩ := hr'
      exact wpAny_bind (wpAny_comp_letGo (cenv := { cenv with scope := relabel scope env }) hkind _ s'' m hv' hn fun h' m' _ hs' => wpAny_pure (hr' h' hs'))
  | error x =>
    have hr' : ∃ m, s'.heap.Ns cenv.locals m ∧ ∀ h', Heap.SameBut cenv.locals s'.heap h' → ∀ cenv' : Env, cenv'.locals = cenv.locals → cenv'.frame = cenv.frame → wpAny M A (PySem.passOn "comprehension.variables-let-go" x cenv' : Sem Value) (fun _ _ => False) E { s' with heap := h' } := by cases use <;> exact hr
    obtain ⟨m, hn, hr⟩ := hr'
    exact wpAny_bind (wpAny_holding (wpAny_comp_letGo (cenv := { cenv with scope := relabel scope env }) hkind _ s' m hv hn fun h' m' _ hs' => wpAny_mono (hr h' hs' _ rfl rfl) (fun _ _ f => f.elim) fun _ _ y => y))
end
section
variable {X : Cx}
/-- what the block's exceptions are to be -/
def xeB (X : Cx) (s : Shared) (H : Hp) (scope : Scope) (ce : Env) (fp : List Addr) (W : WX) : Value → Shared → Prop := fun u s' => ∃ xe0, XE ((X.blk s H scope ce fp).tr [] xe0) W u s'
abbrev blkX (X : Cx) (s : Shared) (H : Hp) (scope : Scope) (ce : Env) (fp : List Addr) (W : WX) : Cx := (X.blk s H scope ce fp).tr [] (xeB X s H scope ce fp W)
theorem takesB {s : Shared} {H : Hp} {scope : Scope} {ce : Env} {fp : List Addr} {W : WX} : Takes (blkX X s H scope ce fp W) W := fun u s' x => ⟨_, x⟩
theorem Inv.blkX {s0 : Shared} {H0 : Hp} {scope : Scope} {ce : Env} {fp : List Addr} {W : WX} {σ : L2.St} {H : Hp} {s : Shared} (I : Inv (X.blk s0 H0 scope ce fp) [] σ H s) : Inv (LCX.blkX X s0 H0 scope ce fp W) [] σ H s :=
  ⟨I.ok.toTry _ _, I.os, I.bare, I.base, I.loc, I.cell, I.free, I.freeC, I.pin, I.hok, I.len⟩
/-- the same wish, for what the slots were ahead -/
abbrev wx (W : WX) (σ : L2.St) : WX := fun cls d _ H => W cls d σ H
section
variable {pins : List (Addr × Obj)} {σ σ' : L2.St} {H H3 : Hp} {s s3 s' : Shared} {B : Heap} {W : WX}
theorem funFrames_on {base h h' : Heap} : ∀ {l : List Env}, h.FunFrames base l → (∀ L ∈ frs l, h'.get? L = h.get? L) → h'.FunFrames base l
  | [], _, _ => trivial
  | env :: l, hh, k => by
    obtain ⟨hk, ⟨L, o, hf, hn, ho, hd⟩, hr⟩ := hh
    exact ⟨hk, ⟨L, o, hf, hn, (k L (List.mem_filterMap.mpr ⟨env, List.mem_cons_self, hf⟩)).trans ho, hd⟩, funFrames_on hr fun b hb => by
      obtain ⟨e, he, q⟩ := List.mem_filterMap.mp hb
      exact k b (List.mem_filterMap.mpr ⟨e, List.mem_cons_of_mem _ he, q⟩)⟩
/-- what the block's exception leaves behind, its frame noted -/
structure Left (X : Cx) (fp : List Addr) (C : Addr) (H3 H' : Hp) (h B h' : Heap) : Prop where
  keep : ∀ b o, h.get? b = some o → H3 b = none → b ∉ frs X.stack → b ∉ fp → B.get? b = some o
  slot : ∀ b o, h.get? b = some o → b ∈ frs X.stack → ∃ sl, h'.get? b = some { o with slots := sl }
  free : ∀ b o, h.get? b = some o → H3 b = none → b ∉ fp → H' b = none
  there : ∀ b o, h.get? b = some o → b ∉ frs X.stack → b ∉ fp → ∃ o', B.get? b = some o'
  tups : ∀ b xs, H3 b = some (.tup xs) → H' b = some (.tup xs)
  frzs : ∀ b o u, H3 b = some (.frz o u) → H' b = some (.frz o u)
  tbls : ∀ b ps, H3 b = some (.tbl ps) → ∃ more, H' b = some (.tbl (ps ++ more))
  hok : HOk X.prog X.w H' B
  hC : h.get? C = none
  hC' : H' C = none
theorem XE_of_held {a : Addr} {fp : List Addr} {H' : Hp} {cls : Value} {d : Option Addr} {C : Addr} (I3 : Inv X pins σ H3 s3) (hfp : ∀ b ∈ fp, (b ∈ X.ex ∨ X.s_0.heap.objs.size ≤ b) ∧ b ≠ X.env.locals ∧ (∀ x c, X.env.cells.lookup x = some c → c ≠ b) ∧ ∀ p ∈ X.pn ++ pins, p.1 ≠ b)
    (u : Left X fp C H3 H' s3.heap B s'.heap) (sky : HandSPX.HeldZ (PySem.W.hideAll B [C]) X.stack a (Zc cls d) X.env.locals s'.heap) (na : H' a = none) (os : s'.os = s3.os) (ag : AllBare s'.gens) (w : W cls d σ H') : XE X W (.ref a) s' := by
  have st : (PySem.W.hideAll B [C]).StaysIn s'.heap := sky.1
  have hide : ∀ {b o}, B.get? b = some o → b ≠ C → (PySem.W.hideAll B [C]).get? b = some o := fun e hb => PySem.W.hideAll_get _ e (by simp [hb])
  have neC : ∀ {b o}, s3.heap.get? b = some o → b ≠ C := fun e hb => by rw [hb, u.hC] at e; cases e
  have hok' : HOk X.prog X.w H' (PySem.W.hideAll B [C]) := fun b o q => (u.hok b o q).stay (fun c v hc r => hide r fun e => by
    rcases hc with hc | hc
    · rw [← hc, e, u.hC'] at q; cases q
    · rw [e, u.hC'] at hc; cases hc) (fun _ r => r) fun _ _ r => r
  generalize PySem.W.hideAll B [C] = B' at *
  obtain ⟨G, g1, g2⟩ := restrict s'.heap fun b => (B'.get? b).isSome || decide (b ∈ frs X.stack)
  have gB : ∀ b o, B'.get? b = some o → G.get? b = some o := fun b o e => by
    rw [g1 b (by simp [e])]
    exact st b o e
  have gF : ∀ b, b ∈ frs X.stack → G.get? b = s'.heap.get? b := fun b hb => g1 b (by simp [hb])
  have og : ∀ b o, G.get? b = some o → s'.heap.get? b = some o ∧ ((B'.get? b).isSome = true ∨ b ∈ frs X.stack) := fun b o e => by
    cases q : ((B'.get? b).isSome || decide (b ∈ frs X.stack)) with
    | false => rw [g2 b q] at e; cases e
    | true =>
      rw [g1 b q] at e
      exact ⟨e, by simpa [Bool.or_eq_true] using q⟩
  refine ⟨a, B', { s3 with heap := G, gens := s'.gens, drawn := s'.drawn, toks := s'.toks }, pins, σ, H', cls, d, rfl, ?_, fun b o e hb => ?_, Heap.UpToSlots.of_keeps fun b o e => (og b o e).1, .inr (.inr sky), na, os, ag, w⟩
  · refine I3.call (ch := fp) ⟨fun b o e n hb hc => gB b o (hide (u.keep b o e n hb hc) (neC e)), fun b o e n hb hc => ?_, fun b o e n hc => u.free b o e n hc, fun b o e hc => ?_, u.tups, u.frzs, u.tbls⟩ (hok'.kept gB) ag hfp
    · obtain ⟨sl, q⟩ := u.slot b o e hb
      exact ⟨sl, by rw [gF b hb]; exact q⟩
    · by_cases hb : b ∈ frs X.stack
      · obtain ⟨sl, q⟩ := u.slot b o e hb
        exact ⟨_, by rw [gF b hb]; exact q⟩
      · obtain ⟨o', q⟩ := u.there b o e hb hc
        exact ⟨o', gB b o' (hide q (neC e))⟩
  · obtain ⟨e', h⟩ := og b o e
    rcases h with h | h
    · obtain ⟨o', q⟩ := Option.isSome_iff_exists.mp h
      have z := st b o' q
      rw [e'] at z; cases z
      exact q
    · exact absurd h hb
/-- the block raises: noted, its namespace let go, raised from our own frame -/
theorem blk_raises {scope : Scope} {ce : Env} {fp : List Addr} {use : Option (Value → Sem Unit)} {Qf : Value → Shared → Prop} {acc : Value} {C : Addr} {u : Value} (tk : Takes X W) (I3 : Inv X pins σ H3 s3)
    (hs : X.stack = X.env :: X.outer) (hf : X.env.frame = some X.env.locals) (hfp : ∀ b ∈ fp, FpOk X pins H3 b) (hC : s3.heap.objs.size ≤ C) (hCe : ce.locals = C) (hCf : ce.frame = X.env.frame)
    (x : xeB X s3 H3 scope ce fp (wx W σ) u s') :
    notedBy (model X.prog X.w) X.A ce (fun e s1 => compPostX (model X.prog X.w) X.A X.xe use Qf acc C X.env.frame (.error e) s1) u s' := by
  obtain ⟨xe0, a, B, sI, pins', σ', H', cls, d, rfl, I, nb, up, sky, na, os, ag, w⟩ := x
  have hfr : X.A.frames = some (X.env :: X.outer) := by rw [I3.ok.frames, hs]
  have nb : ∀ b o, sI.heap.get? b = some o → b ∉ frs X.stack → B.get? b = some o := nb
  have sky : Sky B X.stack a (Zc cls d) ce.locals s'.heap := sky
  have fresh : ∀ b o, s3.heap.get? b = some o → b ≠ C := fun b o e z => by
    have := Heap.lt_size e
    rw [z] at this
    exact absurd (Nat.lt_of_lt_of_le this hC) (Nat.lt_irrefl _)
  have hCn : s3.heap.get? C = none := by
    cases q : s3.heap.get? C with
    | none => rfl
    | some o => exact absurd rfl (fresh C o q)
  have ns : C ∉ frs X.stack := fun hm => by
    obtain ⟨_, o, e, _⟩ := I3.stack.mem hm
    exact fresh C o e rfl
  obtain ⟨m, hn, _⟩ := I.loc
  have hn : sI.heap.Ns ce.locals m := hn
  rw [hCe] at hn
  have free : H' C = none := by
    have z : H' ce.locals = none := I.free
    rw [hCe] at z
    exact z
  obtain ⟨oC, es, ep, hoC, rC⟩ := id hn
  have hBC : B.get? C = some oC := nb C oC hoC ns
  have haC : a ≠ C := fun z => by
    rcases sky with ⟨_, hz, _⟩ | ⟨_, hz, _⟩ | ⟨_, hz, _⟩ <;> rw [z, hBC] at hz <;> cases hz
  unfold notedBy
  rw [noteFrame_env hCf]
  rw [hs] at sky
  refine sky_note Zc.steady hfr hf sky fun h1 hh up1 => ?_
  have keepC : h1.get? C = some oC := hh.1 C oC hBC
  refine ⟨m, ⟨oC, es, ep, keepC, rC⟩, fun h2 sb cenv hl hcf => ?_⟩
  -- what the ground keeps without the namespace
  have held : HandSPX.HeldZ (PySem.W.hideAll B [C]) (X.env :: X.outer) a (Zc cls d) X.env.locals h2 := by
    obtain ⟨k1, k2, k3, oe, vs, T, oT, ts, he, hz, hd, e1, hnT, hTe, hT, hdT, e3⟩ := hh
    have hTC : T ≠ C := fun z => by rw [z, hBC] at hnT; cases hnT
    have nh : ∀ {b}, B.get? b = none → (PySem.W.hideAll B [C]).get? b = none := fun {b} e => by
      cases q : (PySem.W.hideAll B [C]).get? b with
      | none => rfl
      | some o => rw [PySem.W.of_hideAll _ q] at e; cases e
    refine ⟨fun b o e => ?_, nh k2, ?_, oe, vs, T, oT, ts, (sb.2 a haC).trans he, hz, hd, e1, nh hnT, hTe, (sb.2 T hTC).trans hT, hdT, e3⟩
    · have hbC : b ≠ C := fun z => by rw [z, PySem.W.hideAll_none _ (by simp)] at e; cases e
      exact (sb.2 b hbC).trans (k1 b o (PySem.W.of_hideAll _ e))
    · exact funFrames_on (funFrames_none (B := PySem.W.hideAll B [C]) k3 fun L hL => nh (k3.mem hL).1) fun L hL => sb.2 L fun z => ns (by rw [hs, ← z]; exact hL)
  refine passOn_held (hcf.trans hf) held fun h3 hh3 up3 => tk _ _ ?_
  have hfp' : ∀ b ∈ fp, b ∉ frs X.stack := fun b hb hm => by
    rcases List.mem_cons.mp (I3.stkSub b hm) with z | z
    · exact (hfp b hb).2.1 z
    · exact (hfp b hb).2.2.1 z
  rw [← hs] at hh3
  refine XE_of_held (B := B) (fp := fp) (C := C) (H' := H') I3 (fun b hb => ⟨(hfp b hb).2.2.2.1, (hfp b hb).2.1, (hfp b hb).2.2.2.2.1, (hfp b hb).2.2.2.2.2⟩) ⟨fun b o e n hb hc => nb b o (I.base.keep b o e n hb hc) hb, fun b o e hb => ?_, fun b o e n hc => I.base.free b o e n hc, fun b o e hb hc => ?_, I.base.tups, I.base.frzs, I.base.tbls, I.inGround nb, hCn, free⟩ hh3 na (os.trans I.os) ag w
  · obtain ⟨_, o', e', hd⟩ := I3.stack.mem hb
    rw [e] at e'; cases e'
    obtain ⟨sl1, q1⟩ := I.base.slot b o e (I3.stkFree b hb) hb (fun z => hfp' b z hb)
    obtain ⟨sl2, q2⟩ := up b _ q1 hd
    obtain ⟨sl3, q3⟩ := up1 b _ q2 hd
    obtain ⟨sl4, q4⟩ := up3 b _ ((sb.2 b (fresh b o e)).trans q3) hd
    exact ⟨sl4, q4⟩
  · obtain ⟨o', q⟩ := I.base.there b o e hc
    exact ⟨o', nb b o' q hb⟩
end
/-- tLc, the body's wish by the slots ahead -/
def tLcX (wi : TI) (g : TG) (tt : L2.St → TT) (te : L2.St → TE) (vs : List Nat) : TE := fun σ H Q => tLc wi g (tt σ) (te σ) vs σ H Q
theorem lc_coreX {pins : List (Addr × Obj)} {s : Shared} {σ : L2.St} {H : Hp} {Q : VK} {elt tg iter : Expr} {ifs : List Expr} {scope : Scope} {own : List (Str × Nat)} {pos pos' : Pos} {wi : TI} {g : TG} {tt : TT} {te : TE} {use : Option (Value → Sem Unit)} {Qf : Value → Shared → Prop} {W1 : WX}
    (tk : Takes X W1) (hst : X.stack = X.env :: X.outer) (hfm : X.env.frame = some X.env.locals) (hc : X.calm = true) (hN : X.N.Nodup) (I : Inv X pins σ H s) (hi : PI X tg iter wi) (ok : BlkOk X.N X.env.scope scope own)
    (hg : ∀ (s : Shared) (H : Hp) (C : Addr) (cl : List (Str × Addr)) (fp : List Addr), PG (blkX X s H scope (compEnvC scope cl C X.env) fp (wx W1 σ)) tg g) (ht : ∀ (s : Shared) (H : Hp) (C : Addr) (cl : List (Str × Addr)) (fp : List Addr), PTs (blkX X s H scope (compEnvC scope cl C X.env) fp (wx W1 σ)) ifs tt)
    (he : ∀ (s : Shared) (H : Hp) (C : Addr) (cl : List (Str × Addr)) (fp : List Addr), PE (blkX X s H scope (compEnvC scope cl C X.env) fp (wx W1 σ)) elt te) (hs : ∀ x, foldedSetIterable iter X.env x = pure x)
    (h : tLc wi g tt te (own.map (·.2)) σ H Q)
    (hRR : ∀ D C s' m H', Inv X pins σ H' s' → Q (.ref D) H' → s'.heap.Ns C m → FpOk X pins H' C → compPostX (model X.prog X.w) X.A X.xe use Qf (.ref D) C X.env.frame (.ok .next) s') :
    wpAny (model X.prog X.w) X.A (comprehension (.ListComp elt [⟨tg, iter, ifs, 0⟩] scope pos) scope X.env pos' (newList []) false (eval iter X.env) use) Qf X.xe s := by
  have hfree : ∀ y ∈ scope.names, y.2 = .free → ∃ c, X.env.cells.lookup y.1 = some c := fun y hy e => by
    rcases ok.free y hy e with k | k
    · exact I.ok.has _ (.inl k)
    · exact I.ok.has _ (.inr k)
  refine comprehension_freeX (use := use) rfl hs (closure_ok hfree) ok.kind (fun y hy e => by rw [ok.uniq y hy, e])
    (thn (hi.run pins s σ H _ I h) fun xv s1 hx => thn hx fun itv s2 h2 => ?_)
  obtain ⟨it, fp, tn, J, H2, e, I2, T, st2, f2, q⟩ := h2
  subst e
  refine wpAny_newObj_type (newEnv_comp ?_) (by show 0 ≤ sizeLine; decide)
  generalize hD : s2.heap.objs.size = D
  have hDn : H2 D = none := I2.hok.fresh (Nat.le_of_eq hD)
  obtain ⟨W, ⟨m0, w0⟩, turn⟩ := q D hDn
  -- the new list
  generalize hs3 : ({ s2 with heap := s2.heap.push { cls := .type "list", data := .seq ([] : List Value).toArray } } : Shared) = s3
  have I3 : Inv X pins σ (upd H2 D (.lst [])) s3 := by
    rw [← hs3]
    refine I2.laid (t' := s2.toks) (fun b o e => Heap.get?_push_of_some _ e) (Nat.le_of_eq hD) ⟨Nat.zero_le _, [], 0, .nil, ?_⟩
    rw [← hD]
    exact Heap.get?_push_size _ rfl
  have h3 : s3.heap = s2.heap.push { cls := .type "list", data := .seq ([] : List Value).toArray } := by rw [← hs3]
  have sz : ∀ b ∈ fp, b < s2.heap.objs.size := fun b hb => by
    obtain ⟨o, e, _⟩ := T.obj _ _ st2 b hb
    exact Heap.lt_size e
  have f3 : ∀ b ∈ fp, FpOk X pins (upd H2 D (.lst [])) b ∧ b < s3.heap.objs.size := fun b hb => by
    have hlt := sz b hb
    refine ⟨⟨?_, (f2 b hb).2⟩, by rw [h3, Heap.size_push]; exact Nat.lt_succ_of_lt hlt⟩
    rw [upd_ne (by rw [← hD]; exact Nat.ne_of_lt hlt)]
    exact (f2 b hb).1
  have st3 : tn 0 s3.heap := T.keep _ _ _ st2 fun b _ o e => by rw [h3]; exact Heap.get?_push_of_some _ e
  have I4 := Inv.blkX (W := wx W1 σ) (block_start I3 ok hN f3)
  have pg := hg s3 (upd H2 D (.lst [])) s3.heap.objs.size (cellsFrom (s3.heap.objs.size + 1) scope.names (cloFrom X.env.cells scope.names [])) fp
  have pt := ht s3 (upd H2 D (.lst [])) s3.heap.objs.size (cellsFrom (s3.heap.objs.size + 1) scope.names (cloFrom X.env.cells scope.names [])) fp
  have pe := he s3 (upd H2 D (.lst [])) s3.heap.objs.size (cellsFrom (s3.heap.objs.size + 1) scope.names (cloFrom X.env.cells scope.names [])) fp
  show codeAny _ _ (.compStart (.ListComp elt [⟨tg, iter, ifs, 0⟩] scope pos) 0 (.ref it) (.ref D) (compEnvC scope (cellsFrom (s3.heap.objs.size + 1) scope.names (cloFrom X.env.cells scope.names [])) s3.heap.objs.size X.env)) (compPostX (model X.prog X.w) X.A X.xe use Qf (.ref D) s3.heap.objs.size X.env.frame) { s3 with heap := pushCells (s3.heap.push { cls := .type "dict", data := .dict #[] }) scope.names }
  have nfp : ∀ b ∈ fp, (upd H2 D (.lst [])) b = none := fun b hb => (f3 b hb).1.1
  generalize hce : compEnvC scope (cellsFrom (s3.heap.objs.size + 1) scope.names (cloFrom X.env.cells scope.names [])) s3.heap.objs.size X.env = ce at I4 pg pt pe ⊢
  have cL : ce.locals = s3.heap.objs.size := by subst hce; rfl
  have cF : ce.frame = X.env.frame := by subst hce; rfl
  generalize hH3 : upd H2 D (.lst []) = H3 at I3 I4 pg pt pe w0 nfp f3
  generalize hs4 : ({ s3 with heap := pushCells (s3.heap.push { cls := .type "dict", data := .dict #[] }) scope.names } : Shared) = s4 at I4 ⊢
  have st4 : tn 0 s4.heap := T.keep _ _ _ st3 fun b _ o e => by rw [← hs4]; exact pushCells_keeps _ _ _ _ (Heap.get?_push_of_some _ e)
  have stat : ∀ {σ' : L2.St} {H' : Hp} {s' : Shared}, Inv (blkX X s3 H3 scope ce fp (wx W1 σ)) [] σ' H' s' → (∀ b ∈ fp, H' b = none) → ∀ b ∈ fp, FpOk (blkX X s3 H3 scope ce fp (wx W1 σ)) [] H' b := fun {σ' H' s'} I' hn b hb =>
    ⟨hn b hb, (I'.ok.exf b hb).1, I'.ok.exfs b hb, .inl hb, fun x c e => (I'.ok.exf b hb).2 x c e, fun p hp => absurd (show p ∈ ([] : List (Addr × Obj)) ++ [] from hp) (by simp)⟩
  have thnB : ∀ {α : Type} {t : Sem α} {Q Q' : α → Shared → Prop} {s' : Shared}, wpAny (model X.prog X.w) X.A t Q (xeB X s3 H3 scope ce fp (wx W1 σ)) s' → (∀ a s', Q a s' → Q' a s') →
      wpAny (model X.prog X.w) X.A t Q' (notedBy (model X.prog X.w) X.A ce fun e s1 => compPostX (model X.prog X.w) X.A X.xe use Qf (.ref D) s3.heap.objs.size X.env.frame (.error e) s1) s' := fun h hQ =>
    wpAny_mono h hQ fun u s' x => blk_raises tk I3 hst hfm (fun b hb => (f3 b hb).1) (Nat.le_refl _) cL cF x
  have loop : codeAny (model X.prog X.w) X.A (.compLoop (.ListComp elt [⟨tg, iter, ifs, 0⟩] scope pos) 0 (.ref it) (.ref D) ce) (compPostX (model X.prog X.w) X.A X.xe use Qf (.ref D) s3.heap.objs.size X.env.frame) s4 := by
    refine compLoop_any (fun n s' => ∃ i H', Inv (blkX X s3 H3 scope ce fp (wx W1 σ)) [] (wipe σ (own.map (·.2))) H' s' ∧ tn i s'.heap ∧ (∀ b ∈ fp, H' b = none) ∧ W i n H') ?_ m0 ⟨0, H3, I4, st4, nfp, w0⟩
    rintro n s5 ⟨i, H5, I5, st5, n5, w5⟩
    rcases turn i n H5 w5 with ⟨stop, qq⟩ | ⟨go, Nx, hNx, step⟩
    · have td := T.done (blkX X s3 H3 scope ce fp (wx W1 σ)) rfl rfl rfl hc i [] s5 _ H5 (fun _ _ => False) I5 (stat I5 n5) st5 stop
      refine thnF td fun r s6 ⟨hr, I6⟩ => ?_
      subst hr
      -- back in the def's context
      have I7 : Inv X pins σ H5 s6 := I3.call' (ch := fp) I6.os I6.base I6.hok I6.bare fun b hb => ⟨(f3 b hb).1.2.2.2.1, (f3 b hb).1.2.1, (f3 b hb).1.2.2.2.2.1, (f3 b hb).1.2.2.2.2.2⟩
      have nC : H5 s3.heap.objs.size = none := by
        have z : H5 ce.locals = none := I6.free
        rw [cL] at z
        exact z
      obtain ⟨m, hn, _⟩ := I6.loc
      have hn : s6.heap.Ns ce.locals m := hn
      rw [cL] at hn
      exact hRR D s3.heap.objs.size s6 m H5 I7 qq hn (I3.fpOk (Nat.le_refl _) nC)
    · have ti := T.item (blkX X s3 H3 scope ce fp (wx W1 σ)) rfl rfl rfl hc i [] s5 _ H5 (fun _ _ => False) I5 (stat I5 n5) st5 go
      refine thnF ti fun r s6 ⟨u, hr, h6⟩ => ?_
      subst hr
      refine thnF h6 fun _ s7 ⟨x, H7, I7, r7, y7, st7, n7⟩ => ?_
      have I7' := I7.pinned (stat I7 n7) (T.obj _ _ st7)
      refine thnB (pg.run _ s7 _ H7 x u _ I7' r7 (step x H7 y7)) fun _ s8 ⟨σ8, H8, I8, hw8, q8⟩ => ?_
      refine thnB (pt.run _ s8 σ8 H8 _ I8 q8) fun b s9 ⟨H9, I9, q9⟩ => ?_
      -- the turn's end
      have fin : ∀ {s' : Shared} {H' : Hp}, Inv (blkX X s3 H3 scope ce fp (wx W1 σ)) ([] ++ pinsAt fp s7.heap) σ8 H' s' → Nx H' → ∃ m, m < n ∧ ∃ i H', Inv (blkX X s3 H3 scope ce fp (wx W1 σ)) [] (wipe σ (own.map (·.2))) H' s' ∧ tn i s'.heap ∧ (∀ b ∈ fp, H' b = none) ∧ W i m H' := fun {s' H'} I' nx => by
        obtain ⟨m', hm, w'⟩ := hNx H' nx
        have pin' : ∀ b ∈ fp, ∀ o, s7.heap.get? b = some o → s'.heap.get? b = some o ∧ H' b = none := fun b hb o e =>
          let z := I'.pin (b, o) (List.mem_append_right _ (List.mem_append_right _ (mem_pinsAt hb e)))
          ⟨z.1, z.2.1⟩
        have hl : (wipe σ (own.map (·.2))).length = σ8.length := by rw [← hw8, wipe_length]
        refine ⟨m', hm, i + 1, H', (I'.unpinned (pins := [])).weak hl (fun j v e => ?_), T.keep _ _ _ st7 fun b hb o e => (pin' b hb o e).1, fun b hb => ?_, w'⟩
        · rw [← hw8] at e
          exact (wipe_some e).1
        · obtain ⟨o, e, _⟩ := T.obj _ _ st7 b hb
          exact (pin' b hb o e).2
      cases b with
      | false =>
        simp only [Bool.false_eq_true, if_false] at q9 ⊢
        exact fin I9 q9
      | true =>
        simp only [if_true] at q9 ⊢
        refine thnB (pe.run _ s9 σ8 H9 _ I9 q9) fun z s10 ⟨yv, H10, I10, r10, acc, hD10, hz10, nx⟩ => ?_
        exact app_ok (X := blkX X s3 H3 scope ce fp (wx W1 σ)) I10 hD10 hz10 r10 fun s11 I11 => fin I11 nx
  exact codeAny_compStart_list loop (T.self X.A 0 _ _ _ st4 loop)
/-- as a value -/
theorem pe_lcX {elt tg iter : Expr} {ifs : List Expr} {scope : Scope} {own : List (Str × Nat)} {pos : Pos} {wi : TI} {g : TG} {tt : L2.St → TT} {te : L2.St → TE} {W : WX} (tk : Takes X W) (hst : X.stack = X.env :: X.outer) (hfm : X.env.frame = some X.env.locals) (hc : X.calm = true) (hN : X.N.Nodup) (hi : PI X tg iter wi) (ok : BlkOk X.N X.env.scope scope own)
    (hg : ∀ (σ : L2.St) (s : Shared) (H : Hp) (C : Addr) (cl : List (Str × Addr)) (fp : List Addr), PG (blkX X s H scope (compEnvC scope cl C X.env) fp (wx W σ)) tg g) (ht : ∀ (σ : L2.St) (s : Shared) (H : Hp) (C : Addr) (cl : List (Str × Addr)) (fp : List Addr), PTs (blkX X s H scope (compEnvC scope cl C X.env) fp (wx W σ)) ifs (tt σ))
    (he : ∀ (σ : L2.St) (s : Shared) (H : Hp) (C : Addr) (cl : List (Str × Addr)) (fp : List Addr), PE (blkX X s H scope (compEnvC scope cl C X.env) fp (wx W σ)) elt (te σ)) (hs : ∀ x, foldedSetIterable iter X.env x = pure x := by intro _; rfl) :
    PE X (.ListComp elt [⟨tg, iter, ifs, 0⟩] scope pos) (tLcX wi g tt te (own.map (·.2))) := by
  refine ⟨fun pins s σ H Q I h => ?_⟩
  rw [eval_ListComp]
  refine lc_coreX tk hst hfm hc hN I hi ok (hg σ) (ht σ) (he σ) hs h fun D C s' m H' I' q hn f => ⟨m, hn, fun h'' sb => ?_⟩
  obtain ⟨f0, f1, f2, f3, f4, f5⟩ := f
  exact ⟨.ref D, H', I'.turned (t' := s'.toks) (fun b o hb e => (sb.2 b hb).trans e) f0 f1 f3 f4 f5, rfl, q⟩
/-- name = [..] on one line, the name a local -/
theorem ps_setLcX {i : Nat} {y : Str} {py : Pos} {elt tg iter : Expr} {ifs : List Expr} {scope : Scope} {own : List (Str × Nat)} {pos spos : Pos} {wi : TI} {g : TG} {tt : L2.St → TT} {te : L2.St → TE} {W : WX} (tk : Takes X W) (hst : X.stack = X.env :: X.outer) (hfm : X.env.frame = some X.env.locals) (hc : X.calm = true) (hN : X.N.Nodup) (hy : X.N[i]? = some y) (hyl : X.env.scope.names.lookup y = some .local)
    (hsw : swapsWith (.ListComp elt [⟨tg, iter, ifs, 0⟩] scope pos) (some (.Name y py)) spos.line X.env = pure true) (hi : PI X tg iter wi) (ok : BlkOk X.N X.env.scope scope own)
    (hg : ∀ (σ : L2.St) (s : Shared) (H : Hp) (C : Addr) (cl : List (Str × Addr)) (fp : List Addr), PG (blkX X s H scope (compEnvC scope cl C X.env) fp (wx W σ)) tg g) (ht : ∀ (σ : L2.St) (s : Shared) (H : Hp) (C : Addr) (cl : List (Str × Addr)) (fp : List Addr), PTs (blkX X s H scope (compEnvC scope cl C X.env) fp (wx W σ)) ifs (tt σ))
    (he : ∀ (σ : L2.St) (s : Shared) (H : Hp) (C : Addr) (cl : List (Str × Addr)) (fp : List Addr), PE (blkX X s H scope (compEnvC scope cl C X.env) fp (wx W σ)) elt (te σ)) (hs : ∀ x, foldedSetIterable iter X.env x = pure x := by intro _; rfl) :
    PS X (.Assign [.Name y py] (.ListComp elt [⟨tg, iter, ifs, 0⟩] scope pos) spos) (tAsg (tLcX wi g tt te (own.map (·.2))) (gName i)) := by
  refine ⟨fun pins s σ H D I h => ?_⟩
  rw [exec_Assign_Name_used _ _ _ _ hsw]
  refine wpAny_bind (wpAny_standAt (wpAny_bind ?_))
  show wpAny _ X.A (do let _ ← comprehension (.ListComp elt [⟨tg, iter, ifs, 0⟩] scope pos) scope X.env (firstIterPos [⟨tg, iter, ifs, 0⟩] pos) (newList []) false (eval iter X.env) (some (assign (.Name y py) X.env))) _ _ s
  have h : tLc wi g (tt σ) (te σ) (own.map (·.2)) σ H (fun x H1 => gName i x σ H1 D.nx) := h
  refine wpAny_bind (thn (lc_coreX (Qf := fun _ s' => SP X pins D .next s') tk hst hfm hc hN I hi ok (hg σ) (ht σ) (he σ) hs h fun L C s' m H' I' q hn f => ?_) fun _ s' hq => wpAny_pure (wpAny_pure hq))
  show wpAny _ _ (assign (.Name y py) X.env (.ref L)) _ _ _
  refine wpAny_assign_Name (store_ok2 (v := V.ref L) I' hN hy (.inl hyl) rfl (fun s2 I2 ⟨a, sb, ha⟩ => ?_) (.inr hyl))
  obtain ⟨f0, f1, f2, f3, f4, f5⟩ := f
  have haC : C ≠ a := by
    rcases ha with z | z
    · rw [z]; exact f1
    · exact fun e => f4 y a z e.symm
  refine ⟨m, hn.sameBut sb haC, fun h3 sb3 => ?_⟩
  exact ⟨_, H', I2.turned (t' := s2.toks) (fun b o hb e => (sb3.2 b hb).trans e) f0 f1 f3 f4 f5, q⟩
end
end LCX
end HP
namespace HP
open PySem L2 PySem.Spec PyProof.Rows
section
variable {X : Cx} {ca : CA} {Wx : Value → Option Addr → Hp → Prop}
theorem room_in65 {A : Around} {d : PyData} {ds : List PyData} (h : SeqAt.shaped d = true) (hu : A.units + 65 < cLine) : A.units + 1 + min (PyData.depthAll ds) d.depth < cLine := by
  have h1 := SeqAt.depth_of_shaped h
  have h2 : min (PyData.depthAll ds) d.depth ≤ d.depth := Nat.min_le_right _ _
  omega
theorem resB_ok {th : List Addr} {H : Hp} {S : Sto} {K : PySem.W.Frag} {Q : V → Hp → Prop} {o : Option Bool} (R : Rep K ca th H S) (h : Po K ca th H (RV K ca) Wx Q (resB S o)) : ∃ b, o = some b ∧ Q (.bl b) H := by
  cases o with
  | none => exact h.elim
  | some b => exact ⟨b, rfl, h.ok R (.bl b)⟩
theorem eqD_ok (hu : X.A.units + 65 < cLine) {th : List Addr} {H : Hp} {S : Sto} {a b : D} {x y : V} {k : Bool} (R : Rep X.K ca th H S) (ha : RV X.K ca th H a x) (hb : RV X.K ca th H b y) (e : eqD S a b = some k) :
    (scal x y = true ∧ k = decide (x = y)) ∨ ∃ d d', Dp X.K H x d ∧ Dp X.K H y d' ∧ SeqAt.shaped d = true ∧ SeqAt.shaped d' = true ∧ k = PyData.eqv d d' := by
  unfold eqD at e
  split at e
  all_goals first
    | (cases ha.int_inv; cases hb.int_inv; cases e; exact .inl ⟨rfl, by simp⟩)
    | (cases ha.bl_inv; cases hb.bl_inv; cases e; exact .inl ⟨rfl, by simp⟩)
    | (cases ha.str_inv; cases hb.str_inv; cases e; exact .inl ⟨rfl, by simp⟩)
    | (cases ha.int_inv; cases hb.str_inv; cases e; exact .inl ⟨rfl, by simp⟩)
    | (cases ha.str_inv; cases hb.int_inv; cases e; exact .inl ⟨rfl, by simp⟩)
    | (cases ha.non_inv; cases hb.non_inv; cases e; exact .inr ⟨.none, .none, .non, .non, by decide, by decide, by decide⟩)
    | (cases ha.int_inv; cases hb.non_inv; cases e; exact .inl ⟨rfl, by simp⟩)
    | (cases ha.str_inv; cases hb.non_inv; cases e; exact .inl ⟨rfl, by simp⟩)
    | (cases ha.bl_inv; cases hb.non_inv; cases e; exact .inl ⟨rfl, by simp⟩)
    | skip
  split at e
  · rename_i d d' e1 e2
    split at e
    · rename_i hs
      cases e
      exact .inr ⟨d, d', rdD_ok R _ _ _ _ ha e1, rdD_ok R _ _ _ _ hb e2, hs.1, hs.2, rfl⟩
    · cases e
  · cases e
theorem inD_ok {th : List Addr} {H : Hp} {S : Sto} {a b : D} {x y : V} {k : Bool} (R : Rep X.K ca th H S) (ha : RV X.K ca th H a x) (hb : RV X.K ca th H b y) (e : inD S a b = some k) :
    (∃ i j, x = .str i ∧ y = .str j ∧ k = !(Builtin.Str.occurrences j i 0 j.length 1).isEmpty) ∨ (∃ d ds, Dp X.K H x d ∧ (Dp X.K H y (.list ds) ∧ SeqAt.shaped (.list ds) = true ∨ Dp X.K H y (.tuple ds) ∧ SeqAt.shaped (.tuple ds) = true) ∧ SeqAt.shaped d = true ∧ k = ds.any fun z => PyData.eqv z d) := by
  unfold inD at e
  split at e
  · cases ha.str_inv; cases hb.str_inv; cases e; exact .inl ⟨_, _, rfl, rfl, rfl⟩
  · split at e
    · rename_i d ds e1 e2
      split at e
      · rename_i hs
        cases e
        exact .inr ⟨d, ds, rdD_ok R _ _ _ _ ha e1, .inl ⟨rdD_ok R _ _ _ _ hb e2, hs.2⟩, hs.1, rfl⟩
      · cases e
    · rename_i d ds e1 e2
      split at e
      · rename_i hs
        cases e
        exact .inr ⟨d, ds, rdD_ok R _ _ _ _ ha e1, .inr ⟨rdD_ok R _ _ _ _ hb e2, hs.2⟩, hs.1, rfl⟩
      · cases e
    · cases e
theorem isD_ok {th : List Addr} {H : Hp} {S : Sto} {a b : D} {x y : V} {k : Bool} (R : Rep X.K ca th H S) (ha : RV X.K ca th H a x) (hb : RV X.K ca th H b y) (e : isD S a b = some k) :
    (y = .non ∧ k = decide (x = .non)) ∨ (∃ i j, x = .bl i ∧ y = .bl j ∧ k = decide (i = j)) ∨ ∃ a b oa ob, x = .ref a ∧ y = .ref b ∧ H a = some oa ∧ isObj oa = true ∧ H b = some ob ∧ isObj ob = true ∧ k = decide (a = b) := by
  unfold isD at e
  split at e
  all_goals first
    | (cases ha.non_inv; cases hb.non_inv; cases e; exact .inl ⟨rfl, by simp⟩)
    | (cases ha.bl_inv; cases hb.bl_inv; cases e; exact .inr (.inl ⟨_, _, rfl, rfl, rfl⟩))
    | (cases ha.bl_inv; cases hb.non_inv; cases e; exact .inl ⟨rfl, by simp⟩)
    | (cases ha.int_inv; cases hb.non_inv; cases e; exact .inl ⟨rfl, by simp⟩)
    | (cases ha.str_inv; cases hb.non_inv; cases e; exact .inl ⟨rfl, by simp⟩)
    | (obtain ⟨_, _, rfl, _⟩ := ha.tup_inv; cases hb.non_inv; cases e; exact .inl ⟨rfl, by simp⟩)
    | (obtain ⟨_, _, rfl, _⟩ := ha.frl_inv; cases hb.non_inv; cases e; exact .inl ⟨rfl, by simp⟩)
    | (obtain ⟨_, rfl, _⟩ := ha.loc_inv; cases hb.non_inv; cases e; exact .inl ⟨rfl, by simp⟩)
    | (cases e; done)
    | skip
  rename_i l m
  split at e
  · rename_i hs
    obtain ⟨a, rfl, h1⟩ := ha.loc_inv
    obtain ⟨b, rfl, h2⟩ := hb.loc_inv
    simp only [Bool.and_eq_true] at hs
    have obj : ∀ {l : Nat} {a : Addr}, th[l]? = some a → isLI S l = true → ∃ oa, H a = some oa ∧ isObj oa = true := fun {l a} h hi => by
      unfold isLI at hi
      split at hi
      · rename_i ds e1
        obtain ⟨vs, h3, _⟩ := R.obj l a _ h e1
        exact ⟨_, h3, rfl⟩
      · rename_i c fs e1
        obtain ⟨dx, gs, h3, _⟩ := R.obj l a _ h e1
        exact ⟨_, h3, rfl⟩
      · cases hi
    obtain ⟨oa, q1, q2⟩ := obj h1 hs.1
    obtain ⟨ob, q3, q4⟩ := obj h2 hs.2
    cases e
    refine .inr (.inr ⟨a, b, oa, ob, rfl, rfl, q1, q2, q3, q4, ?_⟩)
    refine decide_eq_decide.mpr ⟨fun z => ?_, fun z => ?_⟩
    · subst z
      rw [h1] at h2
      exact Option.some.inj h2
    · subst z
      obtain ⟨k1, k2⟩ := List.getElem?_eq_some_iff.mp h1
      obtain ⟨l1, l2⟩ := List.getElem?_eq_some_iff.mp h2
      exact nodup_inj R.nd k1 l1 (by rw [k2, l2])
  · cases e
theorem op_cmpD (o : Cop) (hu : X.A.units + 65 < cLine) : OpR X (compareOp (copO o)) (rD2 X.K ca Wx fun S => cmpD S o) := by
  intro pins s sg H x y v u Q I rx ry h
  obtain ⟨th, S, a, b, R, ha, hb, h⟩ := h
  change Po X.K ca th H (RV X.K ca) Wx Q (cmpD S o a b) at h
  unfold cmpD at h
  split at h
  · obtain ⟨k, e, q⟩ := resB_ok R h
    rcases eqD_ok hu R ha hb e with ⟨h1, rfl⟩ | ⟨d, d', h1, h2, h3, h4, rfl⟩
    · exact op_eq pins s sg H x y v u Q I rx ry ⟨h1, q⟩
    · exact op_eqD (by omega) pins s sg H x y v u Q I rx ry ⟨d, d', h1, h2, h3, h4, q⟩
  · obtain ⟨k, e, q⟩ := resB_ok R h
    obtain ⟨k', e', rfl⟩ := map_some e
    rcases eqD_ok hu R ha hb e' with ⟨h1, rfl⟩ | ⟨d, d', h1, h2, h3, h4, rfl⟩
    · exact op_ne pins s sg H x y v u Q I rx ry ⟨h1, q⟩
    · exact op_neD (by omega) pins s sg H x y v u Q I rx ry ⟨d, d', h1, h2, h3, h4, q⟩
  · cases ha.int_inv; cases hb.int_inv
    exact op_lt pins s sg H _ _ v u Q I rx ry ⟨_, _, rfl, rfl, h.ok R (.bl _)⟩
  · cases ha.int_inv; cases hb.int_inv
    exact op_le pins s sg H _ _ v u Q I rx ry ⟨_, _, rfl, rfl, h.ok R (.bl _)⟩
  · cases ha.int_inv; cases hb.int_inv
    exact op_gt pins s sg H _ _ v u Q I rx ry ⟨_, _, rfl, rfl, h.ok R (.bl _)⟩
  · cases ha.int_inv; cases hb.int_inv
    exact op_ge pins s sg H _ _ v u Q I rx ry ⟨_, _, rfl, rfl, h.ok R (.bl _)⟩
  · obtain ⟨k, e, q⟩ := resB_ok R h
    rcases isD_ok R ha hb e with ⟨h1, rfl⟩ | ⟨i, j, rfl, rfl, rfl⟩ | ⟨a1, a2, oa, ob, rfl, rfl, h1, h2, h3, h4, rfl⟩
    · exact op_isN pins s sg H x y v u Q I rx ry ⟨h1, q⟩
    · exact op_isBl pins s sg H _ _ v u Q I rx ry ⟨i, j, rfl, rfl, q⟩
    · exact op_is_ref pins s sg H _ _ v u Q I rx ry ⟨a1, a2, oa, ob, rfl, rfl, h1, h2, h3, h4, q⟩
  · obtain ⟨k, e, q⟩ := resB_ok R h
    obtain ⟨k', e', rfl⟩ := map_some e
    rcases isD_ok R ha hb e' with ⟨h1, rfl⟩ | ⟨i, j, rfl, rfl, rfl⟩ | ⟨a1, a2, oa, ob, rfl, rfl, h1, h2, h3, h4, rfl⟩
    · exact op_notN pins s sg H x y v u Q I rx ry ⟨h1, q⟩
    · exact op_notBl pins s sg H _ _ v u Q I rx ry ⟨i, j, rfl, rfl, q⟩
    · exact op_isnot_ref pins s sg H _ _ v u Q I rx ry ⟨a1, a2, oa, ob, rfl, rfl, h1, h2, h3, h4, q⟩
  · obtain ⟨k, e, q⟩ := resB_ok R h
    rcases inD_ok R ha hb e with ⟨i, j, rfl, rfl, rfl⟩ | ⟨d, ds, h1, ⟨h2, h3⟩ | ⟨h2, h3⟩, h4, rfl⟩
    · exact op_in_str pins s sg H _ _ v u Q I rx ry ⟨i, j, rfl, rfl, q⟩
    · exact op_inD hu pins s sg H x y v u Q I rx ry ⟨d, ds, h1, h2, h4, h3, q⟩
    · obtain ⟨as, r1⟩ := Dp.reads I d x v h1 rx
      obtain ⟨bs, r2⟩ := Dp.reads I (.tuple ds) y u h2 ry
      exact SeqAt.in_tuple_reads r2 r1 (SeqAt.canLay_of_shaped h3) (SeqAt.canLay_of_shaped h4) (room_in65 h4 hu) ⟨.bl _, H, I, rfl, q⟩
  · obtain ⟨k, e, q⟩ := resB_ok R h
    obtain ⟨k', e', rfl⟩ := map_some e
    rcases inD_ok R ha hb e' with ⟨i, j, rfl, rfl, rfl⟩ | ⟨d, ds, h1, ⟨h2, h3⟩ | ⟨h2, h3⟩, h4, rfl⟩
    · exact op_notIn_str pins s sg H _ _ v u Q I rx ry ⟨i, j, rfl, rfl, q⟩
    · exact op_notInD hu pins s sg H x y v u Q I rx ry ⟨d, ds, h1, h2, h4, h3, q⟩
    · obtain ⟨as, r1⟩ := Dp.reads I d x v h1 rx
      obtain ⟨bs, r2⟩ := Dp.reads I (.tuple ds) y u h2 ry
      exact SeqAt.notIn_tuple_reads r2 r1 (SeqAt.canLay_of_shaped h3) (SeqAt.canLay_of_shaped h4) (room_in65 h4 hu) ⟨.bl _, H, I, rfl, q⟩
  · exact h.elim
end
end HP
namespace HP
open PySem L2 PySem.Spec PyProof.Rows
theorem seqOf_tup {S : Sto} {d : D} {es : List D} (h : seqOf S d = some es) : (∃ fs, d = .tup fs ∧ fs = es) ∨ lstOf S d = some es := by
  cases d with
  | tup fs => exact .inl ⟨fs, rfl, Option.some.inj h⟩
  | _ => exact .inr h
section
variable {X : Cx} {ca : CA} {Wx : Value → Option Addr → Hp → Prop}
theorem isEmpty_map {A B : Type} (f : A → B) (l : List A) : (l.map f).isEmpty = l.isEmpty := by cases l <;> rfl
theorem kv_empty {kvs : List (Key × D)} {kus : List (Key × V)} (h : kvs.map (·.1) = kus.map (·.1)) : kvs.isEmpty = kus.isEmpty := by
  have := congrArg List.isEmpty h
  rwa [isEmpty_map, isEmpty_map] at this
theorem truD_ok {th : List Addr} {H : Hp} {S : Sto} {K : PySem.W.Frag} {a : D} {x : V} {k : Bool} (R : Rep K ca th H S) (ha : RV K ca th H a x) (e : truD S a = some k) : TruV K x H k := by
  have hs : sizeLine = szL := sizeLine_eq
  unfold truD at e
  split at e
  · cases ha.non_inv; cases e; rfl
  · cases ha.bl_inv; cases e; rfl
  · cases ha.int_inv; cases e; rfl
  · cases ha.str_inv
    split at e
    · rename_i hl; cases e; exact ⟨by rw [hs]; exact hl, rfl⟩
    · cases e
  · obtain ⟨a1, vs, rfl, h1, r1⟩ := ha.tup_inv
    cases e
    exact .inr (.inl ⟨vs, h1, by rw [r1.isEmpty]⟩)
  · obtain ⟨a1, vs, rfl, h1, r1⟩ := ha.frl_inv
    cases e
    exact .inl ⟨vs, h1.sq, by rw [r1.isEmpty]⟩
  · split at e
    · rename_i ds he
      obtain ⟨a1, vs, rfl, h0, h1, r1⟩ := ha.lst_inv R he
      cases e
      exact .inl ⟨vs, .inl (.inl h1), by rw [r1.isEmpty]⟩
    · rename_i kvs he
      obtain ⟨a1, rfl, h0⟩ := ha.loc_inv
      obtain ⟨kus, h1, h2, h3⟩ := R.obj _ _ _ h0 he
      cases e
      exact .inr (.inr ⟨kus, h1, by rw [kv_empty h2]⟩)
    · cases e
  · cases e
/-- calls on values -/
def rDs (K : PySem.W.Frag) (ca : CA) (Wx : Value → Option Addr → Hp → Prop) (f : Sto → List D → R D) : List V → Hp → VK → Prop := fun vs H Q =>
  ∃ th S ds, Rep K ca th H S ∧ RVs K ca th H ds vs ∧ Po K ca th H (RV K ca) Wx Q (f S ds)
def bfS : Bf → Str
  | .len => "len" | .abs => "abs" | .min => "min" | .max => "max" | .int => "int" | .list => "list" | .tuple => "tuple" | .all => "all" | .any => "any" | .isin => "isinstance" | .sum => "sum"
def bfV : Bf → Value
  | .len => .builtin "len" | .abs => .builtin "abs" | .min => .builtin "min" | .max => .builtin "max" | .int => .type "int" | .list => .type "list" | .tuple => .type "tuple" | .all => .builtin "all" | .any => .builtin "any"
  | .isin => .builtin "isinstance" | .sum => .builtin "sum"
/-- those that want no exception to be handled -/
def bfCalm : Bf → Bool
  | .min => true | .max => true | .all => true | .any => true | .sum => true | .list => true | _ => false
theorem RVs.one_inv {K : PySem.W.Frag} {th : List Addr} {H : Hp} {d : D} {vs : List V} (h : RVs K ca th H [d] vs) : ∃ v, vs = [v] ∧ RV K ca th H d v := by
  cases h with
  | cons h r => cases r; exact ⟨_, rfl, h⟩
theorem RVs.two_inv {K : PySem.W.Frag} {th : List Addr} {H : Hp} {d e : D} {vs : List V} (h : RVs K ca th H [d, e] vs) : ∃ v w, vs = [v, w] ∧ RV K ca th H d v ∧ RV K ca th H e w := by
  cases h with
  | cons h r =>
    obtain ⟨w, rfl, h2⟩ := r.one_inv
    exact ⟨_, _, rfl, h, h2⟩
theorem RVs.nil_inv {K : PySem.W.Frag} {th : List Addr} {H : Hp} {vs : List V} (h : RVs K ca th H [] vs) : vs = [] := by cases h; rfl
theorem allOf_bl {K : PySem.W.Frag} {th : List Addr} {H : Hp} : ∀ {ds : List D} {vs : List V} {bs : List Bool}, RVs K ca th H ds vs → allOf blOf ds = some bs → vs = bs.map V.bl
  | [], _, bs, h, e => by cases h; cases e; rfl
  | d :: ds, _, bs, .cons h r, e => by
    unfold allOf at e
    split at e
    · rename_i x xs e1 e2
      cases e
      cases d with
      | bl b => cases e1; rw [h.bl_inv, allOf_bl r e2]; rfl
      | _ => cases e1
    · cases e
theorem allOf_int {K : PySem.W.Frag} {th : List Addr} {H : Hp} : ∀ {ds : List D} {vs : List V} {bs : List Int}, RVs K ca th H ds vs → allOf intOf ds = some bs → vs = bs.map V.int
  | [], _, bs, h, e => by cases h; cases e; rfl
  | d :: ds, _, bs, .cons h r, e => by
    unfold allOf at e
    split at e
    · rename_i x xs e1 e2
      cases e
      cases d with
      | int b => cases e1; rw [h.int_inv, allOf_int r e2]; rfl
      | _ => cases e1
    · cases e
theorem bind_some {A B : Type} {o : Option A} {f : A → Option B} {b : B} (h : o.bind f = some b) : ∃ a, o = some a ∧ f a = some b := by
  cases o with
  | none => cases h
  | some a => exact ⟨a, rfl, h⟩
theorem isTy_ok : ∀ a b : Bt, kitB a.name b.name = some (isTy a b) := by
  intro a b
  cases a <;> cases b <;> decide +kernel
theorem allOf_ty {K : PySem.W.Frag} {th : List Addr} {H : Hp} : ∀ {ds : List D} {vs : List V} {bs : List Bt}, RVs K ca th H ds vs → allOf tyOf ds = some bs → Paired ClsV vs (bs.map fun b => Value.type b.name)
  | [], _, bs, h, e => by cases h; cases e; exact .nil
  | d :: ds, _, bs, .cons h r, e => by
    unfold allOf at e
    split at e
    · rename_i x xs e1 e2
      cases e
      cases d with
      | ty b =>
        cases e1
        cases h
        exact .cons (.ty _) (allOf_ty r e2)
      | _ => cases e1
    · cases e
theorem any_ok {K : PySem.W.Frag} {a : Bt} : ∀ bs : List Bt, PySem.W.kitAny K (.type a.name) (bs.map fun b => Value.type b.name) = some (bs.any (isTy a))
  | [] => kitAny_nil
  | b :: bs => by
    refine kitAny_cons (kit_ty (isTy_ok a b)) ?_ ?_
    · intro e
      rw [any_ok bs, List.any_cons, e]
      rfl
    · intro e
      rw [List.any_cons, e]
      rfl
/-- a tuple, however it stands, in the heap -/
theorem sqT_look {X : Cx} {pins : List (Addr × Obj)} {s : Shared} {sg : L2.St} {H : Hp} {tp : Addr} {cs : List V} (I : Inv X pins sg H s) (h : SqT X.K H tp cs) :
    ∃ (dd : Option Addr) (its : List Value) (n : Nat) (sl : Array (Option Value)), s.heap.get? tp = some ⟨.type "tuple", dd, .seq its.toArray n, sl⟩ ∧ Vals cs its := by
  rcases h with (h | ⟨ob, h⟩) | ⟨o, its, n, h1, h2, h3, _, h4⟩
  · obtain ⟨_, its, rv, o, h1, h2, n, h3⟩ := (show ObjOk X.prog X.w H s.heap tp (.tup cs) from I.hok tp _ h)
    obtain ⟨oc, od, dt, sl⟩ := o
    simp only at h2 h3
    subst h2 h3
    exact ⟨_, _, _, _, h1, rv⟩
  · obtain ⟨_, _, its, rv, o, h1, h2, n, h3⟩ := (show ObjOk X.prog X.w H s.heap tp (.frz ob (.tup cs)) from I.hok tp _ h)
    obtain ⟨oc, od, dt, sl⟩ := o
    simp only at h2 h3
    subst h2 h3
    exact ⟨_, _, _, _, h1, rv⟩
  · obtain ⟨oc, od, dt, sl⟩ := o
    simp only at h2 h3
    subst h2 h3
    exact ⟨od, its.toList, n, sl, I.kIn _ _ h1, h4⟩
theorem tyD_ok {th : List Addr} {H : Hp} {S : Sto} {K : PySem.W.Frag} {d : D} {x : V} {t : Bt} (R : Rep K ca th H S) (h : RV K ca th H d x) (e : tyD S d = some t) : TyX K H x (.type t.name) := by
  unfold tyD at e
  split at e
  · cases h.non_inv; cases e; exact .base .non
  · cases h.bl_inv; cases e; exact .base (.bl _)
  · cases h.int_inv; cases e; exact .base (.int _)
  · cases h.str_inv; cases e; exact .base (.str _)
  · cases e
    obtain ⟨a, vs, rfl, h1, _⟩ := h.tup_inv
    rcases h1 with (h1 | ⟨o, h1⟩) | ⟨o, its, n, h1, h2, _⟩
    · exact .base (.tup h1)
    · exact .fTuple h1
    · exact .kTuple h1 h2
  · cases e
    obtain ⟨a, vs, rfl, h1, _⟩ := h.frl_inv
    rcases h1 with ⟨o, h1⟩ | ⟨o, its, n, h1, h2, _⟩
    · exact .base (.frz h1)
    · exact .kList h1 h2
  · split at e
    · rename_i ds he
      cases e
      obtain ⟨a1, vs, rfl, h0, h1, r1⟩ := h.lst_inv R he
      exact .base (.lst h1)
    · rename_i kvs he
      cases e
      obtain ⟨a1, rfl, h0⟩ := h.loc_inv
      obtain ⟨kus, h1, h2, h3⟩ := R.obj _ _ _ h0 he
      exact .base (.dK h1)
    · cases e
  · cases e
theorem signs_vals {x : Str} {acc : Array Value} (h : ItemsOf (SignAt x) acc x.cps.size) : Vals (x.cps.toList.map fun c => V.str ⟨#[c]⟩) acc.toList := by
  refine vals_of_at (by rw [List.length_map, Array.length_toList, Array.length_toList]; exact h.1.symm) fun j y u h1 h2 => ?_
  rw [List.getElem?_map, Option.map_eq_some_iff] at h1
  obtain ⟨c, gc, rfl⟩ := h1
  obtain ⟨c', t, gc', rfl⟩ := h.2 j u (by rw [← Array.getElem?_toList]; exact h2)
  rw [← Array.getElem?_toList, gc] at gc'
  cases gc'
  exact ⟨t, rfl⟩
theorem rvs_signs {K : PySem.W.Frag} {th : List Addr} {H : Hp} : (cs : List Nat) → RVs K ca th H (cs.map fun c => D.str ⟨#[c]⟩) (cs.map fun c => V.str ⟨#[c]⟩)
  | [] => .nil
  | c :: cs => .cons (.str _) (rvs_signs cs)
theorem call_list_strH {X : Cx} (hc : X.calm = true) : CallR X (.type "list") (fun xs H Q => ∃ x, xs = [.str x] ∧ x.length ≤ sizeLine ∧ ∀ l, H l = none → Q (.ref l) (upd H l (.lst (x.cps.toList.map fun c => V.str ⟨#[c]⟩)))) := by
  intro pins s σ H xs us Q I r h
  obtain ⟨x, rfl, hz, q⟩ := h
  obtain ⟨u, rfl, t, rfl⟩ := vals1 r
  refine call_list_str (I.ok.hd hc) x t (fun h' tk acc' c' hk hS' hacc => ?_) (hn := hz)
  refine ⟨.ref s.heap.objs.size, upd H s.heap.objs.size (.lst (x.cps.toList.map fun c => V.str ⟨#[c]⟩)), I.laid (t' := tk) hk (Nat.le_refl _) (show ObjOk X.prog X.w _ _ _ (.lst _) from ⟨?_, acc'.toList, c', signs_vals hacc, ?_⟩), rfl, q _ (I.hok.fresh (Nat.le_refl _))⟩
  · rw [List.length_map]; exact hz
  · rw [Array.toArray_toList]; exact hS'
theorem call_bfD (f : Bf) (hc : bfCalm f = true → X.calm = true) : CallR X (bfV f) (rDs X.K ca Wx fun S => bfD S f) := by
  intro pins s sg H vs us Q I r h
  obtain ⟨th, S, ds, R, hd, h⟩ := h
  have hs : sizeLine = szL := sizeLine_eq
  change Po X.K ca th H (RV X.K ca) Wx Q (bfD S f ds) at h
  unfold bfD at h
  split at h
  · obtain ⟨v, rfl, h1⟩ := hd.one_inv
    cases h1.str_inv
    split at h
    · rename_i hl
      exact call_len_str pins s sg H _ us Q I r ⟨_, rfl, by rw [hs]; exact hl, h.ok R (.int _)⟩
    · exact h.elim
  · obtain ⟨v, rfl, h1⟩ := hd.one_inv
    split at h
    · rename_i es he
      obtain ⟨a, ws, rfl, h2, h3⟩ := seqOf_ok R h1 he
      exact call_len_seq pins s sg H _ us Q I r ⟨a, ws, rfl, h2, by have q := h.ok R (.int _); rw [h3.length] at q; exact q⟩
    · exact h.elim
  · obtain ⟨v, rfl, h1⟩ := hd.one_inv
    cases h1.int_inv
    exact call_abs pins s sg H _ us Q I r ⟨_, rfl, h.ok R (.int _)⟩
  · obtain ⟨v, w, rfl, h1, h2⟩ := hd.two_inv
    cases h1.int_inv; cases h2.int_inv
    exact call_min2 (hc rfl) pins s sg H _ us Q I r ⟨_, _, rfl, h.ok R (.int _)⟩
  · obtain ⟨v, w, rfl, h1, h2⟩ := hd.two_inv
    cases h1.int_inv; cases h2.int_inv
    exact call_max2 (hc rfl) pins s sg H _ us Q I r ⟨_, _, rfl, h.ok R (.int _)⟩
  · obtain ⟨v, rfl, h1⟩ := hd.one_inv
    cases h1.int_inv
    exact call_int1 pins s sg H _ us Q I r (.inl ⟨_, rfl, h.ok R (.int _)⟩)
  · obtain ⟨v, rfl, h1⟩ := hd.one_inv
    cases h1.bl_inv
    exact call_int1 pins s sg H _ us Q I r (.inr ⟨_, rfl, h.ok R (.int _)⟩)
  · obtain ⟨v, rfl, h1⟩ := hd.one_inv
    cases h1.str_inv
    split at h
    · rename_i hl
      exact call_list_strH (hc rfl) pins s sg H _ us Q I r ⟨_, rfl, by rw [hs]; exact hl, h.newLst R (rvs_signs _)⟩
    · exact h.elim
  · obtain ⟨v, rfl, h1⟩ := hd.one_inv
    split at h
    · rename_i es he
      obtain ⟨a, ws, rfl, h2, h3⟩ := seqOf_ok R h1 he
      exact call_list_of pins s sg H _ us Q I r ⟨a, ws, rfl, h2, h.newLst R h3⟩
    · exact h.elim
  · obtain ⟨v, rfl, h1⟩ := hd.one_inv
    split at h
    · rename_i es he
      rcases seqOf_tup he with ⟨fs, rfl, rfl⟩ | he
      · obtain ⟨a, ws, rfl, h2, t, h3⟩ := h1.tup_inv3
        exact call_tuple_of pins s sg H _ us Q I r ⟨a, ws, rfl, .inr ⟨h2, h.ok R (.tup h2 t h3)⟩⟩
      · obtain ⟨a, ws, rfl, h2, h3⟩ := lstOf_ok R h1 he
        exact call_tuple_of pins s sg H _ us Q I r ⟨a, ws, rfl, .inl ⟨h2, h.tup R h3⟩⟩
    · exact h.elim
  · obtain ⟨v, rfl, h1⟩ := hd.one_inv
    split at h
    · rename_i bs he
      obtain ⟨es, e1, e2⟩ := bind_some he
      obtain ⟨a, ws, rfl, h2, h3⟩ := lstOf_ok R h1 e1
      have e3 := allOf_bl h3 e2
      subst e3
      exact cr_all (hc rfl) pins s sg H _ us Q I r ⟨a, bs, rfl, h2, h.ok R (.bl _)⟩
    · exact h.elim
  · obtain ⟨v, rfl, h1⟩ := hd.one_inv
    split at h
    · rename_i bs he
      obtain ⟨es, e1, e2⟩ := bind_some he
      obtain ⟨a, ws, rfl, h2, h3⟩ := lstOf_ok R h1 e1
      have e3 := allOf_bl h3 e2
      subst e3
      exact cr_any (hc rfl) pins s sg H _ us Q I r ⟨a, bs, rfl, h2, h.ok R (.bl _)⟩
    · exact h.elim
  · obtain ⟨v, rfl, h1⟩ := hd.one_inv
    split at h
    · rename_i bs he
      obtain ⟨es, e1, e2⟩ := bind_some he
      obtain ⟨a, ws, rfl, h2, h3⟩ := lstOf_ok R h1 e1
      have e3 := allOf_int h3 e2
      subst e3
      exact cr_sum (hc rfl) pins s sg H _ us Q I r ⟨a, bs, rfl, h2, h.ok R (.int _)⟩
    · exact h.elim
  · obtain ⟨v, w, rfl, h1, h2⟩ := hd.two_inv
    split at h
    · rename_i a he
      cases h2
      exact call_isi pins s sg H _ us Q I r ⟨v, _, _, _, _, rfl, .ty _, tyD_ok R h1 he, kit_ty (isTy_ok _ _), h.ok R (.bl _)⟩
    · exact h.elim
  · obtain ⟨v, w, rfl, h1, h2⟩ := hd.two_inv
    split at h
    · rename_i a bs he he2
      obtain ⟨tp, vs, rfl, h3, h4⟩ := h2.tup_inv
      have k := allOf_ty h4 he2
      obtain ⟨u1, u2, rfl, r1, r2⟩ := vals2 r
      cases (show u2 = Value.ref tp from r2)
      obtain ⟨P, Z, p, hx⟩ := kit_of I r1 (tyD_ok R h1 he)
      obtain ⟨dd, its, n, sl, h5, h6⟩ := sqT_look I h3
      have e3 := ClsV.all k h6
      subst e3
      exact PySem.W.kia_tup Z I.kIn p h5 (any_ok bs) hx fun tk => ⟨.bl _, H, I.tok tk, rfl, h.ok R (.bl _)⟩
    · exact h.elim
  · exact h.elim
def rMt (K : PySem.W.Frag) (ca : CA) (Wx : Value → Option Addr → Hp → Prop) (m : Mt) : V → List V → Hp → VK → Prop := fun x vs H Q =>
  ∃ th S a ds, Rep K ca th H S ∧ RV K ca th H a x ∧ RVs K ca th H ds vs ∧ Po K ca th H (RV K ca) Wx Q (mtD S m a ds)
def mtS : Mt → Str
  | .append => "append" | .pop => "pop" | .clear => "clear" | .extend => "extend" | .index => "index"
def mtI : Mt → String
  | .append => "list.append" | .pop => "list.pop" | .clear => "list.clear" | .extend => "list.extend" | .index => "list.index"
theorem firstEq_ok {d : PyData} : ∀ {xs : List PyData} {j : Nat}, firstEq d xs = some j → ∃ z, xs[j]? = some z ∧ PyData.eqv z d = true ∧ ∀ (m : Nat) (z' : PyData), m < j → xs[m]? = some z' → PyData.eqv z' d = false
  | [], _, e => by cases e
  | x :: xs, j, e => by
    unfold firstEq at e
    split at e
    · rename_i hx
      cases e
      exact ⟨x, rfl, hx, fun m z' hm _ => absurd hm (Nat.not_lt_zero _)⟩
    · rename_i hx
      obtain ⟨k, e1, e2⟩ := map_some e
      subst e2
      obtain ⟨z, h1, h2, h3⟩ := firstEq_ok e1
      refine ⟨z, by simpa using h1, h2, fun m z' hm hz => ?_⟩
      cases m with
      | zero =>
        have : x = z' := by simpa using hz
        subst this
        simpa using hx
      | succ m => exact h3 m z' (by omega) (by simpa using hz)
theorem putL' {th : List Addr} {H : Hp} {S : Sto} {K : PySem.W.Frag} {Q : V → Hp → Prop} {l : Nat} {a : Addr} {v : V} {d : D} {es : List D} {ws : List V} (R : Rep K ca th H S) (h0 : th[l]? = some a) (r : RVs K ca th H es ws) (hv : RV K ca th H d v)
    (h : Po K ca th H (RV K ca) Wx Q (.ok d (S.set l (.lst es)))) : Q v (upd H a (.lst ws)) := by
  have g : Go th H th (upd H a (.lst ws)) := R.goPut h0
  exact h th _ _ g (R.put h0 ⟨ws, upd_same, r.go g⟩) (hv.go g)
theorem seqIndex_nn {i : Int} {n : Nat} (h0 : 0 ≤ i) (h : i.toNat < n) : seqIndex? i n = some i.toNat := by
  unfold seqIndex?
  have e : (if i < 0 then i + (n : Int) else i) = i := if_neg (by omega)
  simp only [e]
  rw [if_pos (by simp; omega)]
theorem mt_mtD (m : Mt) (hu : X.A.units + 65 < cLine) : MtR X (mtI m) (rMt X.K ca Wx m) := by
  intro pins s sg H x vs v us Q I rx r h
  obtain ⟨th, S, a, ds, R, ha, hd, h⟩ := h
  have hs : sizeLine = szL := sizeLine_eq
  unfold mtD at h
  split at h
  · split at h
    · rename_i es he
      split at h
      · rename_i hl
        obtain ⟨a1, ws, rfl, h0, h1, r1⟩ := ha.lst_inv R he
        obtain ⟨y, rfl, h2⟩ := hd.one_inv
        exact mt_append pins s sg H _ _ v us Q I rx r ⟨a1, ws, y, rfl, rfl, h1, by rw [hs, ← r1.length]; exact hl, putL' R h0 (r1.append (.one h2)) .non h⟩
      · exact h.elim
    · exact h.elim
  · split at h
    · rename_i es he
      split at h
      · rename_i y hy
        obtain ⟨a1, ws, rfl, h0, h1, r1⟩ := ha.lst_inv R he
        have e1 := hd.nil_inv
        obtain ⟨w, hw, hyw⟩ := r1.get hy
        exact mt_pop pins s sg H _ _ v us Q I rx r ⟨a1, ws, w, rfl, e1, h1, by rw [← r1.length]; exact hw, putL' R h0 r1.dropLast hyw h⟩
      · exact h.elim
    · exact h.elim
  · split at h
    · rename_i es he
      split at h
      · rename_i y hy
        split at h
        · rename_i hb
          obtain ⟨a1, ws, rfl, h0, h1, r1⟩ := ha.lst_inv R he
          obtain ⟨z, rfl, hz⟩ := hd.one_inv
          cases hz.int_inv
          obtain ⟨w, hw, hyw⟩ := r1.get hy
          have hl := (List.getElem?_eq_some_iff.mp hw).1
          refine mt_popAt pins s sg H _ _ v us Q I rx r ⟨a1, ws, _, _, w, rfl, rfl, h1, by omega, by omega, ?_, hw, putL' R h0 (r1.eraseIdx _) hyw h⟩
          exact seqIndex_nn hb.1 hl
        · exact h.elim
      · exact h.elim
    · exact h.elim
  · split at h
    · rename_i es he
      obtain ⟨a1, ws, rfl, h0, h1, r1⟩ := ha.lst_inv R he
      have e1 := hd.nil_inv
      exact mt_clear pins s sg H _ _ v us Q I rx r ⟨a1, ws, rfl, e1, h1, putL' R h0 .nil .non h⟩
    · exact h.elim
  · split at h
    · rename_i es es2 he he2
      split at h
      · rename_i hl
        obtain ⟨a1, ws, rfl, h0, h1, r1⟩ := ha.lst_inv R he
        obtain ⟨y, rfl, h2⟩ := hd.one_inv
        obtain ⟨a2, ws2, rfl, h0', h1', r1'⟩ := h2.lst_inv R he2
        exact mt_extend pins s sg H _ _ v us Q I rx r ⟨a1, a2, ws, ws2, rfl, rfl, h1, h1', by rw [hs, ← r1.length, ← r1'.length]; exact hl, putL' R h0 (r1.append r1') .non h⟩
      · exact h.elim
    · exact h.elim
  · split at h
    · rename_i xs d he he2
      split at h
      · rename_i hl
        split at h
        · rename_i j hj
          obtain ⟨y, rfl, h2⟩ := hd.one_inv
          obtain ⟨a1, rfl, h0⟩ := ha.loc_inv
          obtain ⟨z, z1, z2, z3⟩ := firstEq_ok hj
          exact mt_indexD hu pins s sg H _ _ v us Q I rx r ⟨a1, y, d, xs, j, z, rfl, rfl, rdD_ok R _ _ _ _ ha he, rdD_ok R _ _ _ _ h2 he2, hl.1, hl.2, z1, z2, z3, h.ok R (.int _)⟩
        · exact h.elim
      · exact h.elim
    · exact h.elim
  · exact h.elim
theorem atI_map {th : List Addr} {H : Hp} {K : PySem.W.Frag} {ds : List D} {vs : List V} {i : Int} {d : D} (r : RVs K ca th H ds vs) (h : atI ds i = some d) : ∃ v, atI vs i = some v ∧ RV K ca th H d v := by
  unfold atI at h ⊢
  rw [r.length] at h
  obtain ⟨j, h1, h2⟩ := bind_some h
  rw [h1]
  exact r.get h2
theorem ix_ixD : IxR X (rD2 X.K ca Wx ixD) := by
  intro value slice pins s sg H x y v u Q I rx ry h hsub
  obtain ⟨th, S, a, b, R, ha, hb, h⟩ := h
  have hs : sizeLine = szL := sizeLine_eq
  unfold ixD at h
  split at h
  · cases ha.str_inv; cases hb.int_inv
    split at h
    · rename_i hl
      split at h
      · rename_i c hc
        exact ix_str value slice pins s sg H _ _ v u Q I rx ry ⟨_, _, c, rfl, rfl, by rw [hs]; exact hl, hc, h.ok R (.str _)⟩ hsub
      · exact h.elim
    · exact h.elim
  · cases hb.int_inv
    split at h
    · rename_i ds he
      split at h
      · rename_i d hd
        obtain ⟨p, ws, rfl, h2, h3⟩ := seqOf_ok R ha he
        obtain ⟨w, hw, hwr⟩ := atI_map h3 hd
        rcases h2 with h2 | h2
        · exact ix_list value slice pins s sg H _ _ v u Q I rx ry ⟨p, ws, _, w, rfl, rfl, h2, hw, h.ok R hwr⟩ hsub
        · exact ix_tup value slice pins s sg H _ _ v u Q I rx ry ⟨p, ws, _, w, rfl, rfl, h2, hw, h.ok R hwr⟩ hsub
      · exact h.elim
    · exact h.elim
  · exact h.elim
theorem RVs.cut {th : List Addr} {H : Hp} {K : PySem.W.Frag} {ds : List D} {vs : List V} (r : RVs K ca th H ds vs) (lo hi : Option Int) : RVs K ca th H (cutL ds lo hi) (cutV vs lo hi) := by
  unfold cutL cutV
  rw [r.length]
  exact (r.drop _).take _
def rSl (K : PySem.W.Frag) (ca : CA) (Wx : Value → Option Addr → Hp → Prop) : V → Option Int → Option Int → Hp → VK → Prop := fun x lo hi H Q =>
  ∃ th S a, Rep K ca th H S ∧ RV K ca th H a x ∧ Po K ca th H (RV K ca) Wx Q (slD S a lo hi)
theorem sl_slD : SlR X (rSl X.K ca Wx) := by
  intro pins s sg H x v vl vu lo hi sl Q I rx hs pl pu h
  obtain ⟨th, S, a, R, ha, h⟩ := h
  unfold slD at h
  split at h
  · rename_i ds
    obtain ⟨a1, ws, rfl, h1, t1, r1⟩ := ha.tup_inv3
    refine sl_tupA pins s sg H _ v vl vu lo hi sl Q I rx hs pl pu ⟨a1, ws, rfl, h1, fun hw => ?_, fun hw => ?_⟩
    · rw [← r1.length] at hw
      rw [if_pos hw] at h
      exact h.ok R (.tup h1 t1 r1)
    · rw [← r1.length] at hw
      rw [if_neg hw] at h
      exact h.tup R (r1.cut lo hi)
  · split at h
    · rename_i ds he
      obtain ⟨a1, ws, rfl, h1, r1⟩ := lstOf_ok R ha he
      exact sl_list pins s sg H _ v vl vu lo hi sl Q I rx hs pl pu ⟨a1, ws, rfl, h1, h.newLst R (r1.cut lo hi)⟩
    · exact h.elim
/-- a dict's keys -/
theorem keyD_ok {K : PySem.W.Frag} {ca : CA} {th : List Addr} {H : Hp} {d : D} {k : List Key} {v : V} (h : RV K ca th H d v) (e : keyD d = some k) : ∃ b, v = .ref b ∧ H b = some (.tup (k.map kV)) := by
  unfold keyD at e
  split at e
  · rename_i x i
    cases e
    obtain ⟨b, vs, rfl, _, t, r⟩ := h.tup_inv3
    rcases t with t | t
    · cases t
    · refine ⟨b, rfl, ?_⟩
      cases r with
      | cons h1 r =>
        cases r with
        | cons h2 r =>
          cases r with
          | nil =>
            cases h1.str_inv
            cases h2.int_inv
            exact t
  · cases e
theorem keys_any {kvs : List (List Key × D)} {kus : List (List Key × V)} (h : kvs.map (·.1) = kus.map (·.1)) (k : List Key) : ((kvs.map (·.1)).any fun j => decide (j = k)) = (valV kus k).isSome := by
  rw [h, List.any_map, ← valV_any]
  rfl
theorem op_dinD (neg : Bool) (hu : X.A.units + 65 < cLine) : OpR X (compareOp (if neg = true then .NotIn else .In)) (rD2 X.K ca Wx fun S => fun x y => dinD S neg x y) := by
  intro pins s sg H x y v u Q I rx ry h
  obtain ⟨th, S, a, b, R, ha, hb, h⟩ := h
  change Po X.K ca th H (RV X.K ca) Wx Q (dinD S neg a b) at h
  unfold dinD at h
  split at h
  · rename_i l
    split at h
    · rename_i kvs k he hk
      obtain ⟨a1, rfl, h1⟩ := hb.loc_inv
      obtain ⟨kus, h2, h3, h4⟩ := R.obj l a1 _ h1 he
      obtain ⟨b1, rfl, h5⟩ := keyD_ok ha hk
      cases (show u = Value.ref a1 from ry)
      rw [keys_any h3] at h
      cases neg with
      | true => exact d_notIn (by omega) I (DGet.t h2 h5) rx fun s' I' => ⟨.bl _, H, I', rfl, h.ok R (.bl _)⟩
      | false => exact d_in (by omega) I (DGet.t h2 h5) rx fun s' I' => ⟨.bl _, H, I', rfl, h.ok R (.bl _)⟩
    · exact h.elim
  · exact h.elim
/-- o[i] = v -/
def rSetI (K : PySem.W.Frag) (ca : CA) : V → V → V → Hp → (Hp → Prop) → Prop := fun o i v H Q =>
  ∃ th S a b d S', Rep K ca th H S ∧ RV K ca th H a o ∧ RV K ca th H b i ∧ RV K ca th H d v ∧ setIxD S a b d = some S' ∧ ∀ H', Go th H th H' → Rep K ca th H' S' → Q H'
theorem set_setD : PSet X (rSetI X.K ca) := by
  intro pins s sg H o i v ov iv u Q I ro ri rv h
  obtain ⟨th, S, a, b, d, S', R, ha, hb, hd, e, h⟩ := h
  unfold setIxD at e
  split at e
  · split at e
    · rename_i ds he
      split at e
      · rename_i j hj
        cases e
        obtain ⟨a1, ws, rfl, h0, h1, r1⟩ := ha.lst_inv R he
        cases hb.int_inv
        have g : Go th H th (upd H a1 (.lst (ws.set j v))) := R.goPut h0
        refine set_list pins s sg H _ _ v ov iv u Q I ro ri rv ⟨a1, ws, _, j, rfl, rfl, h1, by rw [← r1.length]; exact hj, h _ g (R.put h0 ⟨_, upd_same, (RVs.set hd j r1).go g⟩)⟩
      · cases e
    · cases e
  · cases e
/-- d[k] = v -/
def rSetK (K : PySem.W.Frag) (ca : CA) : V → V → V → Hp → (Hp → Prop) → Prop := fun o i v H Q =>
  ∃ th S a b d S', Rep K ca th H S ∧ RV K ca th H a o ∧ RV K ca th H b i ∧ RV K ca th H d v ∧ setDD S a b d = some S' ∧ ∀ H', Go th H th H' → Rep K ca th H' S' → Q H'
theorem set_setK (hu : X.A.units + 65 < cLine) : PSet X (rSetK X.K ca) := by
  intro pins s sg H o i v ov iv u Q I ro ri rv h
  obtain ⟨th, S, a, b, d, S', R, ha, hb, hd, e, h⟩ := h
  unfold setDD at e
  split at e
  · split at e
    · rename_i kvs k he hk
      split at e
      · cases e
      · rename_i hn
        cases e
        obtain ⟨a1, rfl, h1⟩ := ha.loc_inv
        obtain ⟨kus, h2, h3, h4⟩ := R.obj _ a1 _ h1 he
        obtain ⟨b1, rfl, h5⟩ := keyD_ok hb hk
        have hl : kus.length = kvs.length := by have := congrArg List.length h3; rw [List.length_map, List.length_map] at this; exact this.symm
        have hn1 : valV kus k = none := by
          cases e : valV kus k with
          | none => rfl
          | some w => exact absurd (Or.inl (by rw [keys_any h3, e]; rfl)) hn
        have hn2 : kvs.length < szL := Classical.byContradiction fun c => hn (.inr c)
        have g : Go th H th (upd H a1 (.dT (kus ++ [(k, v)]))) := R.goPut h1
        have P := DPut.t (v := v) h2 h5 (by rw [hl]; exact hn2)
        rw [putK_new v hn1] at P
        cases (show ov = Value.ref a1 from ro)
        refine d_setItem (by omega) I P ri rv fun s' I' => ⟨_, I', h _ g (R.put h1 ⟨_, upd_same, ?_, ?_⟩)⟩
        · rw [List.map_append, List.map_append, h3]; rfl
        · rw [List.map_append, List.map_append]; exact (h4.go g).append (.one (hd.go g))
    · cases e
  · cases e
end
end HP
namespace HP
open PySem L2 PySem.Spec PyProof.Rows
variable {X : Cx}
/-- what is read of the data, and where it lies -/
def rShow (K : PySem.W.Frag) : List V → Hp → VK → Prop := fun vs H Q => ∃ (a : Addr) (p : PyData), vs = [.ref a] ∧ Dp K H (.ref a) p ∧ p.showable = true ∧ p.hasDict = false ∧ p.depth ≤ 60 ∧ p.shown.length ≤ sizeLine ∧ Q (.str p.shown) H
theorem call_reprD (hg : X.A.guards = some []) (hu : X.A.units + 65 < cLine) : CallR X (.builtin "repr") (rShow X.K) := by
  intro pins s σ H vs us Q I r h
  obtain ⟨a, p, rfl, hp, hs, hd, hdp, hz, q⟩ := h
  obtain ⟨u, rfl, ru⟩ := vals1 r
  obtain ⟨as, rd⟩ := Dp.reads I p _ u hp ru
  cases (show u = Value.ref a from ru)
  exact repr_of_reads' rd hs (fun h => by rw [hd] at h; cases h) hg (by omega) (fun _ _ e => e) (fun h' u tk hk => ⟨.str p.shown, H, I.kept hk, ⟨_, rfl⟩, q⟩) hz
theorem call_strD (hg : X.A.guards = some []) (hu : X.A.units + 65 < cLine) : CallR X (.type "str") (rShow X.K) := by
  intro pins s σ H vs us Q I r h
  obtain ⟨a, p, rfl, hp, hs, hd, hdp, hz, q⟩ := h
  obtain ⟨u, rfl, ru⟩ := vals1 r
  obtain ⟨as, rd⟩ := Dp.reads I p _ u hp ru
  cases (show u = Value.ref a from ru)
  exact str_of_reads rd hs (fun h => by rw [hd] at h; cases h) hg (by omega) (fun _ _ e => e) (fun h' u tk hk => ⟨.str p.shown, H, I.kept hk, ⟨_, rfl⟩, q⟩) hz
end HP
namespace HP.LZ
open PySem PySem.W PySem.Calls PyProof.Rows PyProof.V PySem.Spec
theorem zip_no_len : typeLookup (.type "zip") "__len__" = pure none := by rw [typeLookup_type, builtinLookup_eq_fast]; kernel_rfl
theorem zip_no_hint : typeLookup (.type "zip") "__length_hint__" = pure none := by rw [typeLookup_type, builtinLookup_eq_fast]; kernel_rfl
/-- the zip at turn i, its last tuple held by the list at S -/
def ZSt (h : Heap) (z TI TO i1 i2 l1 l2 S : Addr) (i : Nat) : Prop := IsPair h TI (.ref i1) (.ref i2) ∧ h.IsListIter i1 l1 i ∧ h.IsListIter i2 l2 i ∧
  ((IsZip h z TI TO .none ∧ ∃ a b, IsPair h TO a b) ∨ ∃ T f oT, IsZipHeld h z TI TO T f ∧ h.get? T = some oT ∧ T ≠ z ∧ T ≠ i1 ∧ T ≠ i2 ∧ T ≠ S)
structure LzG (xs ys : Array Value) (lo : Addr) (h : Heap) (as : List Addr) : Prop where
  rise : as.Pairwise (· < ·)
  above : ∀ a ∈ as, lo ≤ a
  pairs : ∀ (j : Nat) (a : Addr), as[j]? = some a → ∃ x y, xs[j]? = some x ∧ ys[j]? = some y ∧ h.get? a = some { cls := .type "tuple", data := .seq #[x, y] }
theorem LzG.there {xs ys : Array Value} {lo : Addr} {h : Heap} {as : List Addr} (g : LzG xs ys lo h as) {a : Addr} (ha : a ∈ as) : a < h.objs.size := by
  obtain ⟨j, hj⟩ := List.mem_iff_getElem?.mp ha
  obtain ⟨_, _, _, _, e⟩ := g.pairs j a hj
  exact Heap.lt_size e
section
variable {prog : Program} {w : World} {A : Around} {E : Value → Shared → Prop} {s : Shared} {z TI TO i1 i2 l1 l2 S : Addr} {xs ys : Array Value}
theorem ZSt.keep {h h' : Heap} {i : Nat} (st : ZSt h z TI TO i1 i2 l1 l2 S i) (hS : S ≠ z ∧ S ≠ TI ∧ S ≠ TO ∧ S ≠ i1 ∧ S ≠ i2) (k : ∀ b o, b ≠ S → h.get? b = some o → h'.get? b = some o) : ZSt h' z TI TO i1 i2 l1 l2 S i := by
  obtain ⟨hTI, h1, h2, hz⟩ := st
  refine ⟨k _ _ hS.2.1.symm hTI, h1.at fun o e => k _ o hS.2.2.2.1.symm e, h2.at fun o e => k _ o hS.2.2.2.2.symm e, ?_⟩
  rcases hz with ⟨hz, a, b, hTO⟩ | ⟨T, f, oT, hz, hT, r1, r2, r3, r4⟩
  · exact .inl ⟨k _ _ hS.1.symm hz, a, b, k _ _ hS.2.2.1.symm hTO⟩
  · exact .inr ⟨T, f, oT, k _ _ hS.1.symm hz, k _ _ r4 hT, r1, r2, r3, r4⟩
theorem lz_item {i : Nat} {x y : Value} {Q : Option Value → Shared → Prop} (D : ZipApart z TI TO i1 i2 l1 l2) (hst : ZSt s.heap z TI TO i1 i2 l1 l2 S i) (hSl : S < s.heap.objs.size) (hl1 : s.heap.IsList l1 xs) (hl2 : s.heap.IsList l2 ys) (hx : xs[i]? = some x) (hy : ys[i]? = some y)
    (hQ : ∀ h', ZSt h' z TI TO i1 i2 l1 l2 S (i + 1) → h'.IsList l1 xs → h'.IsList l2 ys → h'.get? s.heap.objs.size = some { cls := .type "tuple", data := .seq #[x, y] } → h'.objs.size = s.heap.objs.size + 1 →
      (∀ b o, b ≠ z → b ≠ TO → b ≠ i1 → b ≠ i2 → s.heap.get? b = some o → h'.get? b = some o) → Q (some (.ref s.heap.objs.size)) { s with heap := h' }) :
    wpAny (model prog w) A (pyNext (.ref z)) Q E s := by
  obtain ⟨hTI, h1, h2, hz⟩ := hst
  have lt : ∀ {c o}, s.heap.get? c = some o → s.heap.objs.size ≠ c := fun e => Nat.ne_of_gt (Heap.lt_size e)
  have n1 : s.heap.objs.size ≠ i1 := let ⟨_, e, _⟩ := h1; lt e
  have n2 : s.heap.objs.size ≠ i2 := let ⟨_, e, _⟩ := h2; lt e
  rcases hz with ⟨hz, a, b, hTO⟩ | ⟨T, f, oT, hz, hT, r1, r2, r3, r4⟩
  · refine wpAny_pyNext_zip_item D hz hTI hTO h1 h2 hl1 hl2 hx hy fun h' a1 a2 a3 a4 a5 a6 hk => ?_
    exact hQ h' ⟨hk _ _ D.TIz D.TITO D.TIi1 D.TIi2 hTI, a3, a4, .inr ⟨s.heap.objs.size, false, _, a1, a5, lt hz, n1, n2, Nat.ne_of_gt hSl⟩⟩ (hl1.at fun o e => hk _ o D.l1z D.l1TO D.l1i1 D.l1i2 e) (hl2.at fun o e => hk _ o D.l2z D.l2TO D.l2i1 D.l2i2 e) a5 a6 hk
  · refine wpAny_pyNext_zip_item_held D hz hT hTI h1 h2 hl1 hl2 hx hy fun h' a1 a3 a4 a5 a6 hk => ?_
    exact hQ h' ⟨hk _ _ D.TIz D.TIi1 D.TIi2 hTI, a3, a4, .inr ⟨T, true, oT, a1, hk _ _ r1 r2 r3 hT, r1, r2, r3, r4⟩⟩ (hl1.at fun o e => hk _ o D.l1z D.l1i1 D.l1i2 e) (hl2.at fun o e => hk _ o D.l2z D.l2i1 D.l2i2 e) a5 a6 fun b o c1 _ c2 c3 e => hk b o c1 c2 c3 e
theorem lz_done {i : Nat} {Q : Option Value → Shared → Prop} (hh : A.handled = none) (D : ZipApart z TI TO i1 i2 l1 l2) (hst : ZSt s.heap z TI TO i1 i2 l1 l2 S i) (hl1 : s.heap.IsList l1 xs) (hl2 : s.heap.IsList l2 ys) (hend : xs[i]? = none ∨ ys[i]? = none)
    (hQ : ∀ h', (∀ b o, b ≠ z → b ≠ TO → b ≠ i1 → b ≠ i2 → s.heap.get? b = some o → h'.get? b = some o) → Q none { s with heap := h' }) : wpAny (model prog w) A (pyNext (.ref z)) Q E s := by
  obtain ⟨hTI, h1, h2, hz⟩ := hst
  rcases hz with ⟨hz, a, b, hTO⟩ | ⟨T, f, oT, hz, hT, r1, r2, r3, r4⟩
  · exact wpAny_pyNext_zip_end hh D hz hTI hTO h1 h2 hl1 hl2 hend hQ
  · exact wpAny_pyNext_zip_end_held hh D hz hT hTI h1 h2 hl1 hl2 hend fun h' hk => hQ h' fun b o c1 _ c2 c3 e => hk b o c1 c2 c3 e
end
section
variable {prog : Program} {w : World} {A : Around} {s : Shared} {R : Result → Shared → Prop} {z TI TO i1 i2 l1 l2 S : Addr} {xs ys : Array Value} {n : Nat}
theorem lz_loop {lo : Addr} (hh : A.handled = none) (D : ZipApart z TI TO i1 i2 l1 l2) (hS : S ≠ z ∧ S ≠ TI ∧ S ≠ TO ∧ S ≠ i1 ∧ S ≠ i2) (hSl : S ≠ l1 ∧ S ≠ l2) (hlo : S < lo ∧ z < lo ∧ TO < lo ∧ i1 < lo ∧ i2 < lo) (hnn : n = min xs.size ys.size) (hn : n ≤ sizeLine) (res : Value) {h₁ : Heap}
    (hR : ∀ h' tk acc c as, (∀ b o, b ≠ S → b ≠ z → b ≠ TO → b ≠ i1 → b ≠ i2 → h₁.get? b = some o → h'.get? b = some o) → h'.get? S = some { cls := .type "list", dict := none, data := .seq acc c, slots := #[] } → as.length = n → LzG xs ys lo h' as →
      acc.toList = as.map Value.ref → R (.ok (.ret res)) { s with heap := h', toks := tk }) :
    ∀ (k i : Nat) (h : Heap) (tk c : Nat) (acc : Array Value) (as : List Addr), n - i = k → i ≤ n → ZSt h z TI TO i1 i2 l1 l2 S i → h.IsList l1 xs → h.IsList l2 ys → (∀ b o, b ≠ S → b ≠ z → b ≠ TO → b ≠ i1 → b ≠ i2 → h₁.get? b = some o → h.get? b = some o) →
      h.get? S = some { cls := .type "list", dict := none, data := .seq acc c, slots := #[] } → acc.toList = as.map Value.ref → as.length = i → LzG xs ys lo h as → lo ≤ h.objs.size →
      codeAny (model prog w) A (.builtin "list.extend.loop" ⟨[.ref S, .ref z, res], []⟩) R { s with heap := h, toks := tk } := by
  intro k
  induction k with
  | zero =>
    intro i h tk c acc as hk hi hst hl1 hl2 hkeep hS0 hacc hal hG hIs
    have hin : i = n := by omega
    refine codeAny_builtin PySem.F.entry_extend_loop ?_
    rw [Around.under_plainId PySem.F.plain_extend_loop _]
    show wpAny _ A.in1 (pyNext (.ref z) >>= _) _ _ _
    have hend : xs[i]? = none ∨ ys[i]? = none := by
      rcases Nat.le_total xs.size ys.size with q | q
      · exact .inl (Array.getElem?_eq_none (by omega))
      · exact .inr (Array.getElem?_eq_none (by omega))
    refine wpAny_bind (lz_done (s := { s with heap := h, toks := tk }) (A := A.in1) hh D hst hl1 hl2 hend fun h' he => ?_)
    refine wpAny_pure (hR h' tk acc c as (fun b o h1 h2 h3 h4 h5 e => he b o h2 h3 h4 h5 (hkeep b o h1 h2 h3 h4 h5 e)) (he S _ hS.1 hS.2.2.1 hS.2.2.2.1 hS.2.2.2.2 hS0) (by omega) ⟨hG.rise, hG.above, fun j a hj => ?_⟩ hacc)
    obtain ⟨x, y, hx, hy, e3⟩ := hG.pairs j a hj
    have hla := hG.above a (List.mem_of_getElem? hj)
    exact ⟨x, y, hx, hy, he a _ (Nat.ne_of_gt (Nat.lt_of_lt_of_le hlo.2.1 hla)) (Nat.ne_of_gt (Nat.lt_of_lt_of_le hlo.2.2.1 hla)) (Nat.ne_of_gt (Nat.lt_of_lt_of_le hlo.2.2.2.1 hla)) (Nat.ne_of_gt (Nat.lt_of_lt_of_le hlo.2.2.2.2 hla)) e3⟩
  | succ k ih =>
    intro i h tk c acc as hk hi hst hl1 hl2 hkeep hS0 hacc hal hG hIs
    have hlt : i < n := by omega
    have hsz : acc.size = i := by rw [← Array.length_toList, hacc, List.length_map, hal]
    have ex : xs[i]? = some (xs[i]'(by omega)) := Array.getElem?_eq_getElem (by omega)
    have ey : ys[i]? = some (ys[i]'(by omega)) := Array.getElem?_eq_getElem (by omega)
    generalize xs[i]'(by omega) = x at ex
    generalize ys[i]'(by omega) = y at ey
    refine codeAny_builtin PySem.F.entry_extend_loop ?_
    rw [Around.under_plainId PySem.F.plain_extend_loop _]
    show wpAny _ A.in1 (pyNext (.ref z) >>= _) _ _ _
    refine wpAny_bind (lz_item (s := { s with heap := h, toks := tk }) (S := S) D hst (Heap.lt_size hS0) hl1 hl2 ex ey fun h' hst' hl1' hl2' ht hz hkp => ?_)
    dsimp only at ht hz hkp ⊢
    have hS' := hkp S _ hS.1 hS.2.2.1 hS.2.2.2.1 hS.2.2.2.2 hS0
    have up : ∀ b o, b ≠ S → h'.get? b = some o → (h'.update S (Obj.mapSeq (·.push (Value.ref h.objs.size)))).get? b = some o := fun b o hb e => (Heap.get?_update_other _ _ (Ne.symm hb)).trans e
    have hSl' : S < h.objs.size := Heap.lt_size hS0
    show wpAny _ A.in1 (updateSeq S (·.push (Value.ref h.objs.size)) >>= _) _ _ _
    refine wpAny_bind ?_
    refine wpAny_updateSeq hS' rfl (wpAny_pure ⟨plainId_quiet PySem.F.plain_extend_loop _, ih (i + 1) _ tk _ (acc.push (Value.ref h.objs.size)) (as ++ [h.objs.size]) (by omega) hlt (hst'.keep hS up) (hl1'.at fun o e => up l1 o hSl.1.symm e) (hl2'.at fun o e => up l2 o hSl.2.symm e)
      (fun b o h1 h2 h3 h4 h5 e => up b o h1 (hkp b o h2 h3 h4 h5 (hkeep b o h1 h2 h3 h4 h5 e))) (Heap.get?_update_self _ hS' rfl) (by rw [Array.toList_push, hacc, List.map_append]; rfl) (by rw [List.length_append, hal]; rfl) ⟨?_, ?_, ?_⟩ ?_⟩) (by rw [hsz]; omega) (by show (acc.push (Value.ref h.objs.size)).size ≤ sizeLine + 1; rw [Array.size_push, hsz]; omega)
    · refine List.pairwise_append.mpr ⟨hG.rise, List.pairwise_singleton _ _, fun a ha b hb => ?_⟩
      rw [List.mem_singleton.mp hb]
      exact hG.there ha
    · intro a ha
      rcases List.mem_append.mp ha with ha | ha
      · exact hG.above a ha
      · rw [List.mem_singleton.mp ha]; exact hIs
    · intro j b hj
      rcases Nat.lt_trichotomy j as.length with h1 | h1 | h1
      · rw [List.getElem?_append_left h1] at hj
        obtain ⟨x', y', hx', hy', e3⟩ := hG.pairs j b hj
        have hb := hG.above b (List.mem_of_getElem? hj)
        exact ⟨x', y', hx', hy', up b _ (Nat.ne_of_gt (Nat.lt_of_lt_of_le hlo.1 hb)) (hkp b _ (Nat.ne_of_gt (Nat.lt_of_lt_of_le hlo.2.1 hb)) (Nat.ne_of_gt (Nat.lt_of_lt_of_le hlo.2.2.1 hb)) (Nat.ne_of_gt (Nat.lt_of_lt_of_le hlo.2.2.2.1 hb)) (Nat.ne_of_gt (Nat.lt_of_lt_of_le hlo.2.2.2.2 hb)) e3)⟩
      · subst h1
        have hb : h.objs.size = b := by simpa using hj
        subst hb
        exact ⟨x, y, by rw [hal]; exact ex, by rw [hal]; exact ey, up _ _ (Nat.ne_of_gt hSl') ht⟩
      · have hnone : (as ++ [h.objs.size])[j]? = none := List.getElem?_eq_none (by rw [List.length_append, List.length_singleton]; omega)
        rw [hnone] at hj; cases hj
    · have e : (h'.update S (Obj.mapSeq (·.push (Value.ref h.objs.size)))).get? h.objs.size = _ := up _ _ (Nat.ne_of_gt hSl') ht
      exact Nat.le_trans hIs (Nat.le_of_lt (Heap.lt_size e))
end
section
variable {prog : Program} {w : World} {A : Around} {E : Value → Shared → Prop} {s : Shared} {z TI TO i1 i2 l1 l2 : Addr} {xs ys : Array Value}
theorem lz_extend {R : Result → Shared → Prop} {S : Addr} (hh : A.handled = none) (D : ZipApart z TI TO i1 i2 l1 l2) (hz : IsZip s.heap z TI TO .none) (hTI : IsPair s.heap TI (.ref i1) (.ref i2)) (hTO : ∃ a b, IsPair s.heap TO a b) (h1 : s.heap.IsListIter i1 l1 0) (h2 : s.heap.IsListIter i2 l2 0) (hl1 : s.heap.IsList l1 xs) (hl2 : s.heap.IsList l2 ys)
    (hS : S ≠ z ∧ S ≠ TI ∧ S ≠ TO ∧ S ≠ i1 ∧ S ≠ i2) (hSl : S ≠ l1 ∧ S ≠ l2) (res : Value) (c₀ : Nat) (hS0 : s.heap.get? S = some { cls := .type "list", data := .seq #[] c₀ }) (hn : min xs.size ys.size ≤ sizeLine)
    (hR : ∀ h' tk acc c as, (∀ b o, b ≠ S → b ≠ z → b ≠ TO → b ≠ i1 → b ≠ i2 → s.heap.get? b = some o → h'.get? b = some o) → h'.get? S = some { cls := .type "list", dict := none, data := .seq acc c, slots := #[] } → as.length = min xs.size ys.size → LzG xs ys s.heap.objs.size h' as →
      acc.toList = as.map Value.ref → R (.ok (.ret res)) { s with heap := h', toks := tk }) :
    wpAny (model prog w) A.in1 (Builtin.List.listExtendWith (.ref S) (.ref z) res)
      (fun fin s' => match fin with | .done f => R (.ok f) s' | .again c' => c'.quiet = true ∧ codeAny (model prog w) A c' R s') (fun e s' => R (.error e) s') s := by
  have lt : ∀ {c o}, s.heap.get? c = some o → c < s.heap.objs.size := fun e => Heap.lt_size e
  have ty : s.TypeIs (.ref z) "zip" := ⟨_, hz, rfl⟩
  unfold Builtin.List.listExtendWith
  refine wpAny_bind (wpAny_typeOf (T := "zip") ty ?_)
  have e1 : Builtin.List.listSameRef (.ref S) (.ref z) = false := by simp [Builtin.List.listSameRef, hS.1]
  have e2 : (Value.type "zip" == Value.type "list") = false := by decide
  have e3 : (Value.type "zip" == Value.type "tuple") = false := by decide
  simp only [e1, e2, e3, Bool.or_false, Bool.false_eq_true, if_false]
  refine wpAny_bind (wpAny_pyIter_zip hz ?_)
  refine wpAny_bind (wpAny_holding ?_)
  unfold Builtin.List.listLengthHint
  refine wpAny_bind (wpAny_specialOf ty zip_no_len ?_)
  show wpAny _ A.in1 (specialOf (Value.ref z) (Str.ofString "__length_hint__") >>= _) _ _ _
  refine wpAny_bind (wpAny_specialOf ty zip_no_hint ?_)
  refine wpAny_pure ?_
  show wpAny _ A.in1 (rule "list.extend.makes-room" >>= fun _ => Builtin.List.listTouch (.ref S) >>= fun _ =>
    again (.builtin "list.extend.loop" ⟨[.ref S, .ref z, res], []⟩)) _ _ _
  refine wpAny_bind (wpAny_rule ?_)
  refine wpAny_bind ?_
  show wpAny _ _ (updateSeq S (·.push .none) >>= fun _ => updateSeq S (·.pop)) _ _ _
  refine wpAny_bind (wpAny_updateSeq hS0 rfl ?_)
  have hS₂ := Heap.get?_update_self (Obj.mapSeq (·.push Value.none)) hS0 rfl
  refine wpAny_updateSeq (hz := by seq_fits) hS₂ rfl ?_
  have hS₃ := Heap.get?_update_self (Obj.mapSeq (·.pop)) hS₂ rfl
  have oth : ∀ b o, b ≠ S → s.heap.get? b = some o → ((s.heap.update S (Obj.mapSeq (·.push Value.none))).update S (Obj.mapSeq (·.pop))).get? b = some o := fun b o hb e => (Heap.get?_update_other _ _ (Ne.symm hb)).trans ((Heap.get?_update_other _ _ (Ne.symm hb)).trans e)
  have st0 : ZSt s.heap z TI TO i1 i2 l1 l2 S 0 := by
    obtain ⟨a, b, hTO⟩ := hTO
    exact ⟨hTI, h1, h2, .inl ⟨hz, a, b, hTO⟩⟩
  obtain ⟨a, b, hTO⟩ := hTO
  have hlt : ∀ {c o}, s.heap.get? c = some o → c < s.heap.objs.size := fun e => Heap.lt_size e
  have lS := hlt hS0
  have lz := hlt hz
  have lTO := hlt hTO
  have li1 : i1 < s.heap.objs.size := let ⟨_, e, _⟩ := h1; hlt e
  have li2 : i2 < s.heap.objs.size := let ⟨_, e, _⟩ := h2; hlt e
  refine wpAny_pure ⟨plainId_quiet PySem.F.plain_extend_loop _, lz_loop (lo := s.heap.objs.size) (h₁ := s.heap) (s := s) hh D hS hSl ⟨lS, lz, lTO, li1, li2⟩ rfl hn res hR _ 0 _ _ _ #[] [] rfl (Nat.zero_le _) (st0.keep hS oth) (hl1.at fun o e => oth _ o hSl.1.symm e) (hl2.at fun o e => oth _ o hSl.2.symm e) (fun b o h _ _ _ _ e => oth b o h e) hS₃ rfl rfl ⟨List.Pairwise.nil, (fun _ ha => nomatch ha), (fun j a hj => by simp at hj)⟩ ?_⟩
  have : ((s.heap.update S (Obj.mapSeq (·.push Value.none))).update S (Obj.mapSeq (·.pop))).objs.size = s.heap.objs.size := by rw [(Heap.SameBut.update (s.heap.update S (Obj.mapSeq (·.push Value.none))) S _).1, (Heap.SameBut.update s.heap S _).1]
  exact Nat.le_of_eq this.symm
theorem LzG.low {xs ys : Array Value} {lo lo' : Addr} {h : Heap} {as : List Addr} (g : LzG xs ys lo h as) (hl : lo' ≤ lo) : LzG xs ys lo' h as := ⟨g.rise, fun a ha => Nat.le_trans hl (g.above a ha), g.pairs⟩
theorem lz_call {Q : Value → Shared → Prop} (hh : A.handled = none) (D : ZipApart z TI TO i1 i2 l1 l2) (hz : IsZip s.heap z TI TO .none) (hTI : IsPair s.heap TI (.ref i1) (.ref i2)) (hTO : ∃ a b, IsPair s.heap TO a b) (h1 : s.heap.IsListIter i1 l1 0) (h2 : s.heap.IsListIter i2 l2 0) (hl1 : s.heap.IsList l1 xs) (hl2 : s.heap.IsList l2 ys) (hn : min xs.size ys.size ≤ sizeLine)
    (hQ : ∀ h' tk acc c as, (∀ b o, b ≠ z → b ≠ TO → b ≠ i1 → b ≠ i2 → s.heap.get? b = some o → h'.get? b = some o) → h'.get? s.heap.objs.size = some { cls := .type "list", dict := none, data := .seq acc c, slots := #[] } → as.length = min xs.size ys.size → LzG xs ys (s.heap.objs.size + 1) h' as →
      acc.toList = as.map Value.ref → Q (.ref s.heap.objs.size) { s with heap := h', toks := tk }) :
    wpAny (model prog w) A (call (.type "list") [.ref z]) Q E s := by
  refine callType_codes (Q₁ := fun obj s₁ => obj = .ref s.heap.objs.size ∧ s₁ = { s with heap := s.heap.push { cls := .type "list", data := .seq #[] } }) PySem.F.called_list (PySem.F.typeCall_list_1 _) PySem.F.entry_list_init
    (code_list_new _ ⟨rfl, rfl⟩) fun obj s₁ h₁ => ?_
  obtain ⟨rfl, rfl⟩ := h₁
  have hS : (s.heap.push { cls := .type "list", data := .seq #[] }).get? s.heap.objs.size = some { cls := .type "list", data := .seq #[] } := Heap.get?_push_size _ rfl
  have ltn : ∀ {c o}, s.heap.get? c = some o → s.heap.objs.size ≠ c := fun e => Nat.ne_of_gt (Heap.lt_size e)
  have n1 : s.heap.objs.size ≠ i1 := let ⟨_, e, _⟩ := h1; ltn e
  have n2 : s.heap.objs.size ≠ i2 := let ⟨_, e, _⟩ := h2; ltn e
  have n3 : s.heap.objs.size ≠ l1 := let ⟨_, e, _⟩ := hl1; ltn e
  have n4 : s.heap.objs.size ≠ l2 := let ⟨_, e, _⟩ := hl2; ltn e
  have n5 : s.heap.objs.size ≠ TO := let ⟨_, _, e⟩ := hTO; ltn e
  have hSS : s.heap.objs.size ≠ z ∧ s.heap.objs.size ≠ TI ∧ s.heap.objs.size ≠ TO ∧ s.heap.objs.size ≠ i1 ∧ s.heap.objs.size ≠ i2 := ⟨ltn hz, ltn hTI, n5, n1, n2⟩
  refine ⟨⟨_, hS, rfl⟩, PySem.F.args_list_init_2 _ _, ?_⟩
  generalize hh0 : s.heap.push { cls := .type "list", data := .seq #[] } = h0 at *
  have psh : ∀ b o, s.heap.get? b = some o → h0.get? b = some o := fun b o e => by rw [← hh0]; exact Heap.get?_push_of_some _ e
  have psz : h0.objs.size = s.heap.objs.size + 1 := by rw [← hh0]; exact Heap.size_push ..
  show wpAny _ _ (do let old ← Builtin.List.listItems (.ref s.heap.objs.size); Builtin.List.listUpdate (.ref s.heap.objs.size) (fun _ => #[]); letGo old.toList.reverse; Builtin.List.listExtendWith (.ref s.heap.objs.size) (.ref z) .none) _ _ _
  refine wpAny_bind ?_
  unfold Builtin.List.listItems
  refine wpAny_bind (wpAny_seqItems hS rfl (wpAny_pure ?_))
  show wpAny _ _ (updateSeq s.heap.objs.size (fun _ => #[]) >>= fun _ => letGo (#[] : Array Value).toList.reverse >>= fun _ => Builtin.List.listExtendWith (.ref s.heap.objs.size) (.ref z) .none) _ _ _
  refine wpAny_bind (wpAny_updateSeq hS rfl ?_)
  have hS₂ := Heap.get?_update_self (Obj.mapSeq (fun _ => (#[] : Array Value))) hS rfl
  have oth : ∀ b o, s.heap.get? b = some o → (h0.update s.heap.objs.size (Obj.mapSeq (fun _ => (#[] : Array Value)))).get? b = some o :=
    fun b o e => (Heap.get?_update_other _ _ (ltn e)).trans (psh b o e)
  have usz : (h0.update s.heap.objs.size (Obj.mapSeq (fun _ => (#[] : Array Value)))).objs.size = s.heap.objs.size + 1 := by rw [(Heap.SameBut.update h0 s.heap.objs.size _).1, psz]
  refine wpAny_bind (wpAny_letGo ?_)
  refine lz_extend (prog := prog) (w := w) (A := A.in1) (R := wants (fun r s₂ => r = Value.none ∧ Q (Value.ref s.heap.objs.size) s₂) E) (s := { s with heap := h0.update s.heap.objs.size (Obj.mapSeq (fun _ => (#[] : Array Value))) }) (S := s.heap.objs.size) hh D (oth _ _ hz) (oth _ _ hTI) (let ⟨a, b, e⟩ := hTO; ⟨a, b, oth _ _ e⟩) (h1.at fun o e => oth _ o e) (h2.at fun o e => oth _ o e) (hl1.at fun o e => oth _ o e) (hl2.at fun o e => oth _ o e) hSS ⟨n3, n4⟩ .none _ hS₂ hn (fun h' tk acc c as hk hS' hl hG hacc => ?_)
  exact ⟨rfl, hQ h' tk acc c as (fun b o c1 c2 c3 c4 e => hk b o (ltn e).symm c1 c2 c3 c4 (oth b o e)) hS' hl (hG.low (Nat.le_of_eq (by dsimp only; rw [usz]))) hacc⟩
end
end HP.LZ
namespace HP
open PySem PySem.Spec PyProof.Rows L2
namespace LZ
/-- the tuples tracked at their addresses -/
def putP : Hp → List Addr → List (V × V) → Hp
  | H, a :: as, p :: ps => putP (upd H a (.tup [p.1, p.2])) as ps
  | H, _, _ => H
theorem putP_off {b : Addr} : ∀ (as : List Addr) (ps : List (V × V)) (H : Hp), b ∉ as → putP H as ps b = H b
  | [], _, _, _ => rfl
  | _ :: _, [], _, _ => rfl
  | a :: as, p :: ps, H, h => by
    show putP (upd H a (.tup [p.1, p.2])) as ps b = H b
    rw [putP_off as ps _ (fun z => h (List.mem_cons_of_mem _ z)), upd_ne (fun z => h (by rw [z]; exact List.mem_cons_self))]
theorem putP_at : ∀ (as : List Addr) (ps : List (V × V)) (H : Hp), as.length = ps.length → as.Nodup → Paired (fun (t : Addr) (p : V × V) => putP H as ps t = some (.tup [p.1, p.2])) as ps
  | [], [], _, _, _ => .nil
  | [], _ :: _, _, h, _ => by cases h
  | _ :: _, [], _, h, _ => by cases h
  | a :: as, p :: ps, H, h, hn => by
    have hn' := List.nodup_cons.mp hn
    have ih := putP_at as ps (upd H a (.tup [p.1, p.2])) (Nat.succ.inj h) hn'.2
    refine .cons ?_ ih
    show putP (upd H a (.tup [p.1, p.2])) as ps a = some (.tup [p.1, p.2])
    rw [putP_off as ps _ hn'.1, upd_same]
/-- what list(zip(..)) of two lists makes -/
def rZipL (K : PySem.W.Frag) : List V → Hp → VK → Prop := fun vs H Q => ∃ (a b : Addr) (xs ys : List V), vs = [.ref a, .ref b] ∧ SqL K H a xs ∧ SqL K H b ys ∧ (xs.zip ys).length ≤ sizeLine ∧
  ∀ (as : List Addr) (S : Addr), as.length = (xs.zip ys).length → (∀ t ∈ as, H t = none) → as.Nodup → H S = none → S ∉ as → Q (.ref S) (upd (putP H as (xs.zip ys)) S (.lst (as.map V.ref)))
section
variable {X : Cx} {e e2 : Expr} {ta : TA} {p p2 pos pos2 : Pos}
theorem laid {pins : List (Addr × Obj)} {σ : L2.St} {H : Hp} {s : Shared} {h' : Heap} {tk : Nat} {xs ys : List V} {us ws : List Value} {acc : Array Value} {c : Nat} {as : List Addr} {S : Addr} (I : Inv X pins σ H s) (hz : (xs.zip ys).length ≤ sizeLine) (rx : Vals xs us) (ry : Vals ys ws) (hge : s.heap.objs.size ≤ S)
    (hk : ∀ b o, s.heap.get? b = some o → h'.get? b = some o) (hS : h'.get? S = some { cls := .type "list", dict := none, data := .seq acc c, slots := #[] }) (hl : as.length = (xs.zip ys).length) (hG : LzG us.toArray ws.toArray (S + 1) h' as) (hacc : acc.toList = as.map Value.ref) :
    (∀ t ∈ as, H t = none) ∧ as.Nodup ∧ H S = none ∧ S ∉ as ∧ Inv X pins σ (upd (putP H as (xs.zip ys)) S (.lst (as.map V.ref))) { s with heap := h', toks := tk } := by
  have hSn : S ∉ as := fun z => Nat.not_succ_le_self _ (hG.above _ z)
  have hab : ∀ t ∈ as, s.heap.objs.size ≤ t := fun t ht => Nat.le_trans hge (Nat.le_of_succ_le (hG.above t ht))
  have nd : as.Nodup := List.Pairwise.imp (fun {a b} (h : a < b) => Nat.ne_of_lt h) hG.rise
  have new : ∀ t ∈ as, H t = none := fun t ht => I.hok.fresh (hab t ht)
  have newS : H S = none := I.hok.fresh hge
  have atP := putP_at as (xs.zip ys) H hl nd
  have atP' : ∀ {t : Addr} {q : V × V}, t ∈ as → putP H as (xs.zip ys) t = some (.tup [q.1, q.2]) → upd (putP H as (xs.zip ys)) S (.lst (as.map V.ref)) t = some (.tup [q.1, q.2]) := fun {t q} ht e => by
    rw [upd_ne (fun z => hSn (by rw [← z]; exact ht))]; exact e
  have off : ∀ b, b ∉ as → b ≠ S → upd (putP H as (xs.zip ys)) S (.lst (as.map V.ref)) b = H b := fun b h1 h2 => by rw [upd_ne h2, putP_off as _ _ h1]
  have low : ∀ b o, s.heap.get? b = some o → b ∉ as ∧ b ≠ S := fun b o e => ⟨fun z => absurd (Heap.lt_size e) (Nat.not_lt.mpr (hab b z)), Nat.ne_of_lt (Nat.lt_of_lt_of_le (Heap.lt_size e) hge)⟩
  have kp : ∀ b u, H b = some u → (upd (putP H as (xs.zip ys)) S (.lst (as.map V.ref))) b = some u := fun b u e => by
    rw [off b (fun z => by rw [new b z] at e; cases e) (fun z => by rw [z, newS] at e; cases e)]
    exact e
  have eS : upd (putP H as (xs.zip ys)) S (.lst (as.map V.ref)) S = some (.lst (as.map V.ref)) := upd_same
  refine ⟨new, nd, newS, hSn, ?_⟩
  refine I.call' (ch := []) rfl ⟨fun b o q _ _ _ => hk b o q, fun b o q _ _ _ => ⟨o.slots, hk b o q⟩, fun b o q n _ => ?_, fun b o q _ => ⟨o, hk b o q⟩, fun b xs q => kp b _ q, fun b o u q => kp b _ q, fun b ps q => ⟨#[], by rw [kp b _ q]; simp⟩⟩ (fun b u q => ?_) I.bare fun b z => by simp at z
  · obtain ⟨z1, z2⟩ := low b o q
    rw [off b z1 z2]
    exact n
  · by_cases hb : b ∈ as
    · obtain ⟨j, pk, e1, e2, e3⟩ := LiI.paired_ix atP hb
      rw [atP' hb e3] at q
      cases q
      obtain ⟨x, y, f1, f2, f3⟩ := hG.pairs j b e1
      obtain ⟨g1, g2⟩ := List.getElem?_zip_eq_some.1 e2
      obtain ⟨u1, q1, r1⟩ := rx.get g1
      obtain ⟨u2, q2, r2⟩ := ry.get g2
      rw [List.getElem?_toArray, q1] at f1
      rw [List.getElem?_toArray, q2] at f2
      cases f1
      cases f2
      exact ⟨by show 2 ≤ sizeLine; decide, [x, y], .cons r1 (.cons r2 .nil), ⟨_, f3, rfl, _, rfl⟩⟩
    · by_cases hb2 : b = S
      · rw [hb2] at q ⊢
        rw [eS] at q
        cases q
        refine ⟨by rw [List.length_map]; omega, acc.toList, c, by rw [hacc]; exact LiI.vals_refs as, ?_⟩
        rw [Array.toArray_toList]
        exact hS
      · rw [off b hb hb2] at q
        exact (I.hok b u q).stay (fun d v _ y => hk d v y) (fun d y => kp d _ y) fun d xs y => kp d _ y
/-- list(zip(e, e2)) -/
theorem pe_listZip (hc : X.calm = true) (hg : Gl X "list") (hm : X.mg "list" = none) (hgz : Gl X "zip") (hmz : X.mg "zip" = none) (ha : PA X [e, e2] ta)
    (hs : starEach [e, e2] X.env = (false, eval e X.env) :: starEach [e2] X.env) (hpl : (backTo pos2 (starEach [e2] X.env)).any (·.1) = false) :
    PE X (.Call (.Name "list" p) [.Call (.Name "zip" p2) [e, e2] [] pos2] [] pos) (fun σ H Q => ta σ H fun vs H1 => rZipL X.K vs H1 Q) := by
  refine ⟨fun pins s σ H Q I h => ?_⟩
  have na : starEach [.Call (.Name "zip" p2) [e, e2] [] pos2] X.env = (false, eval (.Call (.Name "zip" p2) [e, e2] [] pos2) X.env) :: starEach [] X.env := rfl
  refine Call_ (ld_blt I hg hm boot_list (PyProof.Rows.callWith_type1 (args_cons (Call_ (ld_blt I hgz hmz PyProof.Rows.boot_zip (PyProof.Rows.callWith_type1 (thn (ha.run pos2 pins s σ H _ I h) fun us s1 ⟨vs, H1, I1, r1, q1⟩ => ?_) hs hpl))) na) na))
  obtain ⟨a, b, xs, ys, ex, hqx, hqy, hz, q⟩ := q1
  subst ex
  cases r1 with
  | cons r rr =>
    cases rr with
    | cons r' rr =>
      cases rr
      cases r
      cases r'
      obtain ⟨its, rv, p1, _⟩ := I1.list hqx
      obtain ⟨its2, rv2, p3, _⟩ := I1.list hqy
      refine call_zip_2 p1.isList p3.isList fun h' hz' hTI hTO h1 h2 hsz hk => ?_
      have I2 : Inv X pins σ H1 { s1 with heap := h' } := I1.kept (t' := s1.toks) hk
      refine args_nil ?_
      have D := PySem.W.ktu_apart s1.heap.objs.size a b p1.lt p3.lt
      have hmin : min its.toArray.size its2.toArray.size = (xs.zip ys).length := by
        rw [List.length_zip, ← rv.length.symm, ← rv2.length.symm]; simp
      refine lz_call (s := { s1 with heap := h' }) (I1.ok.hd hc) D hz' hTI ⟨_, _, hTO⟩ h1 h2 (p1.isList.at fun o e => hk _ o e) (p3.isList.at fun o e => hk _ o e) (by rw [hmin]; exact hz) fun h'' tk acc cc as hk2 hS hl hG hacc => ?_
      have hk3 : ∀ b o, s1.heap.get? b = some o → h''.get? b = some o := fun b o e => by
        have hb := Heap.lt_size e
        exact hk2 b o (Nat.ne_of_lt (Nat.lt_of_lt_of_le hb (Nat.le_add_right _ _))) (Nat.ne_of_lt (Nat.lt_of_lt_of_le hb (Nat.le_add_right _ _))) (Nat.ne_of_lt hb) (Nat.ne_of_lt (Nat.lt_of_lt_of_le hb (Nat.le_add_right _ _))) (hk b o e)
      obtain ⟨k1, k2, k3, k4, J⟩ := laid (tk := tk) I1 hz rv rv2 (S := h'.objs.size) (by rw [hsz]; exact Nat.le_add_right _ _) hk3 hS (hl.trans hmin) hG hacc
      exact ⟨.ref _, _, J, rfl, q as _ (hl.trans hmin) k1 k2 k3 k4⟩
end
end LZ
end HP
namespace HP
open PySem L2 PySem.Spec PyProof.Rows LamX
section
variable {X : Cx} {pins : List (Addr × Obj)} {σ : L2.St} {H : Hp} {s : Shared}
/-- the callee's context Z, entered at s: the call of its name that holds the lambda -/
theorem act_ok {CXg : CXT} {Eg : XK} {Ng : List Str} {qg : Str} {sg : Scope} {g f c' : Addr} {cdg pm ctv : Value} {params : Arguments} {body : Expr} {scope : Scope} {k : Nat} {a : Str} {pn : List (Addr × Obj)} {xe : Value → Shared → Prop} {W : WX}
    {tb : XK → TE} {p1 p2 : Pos}
    (I : Inv X pins σ H s) (L : LamS X.env.scope scope)
    (hf : s.heap.get? f = some (PySem.W.kla_obj "<lambda>" (X.env.qual ++ "<lambda>") params body scope (cloFrom X.env.cells scope.names []) pm c' ctv))
    (hn : H f = none) (hs : f ∉ frs X.stack)
    (bd : bindArgs (PySem.W.kla_fn "<lambda>" (X.env.qual ++ "<lambda>") params body scope (cloFrom X.env.cells scope.names []) pm (.ref c') ctv) ⟨[], []⟩ = pure [])
    (tk : Takes ((cxOf CXg X.prog X.w X.K X.mg X.base Ng qg sg g cdg X.A X.stack s H Eg).tr pn xe) W)
    (rm : Room (k + 1) (X.A.deeper (envOfC qg sg s.heap.objs.size g cdg)))
    (hb : ∀ (A : Around) (outer : List Env) (s : Shared) (H : Hp) (E : XK), Room k (A.deeper (lamEnv X scope s.heap.objs.size f c')) → PE (lamCx X A outer s H E scope f c') body (tb E))
    (h0 : Ng[0]? = some a) (hv : Vis sg a) (d1 : (a == ("__debug__" : Str)) = false) (d2 : (a == ("__classdict__" : Str)) = false) :
    PE ((cxOf CXg X.prog X.w X.K X.mg X.base Ng qg sg g cdg X.A X.stack s H Eg).tr pn xe) (.Call (.Name a p1) [] [] p2)
      (fun z HZ Q => z[0]? = some (some (.ref f)) ∧ HZ c' = some (CodeO c' (X.env.qual ++ "<lambda>")) ∧ tb (fun cls d H' => W cls d z H') σ HZ Q) := by
  refine ⟨fun pz sz z HZ Q IZ q => ?_⟩
  obtain ⟨q1, q2, q3⟩ := q
  refine wpAny_Call_Name_kw (thn ((pe_var (pos := p1) (i := 0) h0 hv d1 d2).run pz sz z HZ (fun v H1 => v = .ref f ∧ H1 = HZ) IZ ⟨.ref f, q1, rfl, rfl⟩) fun u t ⟨v, H1, J, rv, e⟩ => ?_)
  obtain ⟨e1, e2⟩ := e
  subst e1
  rw [e2] at J
  obtain rfl : u = Value.ref f := rv
  have fo := J.base.keep f _ hf hn hs (fun z => nomatch (show f ∈ ([] : List Addr) from z))
  refine PySem.W.callWith_F0 ⟨_, _, _, _, fo⟩ ?_
  have un : Un (frs X.stack) [] H HZ s.heap t.heap := J.base
  obtain ⟨⟨oc, vs, tt, o1, o2, o3⟩, _, _⟩ := J.hok c' _ q2
  have run : codeAny (model X.prog X.w) (X.A.deeper (envOfC qg sg s.heap.objs.size g cdg)) (.call (.ref f) ⟨[], []⟩)
      (CR (L2.CX X.prog X.w) (envOfC qg sg s.heap.objs.size g cdg :: X.stack) X.prog X.w HZ t Q fun cls d H' => W cls d z H') t := by
    refine PySem.W.kla_callFunE rm.depth fo rfl L.co L.gen rfl ⟨c', oc, vs, tt, rfl, o1, o2, o3⟩ ?_
    rw [bd]
    refine wpAny_pure (wpAny_newFunctionEnv (fun y hy => (L.own y hy).2) (fun y hy => absurd hy (by simp)) (fun h1 ns sb => ⟨J.nolimit.fresh _ sb, ?_⟩) L.kind)
    show codeAny _ _ (.expr body (lamEnv X scope t.heap.objs.size f c')) _ _
    have kp : ∀ b o, t.heap.get? b = some o → h1.get? b = some o := fun b o e => sb.extBut b o (Nat.ne_of_lt (Heap.lt_size e)) (Heap.get?_push_of_some _ e)
    have JL := lam_start2 (f := f) (c' := c') (E := fun cls d H' => W cls d z H') (tk := t.toks + ([] : List (Str × Value)).length) I L J.env0 rm.hd un ns kp
    refine PySem.W.kla_codeExpr (wpAny_mono ((hb _ _ t HZ _ (rm.deeper _)).run [] _ _ HZ Q JL q3) (fun v s' w => ?_) fun e s' w => w)
    obtain ⟨w', H', J', rv, w⟩ := w
    exact ⟨w', H', J'.os, J'.bare, J'.base, J'.hok, rv, w⟩
  refine wpAny_call (codeAny_mono run fun r s' w => ?_)
  cases r with
  | error e => exact tk e s' (XE.of_call J (fun _ _ _ h => h) w)
  | ok fl =>
    cases fl with
    | ret u => exact J.after w
    | next => exact False.elim w
    | brk => exact False.elim w
    | cont => exact False.elim w
/-- the def g that calls what it got; TT: what it makes of the lambda's reading -/
def GivesS (X : Cx) (Ng : List Str) (x : Str) (sg : Scope) (g : Addr) (cdg : Value) (bg : List Stmt) (a : Str) (q : Str) (k : Nat) (TT : (XK → Hp → VK → Prop) → Hp → VK → Prop) : Prop :=
  ∀ (f c' : Addr) (s : Shared) (H : Hp) (Q : VK) (tl : XK → Hp → VK → Prop), Room (k + 1) (X.A.deeper (envOfC x sg s.heap.objs.size g cdg)) →
    (∀ (W : WX) (pn : List (Addr × Obj)) (xe : Value → Shared → Prop) (p1 p2 : Pos), Takes ((cxOf C8.CX0 X.prog X.w X.K X.mg X.base Ng x sg g cdg X.A X.stack s H C8.E0).tr pn xe) W →
      PE ((cxOf C8.CX0 X.prog X.w X.K X.mg X.base Ng x sg g cdg X.A X.stack s H C8.E0).tr pn xe) (.Call (.Name a p1) [] [] p2)
        (fun z HZ Q => z[0]? = some (some (.ref f)) ∧ HZ c' = some (CodeO c' q) ∧ tl (fun cls d H' => W cls d z H') HZ Q)) →
    H c' = some (CodeO c' q) → TT tl H Q →
    ∃ t, PSs (cxOf C8.CX0 X.prog X.w X.K X.mg X.base Ng x sg g cdg X.A X.stack s H C8.E0) bg t ∧ t { nx := fun _ H' => Q .non H', rt := Q } (L2.start Ng [.ref f]) H
end
section
variable {X : Cx}
/-- x(lambda: body) -/
theorem pe_lamS {T : List (Addr × Str)} {TT : (XK → Hp → VK → Prop) → Hp → VK → Prop} {x a : Str} {g c P : Addr} {k : Nat} {pg : Arguments} {bg : List Stmt} {sg : Scope} {dV kV doc pm cdv ct oc : Value} {an od : Option Addr} {osl : Array (Option Value)} {Ng : List Str}
    {params : Arguments} {body : Expr} {scope : Scope} {t : XK → TE} {p lpos pos : Pos} (hg : Gl X x) (hm : X.mg x = some (.ref g)) (hk : PySem.W.keepIn X.K (.ref g) = true)
    (lk : X.K.lookup g = some ⟨oc, od, .func (PySem.W.fnOf x x pg bg sg dV kV doc pm an cdv ct), osl⟩) (hcg : PySem.W.codeIn X.K cdv x = true) (hbd : L2.Binds X.K (PySem.W.fnOf x x pg bg sg dV kV doc pm an cdv ct) [a] []) (Sg : FnScope Ng [a] sg)
    (h0 : Ng[0]? = some a) (hv : Vis sg a) (d1 : (a == ("__debug__" : Str)) = false) (d2 : (a == ("__classdict__" : Str)) = false)
    (hG : GivesS X Ng x sg g cdv bg a (X.env.qual ++ "<lambda>") k TT)
    (TB : TabB X.base X.mg c P) (hc : X.env.code = .ref c) (hT : (P, X.env.qual ++ "<lambda>") ∈ T) (hu : ∀ p ∈ T, p.1 = P → p.2 = X.env.qual ++ "<lambda>") (rm : Room (k + 2) X.A) (L : LamS X.env.scope scope) (hd : defaultsOf params X.env = ([], []))
    (bd : ∀ (q : Str) (cl : List (Str × Addr)) (pm cv ctv : Value), bindArgs (PySem.W.kla_fn "<lambda>" q params body scope cl pm cv ctv) ⟨[], []⟩ = pure [])
    (hb : ∀ (A : Around) (outer : List Env) (s : Shared) (H : Hp) (E : XK) (f c' : Addr), Room k (A.deeper (lamEnv X scope s.heap.objs.size f c')) → PE (lamCx X A outer s H E scope f c') body (t E))
    (hdb : (x == ("__debug__" : Str)) = false) :
    PE X (.Call (.Name x p) [.Lambda params body scope lpos] [] pos) (tLam T TT t) := by
  refine ⟨fun pins s σ H Q I q => ?_⟩
  obtain ⟨tb, q⟩ := q
  refine wpAny_Call_Name_kw (ld_glob I hg hm ?_ hdb)
  refine PySem.W.callWith_K (h₀ := X.base) I.ok.mod.kin hk ?_ (by rfl) (by rfl)
  show wpAny _ _ (spliced ((false, eval (.Lambda params body scope lpos) X.env) :: backTo pos (starEach [] X.env))) _ _ s
  refine Calls.spliced_cons (lam_make2 I TB hc hT hu tb hd (L.has I.ok) fun f c' pm' ctv H1 s' J e1 e2 hf hn hs hco => ?_)
  refine Calls.spliced_nil ⟨J.kIn, ?_⟩
  have run : codeAny (model X.prog X.w) X.A (.call (.ref g) ⟨[.ref f], []⟩) (CR C8.CX0 X.stack X.prog X.w H1 s' Q C8.E0) s' :=
    run_ofS (N := Ng) (ps := [a]) (us := [.ref f]) (vs := [.ref f]) lk hcg Sg rm J.env0 (hbd s' [.ref f] J.kIn rfl) (.cons rfl .nil) rfl fun rm' =>
      hG f c' s' H1 Q (fun E H' Q' => t E σ H' Q') rm' (fun W pn xe p1 p2 tk => act_ok (tb := t) J L hf hn hs (bd _ _ _ _ _) tk rm' (fun A outer s H E r => hb A outer s H E f c' r) h0 hv d1 d2) hco (q H1 e1 e2)
  refine wpAny_call (codeAny_mono run fun r s2 w => ?_)
  cases r with
  | error e => exact (show False from w).elim
  | ok fl =>
    cases fl with
    | ret u => exact J.after w
    | next => exact False.elim w
    | brk => exact False.elim w
    | cont => exact False.elim w
/-- what a lambda lets out of its frame -/
theorem lam_takes {A : Around} {outer : List Env} {s : Shared} {H : Hp} {E : XK} {scope : Scope} {f c' : Addr} : Takes (lamCx X A outer s H E scope f c') (fun cls d _ H' => E cls d H') := takes_of rfl rfl rfl rfl
end
end HP
namespace HP
open PySem L2 PySem.Spec PyProof.Rows
mutual
def D.eqb : D → D → Bool
  | .non, .non => true
  | .bl a, .bl b => a == b
  | .int a, .int b => a == b
  | .str a, .str b => a == b
  | .tup a, .tup b => D.eqbs a b
  | .frl a, .frl b => D.eqbs a b
  | .ty a, .ty b => a == b
  | .cls a, .cls b => a == b
  | .kd a, .kd b => a == b
  | _, _ => false
def D.eqbs : List D → List D → Bool
  | [], [] => true
  | a :: as, b :: bs => D.eqb a b && D.eqbs as bs
  | _, _ => false
end
mutual
theorem D.eqb_eq : ∀ {a b : D}, D.eqb a b = true → a = b
  | .non, b, h => by cases b <;> simp [D.eqb] at h ⊢
  | .bl a, b, h => by cases b <;> simp [D.eqb] at h ⊢; exact h
  | .int a, b, h => by cases b <;> simp [D.eqb] at h ⊢; exact h
  | .str a, b, h => by cases b <;> simp [D.eqb] at h ⊢; exact h
  | .tup a, b, h => by cases b <;> simp [D.eqb] at h ⊢; exact D.eqbs_eq h
  | .frl a, b, h => by cases b <;> simp [D.eqb] at h ⊢; exact D.eqbs_eq h
  | .ty a, b, h => by cases b <;> simp [D.eqb] at h ⊢; exact h
  | .cls a, b, h => by cases b <;> simp [D.eqb] at h ⊢; exact h
  | .loc _, b, h => by cases b <;> simp [D.eqb] at h
  | .exc _ _, b, h => by cases b <;> simp [D.eqb] at h
  | .lam _ _, b, h => by cases b <;> simp [D.eqb] at h
  | .kd a, b, h => by cases b <;> simp [D.eqb] at h ⊢; exact h
theorem D.eqbs_eq : ∀ {a b : List D}, D.eqbs a b = true → a = b
  | [], [], _ => rfl
  | a :: as, b :: bs, h => by
    simp only [D.eqbs, Bool.and_eq_true] at h
    rw [D.eqb_eq h.1, D.eqbs_eq h.2]
  | [], _ :: _, h => by simp [D.eqbs] at h
  | _ :: _, [], h => by simp [D.eqbs] at h
end
mutual
/-- two of the few forms that lambdas have here -/
def E.eqb : E → E → Bool
  | .var i, .var j => i == j
  | .int i, .int j => i == j
  | .ix a b, .ix c d => E.eqb a c && E.eqb b d
  | .call f a, .call g b => f == g && Es.eqb a b
  | .lst a, .lst b => Es.eqb a b
  | _, _ => false
def Es.eqb : Es → Es → Bool
  | .nil, .nil => true
  | .cons a b, .cons c d => E.eqb a c && Es.eqb b d
  | _, _ => false
end
mutual
theorem E.eqb_eq : ∀ {a b : E}, E.eqb a b = true → a = b
  | .var i, b, h => by cases b <;> simp [E.eqb] at h ⊢; exact h
  | .int i, b, h => by cases b <;> simp [E.eqb] at h ⊢; exact h
  | .ix a c, b, h => by
    cases b <;> simp [E.eqb] at h ⊢
    exact ⟨E.eqb_eq h.1, E.eqb_eq h.2⟩
  | .call f a, b, h => by
    cases b <;> simp [E.eqb] at h ⊢
    exact ⟨h.1, Es.eqb_eq h.2⟩
  | .lst a, b, h => by
    cases b <;> simp [E.eqb] at h ⊢
    exact Es.eqb_eq h
  | .con _, b, h | .bl _, b, h | .str _, b, h | .non, b, h | .tup _, b, h | .dic0, b, h | .bin _ _ _, b, h | .neg _, b, h | .cmp _ _ _, b, h | .chain _ _ _ _ _, b, h | .band _, b, h | .bor _, b, h | .bnot _, b, h | .ife _ _ _, b, h
  | .bcall _ _, b, h | .meth _ _ _, b, h | .sl _ _ _, b, h | .rev _, b, h | .lc _ _ _ _ _, b, h | .dic1 _ _, b, h | .joinS _ _, b, h | .lstR _, b, h | .lstZ _ _, b, h | .shw _ _, b, h | .dicT, b, h | .kin _ _ _, b, h | .kix _ _, b, h | .din _ _ _, b, h
  | .exIs _ _ _ _, b, h | .exVe _ _, b, h | .exFld _ _ _, b, h | .act _, b, h | .lamC _ _ _ _, b, h => by cases b <;> simp [E.eqb] at h
theorem Es.eqb_eq : ∀ {a b : Es}, Es.eqb a b = true → a = b
  | .nil, .nil, _ => rfl
  | .nil, .cons _ _, h => by simp [Es.eqb] at h
  | .cons _ _, .nil, h => by simp [Es.eqb] at h
  | .cons a b, .cons c d, h => by
    simp only [Es.eqb, Bool.and_eq_true] at h
    rw [E.eqb_eq h.1, Es.eqb_eq h.2]
end
/-- of lambdas: act 1: the def got one, called in a try; 2: in that try; mkl: lambdas may be made; lams: their numbers, what they hold, their bodies -/
structure Lx where
  act : Nat
  mkl : Bool
  lams : List (Nat × List Nat × E)
  rcv : List Str
abbrev Lx.no : Lx := ⟨0, false, [], []⟩
/-- what the checker knows -/
structure Cc where
  N : List Str
  sc : Scope
  fnB : Str → Bool
  hot : Bool
  fns : List (Str × Nat × Nat)
  cons : List (Str × D)
  blt : List Str
  cls : List (Str × Nat × Bool)
  lx : Lx
def visB (sc : Scope) (x : Str) : Bool := match sc.names.lookup x with
  | some .local => true | some .cell => true | some .free => true | _ => false
def locB (sc : Scope) (x : Str) : Bool := match sc.names.lookup x with
  | some .local => true | some .cell => true | _ => false
def lclB (sc : Scope) (x : Str) : Bool := match sc.names.lookup x with
  | some .local => true | _ => false
def glbB (sc : Scope) (x : Str) : Bool := match sc.names.lookup x with
  | some .globalImplicit => true | _ => false
def dbgB (x : Str) : Bool := !(x == ("__debug__" : Str)) && !(x == ("__classdict__" : Str)) && decide (x ≠ ("__name__" : Str))
def bopB : Bop → Operator → Bool
  | .add, .Add => true | .sub, .Sub => true | .mul, .Mult => true | .fdiv, .FloorDiv => true | .mod, .Mod => true | .pow, .Pow => true | _, _ => false
def copB : Cop → CmpOp → Bool
  | .eq, .Eq => true | .ne, .NotEq => true | .lt, .Lt => true | .le, .LtE => true | .gt, .Gt => true | .ge, .GtE => true | .is, .Is => true | .isn, .IsNot => true | .inn, .In => true | .nin, .NotIn => true | _, _ => false
theorem bopB_eq {o : Bop} {p : Operator} (h : bopB o p = true) : p = bopO o := by cases o <;> cases p <;> first | rfl | (cases h)
theorem copB_eq {o : Cop} {p : CmpOp} (h : copB o p = true) : p = copO o := by cases o <;> cases p <;> first | rfl | (cases h)
def btS (b : Bt) : Str := Str.ofString b.name
/-- a name that is called or read of the module -/
def namB (C : Cc) (x : Str) : Bool := glbB C.sc x && dbgB x
def slotB (C : Cc) (i : Nat) (x : Str) : Bool := decide (C.N[i]? = some x)
def setB (C : Cc) (i : Nat) (x : Str) : Bool := slotB C i x && locB C.sc x && (C.fnB x || lclB C.sc x)
/-- what may stand ahead of .name( .. ) -/
def recvB : Expr → Bool
  | .Call (.Name _ _) [] [] _ => false
  | _ => true
/-- no comprehension -/
def nocoB : Expr → Bool
  | .ListComp _ _ _ _ => false | .SetComp _ _ _ _ => false | .DictComp _ _ _ _ _ => false | _ => true
def ownP (N : List Str) (own : List Nat) : List (Str × Nat) := own.filterMap fun i => (N[i]?).map fun x => (x, i)
def blkCc (C : Cc) (scope : Scope) : Cc := { C with sc := relS scope C.sc, fnB := fun x => scope.names.lookup x == some .cell, lx := Lx.no }
/-- .. in a lambda -/
def lamCc (C : Cc) (scope : Scope) : Cc := { C with sc := scope, fnB := fun _ => false, hot := false, lx := Lx.no }
/-- no parameters -/
def noPar : Arguments → Bool
  | ⟨[], [], none, [], [], none, []⟩ => true
  | _ => false
def lamsB (C : Cc) (k : Nat) (cs : List Nat) (b : E) : Bool := match C.lx.lams.lookup k with
  | some (cs', b') => decide (cs' = cs) && E.eqb b' b
  | none => false
mutual
def okTg : Tg → Cc → List Nat → Expr → Bool
  | .name i, C, own, e => match e with
    | .Name x _ => setB C i x && own.contains i
    | _ => false
  | .tup ts, C, own, e => match e with
    | .Tuple es _ _ => !C.hot && okTgs ts C own es
    | _ => false
def okTgs : Tgs → Cc → List Nat → List Expr → Bool
  | .nil, _, _, es => es.isEmpty
  | .cons t ts, C, own, es => match es with
    | e :: r => okTg t C own e && okTgs ts C own r
    | [] => false
end
/-- the classes that are raised -/
def knOf (cls : List (Str × Nat × Bool)) : List Nat := (cls.filter (·.2.2)).map (·.2.1)
def clsB (C : Cc) (j : Nat) (x : Str) : Bool := namB C x && (C.cls.lookup x).any (fun p => p.1 == j)
def clsesB (C : Cc) : List Nat → List Expr → Bool
  | [], [] => true
  | j :: js, .Name x _ :: es => clsB C j x && clsesB C js es
  | _, _ => false
def noFld (k : Nat) : Bool := !([3, 4, 5, 8, 12].contains k)
/-- the fields that the programs' exceptions have -/
def fldN (f : Str) : Bool := [("part" : Str), "number", "work", "way", "row"].contains f
def isTupE : Expr → Bool
  | .Tuple _ _ _ => true
  | _ => false
mutual
def Es.len : Es → Nat
  | .nil => 0
  | .cons _ r => r.len + 1
end
mutual
def okE : E → Cc → Expr → Bool
  | .var i, C, e => match e with
    | .Name x _ => slotB C i x && visB C.sc x && dbgB x
    | _ => false
  | .con d, C, e => match e with
    | .Name x _ => namB C x && (match C.cons.lookup x with
      | some d' => D.eqb d' d
      | none => match d with
        | .ty b => (x == btS b) && !(decide (b = .non)) && C.blt.contains x
        | _ => false)
    | _ => false
  | .int i, _, e => match e with
    | .Constant (.int j) _ _ => i == j
    | _ => false
  | .bl i, _, e => match e with
    | .Constant (.bool j) _ _ => i == j
    | _ => false
  | .str i, _, e => match e with
    | .Constant (.str j) _ _ => i == j
    | _ => false
  | .non, _, e => match e with
    | .Constant .none _ _ => true
    | _ => false
  | .tup es, C, e => match e with
    | .Tuple xs _ _ => okEs es C xs && decide (xs.length ≤ 1000)
    | _ => false
  | .lst es, C, e => match e with
    | .List xs _ => okEs es C xs && decide (xs.length ≤ 1000)
    | _ => false
  | .dic0, _, e => match e with
    | .Dict [] [] _ => true
    | _ => false
  | .bin o a b, C, e => match e with
    | .BinOp x p y _ => bopB o p && okE a C x && okE b C y
    | _ => false
  | .neg a, C, e => match e with
    | .UnaryOp .USub x _ => okE a C x
    | _ => false
  | .cmp o a b, C, e => match e with
    | .Compare x [p] [y] _ => copB o p && okE a C x && okE b C y
    | _ => false
  | .chain o o2 a b d, C, e => match e with
    | .Compare x [p, p2] [y, z] _ => copB o p && copB o2 p2 && okE a C x && okE b C y && okE d C z
    | _ => false
  | .band es, C, e => match e with
    | .BoolOp .And xs _ => okEs es C xs
    | _ => false
  | .bor es, C, e => match e with
    | .BoolOp .Or xs _ => okEs es C xs
    | _ => false
  | .bnot a, C, e => match e with
    | .UnaryOp .Not x _ => okE a C x
    | _ => false
  | .ife t a b, C, e => match e with
    | .IfExp u x y _ => okE t C u && okE a C x && okE b C y
    | _ => false
  | .call f es, C, e => match e with
    | .Call (.Name x _) xs [] _ => !C.hot && namB C x && decide (C.fns.lookup x = some (f, es.len)) && okEs es C xs
    | _ => false
  | .bcall f es, C, e => match e with
    | .Call (.Name x _) xs [] _ => (!bfCalm f || !C.hot) && namB C x && (x == bfS f) && C.blt.contains x && okEs es C xs && !xs.isEmpty
    | _ => false
  | .meth m o es, C, e => match e with
    | .Call (.Attribute u x ap) xs [] cp => (x == mtS m) && recvB u && (ap.endLine == cp.line) && okE o C u && okEs es C xs && decide (xs.length < 20)
    | _ => false
  | .ix a b, C, e => match e with
    | .Subscript x y _ => okE a C x && okE b C y
    | _ => false
  | .sl a lo hi, C, e => match e with
    | .Subscript x (.Slice l h none _) _ => okE a C x && okO lo C l && okO hi C h
    | _ => false
  | .rev a, C, e => match e with
    | .Subscript x (.Slice none none (some (.UnaryOp .USub (.Constant (.int j) _ _) _)) _) _ => (j == 1) && okE a C x
    | _ => false
  | .dic1 k v, C, x => match x with
    | .Dict [some (.Constant a _ _)] [.Constant (.int j) _ _] _ => (match k, a with
      | .inl i, .int i' => i == i' && j == v
      | .inr t, .str t' => t == t' && j == v
      | _, _ => false)
    | _ => false
  | .joinS s e, C, x => match x with
    | .Call (.Attribute (.Constant (.str t) _ _) n ap) [a] [] cp => (t == s) && (n == ("join" : Str)) && (ap.endLine == cp.line) && okE e C a
    | _ => false
  | .dicT, _, e => match e with
    | .Dict [] [] _ => true
    | _ => false
  | .kin neg a kvs, C, e => match e with
    | .Compare x [op] [.Name y _] _ => (match neg, op with
        | true, .NotIn => true
        | false, .In => true
        | _, _ => false) && namB C y && (match C.cons.lookup y with
        | some d => D.eqb d (.kd kvs)
        | none => false) && okE a C x
    | _ => false
  | .kix kvs a, C, e => match e with
    | .Subscript (.Name y _) x _ => namB C y && (match C.cons.lookup y with
        | some d => D.eqb d (.kd kvs)
        | none => false) && okE a C x
    | _ => false
  | .din neg a b, C, e => match e with
    | .Compare x [op] [y] _ => (match neg, op with
        | true, .NotIn => true
        | false, .In => true
        | _, _ => false) && okE a C x && okE b C y
    | _ => false
  | .shw t e, C, x => match x with
    | .Call (.Name n _) [a] [] _ => (C.lx.act == 4) && (!C.hot && (namB C n && (n == (if t then ("repr" : Str) else ("str" : Str))) && C.blt.contains n && okE e C a))
    | _ => false
  | .lstR e, C, x => match x with
    | .Call (.Name n _) [.Call (.Name m _) [a] [] _] [] _ => !C.hot && namB C n && (n == ("list" : Str)) && C.blt.contains n && namB C m && (m == ("range" : Str)) && C.blt.contains m && okE e C a
    | _ => false
  | .lstZ a b, C, x => match x with
    | .Call (.Name n _) [.Call (.Name m _) [u, v] [] _] [] _ => !C.hot && namB C n && (n == ("list" : Str)) && C.blt.contains n && namB C m && (m == ("zip" : Str)) && C.blt.contains m && okE a C u && okE b C v
    | _ => false
  | .lc x tg it cd own, C, e => match e with
    | .ListComp elt [⟨t, iter, ifs, z⟩] scope _ => (z == 0) && (!C.hot && (!eoX cd || C.lx.act == 3)) && okI it C (isTupE t) iter && blkC C.N C.sc scope (ownP C.N own) && decide ((ownP C.N own).map (·.2) = own) &&
        okTg tg (blkCc C scope) own t && okC cd (blkCc C scope) ifs && okE x (blkCc C scope) elt
    | _ => false
  | .exIs i tp cs kn, C, e => match e with
    | .Call (.Name x _) [.Name n _, u] [] _ => C.hot && namB C x && (x == ("isinstance" : Str)) && C.blt.contains x && slotB C i n && visB C.sc n && dbgB n && kn.all (fun k => (knOf C.cls).contains k) && (match tp, u with
      | true, .Tuple es _ _ => clsesB C cs es && decide (es.length ≤ 1000)
      | false, u => clsesB C cs [u]
      | _, _ => false)
    | _ => false
  | .exVe i kn, C, e => match e with
    | .Call (.Name x _) [.Name n _, .Name y _] [] _ => C.hot && namB C x && (x == ("isinstance" : Str)) && C.blt.contains x && slotB C i n && visB C.sc n && dbgB n && kn.all (fun k => (knOf C.cls).contains k) && namB C y && (y == ("ValueError" : Str)) && C.blt.contains y
    | _ => false
  | .exFld i f kn, C, e => match e with
    | .Attribute (.Name n _) g _ => C.hot && slotB C i n && visB C.sc n && dbgB n && (g == f) && fldN g && kn.all (fun k => (knOf C.cls).contains k && !noFld k)
    | _ => false
  | .act i, C, e => match e with
    | .Call (.Name x _) [] [] _ => (C.lx.act == 2) && (i == 0) && slotB C 0 x
    | _ => false
  | .lamC f k cs b, C, e => match e with
    | .Call (.Name x _) [.Lambda ps lb scope _] [] _ => C.lx.mkl && !C.hot && (namB C x && C.lx.rcv.contains x) && decide (C.fns.lookup x = some (f, 1)) && noPar ps && LamX.lamSB C.sc scope && lamsB C k cs b && cs.all (fun i => decide (i < C.N.length)) && okE b (lamCc C scope) lb
    | _ => false
def okEs : Es → Cc → List Expr → Bool
  | .nil, _, xs => xs.isEmpty
  | .cons e es, C, xs => match xs with
    | x :: r => okE e C x && okEs es C r
    | [] => false
def okO : Eo → Cc → Option Expr → Bool
  | .none, _, o => o.isNone
  | .nox, _, _ => false
  | .some e, C, o => match o with
    | some x => okE e C x
    | none => false
def okC : Eo → Cc → List Expr → Bool
  | .none, _, xs => xs.isEmpty
  | .nox, _, xs => xs.isEmpty
  | .some e, C, xs => match xs with
    | [x] => okE e C x
    | _ => false
def okI : It → Cc → Bool → Expr → Bool
  | .seq e, C, _, x => okE e C x
  | .rng1 e, C, _, x => match x with
    | .Call (.Name n _) [a] [] _ => namB C n && (n == ("range" : Str)) && C.blt.contains n && okE e C a
    | _ => false
  | .rng2 e f, C, _, x => match x with
    | .Call (.Name n _) [a, b] [] _ => namB C n && (n == ("range" : Str)) && C.blt.contains n && okE e C a && okE f C b
    | _ => false
  | .rng3 e f g, C, _, x => match x with
    | .Call (.Name n _) [a, b, d] [] _ => namB C n && (n == ("range" : Str)) && C.blt.contains n && okE e C a && okE f C b && okE g C d
    | _ => false
  | .enm e, C, t, x => match x with
    | .Call (.Name n _) [a] [] _ => t && namB C n && (n == ("enumerate" : Str)) && C.blt.contains n && okE e C a
    | _ => false
  | .zip e f, C, t, x => match x with
    | .Call (.Name n _) [a, b] [] _ => t && namB C n && (n == ("zip" : Str)) && C.blt.contains n && okE e C a && okE f C b
    | _ => false
end
section
variable (K : PySem.W.Frag) (ca : CA) (hd : Hd) (c : Call) (W : WX)
/-- the reading of an evaluation -/
def rdX {A B : Type} (rel : List Addr → Hp → A → B → Prop) (ev : Ev → Sto → R A) : L2.St → Hp → (B → Hp → Prop) → Prop := fun sg H Q =>
  ∃ th S r, Sim K ca hd th H S r sg ∧ Po K ca th H rel (fun cls dd H' => W cls dd sg H') Q (ev r S)
abbrev relEq {A : Type} : List Addr → Hp → A → A → Prop := fun _ _ a b => a = b
abbrev rdE (m : E) : TE := rdX K ca hd W (RV K ca) (evE c m)
abbrev rdEs (m : Es) : TA := rdX K ca hd W (RVs K ca) (evEs c m)
abbrev rdT (m : E) : TT := rdX K ca hd W relEq (evT c m)
/-- a def's promise -/
def spOf (f n : Nat) : Sp := fun vs H Q E => ∃ th S ds, Rep K ca th H S ∧ RVs K ca th H ds vs ∧ ds.length = n ∧ Po K ca th H (RV K ca) (fun cls dd H' => E cls dd H') Q (c f ds S)
end
/-- a class that is named -/
structure ClF (K : PySem.W.Frag) (mg : Str → Option Value) (C : Addr) (x : Str) : Prop where
  m : mg x = some (.ref C)
  hd : PySem.W.hasDictIn K C = true
  ty : PySem.W.typeIn K (.ref C) = some (.type "type")
  ex : PySem.W.subIn K (.ref C) (.type "BaseException") = some true
/-- a class that is raised -/
structure KnF (K : PySem.W.Frag) (ca : CA) (cls : List (Str × Nat × Bool)) (k : Nat) : Prop where
  ec : ExcC K (ca k)
  kp : PySem.W.keepIn K (.ref (ca k)) = true
  own : noFld k = true → PySem.W.excIn K (ca k) [.type "ValueError", .type "Exception", .type "BaseException", .type "object"] "ValueError.__new__" = true
  ty : PySem.W.typeIn K (.ref (ca k)) = some (.type "type")
  ex : PySem.W.subIn K (.ref (ca k)) (.type "BaseException") = some true
  ve : PySem.W.subIn K (.ref (ca k)) (.type "ValueError") = some true
  xf : noFld k = false → XfC K (ca k) ∧ ∀ f, fldN f = true → PySem.W.findIn K (.ref (ca k)) f = some none
  self : PySem.W.subIn K (.ref (ca k)) (.ref (ca k)) = some true
  rel : ∀ y j b, cls.lookup y = some (j, b) → PySem.W.subIn K (.ref (ca k)) (.ref (ca j)) = some (subC k j)
/-- isinstance(e, c), isinstance(e, (c, ..)) of the exception at a, its dict dd -/
def rIsEX (K : PySem.W.Frag) (D a : Addr) (dd : Option Addr) : List V → Hp → VK → Prop := fun xs H Q => (∀ d, dd = some d → ∃ gs, H d = some (.xd gs)) ∧
  ((∃ (c : V) (cv : Value) (b : Bool), xs = [.ref a, c] ∧ ClsV c cv ∧ PySem.W.kitOne K (.ref D) cv = some b ∧ Q (.bl b) H) ∨
    ∃ (tp : Addr) (cs : List V) (us : List Value) (b : Bool), xs = [.ref a, .ref tp] ∧ SqT K H tp cs ∧ Paired ClsV cs us ∧ PySem.W.kitAny K (.ref D) us = some b ∧ Q (.bl b) H)
/-- e.f of the exception at a -/
def rXf (a : Addr) (cls : Value) (d : Option Addr) (f : Str) (te : TE) : TE := fun sg H Q => te sg H fun x H1 => x = .ref a ∧ cls = cls ∧ ∃ (dd : Addr) (fs : List (Str × V)) (v : V), d = some dd ∧ H1 dd = some (.xd fs) ∧ fs.lookup f = some v ∧ Q v H1
/-- a dict of the module: what it tells -/
def KdF (K : PySem.W.Frag) (w : World) (d : D) (v : V) : Prop := ∀ kvs, d = .kd kvs → ∃ a es n, v = .ref a ∧ KDict K w a es n ∧ ∀ z i, kvs.lookup z = some i → (i = -1 → PySem.W.nsIn K a z = some none) ∧ (i ≠ -1 → ∃ u, PySem.W.nsIn K a z = some (some u) ∧ RelV (.int i) u)
/-- the call of what the def got -/
def ActP (X : Cx) (c : Call) (ca : CA) (W : WX) (m : Lm) (a : Str) : Prop := ∀ p1 p2, PE X (.Call (.Name a p1) [] [] p2) (fun z H Q => ∃ th S k ds f, Rep X.K ca th H S ∧ z[0]? = some (some (.ref f)) ∧ m.P th H k ds f ∧
  Po X.K ca th H (RV X.K ca) (fun cls d H' => W cls d z H') Q (c k ds S))
/-- what a def that calls what it got makes of it -/
def TTof (K : PySem.W.Frag) (ca : CA) (c c1 : Call) (f : Nat) : (XK → Hp → VK → Prop) → Hp → VK → Prop := fun tl H Q => ∃ th S k ds, Rep K ca th H S ∧
  (∀ th' H' S' E Q', Go th H th' H' → Rep K ca th' H' S' → Po K ca th' H' (RV K ca) E Q' (c1 k ds S') → tl E H' Q') ∧ Po K ca th H (RV K ca) (fun _ _ _ => False) Q (c f [.lam k ds] S)
/-- a def that may get a lambda -/
def RecvF (X : Cx) (ca : CA) (c c1 : Call) (k : Nat) (x : Str) (f : Nat) : Prop := ∃ (g : Addr) (pg : Arguments) (bg : List Stmt) (sg : Scope) (dV kV doc pm cdv ct oc : Value) (an od : Option Addr) (osl : Array (Option Value)) (Ng : List Str) (a : Str),
  X.mg x = some (.ref g) ∧ PySem.W.keepIn X.K (.ref g) = true ∧ X.K.lookup g = some ⟨oc, od, .func (PySem.W.fnOf x x pg bg sg dV kV doc pm an cdv ct), osl⟩ ∧ PySem.W.codeIn X.K cdv x = true ∧ L2.Binds X.K (PySem.W.fnOf x x pg bg sg dV kV doc pm an cdv ct) [a] [] ∧
  FnScope Ng [a] sg ∧ Ng[0]? = some a ∧ Vis sg a ∧ (a == ("__debug__" : Str)) = false ∧ (a == ("__classdict__" : Str)) = false ∧ GivesS X Ng x sg g cdv bg a (X.env.qual ++ "<lambda>") k (TTof X.K ca c c1 f)
/-- the fields of the programs' exception classes -/
def fldsOf : Nat → List Str
  | 3 => ["part", "number"] | 4 => ["number"] | 5 => ["work"] | 8 => ["way"] | 12 => ["row"] | _ => []
/-- what an __init__ keeps of its arguments -/
def spInit (C : Addr) (fl : List Str) : Sp := fun vs H Q _ => ∃ (a : Addr) (ws : List V), vs = .ref a :: ws ∧ ws.length = fl.length ∧ H a = some (exo a C none) ∧
  ∀ (d : Addr) (H2 : Hp), H d = none → d ≠ a → H2 a = some (exo a C (some d)) → H2 d = some (exd d (fl.zip ws).reverse) → (∀ b, b ≠ a → b ≠ d → H2 b = H b) → Q .non H2
/-- a class with an __init__ of its own -/
def IniF (X : Cx) (ca : CA) (k : Nat) : Prop := OexC X.K (ca k) ∧ ∃ (n : Nat) (fI : Addr) (fd : FuncData) (ps : List Str), PySem.W.findIn X.K (.ref (ca k)) "__init__" = some (some (.ref fI)) ∧ PySem.W.typeIn X.K (.ref fI) = some (.type "function") ∧
  Room (n + 1) X.A ∧ Binds X.K fd ps [] ∧ FnOk X.prog X.w X.K X.mg X.base (L2.CX X.prog X.w) n fI fd ps (spInit (ca k) (fldsOf k))
/-- lambdas may be made -/
structure LamF (X : Cx) (C : Cc) (c : Call) (ca : CA) (hd : Hd) : Prop where
  hd0 : hd = Hd.no
  all : ∃ (c1 c2 : Call) (k : Nat) (cA P : Addr), Room (k + 2) X.A ∧ LamX.TabB X.base X.mg cA P ∧ X.env.code = .ref cA ∧ (P, X.env.qual ++ "<lambda>") ∈ ca.T ∧ (∀ p ∈ ca.T, p.1 = P → p.2 = X.env.qual ++ "<lambda>") ∧
    (∀ j cs b, C.lx.lams.lookup j = some (cs, b) → ∀ ds S, ds.length = cs.length → c1 j ds S = .bad ∨ c1 j ds S = (evE c2 b (plcD C.N.length cs (ds.map some)) S)) ∧ (∀ x f, C.lx.rcv.contains x = true → C.fns.lookup x = some (f, 1) → RecvF X ca c c1 k x f) ∧
    ∀ j cs b, C.lx.lams.lookup j = some (cs, b) → ∀ scope lb, LamX.lamSB C.sc scope = true → okE b (lamCc C scope) lb = true → ∀ (A : Around) (outer : List Env) (s : Shared) (H : Hp) (E : XK) (f c' : Addr), Room k (A.deeper (LamX.lamEnv X scope s.heap.objs.size f c')) →
      PE (LamX.lamCx X A outer s H E scope f c') lb (rdE X.K ca Hd.no c2 (fun cls d _ H' => E cls d H') b)
/-- the context is as the checker knows it -/
structure XC (X : Cx) (C : Cc) (c : Call) (ca : CA) (W : WX) (hd : Hd) : Prop where
  hN : X.N = C.N
  nd : X.N.Nodup
  sc : X.env.scope = C.sc
  calm : C.hot = false → X.calm = true
  fn : ∀ x, C.fnB x = true → X.fn x = true
  fns : C.hot = false → ∀ x f n, C.fns.lookup x = some (f, n) → ∃ k fA fd ps, Room k X.A ∧ X.mg x = some (.ref fA) ∧ PySem.W.keepIn X.K (.ref fA) = true ∧ Binds X.K fd ps [] ∧ ps.length = n ∧
    FnOk X.prog X.w X.K X.mg X.base (L2.CX X.prog X.w) k fA fd ps (spOf X.K ca c f n)
  cons : ∀ x d, C.cons.lookup x = some d → ∃ u v, X.mg x = some u ∧ RelV v u ∧ (∀ th H, RV X.K ca th H d v) ∧ KdF X.K X.w d v
  blt : ∀ x, C.blt.contains x = true → X.mg x = none
  takes : Takes X W
  un : X.A.units + 65 < cLine
  cold : C.hot = false → hd.x = none
  hotI : ∀ a D dd, hd.x = some (a, .ref D, dd) → ExcC X.K D → CallR X (.builtin "isinstance") (rIsEX X.K D a dd)
  hotF : ∀ a D dd, hd.x = some (a, .ref D, dd) → XfC X.K D → ∀ f, fldN f = true → PySem.W.findIn X.K (.ref D) f = some none → ∀ (e : Expr) (te : TE) (pos : Pos), (attributeBase e f X.env (eval e X.env) = eval e X.env) → PE X e te → PE X (.Attribute e f pos) (rXf a (.ref D) dd f te)
  act1 : C.lx.act = 1 → ∀ m, hd.l = some m → ∀ a, C.N[0]? = some a → ∀ pn xe W', Takes (X.tr pn xe) W' → ActP (X.tr pn xe) c ca W' m a
  act2 : C.lx.act = 2 → ∀ m, hd.l = some m → ∀ a, C.N[0]? = some a → ActP X c ca W m a
  lam : C.lx.mkl = true → LamF X C c ca hd
  stk : C.lx.act = 3 → X.stack = X.env :: X.outer ∧ X.env.frame = some X.env.locals
  gd : C.lx.act = 4 → X.A.guards = some []
  ini : C.hot = false → ∀ k, k ∈ knOf C.cls → noFld k = false → IniF X ca k
  clf : ∀ y j b, C.cls.lookup y = some (j, b) → ClF X.K X.mg (ca j) y
  knf : ∀ k, k ∈ knOf C.cls → KnF X.K ca C.cls k
theorem PE.imp {X : Cx} {e : Expr} {t t' : TE} (h : PE X e t) (k : ∀ s H Q, t' s H Q → t s H Q) : PE X e t' := ⟨fun pins s sg H Q I q => h.run pins s sg H Q I (k _ _ _ q)⟩
theorem PT.imp {X : Cx} {e : Expr} {t t' : TT} (h : PT X e t) (k : ∀ s H Q, t' s H Q → t s H Q) : PT X e t' := ⟨fun pins s sg H Q I q => h.run pins s sg H Q I (k _ _ _ q)⟩
theorem PW.imp {X : Cx} {e : Expr} {t t' : TT} (h : PW X e t) (k : ∀ s H Q, t' s H Q → t s H Q) : PW X e t' := ⟨fun w pins s sg H Q I q => h.run w pins s sg H Q I (k _ _ _ q)⟩
theorem PA.imp {X : Cx} {e : List Expr} {t t' : TA} (h : PA X e t) (k : ∀ s H Q, t' s H Q → t s H Q) : PA X e t' := ⟨fun p pins s sg H Q I q => h.run p pins s sg H Q I (k _ _ _ q)⟩
theorem PTs.imp {X : Cx} {e : List Expr} {t t' : TT} (h : PTs X e t) (k : ∀ s H Q, t' s H Q → t s H Q) : PTs X e t' := ⟨fun pins s sg H Q I q => h.run pins s sg H Q I (k _ _ _ q)⟩
theorem PO.imp {X : Cx} {e : Option Expr} {t t' : TO} (h : PO X e t) (k : ∀ s H Q, t' s H Q → t s H Q) : PO X e t' := ⟨fun pins s sg H Q I q => h.run pins s sg H Q I (k _ _ _ q)⟩
theorem PI.imp {X : Cx} {tg e : Expr} {t t' : TI} (h : PI X tg e t) (k : ∀ s H Q, t' s H Q → t s H Q) : PI X tg e t' := ⟨fun pins s sg H Q I q => h.run pins s sg H Q I (k _ _ _ q)⟩
theorem PG.imp {X : Cx} {e : Expr} {t t' : TG} (h : PG X e t) (k : ∀ v s H Q, t' v s H Q → t v s H Q) : PG X e t' := ⟨fun pins s sg H v u Q I r q => h.run pins s sg H v u Q I r (k _ _ _ _ q)⟩
theorem PGs.imp {X : Cx} {e : List Expr} {t t' : TGs} (h : PGs X e t) (k : ∀ v s H Q, t' v s H Q → t v s H Q) : PGs X e t' := ⟨fun pins s sg H v u Q I r q => h.run pins s sg H v u Q I r (k _ _ _ _ q)⟩
theorem PS.imp {X : Cx} {e : Stmt} {t t' : TS} (h : PS X e t) (k : ∀ D s H, t' D s H → t D s H) : PS X e t' := ⟨fun pins s sg H D I q => h.run pins s sg H D I (k _ _ _ q)⟩
theorem PSs.imp {X : Cx} {e : List Stmt} {t t' : TS} (h : PSs X e t) (k : ∀ D s H, t' D s H → t D s H) : PSs X e t' := ⟨fun pins s sg H D I q => h.run pins s sg H D I (k _ _ _ q)⟩
theorem visB_ok {sc : Scope} {x : Str} (h : visB sc x = true) : Vis sc x := by
  unfold visB at h
  split at h
  · rename_i e; exact .inl e
  · rename_i e; exact .inr (.inl e)
  · rename_i e; exact .inr (.inr e)
  · cases h
theorem locB_ok {sc : Scope} {x : Str} (h : locB sc x = true) : Loc sc x := by
  unfold locB at h
  split at h
  · rename_i e; exact .inl e
  · rename_i e; exact .inr e
  · cases h
theorem lclB_ok {sc : Scope} {x : Str} (h : lclB sc x = true) : sc.names.lookup x = some .local := by
  unfold lclB at h
  split at h
  · assumption
  · cases h
theorem glbB_ok {sc : Scope} {x : Str} (h : glbB sc x = true) : sc.names.lookup x = some .globalImplicit := by
  unfold glbB at h
  split at h
  · assumption
  · cases h
theorem dbgB_ok {x : Str} (h : dbgB x = true) : (x == ("__debug__" : Str)) = false ∧ (x == ("__classdict__" : Str)) = false ∧ x ≠ ("__name__" : Str) := by
  unfold dbgB at h
  simp only [Bool.and_eq_true, Bool.not_eq_true', decide_eq_true_eq] at h
  exact ⟨h.1.1, h.1.2, h.2⟩
section
variable {X : Cx} {C : Cc} {c : Call} {ca : CA} {W : WX}
variable {hd : Hd}
theorem XC.gl (h : XC X C c ca W hd) {x : Str} (n : namB C x = true) : Gl X x ∧ (x == ("__debug__" : Str)) = false ∧ x ≠ ("__name__" : Str) := by
  unfold namB at n
  rw [Bool.and_eq_true] at n
  refine ⟨?_, (dbgB_ok n.2).1, (dbgB_ok n.2).2.2⟩
  have q := glbB_ok n.1
  rw [← h.sc] at q
  exact q
theorem XC.slot (h : XC X C c ca W hd) {i : Nat} {x : Str} (n : slotB C i x = true) : X.N[i]? = some x := by
  rw [h.hN]
  exact of_decide_eq_true n
theorem XC.setOk (h : XC X C c ca W hd) {i : Nat} {x : Str} (n : setB C i x = true) : X.N[i]? = some x ∧ Loc X.env.scope x ∧ (X.fn x = true ∨ X.env.scope.names.lookup x = some .local) := by
  unfold setB at n
  rw [Bool.and_eq_true, Bool.and_eq_true, Bool.or_eq_true] at n
  refine ⟨h.slot n.1.1, by rw [h.sc]; exact locB_ok n.1.2, ?_⟩
  rcases n.2 with q | q
  · exact .inl (h.fn x q)
  · exact .inr (by rw [h.sc]; exact lclB_ok q)
end
theorem okE_star {m : E} {C : Cc} {e : Expr} (h : okE m C e = true) (es : List Expr) (env : Env) : starEach (e :: es) env = (false, eval e env) :: starEach es env := by
  cases e with
  | Starred v p => cases m <;> simp [okE] at h
  | _ => rfl
theorem okEs_plain : ∀ {ms : Es} {C : Cc} {es : List Expr}, okEs ms C es = true → ∀ (pos : Pos) (env : Env), (backTo pos (starEach es env)).any (·.1) = false
  | .nil, C, es, h, pos, env => by
    simp only [okEs, List.isEmpty_iff] at h
    subst h
    rfl
  | .cons m ms, C, es, h, pos, env => by
    cases es with
    | nil => simp [okEs] at h
    | cons e r =>
      simp only [okEs, Bool.and_eq_true] at h
      rw [okE_star h.1]
      have q := okEs_plain h.2 pos env
      simp only [backTo, List.map_cons, List.any_cons] at q ⊢
      simpa using q
theorem okEs_len : ∀ {ms : Es} {C : Cc} {es : List Expr}, okEs ms C es = true → es.length = ms.len
  | .nil, C, es, h => by
    simp only [okEs, List.isEmpty_iff] at h
    subst h
    rfl
  | .cons m ms, C, es, h => by
    cases es with
    | nil => simp [okEs] at h
    | cons e r =>
      simp only [okEs, Bool.and_eq_true] at h
      simp only [List.length_cons, Es.len, okEs_len h.2]
theorem okEs_all : ∀ {ms : Es} {C : Cc} {es : List Expr}, okEs ms C es = true → ∀ (pos : Pos) (env : Env), (backTo pos (starEach es env)).all (fun x => !x.1) = true
  | .nil, C, es, h, pos, env => by
    simp only [okEs, List.isEmpty_iff] at h
    subst h
    rfl
  | .cons m ms, C, es, h, pos, env => by
    cases es with
    | nil => simp [okEs] at h
    | cons e r =>
      simp only [okEs, Bool.and_eq_true] at h
      rw [okE_star h.1]
      have q := okEs_all h.2 pos env
      simp only [backTo, List.map_cons, List.all_cons] at q ⊢
      simpa using q
theorem okE_mark {m : E} {C : Cc} {e : Expr} (h : okE m C e = true) (op : CmpOp) : behindInMarks op e = false := by
  cases e with
  | Set a b p => cases m <;> simp [okE] at h
  | _ => rfl
theorem okE_plainIx {m : E} {C : Cc} {e : Expr} (h : okE m C e = true) : PlainIx e := by
  intro o i
  cases e with
  | Slice a b d p => cases m <;> simp [okE] at h
  | _ => rfl
theorem okE_set {m : E} {C : Cc} {e : Expr} (h : okE m C e = true) (env : Env) (x : Value) : foldedSetIterable e env x = pure x := by
  cases e with
  | Set a b p => cases m <;> simp [okE] at h
  | _ => rfl
theorem recvB_ok {e : Expr} (h : recvB e = true) (x : Str) (env : Env) : attributeBase e x env (eval e env) = eval e env := by
  unfold attributeBase
  split
  · simp [recvB] at h
  · rfl
theorem nocoB_ok {e : Expr} (h : nocoB e = true) (t : Option Expr) (l : Nat) (env : Env) : swapsWith e t l env = pure false := by
  cases e <;> first | rfl | (cases h)
section
variable {X : Cx} {ca : CA} {Wx : Value → Option Addr → Hp → Prop}
def rKin (K : PySem.W.Frag) (ca : CA) (Wx : Value → Option Addr → Hp → Prop) (neg : Bool) (kvs : List (Str × Int)) (dd : Addr) : R2 := fun x y H Q =>
  ∃ th S a, Rep K ca th H S ∧ RV K ca th H a x ∧ y = .ref dd ∧ Po K ca th H (RV K ca) Wx Q (kinD S neg kvs a)
theorem op_kin (neg : Bool) {kvs : List (Str × Int)} {dd : Addr} {es : Array DictEntry} {n : Nat} (D : KDict X.K X.w dd es n) (hz : ∀ z i, kvs.lookup z = some i → (i = -1 → PySem.W.nsIn X.K dd z = some none) ∧ (i ≠ -1 → ∃ u, PySem.W.nsIn X.K dd z = some (some u) ∧ RelV (.int i) u)) :
    OpR X (compareOp (if neg = true then .NotIn else .In)) (rKin X.K ca Wx neg kvs dd) := by
  intro pins s sg H x y v u Q I rx ry h
  obtain ⟨th, S, a, R, ha, rfl, h⟩ := h
  unfold kinD at h
  split at h
  · rename_i z
    split at h
    · rename_i i hi
      obtain ⟨k1, k2⟩ := hz z i hi
      cases ha.str_inv
      by_cases hm : i = -1
      · rw [if_pos hm] at h
        cases neg with
        | true => exact op_notIn_kd D pins s sg H _ _ v u Q I rx ry ⟨z, none, rfl, rfl, k1 hm, h.ok R (.bl _)⟩
        | false => exact op_in_kd D pins s sg H _ _ v u Q I rx ry ⟨z, none, rfl, rfl, k1 hm, h.ok R (.bl _)⟩
      · rw [if_neg hm] at h
        obtain ⟨u0, h1, h2⟩ := k2 hm
        cases neg with
        | true => exact op_notIn_kd D pins s sg H _ _ v u Q I rx ry ⟨z, some u0, rfl, rfl, h1, h.ok R (.bl _)⟩
        | false => exact op_in_kd D pins s sg H _ _ v u Q I rx ry ⟨z, some u0, rfl, rfl, h1, h.ok R (.bl _)⟩
    · exact h.elim
  · exact h.elim
def rKix (K : PySem.W.Frag) (ca : CA) (Wx : Value → Option Addr → Hp → Prop) (kvs : List (Str × Int)) (dd : Addr) : R2 := fun x y H Q =>
  ∃ th S a, Rep K ca th H S ∧ x = .ref dd ∧ RV K ca th H a y ∧ Po K ca th H (RV K ca) Wx Q (kixD S kvs a)
theorem ix_kix {kvs : List (Str × Int)} {dd : Addr} {es : Array DictEntry} {n : Nat} (D : KDict X.K X.w dd es n) (hz : ∀ z i, kvs.lookup z = some i → (i = -1 → PySem.W.nsIn X.K dd z = some none) ∧ (i ≠ -1 → ∃ u, PySem.W.nsIn X.K dd z = some (some u) ∧ RelV (.int i) u)) :
    IxR X (rKix X.K ca Wx kvs dd) := by
  intro value slice pins s sg H x y v u Q I rx ry h hs
  obtain ⟨th, S, a, R, rfl, ha, h⟩ := h
  unfold kixD at h
  split at h
  · rename_i z
    split at h
    · rename_i i hi
      by_cases hm : i = -1
      · rw [if_pos hm] at h; exact h.elim
      rw [if_neg hm] at h
      obtain ⟨u0, h1, h2⟩ := (hz z i hi).2 hm
      cases ha.str_inv
      exact ix_kdict value slice pins s sg H _ _ v u Q I rx ry ⟨dd, z, .int i, rfl, rfl, ⟨es, n, u0, D.at_, D.lit, h1, h2⟩, h.ok R (.int i)⟩ hs
    · exact h.elim
  · exact h.elim
end
end HP
namespace HP
open PySem L2 PySem.Spec PyProof.Rows
mutual
def Tg.slots : Tg → List Nat
  | .name i => [i]
  | .tup ts => ts.slots
def Tgs.slots : Tgs → List Nat
  | .nil => []
  | .cons t ts => t.slots ++ ts.slots
end
/-- the same but for these slots -/
def Off (ss : List Nat) (sg sg' : L2.St) : Prop := sg'.length = sg.length ∧ ∀ i, i ∉ ss → sg'[i]? = sg[i]?
theorem Off.refl (sg : L2.St) : Off [] sg sg := ⟨rfl, fun _ _ => rfl⟩
theorem Off.trans {a b : List Nat} {s1 s2 s3 : L2.St} (h : Off a s1 s2) (k : Off b s2 s3) : Off (a ++ b) s1 s3 :=
  ⟨k.1.trans h.1, fun i hi => by
    rw [List.mem_append, not_or] at hi
    rw [k.2 i hi.2, h.2 i hi.1]⟩
theorem Off.set (sg : L2.St) (i : Nat) (v : Option V) : Off [i] sg (sg.set i v) := ⟨by simp, fun j hj => by
  have : i ≠ j := fun z => hj (by simp [z])
  rw [List.getElem?_set_ne this]⟩
theorem wipe_get {sg : L2.St} : ∀ {vs : List Nat} {i : Nat}, (L2.wipe sg vs)[i]? = if i ∈ vs then (if i < sg.length then some none else none) else sg[i]?
  | [], i => by simp [L2.wipe]
  | v :: vs, i => by
    unfold L2.wipe
    by_cases h : v = i
    · subst h
      by_cases hl : v < sg.length
      · rw [List.getElem?_set_self (by rw [wipe_length]; exact hl)]
        simp [hl]
      · rw [List.getElem?_eq_none (by rw [List.length_set, wipe_length]; omega)]
        simp [hl]
    · rw [List.getElem?_set_ne h, wipe_get]
      have : i ≠ v := fun z => h z.symm
      simp [this]
theorem wipe_off {a vs : List Nat} {s1 s2 : L2.St} (h : Off a (L2.wipe s1 vs) s2) (k : ∀ i ∈ a, i ∈ vs) : L2.wipe s2 vs = L2.wipe s1 vs := by
  have hl := h.1
  rw [wipe_length] at hl
  apply List.ext_getElem?
  intro i
  rw [wipe_get, wipe_get]
  by_cases hi : i ∈ vs
  · rw [if_pos hi, if_pos hi, hl]
  · rw [if_neg hi, if_neg hi, h.2 i (fun z => hi (k i z)), wipe_get, if_neg hi]
section
variable {K : PySem.W.Frag} {ca : CA} {hd : Hd}
def rdG (K : PySem.W.Frag) (ca : CA) (hd : Hd) (t : Tg) : TG := fun v sg H Q => ∃ th S r d r', Sim K ca hd th H S r sg ∧ RV K ca th H d v ∧ asgT t d r = some r' ∧ ∀ sg', Sim K ca hd th H S r' sg' → Off t.slots sg sg' → Q sg' H
def rdGs (K : PySem.W.Frag) (ca : CA) (hd : Hd) (t : Tgs) : TGs := fun vs sg H Q => ∃ th S r ds r', Sim K ca hd th H S r sg ∧ RVs K ca th H ds vs ∧ asgTs t ds r = some r' ∧ ∀ sg', Sim K ca hd th H S r' sg' → Off t.slots sg sg' → Q sg' H
end
section
variable {X : Cx} {c : Call} {ca : CA} {W : WX} {hd : Hd}
theorem assignEach_one {t : Tg} {C : Cc} {own : List Nat} {e : Expr} (h : okTg t C own e = true) (es : List Expr) (env : Env) : (assignEach (e :: es) env).map (·.2) = assign e env :: (assignEach es env).map (·.2) := by
  cases e with
  | Starred v p => cases t <;> simp [okTg] at h
  | _ => rfl
theorem assignEach_len {t : Tgs} {C : Cc} {own : List Nat} : ∀ {es : List Expr}, okTgs t C own es = true → ∀ env : Env, (assignEach es env).length = es.length ∧ (assignEach es env).findIdx? (·.1) = none := by
  cases t with
  | nil =>
    intro es h env
    simp only [okTgs, List.isEmpty_iff] at h
    subst h
    exact ⟨rfl, rfl⟩
  | cons t ts =>
    intro es h env
    cases es with
    | nil => simp [okTgs] at h
    | cons e r =>
      simp only [okTgs, Bool.and_eq_true] at h
      obtain ⟨h1, h2⟩ := assignEach_len h.2 env
      have e1 : assignEach (e :: r) env = (false, assign e env) :: assignEach r env := by
        cases e with
        | Starred v p => cases t <;> simp [okTg] at h
        | _ => rfl
      rw [e1]
      refine ⟨by simp [h1], ?_⟩
      rw [List.findIdx?_cons]
      simp [h2]
termination_by structural t
mutual
theorem soundG : ∀ (t : Tg) {C : Cc} {own : List Nat} {e : Expr}, XC X C c ca W hd → okTg t C own e = true → PG X e (rdG X.K ca hd t)
  | .name i, C, own, e, hX, h => by
    cases e with
    | Name x p =>
      simp only [okTg, Bool.and_eq_true] at h
      obtain ⟨h1, h2, h3⟩ := hX.setOk h.1
      refine PG.imp (pg_name (i := i) hX.nd h1 h2 h3) fun v sg H Q q => ?_
      obtain ⟨th, S, r, d, r', m, rv, e1, q⟩ := q
      cases e1
      exact q _ (m.set (.inl rv)) (Off.set _ _ _)
    | _ => simp [okTg] at h
  | .tup ts, C, own, e, hX, h => by
    cases e with
    | Tuple es k p =>
      simp only [okTg, Bool.and_eq_true, Bool.not_eq_true'] at h
      obtain ⟨h1, h2⟩ := assignEach_len h.2 X.env
      refine PG.imp (pg_tup (hX.calm h.1) (soundGs ts hX h.2) h1 h2) fun v sg H Q q => ?_
      obtain ⟨th, S, r, d, r', m, rv, e1, q⟩ := q
      cases d with
      | tup ds =>
        simp only [asgT] at e1
        obtain ⟨a, vs, rfl, hs, hr⟩ := rv.tup_inv
        refine ⟨a, vs, rfl, hs, ?_, th, S, _, ds, r', m, hr, e1, q⟩
        rw [← hr.length]
        exact (asgTs_len ts ds _ r' e1 h.2).symm
      | _ => simp [asgT] at e1
    | _ => simp [okTg] at h
theorem asgTs_len : ∀ (ts : Tgs) (ds : List D) (r r' : Ev), asgTs ts ds r = some r' → ∀ {C : Cc} {own : List Nat} {es : List Expr}, okTgs ts C own es = true → es.length = ds.length
  | .nil, ds, r, r', e, C, own, es, h => by
    simp only [okTgs, List.isEmpty_iff] at h
    subst h
    cases ds with
    | nil => rfl
    | cons d ds => simp [asgTs] at e
  | .cons t ts, ds, r, r', e, C, own, es, h => by
    cases es with
    | nil => simp [okTgs] at h
    | cons x xs =>
      simp only [okTgs, Bool.and_eq_true] at h
      cases ds with
      | nil => simp [asgTs] at e
      | cons d ds =>
        simp only [asgTs] at e
        split at e
        · rename_i r1 e1
          rw [List.length_cons, List.length_cons, asgTs_len ts ds r1 r' e h.2]
        · cases e
theorem soundGs : ∀ (ts : Tgs) {C : Cc} {own : List Nat} {es : List Expr}, XC X C c ca W hd → okTgs ts C own es = true → PGs X es (rdGs X.K ca hd ts)
  | .nil, C, own, es, hX, h => by
    simp only [okTgs, List.isEmpty_iff] at h
    subst h
    refine PGs.imp pgs_nil fun vs sg H Q q => ?_
    obtain ⟨th, S, r, ds, r', m, rv, e1, q⟩ := q
    cases ds with
    | nil =>
      cases e1
      exact ⟨rv.nil_inv, q _ m (Off.refl _)⟩
    | cons d ds => simp [asgTs] at e1
  | .cons t ts, C, own, es, hX, h => by
    cases es with
    | nil => simp [okTgs] at h
    | cons e r =>
      simp only [okTgs, Bool.and_eq_true] at h
      refine PGs.imp (pgs_cons (soundG t hX h.1) (soundGs ts hX h.2) (assignEach_one h.1 _ _)) fun vs sg H Q q => ?_
      obtain ⟨th, S, r, ds, r', m, rv, e1, q⟩ := q
      cases ds with
      | nil => simp [asgTs] at e1
      | cons d ds =>
        simp only [asgTs] at e1
        split at e1
        · rename_i r1 e2
          cases rv with
          | cons h1 h2 =>
            rename_i v vs
            exact ⟨v, vs, rfl, th, S, r, d, r1, m, h1, e2, fun sg' m' o => ⟨th, S, r1, ds, r', m', h2, e1, fun sg2 m2 o2 => q sg2 m2 (o.trans o2)⟩⟩
        · cases e1
end
/-- .. a list taken apart -/
def rdGL (K : PySem.W.Frag) (ca : CA) (hd : Hd) (t : Tg) : TG := fun v sg H Q => ∃ th S r d r', Sim K ca hd th H S r sg ∧ RV K ca th H d v ∧ asgT t (unL S d) r = some r' ∧ ∀ sg', Sim K ca hd th H S r' sg' → Off t.slots sg sg' → Q sg' H
theorem soundGL (ts : Tgs) {C : Cc} {own : List Nat} {e : Expr} (hX : XC X C c ca W hd) (h : okTg (.tup ts) C own e = true) : PG X e (rdGL X.K ca hd (.tup ts)) := by
  refine ⟨fun pins s sg H v u Q I ru q => ?_⟩
  have hG := soundG (.tup ts) (hd := hd) hX h
  obtain ⟨th, S, r, d, r', m, rv, e1, q⟩ := q
  cases d with
  | loc l =>
    simp only [unL] at e1
    split at e1
    · rename_i ds he
      obtain ⟨a, vs, rfl, h0, h1, hr⟩ := rv.lst_inv m.rep he
      cases e with
      | Tuple es k p =>
        simp only [okTg, Bool.and_eq_true, Bool.not_eq_true'] at h
        obtain ⟨g1, g2⟩ := assignEach_len h.2 X.env
        simp only [asgT] at e1
        refine (pg_lst (hX.calm h.1) (soundGs ts (hd := hd) hX h.2) g1 g2).run pins s sg H _ u Q I ru ⟨a, vs, rfl, .inl (.inl h1), ?_, th, S, _, ds, r', m, hr, e1, q⟩
        rw [← hr.length]
        exact (asgTs_len (X := X) (c := c) (ca := ca) (W := W) (hd := hd) ts ds _ r' e1 h.2).symm
      | _ => simp [okTg] at h
    · simp [asgT] at e1
  | _ => exact hG.run pins s sg H v u Q I ru ⟨th, S, r, _, r', m, rv, e1, q⟩
end
end HP
namespace HP
open PySem L2 PySem.Spec PyProof.Rows
section
variable {K : PySem.W.Frag} {ca : CA} {hd : Hd}
/-- the iterator J walks ds, as long as the lists ck stand still -/
structure ItOk (K : PySem.W.Frag) (ca : CA) (th : List Addr) (H : Hp) (p : List D × Ck) (J : L2.It) : Prop where
  go : ∀ th' H' S', Go th H th' H' → Rep K ca th' H' S' → Still p.2 S' → ∀ (i : Nat) (d : D), p.1[i]? = some d → J.go i H' ∧ ∀ x H2, J.yld i H' x H2 → Go th' H' th' H2 ∧ Rep K ca th' H2 S' ∧ RV K ca th' H2 d x
  stop : ∀ th' H' S', Go th H th' H' → Rep K ca th' H' S' → Still p.2 S' → J.stop p.1.length H'
theorem ItOk.later {th th1 : List Addr} {H H1 : Hp} {p : List D × Ck} {J : L2.It} (g : Go th H th1 H1) (h : ItOk K ca th H p J) : ItOk K ca th1 H1 p J :=
  ⟨fun th' H' S' g' => h.go th' H' S' (g.trans g'), fun th' H' S' g' => h.stop th' H' S' (g.trans g')⟩
abbrev relI (K : PySem.W.Frag) (ca : CA) : List Addr → Hp → List D × Ck → L2.It → Prop := fun th H p J => ItOk K ca th H p J
section
variable {X : Cx} {pins : List (Addr × Obj)} {sg : L2.St} {H : Hp} {s : Shared}
theorem still_one {S : Sto} {l : Nat} {ds : List D} (h : Still [(l, ds)] S) : S[l]? = some (.lst ds) := h (l, ds) (by simp)
theorem still_app {S : Sto} {a b : Ck} (h : Still (a ++ b) S) : Still a S ∧ Still b S := ⟨fun p hp => h p (List.mem_append_left _ hp), fun p hp => h p (List.mem_append_right _ hp)⟩
end
/-- a list that is walked: what its items are at any turn -/
def LstAt (K : PySem.W.Frag) (ca : CA) (th : List Addr) (H : Hp) (a : Addr) (p : List D × Ck) : Prop :=
  ∀ th' H' S', Go th H th' H' → Rep K ca th' H' S' → Still p.2 S' → ∃ vs, SqL K H' a vs ∧ RVs K ca th' H' p.1 vs
theorem itLst_ok {th : List Addr} {H : Hp} {S : Sto} {d : D} {v : V} {p : List D × Ck} (R : Rep K ca th H S) (rv : RV K ca th H d v) (e : itLst S d = some p) : ∃ a vs, v = .ref a ∧ SqL K H a vs ∧ LstAt K ca th H a p := by
  cases d with
  | frl ds =>
    cases e
    obtain ⟨a, vs, rfl, h1, h2⟩ := rv.frl_inv
    exact ⟨a, vs, rfl, h1.sq, fun th' H' S' g R' _ => ⟨vs, (g.frm.fz h1).sq, h2.go g⟩⟩
  | loc l =>
    unfold itLst at e
    dsimp only at e
    split at e
    · rename_i ds he
      cases e
      obtain ⟨a, vs, rfl, h0, h1, h2⟩ := rv.lst_inv R he
      refine ⟨a, vs, rfl, .inl (.inl h1), fun th' H' S' g R' st => ?_⟩
      obtain ⟨ws, h3, h4⟩ := R'.obj l a _ (g.at h0) (still_one st)
      exact ⟨ws, .inl (.inl h3), h4⟩
    · cases e
  | _ => cases e
variable {X : Cx}
theorem itl_ok {th : List Addr} {H : Hp} {a : Addr} {p : List D × Ck} (h : LstAt K ca th H a p) : ItOk K ca th H p (Itl K a) := by
  refine ⟨fun th' H' S' g R st i d hd => ?_, fun th' H' S' g R st => ?_⟩
  · obtain ⟨vs, h1, h2⟩ := h th' H' S' g R st
    obtain ⟨v, h3, h4⟩ := h2.get hd
    refine ⟨⟨vs, v, h1, h3⟩, fun x H2 y => ?_⟩
    obtain ⟨rfl, y⟩ := y
    have e : x = v := Option.some.inj ((y vs h1).symm.trans h3)
    subst e
    exact ⟨Go.refl _ _, R, h4⟩
  · obtain ⟨vs, h1, h2⟩ := h th' H' S' g R st
    exact ⟨vs, h1, by rw [h2.length]; exact Nat.le_refl _⟩
theorem itt_ok {th : List Addr} {H : Hp} {a : Addr} {ds : List D} {vs : List V} (h1 : SqT K H a vs) (h2 : RVs K ca th H ds vs) : ItOk K ca th H (ds, []) (Itt K a) := by
  refine ⟨fun th' H' S' g R st i d hd => ?_, fun th' H' S' g R st => ?_⟩
  · obtain ⟨v, h3, h4⟩ := (h2.go g).get hd
    have h1' := g.frm.sqT h1
    refine ⟨⟨vs, v, h1', h3⟩, fun x H2 y => ?_⟩
    obtain ⟨rfl, y⟩ := y
    have e : x = v := Option.some.inj ((y vs h1').symm.trans h3)
    subst e
    exact ⟨Go.refl _ _, R, h4⟩
  · exact ⟨vs, g.frm.sqT h1, by rw [← h2.length]; exact Nat.le_refl _⟩
theorem its_ok {th : List Addr} {H : Hp} {z : Str} : ItOk K ca th H (z.cps.toList.map fun c => D.str ⟨#[c]⟩, []) (Its z) := by
  refine ⟨fun th' H' S' g R st i d hd => ?_, fun th' H' S' g R st => ?_⟩
  · have hd' : (z.cps.toList.map fun c => D.str ⟨#[c]⟩)[i]? = some d := hd
    rw [List.getElem?_map] at hd'
    obtain ⟨c, h1, h2⟩ := map_some hd'
    have hc : z.cps[i]? = some c := by rw [← h1, Array.getElem?_toList]
    refine ⟨(Array.getElem?_eq_some_iff.mp hc).1, fun x H2 y => ?_⟩
    obtain ⟨rfl, c', h3, h4⟩ := y
    rw [hc] at h3
    cases h3
    subst h2 h4
    exact ⟨Go.refl _ _, R, .str _⟩
  · show z.cps.size ≤ _
    simp
theorem rngL_get {lo : Int} {n i : Nat} {d : D} (h : (rngL lo n)[i]? = some d) : i < n ∧ d = .int (lo + (i : Nat)) := by
  unfold rngL at h
  rw [List.getElem?_map] at h
  obtain ⟨j, h1, h2⟩ := map_some h
  obtain ⟨h3, h4⟩ := List.getElem?_eq_some_iff.mp h1
  rw [List.length_range] at h3
  rw [List.getElem_range] at h4
  subst h4
  exact ⟨h3, h2.symm⟩
theorem rngL_len {lo : Int} {n : Nat} : (rngL lo n).length = n := by simp [rngL]
theorem itr_ok {th : List Addr} {H : Hp} {lo : Int} {n : Nat} : ItOk K ca th H (rngL lo n, []) (Itr lo n) := by
  refine ⟨fun th' H' S' g R st i d hd => ?_, fun th' H' S' g R st => ?_⟩
  · obtain ⟨h1, h2⟩ := rngL_get hd
    refine ⟨h1, fun x H2 y => ?_⟩
    obtain ⟨rfl, rfl⟩ := y
    subst h2
    exact ⟨Go.refl _ _, R, .int _⟩
  · show n ≤ _
    rw [rngL_len]
    exact Nat.le_refl _
theorem itrC_ok {th : List Addr} {H : Hp} {lo c : Int} {n : Nat} : ItOk K ca th H (rngC lo c n, []) (Itc lo c n) := by
  refine ⟨fun th' H' S' g R st i d hd => ?_, fun th' H' S' g R st => ?_⟩
  · have hd' : (rngC lo c n)[i]? = some d := hd
    unfold rngC at hd'
    rw [List.getElem?_map] at hd'
    obtain ⟨j, h1, h2⟩ := map_some hd'
    obtain ⟨h3, h4⟩ := List.getElem?_eq_some_iff.mp h1
    rw [List.length_range] at h3
    rw [List.getElem_range] at h4
    subst h4
    refine ⟨h3, fun x H2 y => ?_⟩
    obtain ⟨rfl, rfl⟩ := y
    subst h2
    exact ⟨Go.refl _ _, R, .int _⟩
  · show n ≤ _
    simp [rngC]
theorem enmL_get : ∀ {ds : List D} {n i : Nat} {d : D}, (enmL n ds)[i]? = some d → ∃ e, ds[i]? = some e ∧ d = .tup [.int ((n + i : Nat) : Int), e]
  | [], n, i, d, h => by simp [enmL] at h
  | x :: ds, n, 0, d, h => by
    simp [enmL] at h
    exact ⟨x, by simp, by rw [← h]; simp⟩
  | x :: ds, n, i + 1, d, h => by
    simp only [enmL, List.getElem?_cons_succ] at h
    obtain ⟨e, h1, h2⟩ := enmL_get h
    refine ⟨e, by simpa using h1, ?_⟩
    rw [h2]
    have : n + 1 + i = n + (i + 1) := by omega
    rw [this]
theorem enmL_len : ∀ {ds : List D} {n : Nat}, (enmL n ds).length = ds.length
  | [], n => rfl
  | x :: ds, n => by simp [enmL, enmL_len]
theorem ite_ok {th : List Addr} {H : Hp} {a : Addr} {ds : List D} {ck : Ck} (h : LstAt K ca th H a (ds, ck)) : ItOk K ca th H (enmL 0 ds, ck) (Ite K a) := by
  refine ⟨fun th' H' S' g R st i d hd => ?_, fun th' H' S' g R st => ?_⟩
  · obtain ⟨vs, h1, h2⟩ := h th' H' S' g R st
    obtain ⟨e, h5, h6⟩ := enmL_get hd
    obtain ⟨v, h3, h4⟩ := h2.get h5
    refine ⟨⟨vs, v, h1, h3⟩, fun x H2 y => ?_⟩
    obtain ⟨T, w, rfl, hT, rfl, y⟩ := y
    have e1 : w = v := Option.some.inj ((y vs h1).symm.trans h3)
    subst e1
    subst h6
    refine ⟨Go.lay hT, R.lay hT, .tup (.inl (.inl upd_same)) (.inr upd_same) (.cons ?_ (.one (h4.go (Go.lay hT))))⟩
    rw [Nat.zero_add]
    exact .int _
  · obtain ⟨vs, h1, h2⟩ := h th' H' S' g R st
    refine ⟨vs, h1, ?_⟩
    show vs.length ≤ (enmL 0 ds).length
    have q : ds.length = vs.length := h2.length
    rw [enmL_len, q]
    exact Nat.le_refl _
theorem zipL_get : ∀ {as bs : List D} {i : Nat} {d : D}, (zipL as bs)[i]? = some d → ∃ x y, as[i]? = some x ∧ bs[i]? = some y ∧ d = .tup [x, y]
  | [], bs, i, d, h => by simp [zipL] at h
  | a :: as, [], i, d, h => by simp [zipL] at h
  | a :: as, b :: bs, 0, d, h => by
    simp [zipL] at h
    exact ⟨a, b, by simp, by simp, h.symm⟩
  | a :: as, b :: bs, i + 1, d, h => by
    simp only [zipL, List.getElem?_cons_succ] at h
    obtain ⟨x, y, h1, h2, h3⟩ := zipL_get h
    exact ⟨x, y, by simpa using h1, by simpa using h2, h3⟩
theorem zipL_len : ∀ {as bs : List D}, (zipL as bs).length = min as.length bs.length
  | [], bs => by simp [zipL]
  | a :: as, [] => by simp [zipL]
  | a :: as, b :: bs => by simp [zipL, zipL_len]
theorem itz_ok {th : List Addr} {H : Hp} {a b : Addr} {xs ys : List D} {ck ck2 : Ck} (h : LstAt K ca th H a (xs, ck)) (k : LstAt K ca th H b (ys, ck2)) : ItOk K ca th H (zipL xs ys, ck ++ ck2) (Itz K a b) := by
  refine ⟨fun th' H' S' g R st i d hd => ?_, fun th' H' S' g R st => ?_⟩
  · obtain ⟨vs, h1, h2⟩ := h th' H' S' g R (still_app st).1
    obtain ⟨ws, k1, k2⟩ := k th' H' S' g R (still_app st).2
    obtain ⟨x, y, h5, h6, h7⟩ := zipL_get hd
    obtain ⟨v, h3, h4⟩ := h2.get h5
    obtain ⟨w, k3, k4⟩ := k2.get h6
    refine ⟨⟨vs, ws, v, w, h1, k1, h3, k3⟩, fun z H2 y => ?_⟩
    obtain ⟨T, v', w', rfl, hT, rfl, y1, y2⟩ := y
    have e1 : v' = v := Option.some.inj ((y1 vs h1).symm.trans h3)
    have e2 : w' = w := Option.some.inj ((y2 ws k1).symm.trans k3)
    subst e1 e2 h7
    exact ⟨Go.lay hT, R.lay hT, .tup (.inl (.inl upd_same)) (.inr upd_same) (.cons (h4.go (Go.lay hT)) (.one (k4.go (Go.lay hT))))⟩
  · obtain ⟨vs, h1, h2⟩ := h th' H' S' g R (still_app st).1
    obtain ⟨ws, k1, k2⟩ := k th' H' S' g R (still_app st).2
    refine ⟨vs, ws, h1, k1, ?_⟩
    show vs.length ≤ (zipL xs ys).length ∨ ws.length ≤ (zipL xs ys).length
    have q1 : xs.length = vs.length := h2.length
    have q2 : ys.length = ws.length := k2.length
    rw [zipL_len]
    omega
theorem itzT_ok {th : List Addr} {H : Hp} {a b : Addr} {xs ys : List D} {vs ws : List V} (h1 : SqT K H a vs) (h2 : RVs K ca th H xs vs) (k1 : SqT K H b ws) (k2 : RVs K ca th H ys ws) : ItOk K ca th H (zipL xs ys, []) (RZ.ItzT K a b) := by
  refine ⟨fun th' H' S' g R st i d hd => ?_, fun th' H' S' g R st => ?_⟩
  · obtain ⟨x, y, h5, h6, h7⟩ := zipL_get hd
    obtain ⟨v, h3, h4⟩ := (h2.go g).get h5
    obtain ⟨w, k3, k4⟩ := (k2.go g).get h6
    have h1' := g.frm.sqT h1
    have k1' := g.frm.sqT k1
    refine ⟨⟨vs, ws, v, w, h1', k1', h3, k3⟩, fun z H2 y => ?_⟩
    obtain ⟨T, v', w', rfl, hT, rfl, y1, y2⟩ := y
    have e1 : v' = v := Option.some.inj ((y1 vs h1').symm.trans h3)
    have e2 : w' = w := Option.some.inj ((y2 ws k1').symm.trans k3)
    subst e1 e2 h7
    exact ⟨Go.lay hT, R.lay hT, .tup (.inl (.inl upd_same)) (.inr upd_same) (.cons (h4.go (Go.lay hT)) (.one (k4.go (Go.lay hT))))⟩
  · refine ⟨vs, ws, g.frm.sqT h1, g.frm.sqT k1, ?_⟩
    show vs.length ≤ (zipL xs ys).length ∨ ws.length ≤ (zipL xs ys).length
    have q1 := h2.length
    have q2 := k2.length
    rw [zipL_len]
    omega
end
abbrev W0 : WX := fun _ _ _ _ => False
theorem drop_get {A : Type} {l : List A} {i : Nat} {x : A} (h : l[i]? = some x) : l.drop i = x :: l.drop (i + 1) := by
  obtain ⟨h1, h2⟩ := List.getElem?_eq_some_iff.mp h
  rw [List.drop_eq_getElem_cons h1, h2]
section
variable {K : PySem.W.Frag} {ca : CA} {hd : Hd} {c : Call} {W : WX}
abbrev rdC (K : PySem.W.Frag) (ca : CA) (hd : Hd) (c : Call) (W : WX) (m : Eo) : TT := rdX K ca hd W relEq (evC c m)
abbrev rdI (K : PySem.W.Frag) (ca : CA) (hd : Hd) (c : Call) (W : WX) (m : It) : TI := rdX K ca hd W (relI K ca) (evI c m)
abbrev rdO (K : PySem.W.Frag) (ca : CA) (hd : Hd) (c : Call) (W : WX) (m : Eo) : TO := rdX K ca hd W relEq (evO c m)
theorem tLc_of {x : E} {tg : Tg} {it : It} {cd : Eo} {own : List Nat} (hb : eoX cd = false) (hs : ∀ i ∈ tg.slots, i ∈ own) {sg : L2.St} {H : Hp} {Q : VK} (h : rdE K ca hd c W (.lc x tg it cd own) sg H Q) :
    tLc (rdI K ca hd c W it) (rdG K ca hd tg) (rdC K ca hd c W0 cd) (rdE K ca hd c W0 x) own sg H Q := by
  obtain ⟨th, S, r, m, h⟩ := h
  simp only [evE] at h
  rw [hb] at h
  refine ⟨th, S, r, m, Po.bnd h fun p S1 th1 H1 J g1 R1 it1 q D hD => ?_⟩
  obtain ⟨ds, ck⟩ := p
  dsimp only at q
  generalize hf : (fun d S2 => match asgT tg d (wipeD r own) with
        | none => (.bad : R (Option HP.D))
        | some r2 => (evC c cd r2 S2).bnd fun k S3 => if k = true then (evE c x r2 S3).bnd fun y S4 => .ok (some y) S4 else .ok none S3) = f at q
  have hl0 : (th1 ++ [D])[S1.length]? = some D := by rw [← R1.len, List.getElem?_append_right (Nat.le_refl _)]; simp
  refine ⟨fun i n Hc => n + i = ds.length ∧ ∃ th' S', Go (th1 ++ [D]) (upd H1 D (.lst [])) th' Hc ∧ Rep K ca th' Hc S' ∧ Po K ca th' Hc (RV K ca) (fun cls dd H' => W cls dd sg H') Q (compL false ck S1.length f (ds.drop i) S'),
    ⟨ds.length, rfl, th1 ++ [D], S1 ++ [O.lst []], Go.refl _ _, R1.new hD (o := O.lst []) (RO.lstI upd_same .nil), by rw [List.drop_zero]; exact Po.later (Go.new hD) q⟩, ?_⟩
  rintro i n Hc ⟨en, th', S', g', R', q'⟩
  have gI : Go th1 H1 th' Hc := (Go.new hD).trans g'
  have hl : th'[S1.length]? = some D := g'.at hl0
  cases e : ds[i]? with
  | none =>
    have hi : ds.length ≤ i := List.getElem?_eq_none_iff.mp e
    have hi' : i = ds.length := by omega
    rw [List.drop_eq_nil_iff.mpr hi] at q'
    unfold compL at q'
    split at q'
    · rename_i st
      refine .inl ⟨?_, q'.ok R' (.loc hl)⟩
      rw [hi']
      exact it1.stop th' Hc S' gI R' st
    · exact q'.elim
  | some d =>
    have hi : i < ds.length := (List.getElem?_eq_some_iff.mp e).1
    rw [drop_get e] at q'
    unfold compL at q'
    split at q'
    · rename_i st
      obtain ⟨g0, y0⟩ := it1.go th' Hc S' gI R' st i d e
      refine .inr ⟨g0, fun H' => (n - 1) + (i + 1) = ds.length ∧ ∃ th2 S2, Go (th1 ++ [D]) (upd H1 D (.lst [])) th2 H' ∧ Rep K ca th2 H' S2 ∧ Po K ca th2 H' (RV K ca) (fun cls dd H' => W cls dd sg H') Q (compL false ck S1.length f (ds.drop (i + 1)) S2),
        fun H' hN => ⟨n - 1, by omega, hN⟩, fun v H2 y => ?_⟩
      obtain ⟨g2, R2, rv⟩ := y0 v H2 y
      have ef : f d S' = (match asgT tg d (wipeD r own) with
        | none => (.bad : R (Option HP.D))
        | some r2 => (evC c cd r2 S').bnd fun k S3 => if k = true then (evE c x r2 S3).bnd fun y S4 => .ok (some y) S4 else .ok none S3) := by rw [← hf]
      cases ea : asgT tg d (wipeD r own) with
      | none => rw [ef, ea] at q'; exact q'.elim
      | some r2 =>
        rw [ea] at ef
        dsimp only at ef
        have gA : Go th H th' H2 := (g1.trans gI).trans g2
        have m2 : Sim K ca hd th' H2 S' (wipeD r own) (L2.wipe sg own) := (m.go R2 gA).wipe own
        refine ⟨th', S', _, d, r2, m2, rv, ea, fun sg2 m3 off => ⟨wipe_off off hs, ?_⟩⟩
        have gB : Go (th1 ++ [D]) (upd H1 D (.lst [])) th' H2 := g'.trans g2
        refine ⟨th', S', r2, m3, ?_⟩
        cases ec : evC c cd r2 S' with
        | bad => rw [ef, ec] at q'; exact q'.elim
        | exn y S3 => rw [ef, ec] at q'; exact q'.elim
        | ok k S3 =>
          rw [ec] at ef
          dsimp only [R.bnd] at ef
          refine fun th3 H3 b g3 R3 eb => ?_
          subst eb
          have gC : Go (th1 ++ [D]) (upd H1 D (.lst [])) th3 H3 := gB.trans g3
          cases k with
          | false =>
            rw [if_neg Bool.false_ne_true] at ef
            rw [if_neg Bool.false_ne_true]
            rw [ef] at q'
            exact ⟨by omega, th3, S3, gC, R3, Po.later (g2.trans g3) q'⟩
          | true =>
            rw [if_pos rfl] at ef
            rw [if_pos rfl]
            refine ⟨th3, S3, r2, m3.go R3 g3, ?_⟩
            cases ex : evE c x r2 S3 with
            | bad => rw [ef, ex] at q'; exact q'.elim
            | exn y S3 => rw [ef, ex] at q'; exact q'.elim
            | ok z S4 =>
              rw [ex] at ef
              dsimp only [R.bnd] at ef
              refine fun th4 H4 u g4 R4 ru => ?_
              have gD : Go (th1 ++ [D]) (upd H1 D (.lst [])) th4 H4 := gC.trans g4
              rw [ef] at q'
              dsimp only at q'
              split at q'
              · rename_i acc hacc
                split at q'
                · rename_i hlen
                  have hl4 : th4[S1.length]? = some D := gD.at hl0
                  obtain ⟨vs, h3, h4⟩ := R4.obj _ D _ hl4 hacc
                  have hs : sizeLine = szL := sizeLine_eq
                  have gP : Go th4 H4 th4 (upd H4 D (.lst (vs ++ [u]))) := R4.goPut hl4
                  refine ⟨vs, h3, by rw [hs, ← h4.length]; exact hlen, by omega, th4, _, gD.trans gP, R4.put hl4 (RO.lstI upd_same ((h4.append (.one ru)).go gP)), Po.later (((g2.trans g3).trans g4).trans gP) q'⟩
                · exact q'.elim
              · exact q'.elim
    · exact q'.elim
theorem tLc_ofX {x : E} {tg : Tg} {it : It} {cd : Eo} {own : List Nat} (hb : eoX cd = true) (hs : ∀ i ∈ tg.slots, i ∈ own) {sg : L2.St} {H : Hp} {Q : VK} (h : rdE K ca hd c W (.lc x tg it cd own) sg H Q) :
    LCX.tLcX (rdI K ca hd c W it) (rdG K ca hd tg) (fun σ => rdC K ca hd c (LCX.wx W σ) cd) (fun σ => rdE K ca hd c (LCX.wx W σ) x) own sg H Q := by
  obtain ⟨th, S, r, m, h⟩ := h
  simp only [evE] at h
  rw [hb] at h
  unfold LCX.tLcX
  refine ⟨th, S, r, m, Po.bnd h fun p S1 th1 H1 J g1 R1 it1 q D hD => ?_⟩
  obtain ⟨ds, ck⟩ := p
  dsimp only at q
  generalize hf : (fun d S2 => match asgT tg d (wipeD r own) with
        | none => (.bad : R (Option HP.D))
        | some r2 => (evC c cd r2 S2).bnd fun k S3 => if k = true then (evE c x r2 S3).bnd fun y S4 => .ok (some y) S4 else .ok none S3) = f at q
  have hl0 : (th1 ++ [D])[S1.length]? = some D := by rw [← R1.len, List.getElem?_append_right (Nat.le_refl _)]; simp
  refine ⟨fun i n Hc => n + i = ds.length ∧ ∃ th' S', Go (th1 ++ [D]) (upd H1 D (.lst [])) th' Hc ∧ Rep K ca th' Hc S' ∧ Po K ca th' Hc (RV K ca) (fun cls dd H' => W cls dd sg H') Q (compL true ck S1.length f (ds.drop i) S'),
    ⟨ds.length, rfl, th1 ++ [D], S1 ++ [O.lst []], Go.refl _ _, R1.new hD (o := O.lst []) (RO.lstI upd_same .nil), by rw [List.drop_zero]; exact Po.later (Go.new hD) q⟩, ?_⟩
  rintro i n Hc ⟨en, th', S', g', R', q'⟩
  have gI : Go th1 H1 th' Hc := (Go.new hD).trans g'
  have hl : th'[S1.length]? = some D := g'.at hl0
  cases e : ds[i]? with
  | none =>
    have hi : ds.length ≤ i := List.getElem?_eq_none_iff.mp e
    have hi' : i = ds.length := by omega
    rw [List.drop_eq_nil_iff.mpr hi] at q'
    unfold compL at q'
    split at q'
    · rename_i st
      refine .inl ⟨?_, q'.ok R' (.loc hl)⟩
      rw [hi']
      exact it1.stop th' Hc S' gI R' st
    · exact q'.elim
  | some d =>
    have hi : i < ds.length := (List.getElem?_eq_some_iff.mp e).1
    rw [drop_get e] at q'
    unfold compL at q'
    split at q'
    · rename_i st
      obtain ⟨g0, y0⟩ := it1.go th' Hc S' gI R' st i d e
      refine .inr ⟨g0, fun H' => (n - 1) + (i + 1) = ds.length ∧ ∃ th2 S2, Go (th1 ++ [D]) (upd H1 D (.lst [])) th2 H' ∧ Rep K ca th2 H' S2 ∧ Po K ca th2 H' (RV K ca) (fun cls dd H' => W cls dd sg H') Q (compL true ck S1.length f (ds.drop (i + 1)) S2),
        fun H' hN => ⟨n - 1, by omega, hN⟩, fun v H2 y => ?_⟩
      obtain ⟨g2, R2, rv⟩ := y0 v H2 y
      have ef : f d S' = (match asgT tg d (wipeD r own) with
        | none => (.bad : R (Option HP.D))
        | some r2 => (evC c cd r2 S').bnd fun k S3 => if k = true then (evE c x r2 S3).bnd fun y S4 => .ok (some y) S4 else .ok none S3) := by rw [← hf]
      cases ea : asgT tg d (wipeD r own) with
      | none => rw [ef, ea] at q'; exact q'.elim
      | some r2 =>
        rw [ea] at ef
        dsimp only at ef
        have gA : Go th H th' H2 := (g1.trans gI).trans g2
        have m2 : Sim K ca hd th' H2 S' (wipeD r own) (L2.wipe sg own) := (m.go R2 gA).wipe own
        refine ⟨th', S', _, d, r2, m2, rv, ea, fun sg2 m3 off => ⟨wipe_off off hs, ?_⟩⟩
        have gB : Go (th1 ++ [D]) (upd H1 D (.lst [])) th' H2 := g'.trans g2
        refine ⟨th', S', r2, m3, ?_⟩
        cases ec : evC c cd r2 S' with
        | bad => rw [ef, ec] at q'; exact q'.elim
        | exn y S3 =>
          rw [ef, ec] at q'
          exact fun th3 H3 cls dd g3 R3 rx => q' th3 H3 cls dd (g2.trans g3) R3 rx
        | ok k S3 =>
          rw [ec] at ef
          dsimp only [R.bnd] at ef
          refine fun th3 H3 b g3 R3 eb => ?_
          subst eb
          have gC : Go (th1 ++ [D]) (upd H1 D (.lst [])) th3 H3 := gB.trans g3
          cases k with
          | false =>
            rw [if_neg Bool.false_ne_true] at ef
            rw [if_neg Bool.false_ne_true]
            rw [ef] at q'
            exact ⟨by omega, th3, S3, gC, R3, Po.later (g2.trans g3) q'⟩
          | true =>
            rw [if_pos rfl] at ef
            rw [if_pos rfl]
            refine ⟨th3, S3, r2, m3.go R3 g3, ?_⟩
            cases ex : evE c x r2 S3 with
            | bad => rw [ef, ex] at q'; exact q'.elim
            | exn y S4 =>
              rw [ef, ex] at q'
              exact fun th4 H4 cls dd g4 R4 rx => q' th4 H4 cls dd ((g2.trans g3).trans g4) R4 rx
            | ok z S4 =>
              rw [ex] at ef
              dsimp only [R.bnd] at ef
              refine fun th4 H4 u g4 R4 ru => ?_
              have gD : Go (th1 ++ [D]) (upd H1 D (.lst [])) th4 H4 := gC.trans g4
              rw [ef] at q'
              dsimp only at q'
              split at q'
              · rename_i acc hacc
                split at q'
                · rename_i hlen
                  have hl4 : th4[S1.length]? = some D := gD.at hl0
                  obtain ⟨vs, h3, h4⟩ := R4.obj _ D _ hl4 hacc
                  have hs : sizeLine = szL := sizeLine_eq
                  have gP : Go th4 H4 th4 (upd H4 D (.lst (vs ++ [u]))) := R4.goPut hl4
                  refine ⟨vs, h3, by rw [hs, ← h4.length]; exact hlen, by omega, th4, _, gD.trans gP, R4.put hl4 (RO.lstI upd_same ((h4.append (.one ru)).go gP)), Po.later (((g2.trans g3).trans g4).trans gP) q'⟩
                · exact q'.elim
              · exact q'.elim
    · exact q'.elim
end
end HP
namespace HP
open PySem L2 PySem.Spec PyProof.Rows
theorem R.bnd_assoc {A B C : Type} (x : R A) (f : A → Sto → R B) (g : B → Sto → R C) : (x.bnd f).bnd g = x.bnd fun a S => (f a S).bnd g := by
  cases x <;> rfl
theorem R.bnd_ok {A B : Type} (a : A) (S : Sto) (f : A → Sto → R B) : (R.ok a S).bnd f = f a S := rfl
theorem boot_bf : ∀ f : Bf, bootBuiltins (bfS f) = some (bfV f) := by
  intro f
  cases f <;> decide +kernel
theorem boot_bt : ∀ b : Bt, b ≠ .non → bootBuiltins (btS b) = some (.type b.name) := by
  intro b h
  cases b <;> first | decide +kernel | exact absurd rfl h
theorem cmpD_bl {S S' : Sto} {o : Cop} {a b d : D} (h : cmpD S o a b = .ok d S') : ∃ k, d = .bl k := by
  have rb : ∀ o, resB S o = .ok d S' → ∃ k, d = .bl k := fun o h => by
    cases o with
    | none => cases h
    | some k => cases h; exact ⟨k, rfl⟩
  unfold cmpD at h
  split at h
  all_goals first
    | exact rb _ h
    | (cases h; exact ⟨_, rfl⟩)
    | cases h
theorem evEs_len {c : Call} : ∀ (es : Es) (r : Ev) (S S' : Sto) (ds : List D), evEs c es r S = .ok ds S' → ds.length = es.len
  | .nil, r, S, S', ds, h => by simp only [evEs] at h; cases h; rfl
  | .cons e es, r, S, S', ds, h => by
    simp only [evEs] at h
    cases h1 : evE c e r S with
    | ok d S1 =>
      rw [h1] at h
      dsimp only [R.bnd] at h
      cases h2 : evEs c es r S1 with
      | ok ds2 S2 =>
        rw [h2] at h
        dsimp only [R.bnd] at h
        cases h
        rw [List.length_cons, Es.len, evEs_len es r S1 _ _ h2]
      | _ => rw [h2] at h; cases h
    | _ => rw [h1] at h; cases h
theorem szL1000 {n : Nat} (h : n ≤ 1000) : n ≤ sizeLine := Nat.le_trans h (by decide)
section
variable {X : Cx} {C : Cc} {c : Call} {ca : CA} {W : WX} {hd : Hd}
theorem XC.blk (h : XC X C c ca W hd) (hh : C.hot = false) (s : Shared) (H : Hp) (scope : Scope) (D : Addr) (cl : List (Str × Addr)) (fp : List Addr) :
    XC (X.blk s H scope (compEnvC scope cl D X.env) fp) (blkCc C scope) c ca W0 hd where
  hN := h.hN
  nd := h.nd
  sc := by
    have e : (compEnvC scope cl D X.env).scope = relS scope X.env.scope := rfl
    show (compEnvC scope cl D X.env).scope = relS scope C.sc
    rw [e, h.sc]
  calm := h.calm
  fn := fun x q => q
  fns := h.fns
  cons := h.cons
  blt := h.blt
  takes := takes0
  un := h.un
  cold := h.cold
  hotI := fun a D dd e => by rw [h.cold hh] at e; cases e
  hotF := fun a D dd e => by rw [h.cold hh] at e; cases e
  act1 := fun e => by cases e
  act2 := fun e => by cases e
  lam := fun e => by cases e
  stk := fun e => by cases e
  gd := fun e => by cases e
  ini := h.ini
  clf := h.clf
  knf := h.knf
theorem XC.blkX (h : XC X C c ca W hd) (hh : C.hot = false) (s : Shared) (H : Hp) (scope : Scope) (D : Addr) (cl : List (Str × Addr)) (fp : List Addr) (W' : WX) :
    XC (LCX.blkX X s H scope (compEnvC scope cl D X.env) fp W') (blkCc C scope) c ca W' hd where
  hN := h.hN
  nd := h.nd
  sc := by
    have e : (compEnvC scope cl D X.env).scope = relS scope X.env.scope := rfl
    show (compEnvC scope cl D X.env).scope = relS scope C.sc
    rw [e, h.sc]
  calm := h.calm
  fn := fun x q => q
  fns := h.fns
  cons := h.cons
  blt := h.blt
  takes := LCX.takesB
  un := h.un
  cold := h.cold
  hotI := fun a D dd e => by rw [h.cold hh] at e; cases e
  hotF := fun a D dd e => by rw [h.cold hh] at e; cases e
  act1 := fun e => by cases e
  act2 := fun e => by cases e
  lam := fun e => by cases e
  stk := fun e => by cases e
  gd := fun e => by cases e
  ini := h.ini
  clf := h.clf
  knf := h.knf
theorem okI_set {m : It} {t : Bool} {e : Expr} (h : okI m C t e = true) (env : Env) (x : Value) : foldedSetIterable e env x = pure x := by
  cases e with
  | Set a b p =>
    cases m with
    | seq a => exact okE_set (show okE a C _ = true from h) env x
    | _ => simp [okI] at h
  | _ => rfl
theorem okTg_slots {C : Cc} {own : List Nat} : ∀ {t : Tg} {e : Expr}, okTg t C own e = true → ∀ i ∈ t.slots, i ∈ own := by
  intro t
  have both : (∀ (t : Tg) (e : Expr), okTg t C own e = true → ∀ i ∈ t.slots, i ∈ own) := by
    intro t
    exact Tg.rec (motive_1 := fun t => ∀ e, okTg t C own e = true → ∀ i ∈ t.slots, i ∈ own) (motive_2 := fun t => ∀ es, okTgs t C own es = true → ∀ i ∈ t.slots, i ∈ own)
      (fun i e h j hj => by
        cases e <;> simp [okTg] at h
        simp only [Tg.slots, List.mem_singleton] at hj
        subst hj
        exact h.2)
      (fun ts ih e h j hj => by
        cases e <;> simp only [okTg, Bool.and_eq_true] at h <;> try (cases h; done)
        exact ih _ h.2 j hj)
      (fun es h j hj => by simp [Tgs.slots] at hj)
      (fun t ts ih1 ih2 es h j hj => by
        cases es with
        | nil => simp [okTgs] at h
        | cons e r =>
          simp only [okTgs, Bool.and_eq_true] at h
          simp only [Tgs.slots, List.mem_append] at hj
          rcases hj with hj | hj
          · exact ih1 e h.1 j hj
          · exact ih2 r h.2 j hj) t
  exact fun {e} h => both t e h
/-- a value's truth as a test -/
theorem pt_tru {m : E} {e : Expr} (h : PE X e (rdE X.K ca hd c W m)) (he : ∀ whole, isTrue e X.env whole = (do let v ← whole; standAt e.pos; holding [v] (truthy v)))
    (ev : ∀ r S, evT c m r S = (evE c m r S).bnd fun d S1 => truR S1 d) : PT X e (rdT X.K ca hd c W m) := by
  refine PT.imp (pt_truth h he) fun sg H Q q => ?_
  obtain ⟨th, S, r, mm, q⟩ := q
  rw [ev] at q
  refine ⟨th, S, r, mm, Po.bnd q fun d S1 th1 H1 v g R1 rv q1 => ?_⟩
  unfold truR at q1
  split at q1
  · rename_i b e1
    exact ⟨b, truD_ok R1 rv e1, q1.ok R1 rfl⟩
  · exact q1.elim
theorem pe_bf {f : Bf} {x : Str} {p pos : Pos} {e : Expr} {es : List Expr} {t : TA} (hx : x = bfS f) (hc : bfCalm f = true → X.calm = true) (hg : Gl X x) (hm : X.mg x = none) (ha : PA X (e :: es) t) (hn : x ≠ "__name__") (hdb : (x == ("__debug__" : Str)) = false)
    (he : starEach (e :: es) X.env = (false, eval e X.env) :: starEach es X.env) (hpl : (backTo pos (starEach es X.env)).any (·.1) = false) {Wx : Value → Option Addr → Hp → Prop} :
    PE X (.Call (.Name x p) (e :: es) [] pos) (tCB (rDs X.K ca Wx fun S => bfD S f) t) := by
  have hv := boot_bf f
  have hf := call_bfD (X := X) (ca := ca) (Wx := Wx) f hc
  rw [← hx] at hv
  cases f <;> first
    | exact pe_callB hf hg hm hv ha hn hdb he hpl
    | exact pe_callTy hf hg hm hv ha hn hdb he hpl
theorem pe_call0SD {CX : CXT} {k : Nat} {f : Addr} {fd : FuncData} {ps : List Str} {sp : Sp} {E : L2.St → XK} {x : Str} {p pos : Pos} (F : FnOk X.prog X.w X.K X.mg X.base CX k f fd ps sp) (hr : Room k X.A) (hg : Gl X x) (hm : X.mg x = some (.ref f)) (hk : PySem.W.keepIn X.K (.ref f) = true) (hb : Binds X.K fd ps []) (hx : ∀ sg, PassesAt CX X sg (E sg))
    (hdb : (x == ("__debug__" : Str)) = false) : PE X (.Call (.Name x p) [] [] pos) (tCallSD sp [] E tNil) := by
  refine ⟨fun pins s sg H Q I h => ?_⟩
  refine wpAny_Call_Name_kw (ld_glob I hg hm ?_ hdb)
  exact PySem.W.callWith_K0 I.kIn hk (run_fnSD (us := []) F hr hb .nil (hx sg) I .nil h)
theorem pe_mt {m : Mt} {o e : Expr} {es : List Expr} {to : TE} {t : TA} {apos cpos : Pos} {r : V → List V → Hp → VK → Prop} (hm : MtR X (mtI m) r) (ho : PE X o to) (ha : PA X (e :: es) t) (hbase : attributeBase o (mtS m) X.env (eval o X.env) = eval o X.env)
    (hfew : ((backTo cpos (starEach (e :: es) X.env)).all (fun x => !x.1) && (backToKw cpos (keywordEach [] X.env)).all (fun x => x.1.isSome)
      && decide ((e :: es).length + ([] : List Keyword).length + (if ([] : List Keyword).isEmpty then 0 else 1) < 30)) = true)
    (hline : (apos.endLine == cpos.line) = true) (hs : starEach (e :: es) X.env = (false, eval e X.env) :: starEach es X.env) (hplain : (backTo cpos (starEach es X.env)).any (·.1) = false) :
    PE X (.Call (.Attribute o (mtS m) apos) (e :: es) [] cpos) (tBM X.K "list" r to t) := by
  cases m
  · exact pe_bm PySem.F.plainAttrs_list PySem.F.slot_list_append PySem.F.type_list_append hm ho ha hbase hfew hline hs hplain
  · exact pe_bm PySem.F.plainAttrs_list PySem.F.slot_list_pop PySem.F.type_list_pop hm ho ha hbase hfew hline hs hplain
  · exact pe_bm PySem.F.plainAttrs_list PySem.F.slot_list_clear PySem.F.type_list_clear hm ho ha hbase hfew hline hs hplain
  · exact pe_bm PySem.F.plainAttrs_list PySem.F.slot_list_extend PySem.F.type_list_extend hm ho ha hbase hfew hline hs hplain
  · exact pe_bm PySem.F.plainAttrs_list PySem.F.slot_list_index PySem.F.type_list_index hm ho ha hbase hfew hline hs hplain
theorem pe_mt0 {m : Mt} {o : Expr} {to : TE} {apos cpos : Pos} {r : V → List V → Hp → VK → Prop} (hm : MtR X (mtI m) r) (ho : PE X o to) (hbase : attributeBase o (mtS m) X.env (eval o X.env) = eval o X.env)
    (hline : (apos.endLine == cpos.line) = true) :
    PE X (.Call (.Attribute o (mtS m) apos) [] [] cpos) (tBM0 X.K "list" r to) := by
  cases m
  · exact pe_bm0 PySem.F.plainAttrs_list PySem.F.slot_list_append PySem.F.type_list_append hm ho hbase hline
  · exact pe_bm0 PySem.F.plainAttrs_list PySem.F.slot_list_pop PySem.F.type_list_pop hm ho hbase hline
  · exact pe_bm0 PySem.F.plainAttrs_list PySem.F.slot_list_clear PySem.F.type_list_clear hm ho hbase hline
  · exact pe_bm0 PySem.F.plainAttrs_list PySem.F.slot_list_extend PySem.F.type_list_extend hm ho hbase hline
  · exact pe_bm0 PySem.F.plainAttrs_list PySem.F.slot_list_index PySem.F.type_list_index hm ho hbase hline
theorem isL_ty {th : List Addr} {H : Hp} {S : Sto} {K : PySem.W.Frag} {a : D} {x : V} (R : Rep K ca th H S) (ha : RV K ca th H a x) (h : isL S a = true) : tyV K "list" x H := by
  unfold isL at h
  split at h
  · split at h
    · rename_i ds he
      obtain ⟨a1, ws, rfl, h0, h1, r1⟩ := ha.lst_inv R he
      exact .inl ⟨rfl, ws, .inl (.inl h1)⟩
    · cases h
  · cases h
end
end HP
namespace HP
open PySem L2 PySem.Spec PyProof.Rows
end HP
namespace PySem.W
open PySem PySem.Spec PySem.Calls PyProof.Rows
section
variable {prog : Program} {w : World} {A : Around} {E : Value → Shared → Prop} {z : Shared} {K : Frag} {x D : Addr} {ox : Obj} {od : Option Obj}
/-- e.__class__, e with or without a dict -/
theorem hp_class {Q : Option Value → Shared → Prop} (C : L2.ExcC K D) (kz : K.In z.heap) (I : InstAt z.heap x ox D od) (q : Q (some (.ref D)) { z with toks := z.toks + 1 }) : wpAny (model prog w) A (getAttr? (.ref x) "__class__") Q E z := by
  have isc : (clsIn K D).isSome = true := by
    obtain ⟨cd, e, _⟩ := any_some C.hd
    rw [e]; rfl
  have fo : findObj K D od "__class__" = some (.bind (.builtin "getset_descriptor.__get__") (.builtin "object.__class__")) := by
    obtain ⟨cd, e⟩ := Option.isSome_iff_exists.mp isc
    have c1 := C.ha
    have c2 := C.hn
    have c3 := C.ht
    unfold findObj
    rw [e, Option.bind_some, c1, Option.bind_some]
    simp [c2, c3]
  obtain ⟨hp, gn, dr, tk, os⟩ := z
  have lt := I.type (M := model prog w)
  have lg := looks_findIn (M := model prog w) kz C.hg
  have lk := looks_findIn (M := model prog w) kz C.hk
  have lf := looks_find (M := model prog w) kz I fo
  have ls : Looks (model prog w) hp (isInstance (.ref x) (.type "BaseException")) true := lt.andThen (looks_subIn kz C.hs)
  have n0 : (false && onTheHeap (Value.builtin "BaseException.__getattribute__")) = false := rfl
  have n1 : (Value.builtin "BaseException.__getattribute__" == Value.builtin "object.__getattribute__") = false := by decide +kernel
  have n2 : (onTheHeap (Value.ref D) && Value.builtin "BaseException.__getattribute__" == Value.builtin "object.__getattribute__") = false := by rw [n1]; rfl
  unfold getAttr? getAttrBy? getAttrBy
  refine wpAny_bind (wpAny_mkText (wpAny_bind (wpAny_attempt (wpAny_holding (wpAny_bind (lt.at (wpAny_bind (lg.at ?_))))))))
  show wpAny _ _ (if (onTheHeap (Value.ref D) && Value.builtin "BaseException.__getattribute__" == Value.builtin "object.__getattribute__") = true then _ else _) _ _ _
  rw [n2, if_neg Bool.false_ne_true]
  unfold getAttrByItsOwn hookBefore
  refine wpAny_bind ?_
  rw [if_pos (show onTheHeap (Value.ref D) = true from rfl)]
  refine lk.at (wpAny_bind (wpAny_attempt (wpAny_holding ?_)))
  unfold callGetattribute
  rw [n0, if_neg Bool.false_ne_true]
  unfold boundAndCalled
  rw [PySem.F.excAttr_ValueError.ga.bind (.ref x)]
  refine wpAny_bind (wpAny_pure ?_)
  show wpAny _ _ (call (.builtin "BaseException.__getattribute__") [.ref x, .str "__class__" tk]) _ _ _
  refine wpAny_call (codeAny_call_builtin PySem.F.excAttr_ValueError.ga.plain PySem.F.entry_bexc_ga ?_)
  refine @check_slot (model prog w) _ _ ⟨hp, gn, dr, tk + 1, os⟩ "BaseException.__getattribute__" "BaseException" "__getattribute__" (.ref x) [.str "__class__" tk] [] _ (by decide +kernel) (by decide +kernel) ls (PySem.F.args_bexc_ga (.ref x) (.str "__class__" tk)) ?_
  unfold Builtin.«object.__getattribute__»
  refine wpAny_bind (wpAny_of_eq (a := ((Value.ref x : Value), [Value.str "__class__" tk])) (by first | rfl | (simp only [slotArgs]; rfl)) (wpAny_bind (wpAny_pure (wpAny_bind (lt.at (wpAny_bind (lf.at ?_)))))))
  show wpAny _ _ (holding [Value.builtin "object.__class__"] (call (.builtin "getset_descriptor.__get__") [.builtin "object.__class__", .ref x, .ref D]) >>= ret) _ _ _
  refine wpAny_bind (wpAny_holding (wpAny_call (class_get (s := ⟨hp, gn, dr, tk + 1, os⟩) (ox := ox) (od := od) kz I C.hm (wpAny_pure ?_))))
  show wpAny _ _ (handedOut (.ref D)) _ _ _
  rw [handedOut_of (v := .ref D) rfl]
  first
    | exact wpAny_pure (wpAny_pure q)
    | exact wpAny_pure q
    | exact wpAny_pure (wpAny_bind (wpAny_pure (wpAny_pure q)))
theorem hp_kitx (C : L2.ExcC K D) : KitX K (.ref x) (.ref D) (fun h => InstAt h x ox D od) where
  ty := fun _ _ _ I => I.type
  it := fun _ _ kz _ => by
    obtain ⟨cd, e, _⟩ := any_some C.hd
    unfold clsIn at e
    split at e
    · rename_i _ _ _ _ o
      intro _ _ _ _ k q
      unfold isType loadHead
      exact wpAny_bind (wpAny_loadPart (k _ _ (kz _ _ o)) (wpAny_pure q))
    · cases e
  ne := fun h tp dd its n sl kz o' => by
    obtain ⟨cd, e, _⟩ := any_some C.hd
    refine Bool.eq_false_iff.mpr fun q => ?_
    have e' : D = tp := Value.ref.inj (beq_iff_eq.mp q)
    subst e'
    unfold clsIn at e
    split at e
    · rename_i _ _ _ _ o
      cases (kz _ _ o).symm.trans o'
    · cases e
  ca := fun kz I k => hp_class C kz I k
end
end PySem.W
namespace HP
open PySem L2 PySem.Spec PyProof.Rows
theorem inst_at {X : Cx} {a D : Addr} {dd : Option Addr} {oe : Obj} {pn pins : List (Addr × Obj)} {s : Shared} {σ : L2.St} {H : Hp} (hz : Zc (.ref D) dd oe) (hf : ∃ vs, oe.data = .fields vs) (I : Inv (X.suite a ((a, oe) :: pn)) pins σ H s) (hd : ∀ d, dd = some d → ∃ gs, H d = some (.xd gs)) : ∃ od, PySem.W.InstAt s.heap a oe D od := by
  obtain ⟨hget, _⟩ := I.pin (a, oe) (List.mem_append.mpr (.inl List.mem_cons_self))
  obtain ⟨vs, hv⟩ := hf
  cases dd with
  | none =>
    obtain ⟨oc, od, oda, osl⟩ := oe
    obtain ⟨h1, h2⟩ := hz
    dsimp only at h1 h2 hv
    subst h1 h2 hv
    exact ⟨none, hget, rfl, rfl, trivial⟩
  | some d =>
    obtain ⟨gs, e⟩ := hd d rfl
    obtain ⟨mA, hns, _⟩ : ObjOk X.prog X.w H s.heap d (.xd gs) := I.hok d _ e
    obtain ⟨od, ho, _⟩ := lookIn_ns hns
    exact ⟨some od, hget, hz.1, by unfold PySem.W.notCls; rw [hv] <;> rfl, by rw [hz.2]; exact ho⟩
theorem call_isEX {X : Cx} {a D : Addr} {dd : Option Addr} {oe : Obj} {pn : List (Addr × Obj)} (C : ExcC X.K D) (hz : Zc (.ref D) dd oe) (hf : ∃ vs, oe.data = .fields vs) : CallR (X.suite a ((a, oe) :: pn)) (.builtin "isinstance") (rIsEX X.K D a dd) := by
  intro pins s σ H xs us Q I r h
  obtain ⟨hdd, h⟩ := h
  obtain ⟨od, inst⟩ := inst_at hz hf I hdd
  rcases h with ⟨c, cv, b, rfl, k, e, q⟩ | ⟨tp, cs, ws, b, rfl, hT, k, e, q⟩
  · obtain ⟨u1, u2, rfl, r1, r2⟩ := vals2 r
    cases (show u1 = Value.ref a from r1)
    have e2 := k.eq r2
    subst e2
    exact PySem.W.kia_one (PySem.W.hp_kitx C) I.kIn inst e (fun z => nomatch z) fun tk => ⟨.bl b, H, I.kept (t' := tk) fun _ _ z => z, rfl, q⟩
  · obtain ⟨u1, u2, rfl, r1, r2⟩ := vals2 r
    cases (show u1 = Value.ref a from r1)
    cases (show u2 = Value.ref tp from r2)
    obtain ⟨dd, its, n, sl, h5, h6⟩ := sqT_look I hT
    have e3 := ClsV.all k h6
    subst e3
    exact PySem.W.kia_tup (PySem.W.hp_kitx C) I.kIn inst h5 e (fun z => nomatch z) fun tk => ⟨.bl b, H, I.kept (t' := tk) fun _ _ z => z, rfl, q⟩
/-- e.f -/
theorem pe_xfX {X : Cx} {a D : Addr} {dd : Option Addr} {oe : Obj} {pn : List (Addr × Obj)} {e : Expr} {te : TE} {f : Str} {pos : Pos} (T : XfC X.K D) (hno : PySem.W.findIn X.K (.ref D) f = some none) (hz : Zc (.ref D) dd oe) (hf : ∃ vs, oe.data = .fields vs)
    (hb : attributeBase e f X.env (eval e X.env) = eval e X.env) (he : PE (X.suite a ((a, oe) :: pn)) e te) : PE (X.suite a ((a, oe) :: pn)) (.Attribute e f pos) (rXf a (.ref D) dd f te) := by
  refine PE.imp (pe_xf T hno hz hf he hb) fun s H Q q => ?_
  exact q
section
variable {X : Cx} {C : Cc} {c : Call} {ca : CA} {W : WX} {hd : Hd}
theorem isSome_any {A : Type} {o : Option A} {p : A → Bool} (h : o.any p = true) : o.isSome = true := by
  cases o with
  | none => cases h
  | some a => rfl
theorem ClF.some {K : PySem.W.Frag} {mg : Str → Option Value} {D : Addr} {x : Str} (h : ClF K mg D x) : (PySem.W.clsIn K D).isSome = true := isSome_any h.hd
theorem kit_ref {K : PySem.W.Frag} {mg : Str → Option Value} {D E : Addr} {x : Str} {b : Bool} (h : ClF K mg E x) (hs : PySem.W.subIn K (.ref D) (.ref D) = some true) (e : PySem.W.subIn K (.ref D) (.ref E) = some b) : PySem.W.kitOne K (.ref D) (.ref E) = some b := by
  unfold PySem.W.kitOne
  split
  · rename_i z
    have z2 : Value.ref D = Value.ref E := by simpa using z
    rw [← z2] at e
    rw [hs] at e
    exact e
  · unfold PySem.W.kitCls
    dsimp only
    rw [if_pos (by rw [h.some, h.ty]; rfl)]
    exact e
theorem clsB_ok (hX : XC X C c ca W hd) {j : Nat} {x : Str} (h : clsB C j x = true) : ∃ b, C.cls.lookup x = some (j, b) ∧ Gl X x ∧ (x == ("__debug__" : Str)) = false := by
  unfold clsB at h
  rw [Bool.and_eq_true] at h
  obtain ⟨g1, g2, g3⟩ := hX.gl h.1
  have h2 := h.2
  cases e : C.cls.lookup x with
  | none => rw [e] at h2; cases h2
  | some p =>
    rw [e] at h2
    obtain ⟨j', b⟩ := p
    have : j' = j := by simpa using h2
    subst this
    exact ⟨b, rfl, g1, g2⟩
theorem pe_cls (hX : XC X C c ca W hd) {j : Nat} {x : Str} {p : Pos} (h : clsB C j x = true) : PE X (.Name x p) (tC (.ref (ca j))) := by
  obtain ⟨b, e, g1, g2⟩ := clsB_ok hX h
  exact pe_glob g1 (hX.clf _ _ _ e).m rfl g2
/-- names of classes, one behind the other -/
theorem pa_clses (hX : XC X C c ca W hd) : ∀ {cs : List Nat} {es : List Expr}, clsesB C cs es = true → PA X es (fun sg H Q => Q (cs.map fun j => V.ref (ca j)) H)
  | [], [], _ => ⟨fun p pins s sg H Q I q => pa_nil.run p pins s sg H Q I q⟩
  | [], _ :: _, h => by simp [clsesB] at h
  | _ :: _, [], h => by simp [clsesB] at h
  | j :: js, e :: es, h => by
    cases e with
    | Name x p =>
      simp only [clsesB, Bool.and_eq_true] at h
      exact ⟨fun p pins s sg H Q I q => (pa_cons (pe_cls hX h.1) (pa_clses hX h.2) rfl).run p pins s sg H Q I q⟩
    | _ => simp [clsesB] at h
theorem clses_mem (hX : XC X C c ca W hd) : ∀ {cs : List Nat} {es : List Expr}, clsesB C cs es = true → ∀ j ∈ cs, ∃ y b, C.cls.lookup y = some (j, b)
  | [], [], _, j, m => by cases m
  | [], _ :: _, h, _, _ => by simp [clsesB] at h
  | _ :: _, [], h, _, _ => by simp [clsesB] at h
  | i :: js, e :: es, h, j, m => by
    cases e with
    | Name x p =>
      simp only [clsesB, Bool.and_eq_true] at h
      rcases List.mem_cons.1 m with rfl | m
      · obtain ⟨b, e, _⟩ := clsB_ok hX h.1
        exact ⟨x, b, e⟩
      · exact clses_mem hX h.2 j m
    | _ => simp [clsesB] at h
theorem paired_cls : ∀ cs : List Nat, Paired ClsV (cs.map fun j => V.ref (ca j)) (cs.map fun j => Value.ref (ca j))
  | [] => .nil
  | j :: js => .cons (.own _) (paired_cls js)
theorem any_cls (hX : XC X C c ca W hd) {k : Nat} (K : KnF X.K ca C.cls k) : ∀ cs : List Nat, (∀ j ∈ cs, ∃ y b, C.cls.lookup y = some (j, b)) → PySem.W.kitAny X.K (.ref (ca k)) (cs.map fun j => Value.ref (ca j)) = some (cs.any (subC k))
  | [], _ => kitAny_nil
  | j :: js, h => by
    obtain ⟨y, b, e⟩ := h j List.mem_cons_self
    refine kitAny_cons (kit_ref (hX.clf _ _ _ e) K.self (K.rel _ _ _ e)) ?_ ?_
    · intro z
      rw [any_cls hX K js fun i m => h i (List.mem_cons_of_mem _ m), List.any_cons, z]
      rfl
    · intro z
      rw [List.any_cons, z]
      rfl
theorem kn_mem {kn : List Nat} {k : Nat} (h : (kn.all fun k => (knOf C.cls).contains k) = true) (m : k ∈ kn) : k ∈ knOf C.cls := by
  have := List.all_eq_true.1 h k m
  simpa using this
theorem exc_at {th : List Addr} {H : Hp} {S : Sto} {r : Ev} {sg : L2.St} {i k : Nat} {fs : List (Str × D)} (m : Sim X.K ca hd th H S r sg) (e : r[i]? = some (some (.exc k fs))) : ∃ a dd, sg[i]? = some (some (.ref a)) ∧ hd.x = some (a, .ref (ca k), dd) ∧ RX X.K ca th H k fs (.ref (ca k)) dd := by
  obtain ⟨v, h1, h2⟩ := m.env i _ e
  rcases h2 with h2 | ⟨k', fs', a, cls, dd, h3, h4, h5, h6⟩ | ⟨k', ds', f', m', h3, _⟩
  · cases h2
  · cases h3
    subst h4
    have h7 := h6.1
    subst h7
    exact ⟨a, dd, h1, h5, h6⟩
  · cases h3
theorem RX.dict {K : PySem.W.Frag} {th : List Addr} {H : Hp} {k : Nat} {fs : List (Str × D)} {cls : Value} {dd : Option Addr} (h : RX K ca th H k fs cls dd) : ∀ d, dd = some d → ∃ gs, H d = some (.xd gs) := fun d e => by
  rcases h.2 with ⟨_, h⟩ | ⟨_, d', gs, h1, h2, _⟩
  · rw [h] at e; cases e
  · rw [h1] at e; cases e; exact ⟨gs, h2⟩
theorem pe_exIs {i : Nat} {tp : Bool} {cs kn : List Nat} {e : Expr} (hX : XC X C c ca W hd) (h : okE (.exIs i tp cs kn) C e = true) : PE X e (rdE X.K ca hd c W (.exIs i tp cs kn)) := by
  simp only [okE] at h
  split at h
  · rename_i x p n pn u pos
    simp only [Bool.and_eq_true, beq_iff_eq] at h
    obtain ⟨⟨⟨⟨⟨⟨⟨⟨h0, h1⟩, h2⟩, h3⟩, h4⟩, h5⟩, h6⟩, h7⟩, h8⟩ := h
    obtain ⟨g1, g2, g3⟩ := hX.gl h1
    obtain ⟨d1, d2, d3⟩ := dbgB_ok h6
    have hv : bootBuiltins x = some (.builtin "isinstance") := by rw [h2]; decide +kernel
    have pn1 : PE X (.Name n pn) (tVar i) := pe_var (hX.slot h4) (by rw [hX.sc]; exact visB_ok h5) d1 d2
    refine ⟨fun pins s sg H Q I q => ?_⟩
    obtain ⟨th, S, r, m, q⟩ := q
    simp only [evE] at q
    split at q
    · rename_i k fs hr
      split at q
      · rename_i hk
        obtain ⟨a, dd, ea, ehd, rx⟩ := exc_at m hr
        have K := hX.knf k (kn_mem h7 hk)
        have hI := hX.hotI a (ca k) dd ehd K.ec
        split at h8
        · rename_i es kk p2
          simp only [Bool.and_eq_true, decide_eq_true_eq] at h8
          refine (pe_callB hI g1 (hX.blt x h3) hv (pa_cons pn1 (pa_cons (pe_tup (pa_clses hX h8.1)) pa_nil)) g3 g2 rfl rfl).run pins s sg H Q I ?_
          refine ⟨_, ea, ⟨?_, fun p hp => ⟨fun d e => by obtain ⟨gs, z⟩ := rx.dict d e; exact ⟨gs, by rw [upd_ne (ne_of_none z hp)]; exact z⟩, .inr ⟨p, _, _, _, rfl, .inl (.inl upd_same), paired_cls cs, any_cls hX K cs (clses_mem hX h8.1), ?_⟩⟩⟩⟩
          · rw [List.length_map]
            refine szL1000 ?_
            have : ∀ {cs : List Nat} {es : List Expr}, clsesB C cs es = true → cs.length = es.length := by
              intro cs
              induction cs with
              | nil => intro es h; cases es with
                | nil => rfl
                | cons _ _ => simp [clsesB] at h
              | cons j js ih => intro es h; cases es with
                | nil => simp [clsesB] at h
                | cons e es => cases e with
                  | Name x p => simp only [clsesB, Bool.and_eq_true] at h; rw [List.length_cons, List.length_cons, ih h.2]
                  | _ => simp [clsesB] at h
            rw [this h8.1]
            exact h8.2
          · exact q th _ _ (Go.lay hp) (m.rep.lay hp) (.bl _)
        · have hc := clses_mem hX h8
          cases cs with
          | nil => simp [clsesB] at h8
          | cons j js =>
            have : js = [] := by
              cases u with
              | Name y py =>
                cases js with
                | nil => rfl
                | cons _ _ => simp [clsesB] at h8
              | _ => simp [clsesB] at h8
            subst this
            cases u with
            | Name y py =>
              simp only [clsesB, Bool.and_eq_true] at h8
              obtain ⟨y2, b2, e2⟩ := hc j List.mem_cons_self
              refine (pe_callB hI g1 (hX.blt x h3) hv (pa_cons pn1 (pa_cons (pe_cls hX h8.1) pa_nil)) g3 g2 rfl rfl).run pins s sg H Q I ?_
              refine ⟨_, ea, rx.dict, .inl ⟨_, _, _, rfl, .own _, kit_ref (hX.clf _ _ _ e2) K.self (K.rel _ _ _ e2), ?_⟩⟩
              have eb : [j].any (subC k) = subC k j := by simp
              rw [eb] at q
              exact q.ok m.rep (.bl _)
            | _ => simp [clsesB] at h8
        · cases h8
      · exact q.elim
    · exact q.elim
  · cases h
theorem pe_exVe {i : Nat} {kn : List Nat} {e : Expr} (hX : XC X C c ca W hd) (h : okE (.exVe i kn) C e = true) : PE X e (rdE X.K ca hd c W (.exVe i kn)) := by
  simp only [okE] at h
  split at h
  · rename_i x p n pn y py pos
    simp only [Bool.and_eq_true, beq_iff_eq] at h
    obtain ⟨⟨⟨⟨⟨⟨⟨⟨⟨⟨h0, h1⟩, h2⟩, h3⟩, h4⟩, h5⟩, h6⟩, h7⟩, h8⟩, h9⟩, h10⟩ := h
    obtain ⟨g1, g2, g3⟩ := hX.gl h1
    obtain ⟨d1, d2, d3⟩ := dbgB_ok h6
    obtain ⟨k1, k2, k3⟩ := hX.gl h8
    have hv : bootBuiltins x = some (.builtin "isinstance") := by rw [h2]; decide +kernel
    have hw : bootBuiltins y = some (.type "ValueError") := by rw [h9]; decide +kernel
    have pn1 : PE X (.Name n pn) (tVar i) := pe_var (hX.slot h4) (by rw [hX.sc]; exact visB_ok h5) d1 d2
    refine ⟨fun pins s sg H Q I q => ?_⟩
    obtain ⟨th, S, r, m, q⟩ := q
    simp only [evE] at q
    split at q
    · rename_i k fs hr
      split at q
      · rename_i hk
        obtain ⟨a, dd, ea, ehd, rx⟩ := exc_at m hr
        have K := hX.knf k (kn_mem h7 hk)
        have hI := hX.hotI a (ca k) dd ehd K.ec
        refine (pe_callB hI g1 (hX.blt x h3) hv (pa_cons pn1 (pa_cons (pe_bltn (v := .ty "ValueError") k1 (hX.blt y h10) hw rfl k3 k2) pa_nil)) g3 g2 rfl rfl).run pins s sg H Q I ?_
        refine ⟨_, ea, rx.dict, .inl ⟨_, _, _, rfl, .ty _, ?_, q.ok m.rep (.bl _)⟩⟩
        unfold PySem.W.kitOne
        rw [if_neg (by simp)]
        unfold PySem.W.kitCls
        dsimp only
        rw [if_pos (by decide +kernel)]
        exact K.ve
      · exact q.elim
    · exact q.elim
  · cases h
theorem lookup_rel {K : PySem.W.Frag} {th : List Addr} {H : Hp} : ∀ {fs : List (Str × D)} {gs : List (Str × V)} {f : Str} {d : D}, fs.map (·.1) = gs.map (·.1) → RVs K ca th H (fs.map (·.2)) (gs.map (·.2)) → fs.lookup f = some d → ∃ v, gs.lookup f = some v ∧ RV K ca th H d v
  | [], [], _, _, _, _, h => by cases h
  | [], _ :: _, _, _, e, _, _ => by cases e
  | _ :: _, [], _, _, e, _, _ => by cases e
  | (x, d0) :: fs, (y, v0) :: gs, f, d, e, r, h => by
    simp only [List.map_cons, List.cons.injEq] at e
    obtain ⟨e1, e2⟩ := e
    subst e1
    simp only [List.map_cons] at r
    cases r with
    | cons r1 r2 =>
      by_cases z : f = x
      · subst z
        simp [List.lookup] at h ⊢
        subst h
        exact r1
      · have z' : (f == x) = false := by simpa using z
        simp only [List.lookup, z'] at h ⊢
        exact lookup_rel e2 r2 h
theorem pe_exFld {i : Nat} {f : Str} {kn : List Nat} {e : Expr} (hX : XC X C c ca W hd) (h : okE (.exFld i f kn) C e = true) : PE X e (rdE X.K ca hd c W (.exFld i f kn)) := by
  simp only [okE] at h
  split at h
  · rename_i n pn g pos
    simp only [Bool.and_eq_true, beq_iff_eq] at h
    obtain ⟨⟨⟨⟨⟨⟨h0, h1⟩, h2⟩, h3⟩, h4⟩, h5⟩, h6⟩ := h
    subst h4
    obtain ⟨d1, d2, d3⟩ := dbgB_ok h3
    have pn1 : PE X (.Name n pn) (tVar i) := pe_var (hX.slot h1) (by rw [hX.sc]; exact visB_ok h2) d1 d2
    refine ⟨fun pins s sg H Q I q => ?_⟩
    obtain ⟨th, S, r, m, q⟩ := q
    simp only [evE] at q
    split at q
    · rename_i k fs hr
      obtain ⟨a, dd, ea, ehd, rx⟩ := exc_at m hr
      split at q
      case isFalse => exact q.elim
      rename_i hk
      have hk2 := List.all_eq_true.1 h6 k hk
      rw [Bool.and_eq_true, Bool.not_eq_true'] at hk2
      split at q
      · rename_i d hl
        rcases rx.2 with ⟨z, _⟩ | ⟨_, d', gs, z1, z2, z3, z4⟩
        · subst z; cases hl
        · obtain ⟨v, hv, rv⟩ := lookup_rel z3 z4 hl
          obtain ⟨T, hno⟩ := (hX.knf k (by simpa using hk2.1)).xf hk2.2
          refine (hX.hotF a (ca k) dd ehd T g h5 (hno g h5) (.Name n pn) (tVar i) pos rfl pn1).run pins s sg H Q I ?_
          exact ⟨_, ea, rfl, rfl, d', gs, v, z1, z2, hv, q.ok m.rep rv⟩
      · exact q.elim
    · exact q.elim
  · cases h
end
end HP
namespace HP
open PySem L2 PySem.Spec PyProof.Rows
section
variable {c : Call} {ca : CA}
/-- a truth value steers -/
theorem onB_of {K : PySem.W.Frag} {W : Value → Option Addr → Hp → Prop} {Q : V → Hp → Prop} {th : List Addr} {H : Hp} {S : Sto} {d : D} {v : V} {t f : Sto → R D} (rv : RV K ca th H d v) (h : Po K ca th H (RV K ca) W Q (onB S d t f)) :
    ∃ k, v = .bl k ∧ Po K ca th H (RV K ca) W Q (if k = true then t S else f S) := by
  unfold onB at h
  split at h
  · exact ⟨true, rv.bl_inv, h⟩
  · exact ⟨false, rv.bl_inv, h⟩
  · exact h.elim
theorem strsD_ok {K : PySem.W.Frag} {th : List Addr} {H : Hp} : ∀ {ds : List D} {vs : List V} {ys : List Str}, RVs K ca th H ds vs → strsD ds = some ys → vs = ys.map V.str
  | [], _, _, r, e => by
    cases r
    cases e
    rfl
  | d :: ds, _, _, r, e => by
    cases r with
    | cons r1 r2 =>
      cases d with
      | str s =>
        simp only [strsD] at e
        split at e
        · rename_i ys' e2
          cases e
          rw [strsD_ok r2 e2, r1.str_inv]
          rfl
        · cases e
      | _ => simp [strsD] at e
theorem rvs_rng {K : PySem.W.Frag} {th : List Addr} {H : Hp} (j : Int) : RVs K ca th H (rngL 0 j.toNat) (rgV 0 j) := by
  unfold rngL rgV
  rw [Int.sub_zero]
  generalize List.range j.toNat = l
  induction l with
  | nil => exact .nil
  | cons x l ih => exact .cons (.int _) ih
theorem kinD_bl {S S' : Sto} {neg : Bool} {kvs : List (Str × Int)} {x d : D} (h : kinD S neg kvs x = .ok d S') : ∃ k, d = .bl k := by
  unfold kinD at h
  split at h
  · split at h
    · cases h; exact ⟨_, rfl⟩
    · cases h
  · cases h
theorem dinD_bl {S S' : Sto} {neg : Bool} {x y d : D} (h : dinD S neg x y = .ok d S') : ∃ k, d = .bl k := by
  unfold dinD at h
  split at h
  · split at h
    · cases h; exact ⟨_, rfl⟩
    · cases h
  · cases h
theorem zipV : ∀ {K : PySem.W.Frag} {th : List Addr} {H : Hp} {ds es : List D} {vs us : List V}, RVs K ca th H ds vs → RVs K ca th H es us → (zipL ds es).length = (vs.zip us).length
  | _, _, _, _, _, _, _, .nil, _ => rfl
  | _, _, _, _, _, _, _, .cons _ _, .nil => rfl
  | _, _, _, _, _, _, _, .cons _ r, .cons _ s => by rw [zipL, List.zip_cons_cons, List.length_cons, List.length_cons, zipV r s]
theorem lay_zip {K : PySem.W.Frag} {th : List Addr} {S : Sto} : ∀ {ds es : List D} {vs us : List V} {as : List Addr} {H : Hp}, Rep K ca th H S → RVs K ca th H ds vs → RVs K ca th H es us → as.length = (vs.zip us).length → (∀ t ∈ as, H t = none) → as.Nodup →
    Rep K ca th (LZ.putP H as (vs.zip us)) S ∧ Go th H th (LZ.putP H as (vs.zip us)) ∧ RVs K ca th (LZ.putP H as (vs.zip us)) (zipL ds es) (as.map V.ref)
  | _, _, _, _, [], H, R, .nil, _, _, _, _ => ⟨R, Go.refl _ _, .nil⟩
  | _, _, _, _, [], H, R, .cons _ _, .nil, _, _, _ => ⟨R, Go.refl _ _, .nil⟩
  | _, _, _, _, a :: as, H, R, .nil, _, h, _, _ => by cases h
  | _, _, _, _, a :: as, H, R, .cons _ _, .nil, h, _, _ => by cases h
  | _, _, _, _, [], H, R, .cons _ _, .cons _ _, h, _, _ => by cases h
  | _, _, v :: vs, u :: us, a :: as, H, R, .cons h1 r1, .cons h2 r2, h, hn, nd => by
    have nd' := List.nodup_cons.mp nd
    have ha := hn a List.mem_cons_self
    have g0 : Go th H th (upd H a (.tup [v, u])) := Go.lay ha
    obtain ⟨R', g', rv'⟩ := lay_zip (as := as) (R.lay ha (o := .tup [v, u])) (r1.go g0) (r2.go g0) (Nat.succ.inj h) (fun t ht => by
      rw [upd_ne (fun z => nd'.1 (by rw [← z]; exact ht))]; exact hn t (List.mem_cons_of_mem _ ht)) nd'.2
    refine ⟨R', g0.trans g', .cons ?_ rv'⟩
    have e1 : (LZ.putP (upd H a (.tup [v, u])) as (vs.zip us)) a = some (.tup [v, u]) := g'.frm _ _ upd_same rfl
    exact .tup (.inl (.inl e1)) (.inr e1) (.cons ((h1.go g0).go g') (.cons ((h2.go g0).go g') .nil))
theorem lstZ_of {K : PySem.W.Frag} {W : Value → Option Addr → Hp → Prop} {Q : V → Hp → Prop} {th : List Addr} {H : Hp} {S : Sto} {x y : D} {v u : V} (R : Rep K ca th H S) (rv : RV K ca th H x v) (ru : RV K ca th H y u) (q : Po K ca th H (RV K ca) W Q (lstZD S x y)) : LZ.rZipL K [v, u] H Q := by
  unfold lstZD at q
  split at q
  · rename_i xs ys e1 e2
    split at q
    · rename_i hl
      obtain ⟨a, vs, rfl, h1, r1⟩ := lstOf_ok R rv e1
      obtain ⟨b, us, rfl, h2, r2⟩ := lstOf_ok R ru e2
      refine ⟨a, b, vs, us, rfl, h1, h2, by rw [← zipV r1 r2, ← szL_eq]; exact hl, fun as p has hn nd hp hpa => ?_⟩
      obtain ⟨R', g', rv'⟩ := lay_zip R r1 r2 has hn nd
      have hp' : LZ.putP H as (vs.zip us) p = none := by rw [LZ.putP_off as _ _ hpa]; exact hp
      exact (Po.later g' q).newLst R' rv' p hp'
    · exact q.elim
  · exact q.elim
theorem capD_len {r : Ev} : ∀ {cs : List Nat} {ds : List D}, capD r cs = some ds → ds.length = cs.length
  | [], ds, h => by simp [capD] at h; subst h; rfl
  | i :: is, ds, h => by
    simp only [capD] at h
    split at h
    · rename_i d ds' h1 h2
      cases h
      rw [List.length_cons, List.length_cons, capD_len h2]
    · cases h
theorem plcD_len {n : Nat} : ∀ {cs : List Nat} {r : Ev}, (plcD n cs r).length = n
  | [], _ => by simp [plcD]
  | _ :: _, [] => by simp [plcD]
  | i :: is, d :: ds => by simp [plcD, plcD_len]
theorem plcD_get {n : Nat} {r : Ev} : ∀ {cs : List Nat} {ds : List D}, capD r cs = some ds → ∀ (j : Nat) (d : D), (plcD n cs (ds.map some))[j]? = some (some d) → r[j]? = some (some d)
  | [], ds, h, j, d, e => by
    simp only [plcD, List.getElem?_replicate] at e
    split at e <;> cases e
  | i :: is, ds, h, j, d, e => by
    simp only [capD] at h
    split at h
    · rename_i d0 ds' h1 h2
      cases h
      simp only [List.map_cons, plcD] at e
      by_cases hj : i = j
      · subst hj
        have hl : i < (plcD n is (ds'.map some)).length := by
          have q := (List.getElem?_eq_some_iff.mp e).1
          simpa using q
        rw [List.getElem?_set_self hl] at e
        cases e
        exact h1
      · rw [List.getElem?_set_ne hj] at e
        exact plcD_get h2 j d e
    · cases h
theorem noExn_po {K : PySem.W.Frag} {th : List Addr} {H : Hp} {A B : Type} {rel : List Addr → Hp → A → B → Prop} {W W' : Value → Option Addr → Hp → Prop} {Q : B → Hp → Prop} {x : R A} (h : Po K ca th H rel W Q (noExn x)) : Po K ca th H rel W' Q x := by
  cases x with
  | ok a S => exact h
  | exn x S => exact h.elim
  | bad => exact h
theorem rep_extN {K : PySem.W.Frag} {th : List Addr} {H H1 : Hp} {S : Sto} (R : Rep K ca th H S) (e : LamX.ExtN H H1) (t : LamX.Tabs ca.T H1) : Rep K ca th H1 S ∧ Go th H th H1 := by
  have f : Frm H H1 := fun a o h i => e a o h fun ps z => by subst z; cases i
  refine ⟨R.same f (fun a ha => ?_) t, ⟨List.prefix_refl _, f⟩⟩
  obtain ⟨u, hu, hm⟩ := R.there ha
  rw [hu]
  exact e a u hu fun ps z => by subst z; cases hm
theorem noPar_eq {ps : Arguments} (h : noPar ps = true) : ps = ⟨[], [], none, [], [], none, []⟩ := by
  unfold noPar at h
  split at h
  · rfl
  · cases h
mutual
theorem soundE : ∀ (m : E) {X : Cx} {C : Cc} {W : WX} {hd : Hd} {e : Expr}, XC X C c ca W hd → okE m C e = true → PE X e (rdE X.K ca hd c W m)
  | .var i, X, C, W, hd, e, hX, h => by
    cases e with
    | Name x p =>
      simp only [okE, Bool.and_eq_true] at h
      obtain ⟨d1, d2, d3⟩ := dbgB_ok h.2
      refine PE.imp (pe_var (hX.slot h.1.1) (by rw [hX.sc]; exact visB_ok h.1.2) d1 d2) fun sg H Q q => ?_
      obtain ⟨th, S, r, m, q⟩ := q
      simp only [evE] at q
      split at q
      · exact q.elim
      · exact q.elim
      · rename_i d hne hnl hr
        obtain ⟨v, h1, h2⟩ := m.env i d hr
        rcases h2 with h2 | ⟨k, fs, a, cls, dd, h3, _⟩ | ⟨k, ds, f, m', h3, _⟩
        · exact ⟨v, h1, q.ok m.rep h2⟩
        · exact absurd h3 (fun z => hne k fs z)
        · exact absurd h3 (fun z => hnl k ds z)
      · exact q.elim
    | _ => simp [okE] at h
  | .con d, X, C, W, hd, e, hX, h => by
    cases e with
    | Name x p =>
      simp only [okE, Bool.and_eq_true] at h
      obtain ⟨g1, g2, g3⟩ := hX.gl h.1
      have h2 := h.2
      split at h2
      · rename_i d' hc
        have e1 := D.eqb_eq h2
        subst e1
        obtain ⟨u, v, m1, m2, m3, _⟩ := hX.cons x d' hc
        refine PE.imp (pe_glob g1 m1 m2 g2) fun sg H Q q => ?_
        obtain ⟨th, S, r, m, q⟩ := q
        simp only [evE] at q
        exact q.ok m.rep (m3 _ _)
      · split at h2
        · rename_i b
          simp only [Bool.and_eq_true, beq_iff_eq, Bool.not_eq_true', decide_eq_false_iff_not] at h2
          obtain ⟨⟨h2, hb⟩, h3⟩ := h2
          have hv := boot_bt b (by simpa using hb)
          rw [← h2] at hv
          refine PE.imp (pe_bltn (v := .ty b.name) g1 (hX.blt x h3) hv rfl g3 g2) fun sg H Q q => ?_
          obtain ⟨th, S, r, m, q⟩ := q
          simp only [evE] at q
          exact q.ok m.rep (.ty b)
        · cases h2
    | _ => simp [okE] at h
  | .int i, X, C, W, hd, e, hX, h => by
    cases e with
    | Constant k n p =>
      cases k <;> simp [okE] at h
      subst h
      exact PE.imp pe_int fun sg H Q q => by obtain ⟨th, S, r, m, q⟩ := q; simp only [evE] at q; exact q.ok m.rep (.int _)
    | _ => simp [okE] at h
  | .bl i, X, C, W, hd, e, hX, h => by
    cases e with
    | Constant k n p =>
      cases k <;> simp [okE] at h
      subst h
      exact PE.imp pe_bl fun sg H Q q => by obtain ⟨th, S, r, m, q⟩ := q; simp only [evE] at q; exact q.ok m.rep (.bl _)
    | _ => simp [okE] at h
  | .str i, X, C, W, hd, e, hX, h => by
    cases e with
    | Constant k n p =>
      cases k <;> simp [okE] at h
      subst h
      exact PE.imp pe_str fun sg H Q q => by obtain ⟨th, S, r, m, q⟩ := q; simp only [evE] at q; exact q.ok m.rep (.str _)
    | _ => simp [okE] at h
  | .non, X, C, W, hd, e, hX, h => by
    cases e with
    | Constant k n p =>
      cases k <;> simp [okE] at h
      exact PE.imp pe_non fun sg H Q q => by obtain ⟨th, S, r, m, q⟩ := q; simp only [evE] at q; exact q.ok m.rep .non
    | _ => simp [okE] at h
  | .tup es, X, C, W, hd, e, hX, h => by
    cases e with
    | Tuple xs k p =>
      simp only [okE, Bool.and_eq_true, decide_eq_true_eq] at h
      refine PE.imp (pe_tup (soundEs es (hd := hd) hX h.1)) fun sg H Q q => ?_
      obtain ⟨th, S, r, m, q⟩ := q
      simp only [evE] at q
      refine ⟨th, S, r, m, ?_⟩
      cases ev : evEs c es r S with
      | ok ds S1 =>
        have hl := evEs_len es r S S1 ds ev
        rw [ev] at q
        refine fun th1 H1 vs g R1 rv => ⟨szL1000 ?_, (Po.later g q).tup R1 rv⟩
        rw [← rv.length, hl, ← okEs_len h.1]
        exact h.2
      | _ => rw [ev] at q; exact q
    | _ => simp [okE] at h
  | .lst es, X, C, W, hd, e, hX, h => by
    cases e with
    | List xs p =>
      simp only [okE, Bool.and_eq_true, decide_eq_true_eq] at h
      refine PE.imp (pe_lst (soundEs es (hd := hd) hX h.1)) fun sg H Q q => ?_
      obtain ⟨th, S, r, m, q⟩ := q
      simp only [evE] at q
      refine ⟨th, S, r, m, ?_⟩
      cases ev : evEs c es r S with
      | ok ds S1 =>
        have hl := evEs_len es r S S1 ds ev
        rw [ev] at q
        refine fun th1 H1 vs g R1 rv => ⟨szL1000 ?_, (Po.later g q).newLst R1 rv⟩
        rw [← rv.length, hl, ← okEs_len h.1]
        exact h.2
      | _ => rw [ev] at q; exact q
    | _ => simp [okE] at h
  | .dic0, X, C, W, hd, e, hX, h => by
    cases e with
    | Dict ks vs p =>
      cases ks <;> cases vs <;> simp [okE] at h
      exact PE.imp pe_dnewK fun sg H Q q => by obtain ⟨th, S, r, m, q⟩ := q; simp only [evE] at q; exact Po.newDic m.rep q
    | _ => simp [okE] at h
  | .bin o a b, X, C, W, hd, e, hX, h => by
    cases e with
    | BinOp x op y p =>
      simp only [okE, Bool.and_eq_true] at h
      have e1 := bopB_eq h.1.1
      subst e1
      refine ⟨fun pins s sg H Q I q => ?_⟩
      refine (pe_op (r := rD2 X.K ca (fun cls dd H' => W cls dd sg H') fun S => binD S o) (op_binD o) (soundE a (hd := hd) hX h.1.2) (soundE b (hd := hd) hX h.2)).run pins s sg H Q I ?_
      obtain ⟨th, S, r, m, q⟩ := q
      simp only [evE] at q
      refine ⟨th, S, r, m, Po.bnd q fun x S1 th1 H1 v g1 R1 rv q1 => ⟨th1, S1, r, m.go R1 g1, Po.bnd q1 fun y S2 th2 H2 u g2 R2 ru q2 => ⟨th2, S2, x, y, R2, rv.go g2, ru, q2⟩⟩⟩
    | _ => simp [okE] at h
  | .neg a, X, C, W, hd, e, hX, h => by
    cases e with
    | UnaryOp op x p =>
      cases op <;> simp [okE] at h
      refine PE.imp (pe_un un_neg (soundE a (hd := hd) hX h)) fun sg H Q q => ?_
      obtain ⟨th, S, r, m, q⟩ := q
      simp only [evE] at q
      refine ⟨th, S, r, m, Po.bnd q fun x S1 th1 H1 v g1 R1 rv q1 => ?_⟩
      unfold negD at q1
      split at q1
      · cases rv.int_inv
        exact ⟨_, rfl, q1.ok R1 (.int _)⟩
      · exact q1.elim
    | _ => simp [okE] at h
  | .cmp o a b, X, C, W, hd, e, hX, h => by
    cases e with
    | Compare x ops ys p =>
      match ops, ys, h with
      | [op], [y], h =>
        simp only [okE, Bool.and_eq_true] at h
        have e1 := copB_eq h.1.1
        subst e1
        refine ⟨fun pins s sg H Q I q => ?_⟩
        refine (pe_cmpR (r := rD2 X.K ca (fun cls dd H' => W cls dd sg H') fun S => cmpD S o) (op_cmpD o hX.un) (soundE a (hd := hd) hX h.1.2) (soundE b (hd := hd) hX h.2) (okE_mark h.2 _)).run pins s sg H Q I ?_
        obtain ⟨th, S, r, m, q⟩ := q
        simp only [evE] at q
        refine ⟨th, S, r, m, Po.bnd q fun x S1 th1 H1 v g1 R1 rv q1 => ⟨th1, S1, r, m.go R1 g1, Po.bnd q1 fun y S2 th2 H2 u g2 R2 ru q2 => ⟨th2, S2, x, y, R2, rv.go g2, ru, q2⟩⟩⟩
      | [], _, h => simp [okE] at h
      | _ :: _ :: _, _, h => simp [okE] at h
      | [_], [], h => simp [okE] at h
      | [_], _ :: _ :: _, h => simp [okE] at h
    | _ => simp [okE] at h
  | .chain o o2 a b d, X, C, W, hd, e, hX, h => by
    cases e with
    | Compare x ops ys p =>
      match ops, ys, h with
      | [op, op2], [y, z], h =>
        simp only [okE, Bool.and_eq_true] at h
        have e1 := copB_eq h.1.1.1.1
        have e2 := copB_eq h.1.1.1.2
        subst e1 e2
        refine ⟨fun pins s sg H Q I q => ?_⟩
        refine (pe_chain (r := rD2 X.K ca (fun cls dd H' => W cls dd sg H') fun S => cmpD S o) (r' := rD2 X.K ca (fun cls dd H' => W cls dd sg H') fun S => cmpD S o2) (op_cmpD o hX.un) (op_cmpD o2 hX.un) (soundE a (hd := hd) hX h.1.1.2) (soundE b (hd := hd) hX h.1.2) (soundE d (hd := hd) hX h.2) (okE_mark h.2 _)).run pins s sg H Q I ?_
        obtain ⟨th, S, r, m, q⟩ := q
        simp only [evE] at q
        refine ⟨th, S, r, m, Po.bnd q fun x S1 th1 H1 v g1 R1 rv q1 => ⟨th1, S1, r, m.go R1 g1, Po.bnd q1 fun y S2 th2 H2 u g2 R2 ru q2 => ⟨th2, S2, x, y, R2, rv.go g2, ru, Po.bnd q2 fun k S3 th3 H3 w g3 R3 rw q3 => ?_⟩⟩⟩
        obtain ⟨kk, rfl, q3⟩ := onB_of rw q3
        refine ⟨kk, rfl, ?_⟩
        cases kk with
        | true =>
          rw [if_pos rfl] at q3 ⊢
          exact ⟨th3, S3, r, m.go R3 ((g1.trans g2).trans g3), Po.bnd q3 fun z S4 th4 H4 w g4 R4 rw q4 => ⟨th4, S4, y, z, R4, ru.go (g3.trans g4), rw, q4⟩⟩
        | false =>
          rw [if_neg Bool.false_ne_true] at q3 ⊢
          exact q3.ok R3 (.bl _)
      | [], _, h => simp [okE] at h
      | [_], _, h => simp [okE] at h
      | _ :: _ :: _ :: _, _, h => simp [okE] at h
      | [_, _], [], h => simp [okE] at h
      | [_, _], [_], h => simp [okE] at h
      | [_, _], _ :: _ :: _ :: _, h => simp [okE] at h
    | _ => simp [okE] at h
  | .band es, X, C, W, hd, e, hX, h => by
    cases e with
    | BoolOp op xs p =>
      cases op <;> simp [okE] at h
      exact PE.imp (soundAnd es (hd := hd) hX h) fun sg H Q q => by obtain ⟨th, S, r, m, q⟩ := q; simp only [evE] at q; exact ⟨th, S, r, m, q⟩
    | _ => simp [okE] at h
  | .bor es, X, C, W, hd, e, hX, h => by
    cases e with
    | BoolOp op xs p =>
      cases op <;> simp [okE] at h
      exact PE.imp (soundOr es (hd := hd) hX h) fun sg H Q q => by obtain ⟨th, S, r, m, q⟩ := q; simp only [evE] at q; exact ⟨th, S, r, m, q⟩
    | _ => simp [okE] at h
  | .bnot a, X, C, W, hd, e, hX, h => by
    cases e with
    | UnaryOp op x p =>
      cases op <;> simp [okE] at h
      refine PE.imp (pe_notT (soundE a (hd := hd) hX h)) fun sg H Q q => ?_
      obtain ⟨th, S, r, m, q⟩ := q
      simp only [evE] at q
      refine ⟨th, S, r, m, Po.bnd q fun x S1 th1 H1 v g1 R1 rv q1 => ?_⟩
      unfold truR at q1
      split at q1
      · rename_i b e1
        exact ⟨b, truD_ok R1 rv e1, Po.ok R1 (RV.bl _) q1⟩
      · exact q1.elim
    | _ => simp [okE] at h
  | .ife t a b, X, C, W, hd, e, hX, h => by
    cases e with
    | IfExp u x y p =>
      simp only [okE, Bool.and_eq_true] at h
      refine PE.imp (pe_ifExp (soundT t (hd := hd) hX h.1.1) (soundE a (hd := hd) hX h.1.2) (soundE b (hd := hd) hX h.2)) fun sg H Q q => ?_
      obtain ⟨th, S, r, m, q⟩ := q
      simp only [evE] at q
      refine ⟨th, S, r, m, Po.bnd q fun k S1 th1 H1 v g1 R1 rv q1 => ?_⟩
      subst rv
      cases k with
      | true => rw [if_pos rfl] at q1 ⊢; exact ⟨th1, S1, r, m.go R1 g1, q1⟩
      | false => rw [if_neg Bool.false_ne_true] at q1 ⊢; exact ⟨th1, S1, r, m.go R1 g1, q1⟩
    | _ => simp [okE] at h
  | .call f es, X, C, W, hd, e, hX, h => by
    cases e with
    | Call u xs kws p =>
      cases u with
      | Name x px =>
        cases kws with
        | nil =>
          simp only [okE, Bool.and_eq_true, Bool.not_eq_true', decide_eq_true_eq] at h
          obtain ⟨⟨⟨h1, h2⟩, h3⟩, h4⟩ := h
          obtain ⟨g1, g2, g3⟩ := hX.gl h2
          obtain ⟨k, fA, fd, ps, hr, hm, hk, hb, hl, F⟩ := hX.fns h1 x f es.len h3
          have hx : ∀ sg, PassesAt (L2.CX X.prog X.w) X sg (WE W sg) := fun sg => passAt hX.takes sg
          have hA := soundEs es (hd := hd) hX h4
          have fin : ∀ sg H Q, rdE X.K ca hd c W (.call f es) sg H Q → tCallSD (spOf X.K ca c f es.len) [] (WE W) (rdEs X.K ca hd c W es) sg H Q := fun sg H Q q => by
            obtain ⟨th, S, r, m, q⟩ := q
            simp only [evE] at q
            refine ⟨th, S, r, m, ?_⟩
            cases ev : evEs c es r S with
            | ok ds S1 =>
              have hl := evEs_len es r S S1 ds ev
              rw [ev] at q
              refine fun th1 H1 vs g R1 rv => ⟨th1, S1, ds, R1, by rw [List.append_nil]; exact rv, hl, Po.later g q⟩
            | _ => rw [ev] at q; exact q
          cases xs with
          | nil =>
            refine PE.imp (pe_call0SD F hr g1 hm hk hb hx g2) fun sg H Q q => ?_
            cases es with
            | nil =>
              obtain ⟨th, S, r, m, q⟩ := q
              simp only [evE, evEs, R.bnd_ok] at q
              exact ⟨th, S, [], m.rep, .nil, rfl, q⟩
            | cons e es => simp [okEs] at h4
          | cons x1 xs =>
            have st : starEach (x1 :: xs) X.env = (false, eval x1 X.env) :: starEach xs X.env := by
              cases es with
              | nil => simp [okEs] at h4
              | cons e es =>
                simp only [okEs, Bool.and_eq_true] at h4
                exact okE_star h4.1 _ _
            have pl : (backTo p (starEach xs X.env)).any (·.1) = false := by
              cases es with
              | nil => simp [okEs] at h4
              | cons e es =>
                simp only [okEs, Bool.and_eq_true] at h4
                exact okEs_plain h4.2 _ _
            exact PE.imp (pe_callSD F hr g1 hm hk hb .nil hx hA g2 st pl) fin
        | cons _ _ => simp [okE] at h
      | _ => simp [okE] at h
    | _ => simp [okE] at h
  | .bcall f es, X, C, W, hd, e, hX, h => by
    cases e with
    | Call u xs kws p =>
      cases u with
      | Name x px =>
        cases kws with
        | nil =>
          simp only [okE, Bool.and_eq_true, Bool.not_eq_true', Bool.or_eq_true, beq_iff_eq] at h
          obtain ⟨⟨⟨⟨⟨h0, h1⟩, h2⟩, h3⟩, h4⟩, h5⟩ := h
          obtain ⟨g1, g2, g3⟩ := hX.gl h1
          cases xs with
          | nil => simp at h5
          | cons x1 xs =>
            have st : starEach (x1 :: xs) X.env = (false, eval x1 X.env) :: starEach xs X.env := by
              cases es with
              | nil => simp [okEs] at h4
              | cons e es =>
                simp only [okEs, Bool.and_eq_true] at h4
                exact okE_star h4.1 _ _
            have pl : (backTo p (starEach xs X.env)).any (·.1) = false := by
              cases es with
              | nil => simp [okEs] at h4
              | cons e es =>
                simp only [okEs, Bool.and_eq_true] at h4
                exact okEs_plain h4.2 _ _
            refine ⟨fun pins s sg H Q I q => ?_⟩
            refine (pe_bf (ca := ca) (Wx := fun cls dd H' => W cls dd sg H') h2 (fun z => ?_) g1 (hX.blt x h3) (soundEs es (hd := hd) hX h4) g3 g2 st pl).run pins s sg H Q I ?_
            · rcases h0 with h0 | h0
              · rw [h0] at z; cases z
              · exact hX.calm h0
            · obtain ⟨th, S, r, m, q⟩ := q
              simp only [evE] at q
              exact ⟨th, S, r, m, Po.bnd q fun ds S1 th1 H1 vs g R1 rv q1 => ⟨th1, S1, ds, R1, rv, q1⟩⟩
        | cons _ _ => simp [okE] at h
      | _ => simp [okE] at h
    | _ => simp [okE] at h
  | .meth k o es, X, C, W, hd, e, hX, h => by
    cases e with
    | Call u xs kws p =>
      cases u with
      | Attribute u x px =>
        cases kws with
        | nil =>
          simp only [okE, Bool.and_eq_true, beq_iff_eq, decide_eq_true_eq] at h
          obtain ⟨⟨⟨⟨⟨h0, h1⟩, h2⟩, h3⟩, h4⟩, h5⟩ := h
          subst h0
          have hb := recvB_ok h1 (mtS k) X.env
          have hl : (px.endLine == p.line) = true := by rw [h2]; simp
          refine ⟨fun pins s sg H Q I q => ?_⟩
          have hm := mt_mtD (X := X) (ca := ca) (Wx := fun cls dd H' => W cls dd sg H') k hX.un
          cases xs with
          | nil =>
            refine (pe_mt0 hm (soundE o (hd := hd) hX h3) hb hl).run pins s sg H Q I ?_
            cases es with
            | nil =>
              obtain ⟨th, S, r, m, q⟩ := q
              simp only [evE, evEs, R.bnd_ok] at q
              refine ⟨th, S, r, m, Po.bnd q fun d S1 th1 H1 v g R1 rv q1 => ?_⟩
              split at q1
              · rename_i hi
                exact ⟨isL_ty R1 rv hi, th1, S1, d, [], R1, rv, .nil, q1⟩
              · exact q1.elim
            | cons e es => simp [okEs] at h4
          | cons x1 xs =>
            have st : starEach (x1 :: xs) X.env = (false, eval x1 X.env) :: starEach xs X.env := by
              cases es with
              | nil => simp [okEs] at h4
              | cons e es =>
                simp only [okEs, Bool.and_eq_true] at h4
                exact okE_star h4.1 _ _
            have pl : (backTo p (starEach xs X.env)).any (·.1) = false := by
              cases es with
              | nil => simp [okEs] at h4
              | cons e es =>
                simp only [okEs, Bool.and_eq_true] at h4
                exact okEs_plain h4.2 _ _
            have fw : ((backTo p (starEach (x1 :: xs) X.env)).all (fun x => !x.1) && (backToKw p (keywordEach [] X.env)).all (fun x => x.1.isSome)
                && decide ((x1 :: xs).length + ([] : List Keyword).length + (if ([] : List Keyword).isEmpty then 0 else 1) < 30)) = true := by
              rw [okEs_all h4, Bool.true_and, Bool.and_eq_true]
              refine ⟨rfl, decide_eq_true ?_⟩
              simp only [List.length_nil, List.isEmpty_nil, if_true]
              omega
            refine (pe_mt hm (soundE o (hd := hd) hX h3) (soundEs es (hd := hd) hX h4) hb fw hl st pl).run pins s sg H Q I ?_
            obtain ⟨th, S, r, m, q⟩ := q
            simp only [evE] at q
            refine ⟨th, S, r, m, Po.bnd q fun d S1 th1 H1 v g R1 rv q1 => ?_⟩
            split at q1
            · rename_i hi
              exact ⟨isL_ty R1 rv hi, th1, S1, r, m.go R1 g, Po.bnd q1 fun ds S2 th2 H2 vs g2 R2 rvs q2 => ⟨th2, S2, d, ds, R2, rv.go g2, rvs, q2⟩⟩
            · exact q1.elim
        | cons _ _ => simp [okE] at h
      | _ => simp [okE] at h
    | _ => simp [okE] at h
  | .ix a b, X, C, W, hd, e, hX, h => by
    cases e with
    | Subscript x y p =>
      simp only [okE, Bool.and_eq_true] at h
      refine ⟨fun pins s sg H Q I q => ?_⟩
      refine (pe_ix (r := rD2 X.K ca (fun cls dd H' => W cls dd sg H') ixD) ix_ixD (soundE a (hd := hd) hX h.1) (soundE b (hd := hd) hX h.2) (okE_plainIx h.2)).run pins s sg H Q I ?_
      obtain ⟨th, S, r, m, q⟩ := q
      simp only [evE] at q
      exact ⟨th, S, r, m, Po.bnd q fun x S1 th1 H1 v g1 R1 rv q1 => ⟨th1, S1, r, m.go R1 g1, Po.bnd q1 fun y S2 th2 H2 u g2 R2 ru q2 => ⟨th2, S2, x, y, R2, rv.go g2, ru, q2⟩⟩⟩
    | _ => simp [okE] at h
  | .sl a lo hi, X, C, W, hd, e, hX, h => by
    cases e with
    | Subscript x y p =>
      cases y with
      | Slice l hh st p2 =>
        cases st with
        | none =>
          simp only [okE, Bool.and_eq_true] at h
          refine ⟨fun pins s sg H Q I q => ?_⟩
          refine (pe_slice (r := rSl X.K ca (fun cls dd H' => W cls dd sg H')) sl_slD (soundE a (hd := hd) hX h.1.1) (soundO lo (hd := hd) hX h.1.2) (soundO hi (hd := hd) hX h.2)).run pins s sg H Q I ?_
          obtain ⟨th, S, r, m, q⟩ := q
          simp only [evE] at q
          refine ⟨th, S, r, m, Po.bnd q fun x S1 th1 H1 v g1 R1 rv q1 => ⟨th1, S1, r, m.go R1 g1, Po.bnd q1 fun l S2 th2 H2 l' g2 R2 rl q2 => ⟨th2, S2, r, m.go R2 (g1.trans g2), Po.bnd q2 fun hh S3 th3 H3 h' g3 R3 rh q3 => ?_⟩⟩⟩
          subst rl rh
          exact ⟨th3, S3, x, R3, rv.go (g2.trans g3), q3⟩
        | some _ => simp [okE] at h
      | _ => simp [okE] at h
    | _ => simp [okE] at h
  | .rev a, X, C, W, hd, e, hX, h => by
    simp only [okE] at h
    split at h
    · rename_i x j n p1 p2 p3 p4
      simp only [Bool.and_eq_true, beq_iff_eq] at h
      obtain ⟨h1, h2⟩ := h
      subst h1
      refine PE.imp (pe_revL (soundE a (hd := hd) hX h2)) fun sg H Q q => ?_
      obtain ⟨th, S, r, m, q⟩ := q
      simp only [evE] at q
      refine ⟨th, S, r, m, Po.bnd q fun x S1 th1 H1 v g1 R1 rv q1 => ?_⟩
      unfold revD at q1
      split at q1
      · rename_i ds he
        obtain ⟨a, vs, rfl, h3, h4⟩ := lstOf_ok R1 rv he
        exact ⟨a, vs, rfl, h3, q1.newLst R1 h4.reverse⟩
      · exact q1.elim
    · cases h
  | .lc x tg it cd own, X, C, W, hd, e, hX, h => by
    simp only [okE] at h
    split at h
    · rename_i elt t iter ifs z scope p
      simp only [Bool.and_eq_true, beq_iff_eq, Bool.not_eq_true', decide_eq_true_eq] at h
      obtain ⟨⟨⟨⟨⟨⟨⟨h1, h2, hx⟩, h3⟩, h4⟩, h5⟩, h6⟩, h7⟩, h8⟩ := h
      subst h1
      cases hb : eoX cd with
      | true =>
        rw [hb] at hx
        have hx : C.lx.act = 3 := by simpa using hx
        have hst := hX.stk hx
        refine PE.imp (LCX.pe_lcX (own := ownP C.N own) (te := fun σ => rdE X.K ca hd c (LCX.wx W σ) x) (g := rdG X.K ca hd tg) (tt := fun σ => rdC X.K ca hd c (LCX.wx W σ) cd) (wi := rdI X.K ca hd c W it) hX.takes hst.1 hst.2 (hX.calm h2) hX.nd (soundI it (hd := hd) hX h3) (blkOk_by (by rw [hX.hN, hX.sc]; exact h4)) (fun σ s H D cl fp => soundG tg (hX.blkX h2 s H scope D cl fp _) h6)
          (fun σ s H D cl fp => soundC cd (hX.blkX h2 s H scope D cl fp _) h7) (fun σ s H D cl fp => soundE x (hX.blkX h2 s H scope D cl fp _) h8) (okI_set h3 _)) fun sg H Q q => ?_
        rw [h5]
        exact tLc_ofX hb (okTg_slots h6) q
      | false =>
      refine PE.imp (pe_lc (own := ownP C.N own) (te := rdE X.K ca hd c W0 x) (g := rdG X.K ca hd tg) (tt := rdC X.K ca hd c W0 cd) (wi := rdI X.K ca hd c W it) (hX.calm h2) hX.nd (soundI it (hd := hd) hX h3) (blkOk_by (by rw [hX.hN, hX.sc]; exact h4)) (fun s H D cl fp => soundG tg (hX.blk h2 s H scope D cl fp) h6)
        (fun s H D cl fp => soundC cd (hX.blk h2 s H scope D cl fp) h7) (fun s H D cl fp => soundE x (hX.blk h2 s H scope D cl fp) h8) (okI_set h3 _)) fun sg H Q q => ?_
      rw [h5]
      exact tLc_of hb (okTg_slots h6) q
    · cases h
  | .dic1 k v, X, C, W, hd, e, hX, h => by
    simp only [okE] at h
    split at h
    · rename_i a n1 p1 j n2 p2 p3
      have key : ∀ (kv : Key × V) (ek : Expr), PE X ek (tC (kV kv.1)) → kv = (k, .int v) → PE X (.Dict [some ek] [.Constant (.int v) n2 p2] p3) (rdE X.K ca hd c W (.dic1 k v)) := by
        intro kv ek pk hkv
        refine PE.imp (pe_disp (pps_cons pk pe_int pps_nil) rfl rfl (by simp) (by simp)) fun sg H Q q => ?_
        obtain ⟨th, S, r, m, q⟩ := q
        simp only [evE] at q
        intro p hp
        refine ⟨upd_same, [kv], ?_, by simp, ?_⟩
        · rw [hkv]; rfl
        · rw [upd_upd, hkv]
          exact q (th ++ [p]) _ (.ref p) (Go.new hp) (m.rep.new hp ⟨[(k, .int v)], upd_same, rfl, .cons (.int v) .nil⟩) (.loc (by rw [← m.rep.len, List.getElem?_append_right (Nat.le_refl _)]; simp))
      split at h
      · simp only [Bool.and_eq_true, beq_iff_eq] at h
        obtain ⟨h1, h2⟩ := h
        subst h1 h2
        exact key (_, _) _ pe_int rfl
      · simp only [Bool.and_eq_true, beq_iff_eq] at h
        obtain ⟨h1, h2⟩ := h
        subst h1 h2
        exact key (_, _) _ pe_str rfl
      · cases h
    · cases h
  | .joinS s a, X, C, W, hd, e, hX, h => by
    simp only [okE] at h
    split at h
    · rename_i t k q n ap x cp
      simp only [Bool.and_eq_true, beq_iff_eq] at h
      obtain ⟨⟨⟨h1, h2⟩, h3⟩, h4⟩ := h
      subst h1 h2
      refine PE.imp (pe_join pe_str (soundE a (hd := hd) hX h4) (okE_star h4 _ _) rfl (by rw [h3]; simp)) fun sg H Q q => ?_
      obtain ⟨th, S, r, m, q⟩ := q
      simp only [evE] at q
      refine ⟨⟨_, rfl⟩, th, S, r, m, Po.bnd q fun x S1 th1 H1 v g1 R1 rv q1 => ?_⟩
      unfold joinD at q1
      split at q1
      · rename_i ds he
        split at q1
        · rename_i ys hy
          split at q1
          · rename_i hl
            obtain ⟨p, vs, rfl, h5, h6⟩ := seqOf_ok R1 rv he
            have hv := strsD_ok h6 hy
            subst hv
            exact ⟨_, p, ys, rfl, rfl, h5, hl, q1.ok R1 (.str _)⟩
          · exact q1.elim
        · exact q1.elim
      · exact q1.elim
    · cases h
  | .dicT, X, C, W, hd, e, hX, h => by
    cases e with
    | Dict ks vs p =>
      cases ks <;> cases vs <;> simp [okE] at h
      exact PE.imp pe_dnewT fun sg H Q q => by obtain ⟨th, S, r, m, q⟩ := q; simp only [evE] at q; exact Po.newDct m.rep q
    | _ => simp [okE] at h
  | .kin neg a kvs, X, C, W, hd, e, hX, h => by
    simp only [okE] at h
    split at h
    · rename_i x op y yp p
      simp only [Bool.and_eq_true] at h
      obtain ⟨⟨⟨h1, h2⟩, h3⟩, h4⟩ := h
      obtain ⟨g1, g2, g3⟩ := hX.gl h2
      have e1 : op = if neg = true then .NotIn else .In := by cases neg <;> cases op <;> first | rfl | (cases h1)
      subst e1
      split at h3
      · rename_i d hc
        have e2 := D.eqb_eq h3
        subst e2
        obtain ⟨v, u, m1, m2, m3, m4⟩ := hX.cons y _ hc
        obtain ⟨dd, es, n, rfl, D, hz⟩ := m4 kvs rfl
        refine ⟨fun pins s sg H Q I q => ?_⟩
        refine (pe_cmpR (r := rKin X.K ca (fun cls dd H' => W cls dd sg H') neg kvs dd) (op_kin neg D hz) (soundE a (hd := hd) hX h4) (pe_glob g1 m1 m2 g2) rfl).run pins s sg H Q I ?_
        obtain ⟨th, S, r, m, q⟩ := q
        simp only [evE] at q
        exact ⟨th, S, r, m, Po.bnd q fun x S1 th1 H1 v g1 R1 rv q1 => ⟨th1, S1, x, R1, rv, rfl, q1⟩⟩
      · cases h3
    · cases h
  | .kix kvs a, X, C, W, hd, e, hX, h => by
    simp only [okE] at h
    split at h
    · rename_i y yp x p
      simp only [Bool.and_eq_true] at h
      obtain ⟨⟨h2, h3⟩, h4⟩ := h
      obtain ⟨g1, g2, g3⟩ := hX.gl h2
      split at h3
      · rename_i d hc
        have e2 := D.eqb_eq h3
        subst e2
        obtain ⟨v, u, m1, m2, m3, m4⟩ := hX.cons y _ hc
        obtain ⟨dd, es, n, rfl, D, hz⟩ := m4 kvs rfl
        refine ⟨fun pins s sg H Q I q => ?_⟩
        refine (pe_ix (r := rKix X.K ca (fun cls dd H' => W cls dd sg H') kvs dd) (ix_kix D hz) (pe_glob g1 m1 m2 g2) (soundE a (hd := hd) hX h4) (okE_plainIx h4)).run pins s sg H Q I ?_
        obtain ⟨th, S, r, m, q⟩ := q
        simp only [evE] at q
        exact ⟨th, S, r, m, Po.bnd q fun x S1 th1 H1 v g1 R1 rv q1 => ⟨th1, S1, x, R1, rfl, rv, q1⟩⟩
      · cases h3
    · cases h
  | .din neg a b, X, C, W, hd, e, hX, h => by
    simp only [okE] at h
    split at h
    · rename_i x op y p
      simp only [Bool.and_eq_true] at h
      obtain ⟨⟨h1, h2⟩, h3⟩ := h
      have e1 : op = if neg = true then .NotIn else .In := by cases neg <;> cases op <;> first | rfl | (cases h1)
      subst e1
      refine ⟨fun pins s sg H Q I q => ?_⟩
      refine (pe_cmpR (r := rD2 X.K ca (fun cls dd H' => W cls dd sg H') fun S => fun x y => dinD S neg x y) (op_dinD neg hX.un) (soundE a (hd := hd) hX h2) (soundE b (hd := hd) hX h3) (okE_mark h3 _)).run pins s sg H Q I ?_
      obtain ⟨th, S, r, m, q⟩ := q
      simp only [evE] at q
      exact ⟨th, S, r, m, Po.bnd q fun x S1 th1 H1 v g1 R1 rv q1 => ⟨th1, S1, r, m.go R1 g1, Po.bnd q1 fun y S2 th2 H2 u g2 R2 ru q2 => ⟨th2, S2, x, y, R2, rv.go g2, ru, q2⟩⟩⟩
    · cases h
  | .shw t a, X, C, W, hd, e, hX, h => by
    simp only [okE] at h
    split at h
    · rename_i n p1 x p3
      simp only [Bool.and_eq_true, beq_iff_eq, Bool.not_eq_true'] at h
      obtain ⟨h0, h1, ⟨⟨h2, h3⟩, h4⟩, h5⟩ := h
      have g1 := (hX.gl h2).1
      have hb1 := hX.blt n h4
      have hgd := hX.gd h0
      have hun := hX.un
      have imp : ∀ {sg : L2.St} {H : Hp} {Q : VK}, rdE X.K ca hd c W (.shw t a) sg H Q → tCB (rShow X.K) (tCons (rdE X.K ca hd c W a) tNil) sg H Q := fun {sg H Q} q => by
        obtain ⟨th, S, r, m, q⟩ := q
        simp only [evE] at q
        refine ⟨th, S, r, m, Po.bnd q fun x S1 th1 H1 v g1 R1 rv q1 => ?_⟩
        unfold shwD at q1
        split at q1
        · rename_i xs e1
          have hp := rdD_ok R1 _ _ _ _ rv e1
          split at q1
          · rename_i hc
            cases hp with
            | lst s1 d1 => exact ⟨_, _, rfl, .lst s1 d1, hc.1, hc.2.1, hc.2.2.1, by rw [sizeLine_eq]; exact hc.2.2.2, q1.ok R1 (.str _)⟩
          · exact q1.elim
        · rename_i xs e1
          have hp := rdD_ok R1 _ _ _ _ rv e1
          split at q1
          · rename_i hc
            cases hp with
            | tup s1 d1 => exact ⟨_, _, rfl, .tup s1 d1, hc.1, hc.2.1, hc.2.2.1, by rw [sizeLine_eq]; exact hc.2.2.2, q1.ok R1 (.str _)⟩
          · exact q1.elim
        · exact q1.elim
      cases t with
      | true =>
        have h3 : n = ("repr" : Str) := h3
        subst h3
        exact PE.imp (pe_callB (call_reprD hgd hun) g1 hb1 (by rfl) (pa_cons (soundE a (hd := hd) hX h5) pa_nil (okE_star h5 _ _)) (by decide) (by decide) (okE_star h5 _ _) rfl) fun sg H Q q => imp q
      | false =>
        have h3 : n = ("str" : Str) := h3
        subst h3
        exact PE.imp (pe_callTy (call_strD hgd hun) g1 hb1 (by rfl) (pa_cons (soundE a (hd := hd) hX h5) pa_nil (okE_star h5 _ _)) (by decide) (by decide) (okE_star h5 _ _) rfl) fun sg H Q q => imp q
    · cases h
  | .lstR a, X, C, W, hd, e, hX, h => by
    simp only [okE] at h
    split at h
    · rename_i n p1 m p2 x p3 p4
      simp only [Bool.and_eq_true, beq_iff_eq, Bool.not_eq_true'] at h
      obtain ⟨⟨⟨⟨⟨⟨⟨h0, h1⟩, h2⟩, h3⟩, h4⟩, h5⟩, h6⟩, h7⟩ := h
      have g1 := (hX.gl h1).1
      have hb1 := hX.blt n h3
      have g2 := (hX.gl h4).1
      have hb2 := hX.blt m h6
      subst h2 h5
      refine PE.imp (pe_listRg (hX.calm h0) g1 hb1 (prg_1 g2 hb2 (soundE a (hd := hd) hX h7) (okE_star h7 _ _)) rfl) fun sg H Q q => ?_
      obtain ⟨th, S, r, m, q⟩ := q
      simp only [evE] at q
      refine ⟨th, S, r, m, Po.bnd q fun x S1 th1 H1 v g1 R1 rv q1 => ?_⟩
      unfold lstRD at q1
      split at q1
      · split at q1
        · rename_i hr
          cases rv.int_inv
          obtain ⟨hr, hl⟩ := hr
          unfold okRng at hr
          simp only [Bool.and_eq_true, decide_eq_true_eq] at hr
          refine ⟨_, rfl, ⟨by decide, by decide, hr.1, hr.2, by simpa using hl⟩, ?_⟩
          refine q1.newLst R1 ?_
          exact rvs_rng _
        · exact q1.elim
      · exact q1.elim
    · cases h
  | .lstZ a b, X, C, W, hd, e, hX, h => by
    simp only [okE] at h
    split at h
    · rename_i n p1 m p2 x y p3 p4
      simp only [Bool.and_eq_true, beq_iff_eq, Bool.not_eq_true'] at h
      obtain ⟨⟨⟨⟨⟨⟨⟨⟨h0, h1⟩, h2⟩, h3⟩, h4⟩, h5⟩, h6⟩, h7⟩, h8⟩ := h
      have g1 := (hX.gl h1).1
      have hb1 := hX.blt n h3
      have g2 := (hX.gl h4).1
      have hb2 := hX.blt m h6
      subst h2 h5
      have pl : (backTo p3 (starEach [y] X.env)).any (·.1) = false := by rw [okE_star h8]; rfl
      refine PE.imp (LZ.pe_listZip (hX.calm h0) g1 hb1 g2 hb2 (pa_cons (soundE a (hd := hd) hX h7) (pa_cons (soundE b (hd := hd) hX h8) pa_nil (okE_star h8 _ _)) (okE_star h7 _ _)) (okE_star h7 _ _) pl) fun sg H Q q => ?_
      obtain ⟨th, S, r, m, q⟩ := q
      simp only [evE] at q
      refine ⟨th, S, r, m, Po.bnd q fun d S1 th1 H1 v g1 R1 rv q1 => ⟨th1, S1, r, m.go R1 g1, Po.bnd q1 fun d2 S2 th2 H2 v2 g2 R2 rv2 q2 => ?_⟩⟩
      exact lstZ_of R2 (rv.go g2) rv2 q2
    · cases h
  | .exIs i tp cs kn, X, C, W, hd, e, hX, h => pe_exIs hX h
  | .exVe i kn, X, C, W, hd, e, hX, h => pe_exVe hX h
  | .exFld _ _ _, X, C, W, hd, e, hX, h => pe_exFld hX h
  | .act i, X, C, W, hd, e, hX, h => by
    simp only [okE] at h
    split at h
    · rename_i x p1 p2
      simp only [Bool.and_eq_true, beq_iff_eq] at h
      obtain ⟨⟨h1, h2⟩, h3⟩ := h
      subst h2
      refine ⟨fun pins s sg H Q I q => ?_⟩
      obtain ⟨th, S, r, m, q⟩ := q
      simp only [evE] at q
      split at q
      · rename_i k ds hr
        obtain ⟨v, e1, e2⟩ := m.env 0 _ hr
        rcases e2 with e2 | ⟨_, _, _, _, _, z, _⟩ | ⟨k', ds', f, m', z, e2, e3, e4⟩
        · cases e2
        · cases z
        · cases z
          subst e2
          exact (hX.act2 h1 m' e3 x (of_decide_eq_true h3) p1 p2).run pins s sg H Q I ⟨th, S, k, ds, f, m.rep, e1, e4, q⟩
      · exact q.elim
    · cases h
  | .lamC f k cs b, X, C, W, hd, e, hX, h => by
    simp only [okE] at h
    split at h
    · rename_i x p ps lb scope lpos pos
      simp only [Bool.and_eq_true, Bool.not_eq_true', decide_eq_true_eq] at h
      obtain ⟨⟨⟨⟨⟨⟨⟨⟨h1, h2⟩, h3, h10⟩, h4⟩, h5⟩, h6⟩, h7⟩, h8⟩, h9⟩ := h
      obtain ⟨hd0, c1, c2, n, cA, P, rm, TB, hc, hT, hu, hl, hrv, hbd⟩ := hX.lam h1
      subst hd0
      obtain ⟨g1, g2, g3⟩ := hX.gl h3
      have hlk : C.lx.lams.lookup k = some (cs, b) := by
        unfold lamsB at h7
        split at h7
        · rename_i cs' b' e
          simp only [Bool.and_eq_true, decide_eq_true_eq] at h7
          rw [e, h7.1, E.eqb_eq h7.2]
        · cases h7
      obtain ⟨g, pg, bg, sg', dV, kV, doc, pm, cdv, ct, oc, an, od, osl, Ng, a, r1, r2, r3, r4, r5, r6, r7, r8, r9, r10, r11⟩ := hrv x f h10 h4
      cases noPar_eq h5
      refine ⟨fun pins s sg H Q I q => ?_⟩
      refine (pe_lamS (T := ca.T) (TT := TTof X.K ca c c1 f) (t := fun E => rdE X.K ca Hd.no c2 (fun cls d _ H' => E cls d H') b) g1 r1 r2 r3 r4 r5 r6 r7 r8 r9 r10 r11 TB hc hT hu rm (LamX.lamS_by (by rw [hX.sc]; exact h6)) rfl (fun _ _ _ _ _ => rfl)
        (hbd k cs b hlk scope lb h6 h9 · · · · · · ·) g2).run pins s sg H Q I ?_
      obtain ⟨th, S, r, m, q⟩ := q
      simp only [evE] at q
      cases ec : capD r cs with
      | none => rw [ec] at q; exact q.elim
      | some ds =>
        rw [ec] at q
        dsimp only at q
        split at q
        · rename_i hok
          refine ⟨m.rep.tabs, fun H1 eN T1 => ?_⟩
          obtain ⟨R1, G1⟩ := rep_extN m.rep eN T1
          refine ⟨th, S, k, ds, R1, fun th' H' S' E Q' g' R' p => ⟨th', S', plcD C.N.length cs (ds.map some), ?_, ?_⟩, noExn_po (Po.later G1 q)⟩
          · have m2 := m.go R' (G1.trans g')
            refine ⟨R', ?_, fun j d e => m2.env j d (plcD_get ec j d e)⟩
            rw [plcD_len, I.len, hX.hN]
          · rcases hl k cs b hlk ds S' (capD_len ec) with z | z
            · rw [z] at p; exact p.elim
            · rw [z] at p; exact p
        · exact q.elim
    · cases h
theorem soundEs : ∀ (m : Es) {X : Cx} {C : Cc} {W : WX} {hd : Hd} {es : List Expr}, XC X C c ca W hd → okEs m C es = true → PA X es (rdEs X.K ca hd c W m)
  | .nil, X, C, W, hd, es, hX, h => by
    simp only [okEs, List.isEmpty_iff] at h
    subst h
    exact PA.imp pa_nil fun sg H Q q => by obtain ⟨th, S, r, m, q⟩ := q; simp only [evEs] at q; exact Po.ok m.rep RVs.nil q
  | .cons e es, X, C, W, hd, xs, hX, h => by
    cases xs with
    | nil => simp [okEs] at h
    | cons x xs =>
      simp only [okEs, Bool.and_eq_true] at h
      refine PA.imp (pa_cons (soundE e (hd := hd) hX h.1) (soundEs es (hd := hd) hX h.2) (okE_star h.1 _ _)) fun sg H Q q => ?_
      obtain ⟨th, S, r, m, q⟩ := q
      simp only [evEs] at q
      exact ⟨th, S, r, m, Po.bnd q fun d S1 th1 H1 v g1 R1 rv q1 => ⟨th1, S1, r, m.go R1 g1, Po.bnd q1 fun ds S2 th2 H2 vs g2 R2 rvs q2 => Po.ok R2 (RVs.cons (rv.go g2) rvs) q2⟩⟩
theorem soundAnd : ∀ (m : Es) {X : Cx} {C : Cc} {W : WX} {hd : Hd} {es : List Expr} {p : Pos}, XC X C c ca W hd → okEs m C es = true → PE X (.BoolOp .And es p) (rdX X.K ca hd W (RV X.K ca) (evAnd c m))
  | .nil, X, C, W, hd, es, p, hX, h => ⟨fun pins s sg H Q I q => by obtain ⟨th, S, r, m, q⟩ := q; simp only [evAnd] at q; exact q.elim⟩
  | .cons e .nil, X, C, W, hd, xs, p, hX, h => by
    cases xs with
    | nil => simp [okEs] at h
    | cons x xs =>
      simp only [okEs, Bool.and_eq_true, List.isEmpty_iff] at h
      obtain ⟨h1, rfl⟩ := h
      exact PE.imp (pe_one (soundE e (hd := hd) hX h1)) fun sg H Q q => by obtain ⟨th, S, r, m, q⟩ := q; simp only [evAnd] at q; exact ⟨th, S, r, m, q⟩
  | .cons e (.cons e2 es), X, C, W, hd, xs, p, hX, h => by
    cases xs with
    | nil => simp [okEs] at h
    | cons x xs =>
      have h' : okE e C x = true ∧ okEs (.cons e2 es) C xs = true := by simpa only [okEs, Bool.and_eq_true] using h
      cases xs with
      | nil => simp [okEs] at h'
      | cons x2 xs =>
        refine PE.imp (pe_and (soundE e (hd := hd) hX h'.1) (soundAnd (.cons e2 es) (hd := hd) hX h'.2)) fun sg H Q q => ?_
        obtain ⟨th, S, r, m, q⟩ := q
        simp only [evAnd] at q
        refine ⟨th, S, r, m, Po.bnd q fun d S1 th1 H1 v g1 R1 rv q1 => ?_⟩
        obtain ⟨k, rfl, q1⟩ := onB_of rv q1
        refine ⟨k, rfl, ?_⟩
        cases k with
        | true => rw [if_pos rfl] at q1 ⊢; exact ⟨th1, S1, r, m.go R1 g1, q1⟩
        | false => rw [if_neg Bool.false_ne_true] at q1 ⊢; exact q1.ok R1 (.bl _)
theorem soundOr : ∀ (m : Es) {X : Cx} {C : Cc} {W : WX} {hd : Hd} {es : List Expr} {p : Pos}, XC X C c ca W hd → okEs m C es = true → PE X (.BoolOp .Or es p) (rdX X.K ca hd W (RV X.K ca) (evOr c m))
  | .nil, X, C, W, hd, es, p, hX, h => ⟨fun pins s sg H Q I q => by obtain ⟨th, S, r, m, q⟩ := q; simp only [evOr] at q; exact q.elim⟩
  | .cons e .nil, X, C, W, hd, xs, p, hX, h => by
    cases xs with
    | nil => simp [okEs] at h
    | cons x xs =>
      simp only [okEs, Bool.and_eq_true, List.isEmpty_iff] at h
      obtain ⟨h1, rfl⟩ := h
      exact PE.imp (pe_one (soundE e (hd := hd) hX h1)) fun sg H Q q => by obtain ⟨th, S, r, m, q⟩ := q; simp only [evOr] at q; exact ⟨th, S, r, m, q⟩
  | .cons e (.cons e2 es), X, C, W, hd, xs, p, hX, h => by
    cases xs with
    | nil => simp [okEs] at h
    | cons x xs =>
      have h' : okE e C x = true ∧ okEs (.cons e2 es) C xs = true := by simpa only [okEs, Bool.and_eq_true] using h
      cases xs with
      | nil => simp [okEs] at h'
      | cons x2 xs =>
        refine PE.imp (pe_or (soundE e (hd := hd) hX h'.1) (soundOr (.cons e2 es) (hd := hd) hX h'.2)) fun sg H Q q => ?_
        obtain ⟨th, S, r, m, q⟩ := q
        simp only [evOr] at q
        refine ⟨th, S, r, m, Po.bnd q fun d S1 th1 H1 v g1 R1 rv q1 => ?_⟩
        obtain ⟨k, rfl, q1⟩ := onB_of rv q1
        refine ⟨k, rfl, ?_⟩
        cases k with
        | true => rw [if_pos rfl] at q1 ⊢; exact q1.ok R1 (.bl _)
        | false => rw [if_neg Bool.false_ne_true] at q1 ⊢; exact ⟨th1, S1, r, m.go R1 g1, q1⟩
theorem soundO : ∀ (m : Eo) {X : Cx} {C : Cc} {W : WX} {hd : Hd} {o : Option Expr}, XC X C c ca W hd → okO m C o = true → PO X o (rdO X.K ca hd c W m)
  | .none, X, C, W, hd, o, hX, h => by
    cases o with
    | none => exact PO.imp po_none fun sg H Q q => by obtain ⟨th, S, r, m, q⟩ := q; simp only [evO] at q; exact q.ok m.rep rfl
    | some _ => simp [okO] at h
  | .nox, X, C, W, hd, o, hX, h => by simp [okO] at h
  | .some e, X, C, W, hd, o, hX, h => by
    cases o with
    | none => simp [okO] at h
    | some x =>
      simp only [okO] at h
      refine PO.imp (po_some (soundE e (hd := hd) hX h)) fun sg H Q q => ?_
      obtain ⟨th, S, r, m, q⟩ := q
      simp only [evO] at q
      refine ⟨th, S, r, m, Po.bnd q fun d S1 th1 H1 v g1 R1 rv q1 => ?_⟩
      unfold partD at q1
      split at q1
      · cases rv.int_inv
        exact ⟨_, rfl, q1.ok R1 rfl⟩
      · exact q1.elim
theorem soundC : ∀ (m : Eo) {X : Cx} {C : Cc} {W : WX} {hd : Hd} {xs : List Expr}, XC X C c ca W hd → okC m C xs = true → PTs X xs (rdC X.K ca hd c W m)
  | .none, X, C, W, hd, xs, hX, h => by
    simp only [okC, List.isEmpty_iff] at h
    subst h
    exact PTs.imp pts_nil fun sg H Q q => by obtain ⟨th, S, r, m, q⟩ := q; simp only [evC] at q; exact q.ok m.rep rfl
  | .nox, X, C, W, hd, xs, hX, h => by
    simp only [okC, List.isEmpty_iff] at h
    subst h
    exact PTs.imp pts_nil fun sg H Q q => by obtain ⟨th, S, r, m, q⟩ := q; simp only [evC] at q; exact q.ok m.rep rfl
  | .some e, X, C, W, hd, xs, hX, h => by
    match xs, h with
    | [x], h =>
      simp only [okC] at h
      exact PTs.imp (pts_one (soundT e (hd := hd) hX h)) fun sg H Q q => by obtain ⟨th, S, r, m, q⟩ := q; simp only [evC] at q; exact ⟨th, S, r, m, q⟩
    | [], h => simp [okC] at h
    | _ :: _ :: _, h => simp [okC] at h
theorem soundT : ∀ (m : E) {X : Cx} {C : Cc} {W : WX} {hd : Hd} {e : Expr}, XC X C c ca W hd → okE m C e = true → PT X e (rdT X.K ca hd c W m)
  | .band es, X, C, W, hd, e, hX, h => by
    cases e with
    | BoolOp op xs p =>
      cases op <;> simp [okE] at h
      exact PT.imp (soundTA es (hd := hd) hX h).pt fun sg H Q q => by obtain ⟨th, S, r, m, q⟩ := q; simp only [evT] at q; exact ⟨th, S, r, m, q⟩
    | _ => simp [okE] at h
  | .bor es, X, C, W, hd, e, hX, h => by
    cases e with
    | BoolOp op xs p =>
      cases op <;> simp [okE] at h
      exact PT.imp (soundTO es (hd := hd) hX h).pt fun sg H Q q => by obtain ⟨th, S, r, m, q⟩ := q; simp only [evT] at q; exact ⟨th, S, r, m, q⟩
    | _ => simp [okE] at h
  | .bnot a, X, C, W, hd, e, hX, h => by
    cases e with
    | UnaryOp op x p =>
      cases op <;> simp [okE] at h
      refine PT.imp (pt_not (soundT a (hd := hd) hX h)) fun sg H Q q => ?_
      obtain ⟨th, S, r, m, q⟩ := q
      simp only [evT] at q
      refine ⟨th, S, r, m, Po.bnd q fun b S1 th1 H1 b' g1 R1 rv q1 => ?_⟩
      subst rv
      exact q1.ok R1 rfl
    | _ => simp [okE] at h
  | .ife _ _ _, X, C, W, hd, e, hX, h => ⟨fun pins s sg H Q I q => by obtain ⟨th, S, r, m, q⟩ := q; simp only [evT] at q; exact q.elim⟩
  | .cmp o a b, X, C, W, hd, e, hX, h => by
    cases e with
    | Compare x ops ys p =>
      match ops, ys, h with
      | [op], [y], h =>
        simp only [okE, Bool.and_eq_true] at h
        have e1 := copB_eq h.1.1
        subst e1
        refine ⟨fun pins s sg H Q I q => ?_⟩
        refine (pt_cmpR (r := rD2 X.K ca (fun cls dd H' => W cls dd sg H') fun S => cmpD S o) (op_cmpD o hX.un) (soundE a (hd := hd) hX h.1.2) (soundE b (hd := hd) hX h.2) (okE_mark h.2 _)).run pins s sg H Q I ?_
        obtain ⟨th, S, r, m, q⟩ := q
        simp only [evT, evE, R.bnd_assoc] at q
        refine ⟨th, S, r, m, Po.bnd q fun x S1 th1 H1 v g1 R1 rv q1 => ⟨th1, S1, r, m.go R1 g1, Po.bnd q1 fun y S2 th2 H2 u g2 R2 ru q2 => ⟨th2, S2, x, y, R2, rv.go g2, ru, ?_⟩⟩⟩
        change Po _ _ _ _ _ _ _ (cmpD S2 o x y)
        cases ev : cmpD S2 o x y with
        | ok d S3 =>
          rw [ev] at q2
          obtain ⟨k, rfl⟩ := cmpD_bl ev
          refine fun th3 H3 v3 g3 R3 r3 => ⟨k, r3.bl_inv, ?_⟩
          exact Po.ok R3 rfl (Po.later g3 q2)
        | _ => rw [ev] at q2; exact q2
      | [], _, h => simp [okE] at h
      | _ :: _ :: _, _, h => simp [okE] at h
      | [_], [], h => simp [okE] at h
      | [_], _ :: _ :: _, h => simp [okE] at h
    | _ => simp [okE] at h
  | .chain o o2 a b d, X, C, W, hd, e, hX, h => by
    cases e with
    | Compare x ops ys p =>
      match ops, ys, h with
      | [op, op2], [y, z], h =>
        simp only [okE, Bool.and_eq_true] at h
        have e1 := copB_eq h.1.1.1.1
        have e2 := copB_eq h.1.1.1.2
        subst e1 e2
        refine ⟨fun pins s sg H Q I q => ?_⟩
        refine (pt_chain (r := rD2 X.K ca (fun cls dd H' => W cls dd sg H') fun S => cmpD S o) (r' := rD2 X.K ca (fun cls dd H' => W cls dd sg H') fun S => cmpD S o2) (op_cmpD o hX.un) (op_cmpD o2 hX.un) (soundE a (hd := hd) hX h.1.1.2) (soundE b (hd := hd) hX h.1.2) (soundE d (hd := hd) hX h.2) (okE_mark h.2 _)).run pins s sg H Q I ?_
        obtain ⟨th, S, r, m, q⟩ := q
        simp only [evT, evE, R.bnd_assoc] at q
        refine ⟨th, S, r, m, Po.bnd q fun x S1 th1 H1 v g1 R1 rv q1 => ⟨th1, S1, r, m.go R1 g1, Po.bnd q1 fun y S2 th2 H2 u g2 R2 ru q2 => ⟨th2, S2, x, y, R2, rv.go g2, ru, Po.bnd q2 fun k S3 th3 H3 w g3 R3 rw q3 => ?_⟩⟩⟩
        cases k with
        | bl kk =>
          cases rw.bl_inv
          refine ⟨kk, rfl, ?_⟩
          cases kk with
          | true =>
            rw [if_pos rfl]
            simp only [onB, R.bnd_assoc] at q3
            refine ⟨th3, S3, r, m.go R3 ((g1.trans g2).trans g3), Po.bnd q3 fun z S4 th4 H4 w g4 R4 rw q4 => ⟨th4, S4, y, z, R4, ru.go (g3.trans g4), rw, ?_⟩⟩
            change Po _ _ _ _ _ _ _ (cmpD S4 o2 y z)
            cases ev : cmpD S4 o2 y z with
            | ok d S5 =>
              rw [ev] at q4
              obtain ⟨k, rfl⟩ := cmpD_bl ev
              refine fun th3 H3 v3 g3 R3 r3 => ⟨k, r3.bl_inv, ?_⟩
              exact Po.ok R3 rfl (Po.later g3 q4)
            | _ => rw [ev] at q4; exact q4
          | false =>
            rw [if_neg Bool.false_ne_true]
            simp only [onB, R.bnd_ok] at q3
            exact ⟨false, rfl, Po.ok R3 rfl q3⟩
        | _ => simp only [onB, R.bnd] at q3; exact q3.elim
      | [], _, h => simp [okE] at h
      | [_], _, h => simp [okE] at h
      | _ :: _ :: _ :: _, _, h => simp [okE] at h
      | [_, _], [], h => simp [okE] at h
      | [_, _], [_], h => simp [okE] at h
      | [_, _], _ :: _ :: _ :: _, h => simp [okE] at h
    | _ => simp [okE] at h
  | .var i, X, C, W, hd, e, hX, h => pt_tru (soundE _ (hd := hd) hX h) (by cases e <;> first | (intro _; rfl) | (exfalso; simp [okE] at h)) fun r S => by simp only [evT]
  | .con d, X, C, W, hd, e, hX, h => pt_tru (soundE _ (hd := hd) hX h) (by cases e <;> first | (intro _; rfl) | (exfalso; simp [okE] at h)) fun r S => by simp only [evT]
  | .int i, X, C, W, hd, e, hX, h => pt_tru (soundE _ (hd := hd) hX h) (by cases e <;> first | (intro _; rfl) | (exfalso; simp [okE] at h)) fun r S => by simp only [evT]
  | .bl i, X, C, W, hd, e, hX, h => pt_tru (soundE _ (hd := hd) hX h) (by cases e <;> first | (intro _; rfl) | (exfalso; simp [okE] at h)) fun r S => by simp only [evT]
  | .str i, X, C, W, hd, e, hX, h => pt_tru (soundE _ (hd := hd) hX h) (by cases e <;> first | (intro _; rfl) | (exfalso; simp [okE] at h)) fun r S => by simp only [evT]
  | .non, X, C, W, hd, e, hX, h => pt_tru (soundE _ (hd := hd) hX h) (by cases e <;> first | (intro _; rfl) | (exfalso; simp [okE] at h)) fun r S => by simp only [evT]
  | .tup es, X, C, W, hd, e, hX, h => pt_tru (soundE _ (hd := hd) hX h) (by cases e <;> first | (intro _; rfl) | (exfalso; simp [okE] at h)) fun r S => by simp only [evT]
  | .lst es, X, C, W, hd, e, hX, h => pt_tru (soundE _ (hd := hd) hX h) (by cases e <;> first | (intro _; rfl) | (exfalso; simp [okE] at h)) fun r S => by simp only [evT]
  | .dic0, X, C, W, hd, e, hX, h => pt_tru (soundE _ (hd := hd) hX h) (by cases e <;> first | (intro _; rfl) | (exfalso; simp [okE] at h)) fun r S => by simp only [evT]
  | .bin o a b, X, C, W, hd, e, hX, h => pt_tru (soundE _ (hd := hd) hX h) (by cases e <;> first | (intro _; rfl) | (exfalso; simp [okE] at h)) fun r S => by simp only [evT]
  | .neg a, X, C, W, hd, e, hX, h => pt_tru (soundE _ (hd := hd) hX h) (by
      cases e with
      | UnaryOp op x p => cases op <;> first | (intro _; rfl) | (exfalso; simp [okE] at h)
      | _ => exfalso; simp [okE] at h) fun r S => by simp only [evT]
  | .call f es, X, C, W, hd, e, hX, h => pt_tru (soundE _ (hd := hd) hX h) (by cases e <;> first | (intro _; rfl) | (exfalso; simp [okE] at h)) fun r S => by simp only [evT]
  | .bcall f es, X, C, W, hd, e, hX, h => pt_tru (soundE _ (hd := hd) hX h) (by cases e <;> first | (intro _; rfl) | (exfalso; simp [okE] at h)) fun r S => by simp only [evT]
  | .meth k o es, X, C, W, hd, e, hX, h => pt_tru (soundE _ (hd := hd) hX h) (by cases e <;> first | (intro _; rfl) | (exfalso; simp [okE] at h)) fun r S => by simp only [evT]
  | .ix a b, X, C, W, hd, e, hX, h => pt_tru (soundE _ (hd := hd) hX h) (by cases e <;> first | (intro _; rfl) | (exfalso; simp [okE] at h)) fun r S => by simp only [evT]
  | .sl a l hh, X, C, W, hd, e, hX, h => pt_tru (soundE _ (hd := hd) hX h) (by cases e <;> first | (intro _; rfl) | (exfalso; simp [okE] at h)) fun r S => by simp only [evT]
  | .rev a, X, C, W, hd, e, hX, h => pt_tru (soundE _ (hd := hd) hX h) (by cases e <;> first | (intro _; rfl) | (exfalso; simp [okE] at h)) fun r S => by simp only [evT]
  | .lc x t i d o, X, C, W, hd, e, hX, h => pt_tru (soundE _ (hd := hd) hX h) (by cases e <;> first | (intro _; rfl) | (exfalso; simp [okE] at h)) fun r S => by simp only [evT]
  | .dic1 k v, X, C, W, hd, e, hX, h => pt_tru (soundE _ (hd := hd) hX h) (by cases e <;> first | (intro _; rfl) | (exfalso; simp [okE] at h)) fun r S => by simp only [evT]
  | .joinS s a, X, C, W, hd, e, hX, h => pt_tru (soundE _ (hd := hd) hX h) (by cases e <;> first | (intro _; rfl) | (exfalso; simp [okE] at h)) fun r S => by simp only [evT]
  | .dicT, X, C, W, hd, e, hX, h => pt_tru (soundE _ (hd := hd) hX h) (by cases e <;> first | (intro _; rfl) | (exfalso; simp [okE] at h)) fun r S => by simp only [evT]
  | .kin neg a kvs, X, C, W, hd, e, hX, h => by
    simp only [okE] at h
    split at h
    · rename_i x op y yp p
      simp only [Bool.and_eq_true] at h
      obtain ⟨⟨⟨h1, h2⟩, h3⟩, h4⟩ := h
      obtain ⟨g1, g2, g3⟩ := hX.gl h2
      have e1 : op = if neg = true then .NotIn else .In := by cases neg <;> cases op <;> first | rfl | (cases h1)
      subst e1
      split at h3
      · rename_i d hc
        have e2 := D.eqb_eq h3
        subst e2
        obtain ⟨v, u, m1, m2, m3, m4⟩ := hX.cons y _ hc
        obtain ⟨dd, es, n, rfl, D, hz⟩ := m4 kvs rfl
        refine ⟨fun pins s sg H Q I q => ?_⟩
        refine (pt_cmpR (r := rKin X.K ca (fun cls dd H' => W cls dd sg H') neg kvs dd) (op_kin neg D hz) (soundE a (hd := hd) hX h4) (pe_glob g1 m1 m2 g2) rfl).run pins s sg H Q I ?_
        obtain ⟨th, S, r, m, q⟩ := q
        simp only [evT, evE, R.bnd_assoc] at q
        refine ⟨th, S, r, m, Po.bnd q fun x S1 th1 H1 v g1 R1 rv q1 => ⟨th1, S1, x, R1, rv, rfl, ?_⟩⟩
        cases ev : kinD S1 neg kvs x with
        | ok d S3 =>
          rw [ev] at q1
          obtain ⟨k, rfl⟩ := kinD_bl ev
          refine fun th3 H3 v3 g3 R3 r3 => ⟨k, r3.bl_inv, ?_⟩
          exact Po.ok R3 rfl (Po.later g3 q1)
        | _ => rw [ev] at q1; exact q1
      · cases h3
    · cases h
  | .kix kvs a, X, C, W, hd, e, hX, h => pt_tru (soundE _ (hd := hd) hX h) (by cases e <;> first | (intro _; rfl) | (exfalso; simp [okE] at h)) fun r S => by simp only [evT]
  | .din neg a b, X, C, W, hd, e, hX, h => by
    simp only [okE] at h
    split at h
    · rename_i x op y p
      simp only [Bool.and_eq_true] at h
      obtain ⟨⟨h1, h2⟩, h3⟩ := h
      have e1 : op = if neg = true then .NotIn else .In := by cases neg <;> cases op <;> first | rfl | (cases h1)
      subst e1
      refine ⟨fun pins s sg H Q I q => ?_⟩
      refine (pt_cmpR (r := rD2 X.K ca (fun cls dd H' => W cls dd sg H') fun S => fun x y => dinD S neg x y) (op_dinD neg hX.un) (soundE a (hd := hd) hX h2) (soundE b (hd := hd) hX h3) (okE_mark h3 _)).run pins s sg H Q I ?_
      obtain ⟨th, S, r, m, q⟩ := q
      simp only [evT, evE, R.bnd_assoc] at q
      refine ⟨th, S, r, m, Po.bnd q fun x S1 th1 H1 v g1 R1 rv q1 => ⟨th1, S1, r, m.go R1 g1, Po.bnd q1 fun y S2 th2 H2 u g2 R2 ru q2 => ⟨th2, S2, x, y, R2, rv.go g2, ru, ?_⟩⟩⟩
      change Po _ _ _ _ _ _ _ (dinD S2 neg x y)
      cases ev : dinD S2 neg x y with
      | ok d S3 =>
        rw [ev] at q2
        obtain ⟨k, rfl⟩ := dinD_bl ev
        refine fun th3 H3 v3 g3 R3 r3 => ⟨k, r3.bl_inv, ?_⟩
        exact Po.ok R3 rfl (Po.later g3 q2)
      | _ => rw [ev] at q2; exact q2
    · cases h
  | .shw t a, X, C, W, hd, e, hX, h => pt_tru (soundE _ (hd := hd) hX h) (by cases e <;> first | (intro _; rfl) | (exfalso; simp [okE] at h)) fun r S => by simp only [evT]
  | .lstR a, X, C, W, hd, e, hX, h => pt_tru (soundE _ (hd := hd) hX h) (by cases e <;> first | (intro _; rfl) | (exfalso; simp [okE] at h)) fun r S => by simp only [evT]
  | .lstZ a b, X, C, W, hd, e, hX, h => pt_tru (soundE _ (hd := hd) hX h) (by cases e <;> first | (intro _; rfl) | (exfalso; simp [okE] at h)) fun r S => by simp only [evT]
  | .exIs i tp cs kn, X, C, W, hd, e, hX, h => pt_tru (soundE _ (hd := hd) hX h) (by cases e <;> first | (intro _; rfl) | (exfalso; simp [okE] at h)) fun r S => by simp only [evT]
  | .exVe i kn, X, C, W, hd, e, hX, h => pt_tru (soundE _ (hd := hd) hX h) (by cases e <;> first | (intro _; rfl) | (exfalso; simp [okE] at h)) fun r S => by simp only [evT]
  | .exFld _ _ _, X, C, W, hd, e, hX, h => pt_tru (soundE _ (hd := hd) hX h) (by cases e <;> first | (intro _; rfl) | (exfalso; simp [okE] at h)) fun r S => by simp only [evT]
  | .act _, X, C, W, hd, e, hX, h => pt_tru (soundE _ (hd := hd) hX h) (by cases e <;> first | (intro _; rfl) | (exfalso; simp [okE] at h)) fun r S => by simp only [evT]
  | .lamC _ _ _ _, X, C, W, hd, e, hX, h => pt_tru (soundE _ (hd := hd) hX h) (by cases e <;> first | (intro _; rfl) | (exfalso; simp [okE] at h)) fun r S => by simp only [evT]
theorem soundTA : ∀ (m : Es) {X : Cx} {C : Cc} {W : WX} {hd : Hd} {es : List Expr} {p : Pos}, XC X C c ca W hd → okEs m C es = true → PW X (.BoolOp .And es p) (rdX X.K ca hd W relEq (evTA c m))
  | .nil, X, C, W, hd, es, p, hX, h => ⟨fun w pins s sg H Q I q => by obtain ⟨th, S, r, m, q⟩ := q; simp only [evTA] at q; exact q.elim⟩
  | .cons e .nil, X, C, W, hd, xs, p, hX, h => by
    cases xs with
    | nil => simp [okEs] at h
    | cons x xs =>
      simp only [okEs, Bool.and_eq_true, List.isEmpty_iff] at h
      obtain ⟨h1, rfl⟩ := h
      exact PW.imp (pw_and1 (soundT e (hd := hd) hX h1)) fun sg H Q q => by obtain ⟨th, S, r, m, q⟩ := q; simp only [evTA] at q; exact ⟨th, S, r, m, q⟩
  | .cons e (.cons e2 es), X, C, W, hd, xs, p, hX, h => by
    cases xs with
    | nil => simp [okEs] at h
    | cons x xs =>
      have h' : okE e C x = true ∧ okEs (.cons e2 es) C xs = true := by simpa only [okEs, Bool.and_eq_true] using h
      cases xs with
      | nil => simp [okEs] at h'
      | cons x2 xs =>
        refine PW.imp (pw_and (soundT e (hd := hd) hX h'.1) (soundTA (.cons e2 es) (hd := hd) hX h'.2)) fun sg H Q q => ?_
        obtain ⟨th, S, r, m, q⟩ := q
        simp only [evTA] at q
        refine ⟨th, S, r, m, Po.bnd q fun k S1 th1 H1 v g1 R1 rv q1 => ?_⟩
        subst rv
        cases k with
        | true => rw [if_pos rfl] at q1 ⊢; exact ⟨th1, S1, r, m.go R1 g1, q1⟩
        | false => rw [if_neg Bool.false_ne_true] at q1 ⊢; exact q1.ok R1 rfl
theorem soundTO : ∀ (m : Es) {X : Cx} {C : Cc} {W : WX} {hd : Hd} {es : List Expr} {p : Pos}, XC X C c ca W hd → okEs m C es = true → PW X (.BoolOp .Or es p) (rdX X.K ca hd W relEq (evTO c m))
  | .nil, X, C, W, hd, es, p, hX, h => ⟨fun w pins s sg H Q I q => by obtain ⟨th, S, r, m, q⟩ := q; simp only [evTO] at q; exact q.elim⟩
  | .cons e .nil, X, C, W, hd, xs, p, hX, h => by
    cases xs with
    | nil => simp [okEs] at h
    | cons x xs =>
      simp only [okEs, Bool.and_eq_true, List.isEmpty_iff] at h
      obtain ⟨h1, rfl⟩ := h
      exact PW.imp (pw_or1 (soundT e (hd := hd) hX h1)) fun sg H Q q => by obtain ⟨th, S, r, m, q⟩ := q; simp only [evTO] at q; exact ⟨th, S, r, m, q⟩
  | .cons e (.cons e2 es), X, C, W, hd, xs, p, hX, h => by
    cases xs with
    | nil => simp [okEs] at h
    | cons x xs =>
      have h' : okE e C x = true ∧ okEs (.cons e2 es) C xs = true := by simpa only [okEs, Bool.and_eq_true] using h
      cases xs with
      | nil => simp [okEs] at h'
      | cons x2 xs =>
        refine PW.imp (pw_or (soundT e (hd := hd) hX h'.1) (soundTO (.cons e2 es) (hd := hd) hX h'.2)) fun sg H Q q => ?_
        obtain ⟨th, S, r, m, q⟩ := q
        simp only [evTO] at q
        refine ⟨th, S, r, m, Po.bnd q fun k S1 th1 H1 v g1 R1 rv q1 => ?_⟩
        subst rv
        cases k with
        | true => rw [if_pos rfl] at q1 ⊢; exact q1.ok R1 rfl
        | false => rw [if_neg Bool.false_ne_true] at q1 ⊢; exact ⟨th1, S1, r, m.go R1 g1, q1⟩
theorem soundI : ∀ (m : It) {X : Cx} {C : Cc} {W : WX} {hd : Hd} {t e : Expr}, XC X C c ca W hd → okI m C (isTupE t) e = true → PI X t e (rdI X.K ca hd c W m)
  | .seq a, X, C, W, hd, t, e, hX, h => by
    simp only [okI] at h
    refine ⟨fun pins s sg H R I q => ?_⟩
    obtain ⟨th, S, r, m, q⟩ := q
    simp only [evI] at q
    have sE := soundE a (W := W) (hd := hd) hX h
    cases ev : evE c a r S with
    | ok d S1 =>
      rw [ev] at q
      dsimp only [HP.R.bnd] at q
      have pl : ∀ {p}, itLst S1 d = some p → Po X.K ca th H (relI X.K ca) (fun cls dd H' => W cls dd sg H') R (.ok p S1) → wpAny (model X.prog X.w) X.A (eval e X.env) (fun v s1 => wpAny (model X.prog X.w) X.A (pyIter v) (PIE X pins sg t R) X.xe s1) X.xe s := fun {p} e1 q => by
        refine (pi_list sE).run pins s sg H R I ⟨th, S, r, m, ?_⟩
        rw [ev]
        refine fun th1 H1 v g1 R1 rv => ?_
        obtain ⟨a, vs, rfl, h1, h2⟩ := itLst_ok R1 rv e1
        exact ⟨a, rfl, ⟨vs, h1⟩, (Po.later g1 q).ok R1 (itl_ok h2)⟩
      unfold itSeq at q
      split at q
      · refine (pi_tup sE).run pins s sg H R I ⟨th, S, r, m, ?_⟩
        rw [ev]
        refine fun th1 H1 v g1 R1 rv => ?_
        obtain ⟨a, vs, rfl, h1, h2⟩ := rv.tup_inv
        exact ⟨a, rfl, ⟨vs, h1⟩, (Po.later g1 q).ok R1 (itt_ok h1 h2)⟩
      · exact pl rfl q
      · split at q
        · rename_i l ds he
          refine pl ?_ q
          unfold itLst
          dsimp only
          rw [he]
        · exact q.elim
      · refine (pi_str sE).run pins s sg H R I ⟨th, S, r, m, ?_⟩
        rw [ev]
        refine fun th1 H1 v g1 R1 rv => ?_
        cases rv.str_inv
        exact ⟨_, rfl, (Po.later g1 q).ok R1 its_ok⟩
      · exact q.elim
    | exn y S1 =>
      rw [ev] at q
      exact (pi_list sE).run pins s sg H R I ⟨th, S, r, m, by rw [ev]; exact q⟩
    | bad => rw [ev] at q; exact q.elim
  | .rng1 a, X, C, W, hd, t, e, hX, h => by
    simp only [okI] at h
    split at h
    · rename_i n p1 x p2
      simp only [Bool.and_eq_true, beq_iff_eq] at h
      obtain ⟨⟨⟨h1, h2⟩, h3⟩, h4⟩ := h
      have g := (hX.gl h1).1
      have hb := hX.blt n h3
      subst h2
      refine PI.imp (pi_range1 g hb (pa_cons (soundE a (hd := hd) hX h4) pa_nil (okE_star h4 _ _)) (okE_star h4 _ _)) fun sg H Q q => ?_
      obtain ⟨th, S, r, m, q⟩ := q
      simp only [evI] at q
      refine ⟨th, S, r, m, Po.bnd q fun d S1 th1 H1 v g1 R1 rv q1 => ?_⟩
      unfold rng1D at q1
      split at q1
      · split at q1
        · rename_i hr
          cases rv.int_inv
          unfold okRng at hr
          simp only [Bool.and_eq_true, decide_eq_true_eq] at hr
          exact ⟨_, rfl, hr.1, hr.2, q1.ok R1 itr_ok⟩
        · exact q1.elim
      · exact q1.elim
    · cases h
  | .rng2 a b, X, C, W, hd, t, e, hX, h => by
    simp only [okI] at h
    split at h
    · rename_i n p1 x y p2
      simp only [Bool.and_eq_true, beq_iff_eq] at h
      obtain ⟨⟨⟨⟨h1, h2⟩, h3⟩, h4⟩, h5⟩ := h
      have g := (hX.gl h1).1
      have hb := hX.blt n h3
      subst h2
      have st : starEach [x, y] X.env = [(false, eval x X.env), (false, eval y X.env)] := by rw [okE_star h4, okE_star h5]; rfl
      refine PI.imp (pi_range2 g hb (pa_cons (soundE a (hd := hd) hX h4) (pa_cons (soundE b (hd := hd) hX h5) pa_nil (okE_star h5 _ _)) (okE_star h4 _ _)) st (okE_star h5 _ _)) fun sg H Q q => ?_
      obtain ⟨th, S, r, m, q⟩ := q
      simp only [evI] at q
      refine ⟨th, S, r, m, Po.bnd q fun d S1 th1 H1 v g1 R1 rv q1 => ⟨th1, S1, r, m.go R1 g1, Po.bnd q1 fun d2 S2 th2 H2 v2 g2 R2 rv2 q2 => ?_⟩⟩
      unfold rng2D at q2
      split at q2
      · split at q2
        · rename_i hr
          cases rv.int_inv
          cases rv2.int_inv
          unfold okRng at hr
          simp only [Bool.and_eq_true, decide_eq_true_eq] at hr
          exact ⟨_, _, rfl, ⟨hr.1.1, hr.1.2, hr.2.1, hr.2.2⟩, q2.ok R2 itr_ok⟩
        · exact q2.elim
      · exact q2.elim
    · cases h
  | .rng3 a b d, X, C, W, hd, t, e, hX, h => by
    simp only [okI] at h
    split at h
    · rename_i n p1 x y z p2
      simp only [Bool.and_eq_true, beq_iff_eq] at h
      obtain ⟨⟨⟨⟨⟨h1, h2⟩, h3⟩, h4⟩, h5⟩, h6⟩ := h
      have g := (hX.gl h1).1
      have hb := hX.blt n h3
      subst h2
      refine PI.imp (pi_range3 g hb (pa_cons (soundE a (hd := hd) hX h4) (pa_cons (soundE b (hd := hd) hX h5) (pa_cons (soundE d (hd := hd) hX h6) pa_nil (okE_star h6 _ _)) (okE_star h5 _ _)) (okE_star h4 _ _)) (okE_star h4 _ _) (by rw [okE_star h5, okE_star h6]; rfl)) fun sg H Q q => ?_
      obtain ⟨th, S, r, m, q⟩ := q
      simp only [evI] at q
      refine ⟨th, S, r, m, Po.bnd q fun d S1 th1 H1 v g1 R1 rv q1 => ⟨th1, S1, r, m.go R1 g1, Po.bnd q1 fun d2 S2 th2 H2 v2 g2 R2 rv2 q2 => ⟨th2, S2, r, (m.go R1 g1).go R2 g2, Po.bnd q2 fun d3 S3 th3 H3 v3 g3 R3 rv3 q3 => ?_⟩⟩⟩
      unfold rng3D at q3
      split at q3
      · split at q3
        · rename_i hr
          cases rv.int_inv
          cases rv2.int_inv
          cases rv3.int_inv
          exact ⟨_, _, _, _, rfl, hr, q3.ok R3 itrC_ok⟩
        · exact q3.elim
      · exact q3.elim
    · cases h
  | .enm a, X, C, W, hd, t, e, hX, h => by
    simp only [okI] at h
    split at h
    · rename_i n p1 x p2
      simp only [Bool.and_eq_true, beq_iff_eq] at h
      obtain ⟨⟨⟨⟨h0, h1⟩, h2⟩, h3⟩, h4⟩ := h
      have g := (hX.gl h1).1
      have hb := hX.blt n h3
      subst h2
      cases t with
      | Tuple elts kk tpos =>
        refine PI.imp (pi_enum g hb (pa_cons (soundE a (hd := hd) hX h4) pa_nil (okE_star h4 _ _)) (okE_star h4 _ _)) fun sg H Q q => ?_
        obtain ⟨th, S, r, m, q⟩ := q
        simp only [evI] at q
        refine ⟨th, S, r, m, Po.bnd q fun d S1 th1 H1 v g1 R1 rv q1 => ?_⟩
        unfold enmD at q1
        split at q1
        · rename_i ds ck e1
          obtain ⟨a, vs, rfl, h1, h2⟩ := itLst_ok R1 rv e1
          exact ⟨a, vs, rfl, h1, q1.ok R1 (ite_ok h2)⟩
        · exact q1.elim
      | _ => cases h0
    · cases h
  | .zip a b, X, C, W, hd, t, e, hX, h => by
    simp only [okI] at h
    split at h
    · rename_i n p1 x y p2
      simp only [Bool.and_eq_true, beq_iff_eq] at h
      obtain ⟨⟨⟨⟨⟨h0, h1⟩, h2⟩, h3⟩, h4⟩, h5⟩ := h
      have g := (hX.gl h1).1
      have hb := hX.blt n h3
      subst h2
      cases t with
      | Tuple elts kk tpos =>
        have pl : (backTo p2 (starEach [y] X.env)).any (·.1) = false := by rw [okE_star h5]; rfl
        refine PI.imp (RZ.pi_zipA g hb (pa_cons (soundE a (hd := hd) hX h4) (pa_cons (soundE b (hd := hd) hX h5) pa_nil (okE_star h5 _ _)) (okE_star h4 _ _)) (okE_star h4 _ _) pl) fun sg H Q q => ?_
        obtain ⟨th, S, r, m, q⟩ := q
        simp only [evI] at q
        refine ⟨th, S, r, m, Po.bnd q fun d S1 th1 H1 v g1 R1 rv q1 => ⟨th1, S1, r, m.go R1 g1, Po.bnd q1 fun d2 S2 th2 H2 v2 g2 R2 rv2 q2 => ?_⟩⟩
        have rv' := rv.go g2
        unfold zipD at q2
        split at q2
        · obtain ⟨a, vs, rfl, h1, h2⟩ := rv'.tup_inv
          obtain ⟨b, ws, rfl, k1, k2⟩ := rv2.tup_inv
          exact ⟨a, b, vs, ws, rfl, .inr ⟨h1, k1, q2.ok R2 (itzT_ok h1 h2 k1 k2)⟩⟩
        · split at q2
          · rename_i xs ck ys ck2 e1 e2
            obtain ⟨a, vs, rfl, h1, h2⟩ := itLst_ok R2 rv' e1
            obtain ⟨b, ws, rfl, k1, k2⟩ := itLst_ok R2 rv2 e2
            exact ⟨a, b, vs, ws, rfl, .inl ⟨h1, k1, q2.ok R2 (itz_ok h2 k2)⟩⟩
          · exact q2.elim
      | _ => cases h0
    · cases h
end
end
end HP
namespace HP
open PySem L2 PySem.Spec PyProof.Rows
/-- a clause: its class, its name's slot, the reading of its suite -/
abbrev Cl := Value × Nat × (Addr → Value → Option Addr → TS)
/-- the ends of a suite behind which the name is gone -/
def endsOff (D : Ends) (i : Nat) : Ends := { nx := fun z H => D.nx (z.set i none) H, rt := D.rt, bk := fun z H => D.bk (z.set i none) H, ct := fun z H => D.ct (z.set i none) H }
def wNames (K : PySem.W.Frag) (Wout : WX) (D : Ends) : List Cl → WX
  | [] => Wout
  | p :: r => fun cls d z H => ∃ b, PySem.W.exmOne K cls p.1 = some b ∧ (b = true → ∀ a, H a = none → p.2.2 a cls d (endsOff D p.2.1) (z.set p.2.1 (some (.ref a))) H) ∧ (b = false → wNames K Wout D r cls d z H)
inductive ClsOk (X : Cx) : List ExceptHandler → List Cl → Prop
  | nil : ClsOk X [] []
  | cons {x n : Str} {i : Nat} {c : Value} {ts : Addr → Value → Option Addr → TS} {b0 : Stmt} {su : List Stmt} {np hp : Pos} {hds : List ExceptHandler} {l : List Cl} (hc : Names X x c) (hi : X.N[i]? = some n) (hl : X.env.kindOf n = some .local)
      (hs : ∀ (a : Addr) (oe : Obj) (cls : Value) (d : Option Addr) (pn : List (Addr × Obj)), Zc cls d oe → (∃ vs, oe.data = .fields vs) → PSs (X.suite a ((a, oe) :: pn)) (b0 :: su) (ts a cls d)) (r : ClsOk X hds l) :
      ClsOk X (.ExceptHandler (some (.Name x np)) (some n) (b0 :: su) hp :: hds) ((c, i, ts) :: l)
section
variable {X : Cx} {body : List Stmt} {hd0 : ExceptHandler} {hds : List ExceptHandler} {l : List Cl} {pos : Pos} {tb : WX → TS} {Wout : WX}
theorem ps_names (stk : X.stack = X.env :: X.outer) (frm : X.env.frame = some X.env.locals) (nd : X.N.Nodup) (tk : Takes X Wout)
    (hb : ∀ (W : WX) (pn : List (Addr × Obj)) (xe : Value → Shared → Prop), Takes (X.tr pn xe) W → PassesOwn (model X.prog X.w) X.A X.env xe → PSs (X.tr pn xe) body (tb W))
    (hh : ClsOk X (hd0 :: hds) l) : PS X (.Try body (hd0 :: hds) [] [] pos) (fun D z H => tb (wNames X.K Wout D l) D z H) := by
  refine ⟨fun pins t z H D I q => ?_⟩
  have ok := I.ok
  have fr : X.A.frames = some (X.env :: X.outer) := by rw [ok.frames, stk]
  refine wpAny_Try_except (wpAny_mono ((hb (wNames X.K Wout D l) (X.pn ++ pins)
    (fun e t1 => wpAny (model X.prog X.w) X.A (noteFrame e X.env) (fun _ t2 => wpAny (model X.prog X.w) X.A (setFlight e none) (fun _ t3 => wpAny (model X.prog X.w) X.A (handleBy e X.env (hd0 :: hds)) (SP X pins D) X.xe t3) X.xe t2) X.xe t1)
    (fun u t' xx => ?_) PassesOwn.looking).run [] t z H D (I.toTry _) q) (fun f t1 w => ?_) fun e t1 w => w)
  · obtain ⟨a, B, sI, _, z', H', cls, d, rfl, J0, nb, up, sky, na, os, ag, w⟩ := xx
    have J : Inv X pins z' H' sI := J0.ofTry ok
    have sk : Sky B (X.env :: X.outer) a (Zc cls d) X.env.locals t'.heap := by rw [← stk]; exact sky
    show wpAny (model X.prog X.w) X.A (noteFrame (.ref a) X.env) _ _ _
    refine Sky.land Zc.steady fr frm sk fun h3 fl up3 => ?_
    obtain ⟨o3, v3, e3, k3, d3⟩ := fl.there
    have out : a ∉ frs (X.env :: X.outer) := fun m => by
      obtain ⟨_, o, e, no⟩ := fl.2.2.1.mem m
      rw [e3] at e; cases e
      exact no _ d3
    have nl : a ≠ X.env.locals := fun e => out (List.mem_filterMap.mpr ⟨X.env, List.mem_cons_self, by rw [frm, e]⟩)
    have nf : a ∉ X.fs := fun m => by
      obtain ⟨e, m, q⟩ := List.mem_filterMap.mp m
      exact out (List.mem_filterMap.mpr ⟨e, List.mem_cons_of_mem _ m, q⟩)
    have J3 : Inv X pins z' H' { t' with heap := h3 } := J.landed nb fl.1 (up.trans up3) os ag
    have S3 := J3.suite e3 d3 na nl nf
    have go : ∀ {hs' : List ExceptHandler} {l' : List Cl}, ClsOk X hs' l' → wNames X.K Wout D l' cls d z' H' → wpAny (model X.prog X.w) X.A (handleBy (.ref a) X.env hs') (SP X pins D) X.xe { t' with heap := h3 } := by
      intro hs' l' hk
      induction hk with
      | nil =>
        intro w
        refine wpAny_handleBy_nil ?_
        obtain ⟨_, _, _, o, _, T, _, _, e, _, hd, h1, _⟩ := id fl
        unfold PySem.passOn
        refine wpAny_bind (wpAny_field e hd h1 ?_)
        rw [if_neg (show ¬ ((Value.ref T == Value.none) = true) from by simp)]
        have fin : wpAny (model X.prog X.w) X.A (setFlight (.ref a) X.env.frame) (fun _ t4 => wpAny (model X.prog X.w) X.A (throw (.ref a) : Sem Flow) (SP X pins D) X.xe t4) X.xe { t' with heap := h3 } := by
          rw [frm]
          exact HandSPX.setFlight_upZ fl fun h4 q4 up4 => wpAny_throw (tk _ _ ⟨a, B, sI, pins, z', H', cls, d, rfl, J, nb, (up.trans up3).trans up4, .inr (.inr (by rw [stk]; exact q4)), na, os, ag, w⟩)
        first
          | exact wpAny_bind (wpAny_pure (wpAny_bind fin))
          | exact wpAny_bind fin
      | @cons x n i c ts b0 su np hp hds2 l2 hc hi hl hs r ih =>
        intro w
        obtain ⟨b, hb1, yes, no⟩ := w
        refine wpAny_handleBy_cons (codeAny_handlers_test ?_) (by intro q; cases q)
        have lt : PySem.W.Looks (model X.prog X.w) h3 (typeOf (.ref a)) cls := fun A Q E s k q => wpAny_typeOf_ref (k _ _ e3) (by rw [k3.1]; exact q)
        have lm := PySem.W.exm_one (M := model X.prog X.w) (J3.kIn) lt hb1
        have ask : ∀ {Q E : Value → Shared → Prop}, Q c { t' with heap := h3 } → wpAny (model X.prog X.w) (X.A.mark (some (.ref a))) (eval (.Name x np) X.env) Q E { t' with heap := h3 } := fun {Q E} q => by
          obtain ⟨g1, g2, g3 | ⟨g3, g4, g5⟩⟩ := hc
          · exact ld_glob (X := X.suite a ((a, o3) :: (X.pn ++ pins))) S3 g1 g3 q g2
          · exact ld_blt (X := X.suite a ((a, o3) :: (X.pn ++ pins))) S3 g1 g3 g4 q g5 g2
        refine ask (lm.here ?_)
        cases b with
        | false => exact ih (no rfl)
        | true =>
          refine codeAny_handlers_suite_as (HandSPX.lands_againZ fl fun h4 fl4 up4 => ?_)
          have J4 : Inv X pins z' H' { t' with heap := h4 } := J.landed nb fl4.1 ((up.trans up3).trans up4) os ag
          obtain ⟨o4, v4, e4, k4, d4⟩ := fl4.there
          have S4 := J4.suite e4 d4 na nl nf
          refine store_ok (X := X.suite a ((a, o4) :: (X.pn ++ pins))) (v := .ref a) S4 nd hi (.inl hl) rfl (fun t5 S5 => ?_) (.inr hl)
          refine wpAny_mono ((hs a o4 cls d (X.pn ++ pins) k4 ⟨_, d4⟩).run [] t5 _ H' _ S5 (yes rfl a na)) (fun f t6 w6 => ?_) fun _ _ e => False.elim e
          have off : ∀ {z6 : L2.St} {H6 : Hp} {Q : Shared → Prop}, Inv (X.suite a ((a, o4) :: (X.pn ++ pins))) [] z6 H6 t6 → (∀ t7, Inv X pins (z6.set i none) H6 t7 → Q t7) →
              wpAny (model X.prog X.w) X.A (do bindName X.env n .none; unbindBehindTheSuite X.env n hp) (fun _ t7 => Q t7) X.xe t6 := fun {z6 H6 Q} S6 q => gone_ok (S6.unsuite ok) nd hi hl q
          cases f with
          | next => obtain ⟨_, _, S6, q6⟩ := w6; exact off S6 fun t7 J7 => ⟨_, _, J7, q6⟩
          | brk => obtain ⟨_, _, S6, q6⟩ := w6; exact off S6 fun t7 J7 => ⟨_, _, J7, q6⟩
          | cont => obtain ⟨_, _, S6, q6⟩ := w6; exact off S6 fun t7 J7 => ⟨_, _, J7, q6⟩
          | ret u => obtain ⟨_, _, _, S6, r6, q6⟩ := w6; exact off S6 fun t7 J7 => ⟨_, _, _, J7, r6, q6⟩
    exact go hh w
  · cases f with
    | next => obtain ⟨_, _, J, q⟩ := w; exact wpAny_execs_nil ⟨_, _, J.ofTry ok, q⟩
    | brk => obtain ⟨_, _, J, q⟩ := w; exact ⟨_, _, J.ofTry ok, q⟩
    | cont => obtain ⟨_, _, J, q⟩ := w; exact ⟨_, _, J.ofTry ok, q⟩
    | ret u => obtain ⟨_, _, _, J, r, q⟩ := w; exact ⟨_, _, _, J.ofTry ok, r, q⟩
end
/-- attributes of the class A are read as usual -/
structure ClRd (K : PySem.W.Frag) (A : Addr) (mc : Value) : Prop where
  rd : PySem.W.readsIn K A mc = true
  ga : PySem.W.specialIn K (.ref A) "__getattribute__" = some (some (.builtin "type.__getattribute__"))
/-- A.__init__(self, ..), A a class without __init__ over ValueError -/
theorem pe_cinit {X : Cx} {x : Str} {A : Addr} {mc : Value} {e : Expr} {es : List Expr} {ta : TA} {p1 p2 pos : Pos} (hg : Gl X x) (hm : X.mg x = some (.ref A)) (r : ClRd X.K A mc) (v : PySem.W.findCls X.K (.ref A) mc "__init__" = some (.val (.builtin "ValueError.__init__"))) (ha : PA X (e :: es) ta)
    (hdb : (x == ("__debug__" : Str)) = false) (hline : (p2.endLine == pos.line) = true) (hfew : methodCallForm (e :: es).length (backTo pos (starEach (e :: es) X.env)) (backToKw pos (keywordEach [] X.env)) = true)
    (he : starEach (e :: es) X.env = (false, eval e X.env) :: starEach es X.env) (hpl : (backTo pos (starEach es X.env)).any (·.1) = false) :
    PE X (.Call (.Attribute (.Name x p1) "__init__" p2) (e :: es) [] pos) (tVeI X.K ta) := by
  refine ⟨fun pins s z H Q I q => ?_⟩
  have hc := mcall_of (o := .Name x p1) (m := "__init__") (apos := p2) (pos := pos) (args := e :: es) (kws := []) (env := X.env) (recvB_ok rfl _ _) fun ov => mcall_line hfew hline
  refine PySem.W.methodCall_KW (ld_glob I hg hm ?_ hdb) hc
  refine PySem.W.method_cls I.kIn r.ga (PySem.W.cls_value I.kIn r.rd v (by decide +kernel) ?_)
  show wpAny _ _ (callWith pos (Value.builtin "ValueError.__init__") [] (backTo pos (starEach (e :: es) X.env)) []) _ _ _
  refine PyProof.Rows.callWith_method1 (thn (ha.run pos pins _ z H _ ((I.tok _).tok _) q) fun us s1 ⟨vs, H1, J, r1, a, C, ws, ev, hl, T, ea, w⟩ => ?_) he hpl
  subst ev
  cases r1 with
  | @cons _ u0 _ ur ra rw' =>
    obtain rfl : u0 = Value.ref a := ra
    exact oinit_ok T J ea (by rw [← Paired.length rw', sizeLine_eq]; omega) fun s' J' => ⟨.non, H1, J', rfl, w⟩
/-- raise C(e, ..) -/
theorem pmk_ini {X : Cx} {ca : CA} {k : Nat} {x : Str} {e : Expr} {es : List Expr} {ta : TA} {p pos : Pos} {W : WX} (F : IniF X ca k) (tk : Takes X W) (hg : Gl X x) (hm : X.mg x = some (.ref (ca k))) (ha : PA X (e :: es) ta) (hdb : (x == ("__debug__" : Str)) = false)
    (he : starEach (e :: es) X.env = (false, eval e X.env) :: starEach es X.env) (hpl : (backTo pos (starEach es X.env)).any (·.1) = false)
    (mono : ∀ z H (Q Q' : List V → Hp → Prop), (∀ vs H1, Q vs H1 → Q' vs H1) → ta z H Q → ta z H Q') :
    PMk X (.Call (.Name x p) (e :: es) [] pos) (fun z H Q => ta z H fun vs H1 => vs.length = (fldsOf k).length ∧ vs.length ≤ 1000 ∧ ∀ d, H1 d = none → Q (.ref (ca k)) (some d) (upd H1 d (.xd ((fldsOf k).zip vs).reverse))) := by
  obtain ⟨T, n, fI, fd, ps, i1, i2, rm, bd, F⟩ := F
  have hx : Passes (L2.CX X.prog X.w) X (fun _ _ _ => False) := passes_call tk fun _ _ _ _ h => h.elim
  have P := pmk_oex (dvs := []) (p := p) (pos := pos) T i1 i2 F rm bd .nil hx hg hm ha hdb he hpl
  refine fun pins s z H Q I q => P pins s z H Q I (mono z H _ _ (fun vs H1 q => ⟨q.2.1, fun a ha => ?_⟩) q)
  obtain ⟨q1, q2, q3⟩ := q
  refine ⟨a, vs, by rw [List.append_nil], q1, upd_same, fun d H2 h1 h2 h3 h4 h5 => ⟨rfl, d, _, h3, h4, ?_, ?_⟩⟩
  · rw [upd_ne h2] at h1; exact h1
  · have h1' : H1 d = none := by rw [upd_ne h2] at h1; exact h1
    have e : upd (del H2 a) d (.xd ((fldsOf k).zip vs).reverse) = upd H1 d (.xd ((fldsOf k).zip vs).reverse) := by
      funext b
      by_cases hb : b = d
      · rw [hb, upd_same, upd_same]
      · rw [upd_ne hb, upd_ne hb]
        by_cases hb2 : b = a
        · rw [hb2, del_same, ha]
        · rw [del_ne hb2, h5 b hb2 hb, upd_ne hb2]
    rw [e]
    exact q3 d h1'
end HP
namespace HP
open PySem L2 PySem.Spec PyProof.Rows
def starB : Expr → Bool
  | .Starred _ _ => true | _ => false
def foldB (es : List Expr) : Bool := !(es.all (foldedForSure 8)) && !(es.all (constantsAlone 8)) && !(es.any starB)
def Es.isNil : Es → Bool
  | .nil => true | _ => false
def Hs.isNil : Hs → Bool
  | .nil => true | _ => false
/-- a name that an inner block reads, too -/
def celB (sc : Scope) (x : Str) : Bool := match sc.names.lookup x with
  | some .cell => true | _ => false
theorem celB_ok {sc : Scope} {x : Str} (h : celB sc x = true) : sc.names.lookup x = some .cell := by
  unfold celB at h
  split at h
  · assumption
  · cases h
theorem sw_cell {elt : Expr} {gs : List Comprehension} {scope : Scope} {pos py : Pos} {y : Str} {l : Nat} {env : Env} (hy : env.scope.names.lookup y = some .cell) : swapsWith (.ListComp elt gs scope pos) (some (.Name y py)) l env = pure false := by
  have ky : env.kindOf y = some .cell := hy
  have kc : (some NameKind.cell == some NameKind.local) = false := by decide
  unfold swapsWith
  simp only [ky, kc, Bool.and_false, Bool.false_and]
mutual
def okS : St → Cc → Stmt → Bool
  | .set i e, C, s => match s with
    | .Assign [.Name x p] v _ => setB C i x && okE e C v && (nocoB v || (match v with
      | .ListComp _ _ scope q => celB C.sc x || (lclB C.sc x && (p.line == q.line) && !(scope.names.any fun (n, k) => n == x && (k == .local || k == .cell)))
      | _ => false))
    | _ => false
  | .asg t e, C, s => match s with
    | .Assign [.Tuple ts k p] v _ => okTg t C t.slots (.Tuple ts k p) && okE e C v && !isTupE v
    | _ => false
  | .setIx o i e, C, s => match s with
    | .Assign [.Subscript u w _] v _ => okE o C u && okE i C w && okE e C v
    | _ => false
  | .setD o i e, C, s => match s with
    | .Assign [.Subscript u w _] v _ => okE o C u && okE i C w && okE e C v
    | _ => false
  | .aug i o e, C, s => match s with
    | .AugAssign (.Name x _) op v _ => setB C i x && visB C.sc x && bopB o op && okE e C v
    | _ => false
  | .expr e, C, s => match s with
    | .Expr v _ => okE e C v && nocoB v
    | _ => false
  | .ret e, C, s => match s with
    | .Return (some v) _ => okE e C v
    | _ => false
  | .retN, _, s => match s with
    | .Return none _ => true
    | _ => false
  | .ite c a b, C, s => match s with
    | .If t x y _ => okE c C t && okSs a C x && okSs b C y
    | _ => false
  | .whl c b, C, s => match s with
    | .While t x [] _ => !C.hot && okE c C t && okSs b C x
    | _ => false
  | .for_ t it b, C, s => match s with
    | .For tg iter x [] _ => !C.hot && okI it C (isTupE tg) iter && okTg t C t.slots tg && okSs b C x
    | _ => false
  | .brk, _, s => match s with
    | .Break _ => true
    | _ => false
  | .cnt, _, s => match s with
    | .Continue _ => true
    | _ => false
  | .pass, _, s => match s with
    | .Pass _ => true
    | _ => false
  | .par i j a b, C, s => match s with
    | .Assign [.Tuple [.Name x px, .Name y py] _ _] (.Tuple [u, v] _ _) _ => !C.hot && slotB C i x && slotB C j y && decide (i ≠ j) && decide (x ≠ y) && lclB C.sc x && lclB C.sc y && (py.line == px.line) && foldB [u, v] && okE a C u && okE b C v
    | _ => false
  | .par3 i j k a b d, C, s => match s with
    | .Assign [.Tuple [.Name x px, .Name y py, .Name z pz] _ _] (.Tuple [u, v, w] _ _) _ => !C.hot && slotB C i x && slotB C j y && slotB C k z && decide (i ≠ j) && decide (i ≠ k) && decide (j ≠ k) && decide (x ≠ y) && decide (x ≠ z) && decide (y ≠ z) &&
        lclB C.sc x && lclB C.sc y && lclB C.sc z && (py.line == px.line) && (pz.line == px.line) && foldB [u, v, w] && okE a C u && okE b C v && okE d C w
    | _ => false
  | .rse k fl es, C, s => match s with
    | .Raise (some (.Call (.Name x _) (x0 :: xs) [] _)) none _ => !C.hot && namB C x && decide (C.cls.lookup x = some (k, true)) && (match noFld k, x0, xs with
      | true, .Constant (.str _) _ _, [] => fl.isEmpty && es.isNil
      | false, x0, xs => decide (fl = fldsOf k) && okEs es C (x0 :: xs) && decide ((x0 :: xs).length ≤ 1000)
      | _, _, _ => false)
    | _ => false
  | .try_ b h kn, C, s => match s with
    | .Try body hds [] [] _ => !C.hot && okSs b { C with lx := ⟨if C.lx.act = 1 then 2 else 0, false, [], []⟩ } body && kn.all (fun k => (knOf C.cls).contains k) && (okHs h C hds || (!hds.isEmpty && okHn h C hds))
    | _ => false
  | .never, _, _ => true
  | .lamB _ _ _, _, _ => false
def okSs : Ss → Cc → List Stmt → Bool
  | .nil, _, ss => ss.isEmpty
  | .cons s r, C, ss => match ss with
    | x :: xs => okS s C x && okSs r C xs
    | [] => false
/-- one clause -/
def okHs : Hs → Cc → List ExceptHandler → Bool
  | .nil, _, _ => false
  | .cons k i b r, C, hds => match hds with
    | [.ExceptHandler (some (.Name x _)) nm (b0 :: su) _] => r.isNil && namB C x && (match k with
      | none => (x == ("ValueError" : Str)) && C.blt.contains x
      | some j => clsB C j x) && (match i, nm with
      | none, none => true
      | some i, some n => slotB C i n && lclB C.sc n
      | _, _ => false) && okSs b { C with hot := true, lx := Lx.no } (b0 :: su)
    | _ => false
/-- clauses with names -/
def okHn : Hs → Cc → List ExceptHandler → Bool
  | .nil, _, hds => hds.isEmpty
  | .cons k i b r, C, hds => match hds with
    | .ExceptHandler (some (.Name x _)) (some n) (b0 :: su) _ :: hds => namB C x && (match k with
      | none => (x == ("ValueError" : Str)) && C.blt.contains x
      | some j => clsB C j x) && (match i with
      | some i => slotB C i n && lclB C.sc n
      | none => false) && okSs b { C with hot := true, lx := Lx.no } (b0 :: su) && okHn r C hds
    | _ => false
end
section
variable {K : PySem.W.Frag} {ca : CA} {hd : Hd} {c : Call} {W : WX}
/-- what is wanted behind a statement -/
def PoS (K : PySem.W.Frag) (ca : CA) (hd : Hd) (th : List Addr) (H : Hp) (D : Ends) (W : WX) : RS → Prop
  | .nx r S => ∀ th' sg' H', Go th H th' H' → Sim K ca hd th' H' S r sg' → D.nx sg' H'
  | .rt d S => ∀ th' H' v, Go th H th' H' → Rep K ca th' H' S → RV K ca th' H' d v → D.rt v H'
  | .bk r S => ∀ th' sg' H', Go th H th' H' → Sim K ca hd th' H' S r sg' → D.bk sg' H'
  | .ct r S => ∀ th' sg' H', Go th H th' H' → Sim K ca hd th' H' S r sg' → D.ct sg' H'
  | .ex x r S => ∀ th' sg' H' cls dd, Go th H th' H' → Sim K ca hd th' H' S r sg' → RX K ca th' H' x.c x.fs cls dd → W cls dd sg' H'
  | .bad => False
theorem PoS.later {th th1 : List Addr} {H H1 : Hp} {D : Ends} {x : RS} (g : Go th H th1 H1) (h : PoS K ca hd th H D W x) : PoS K ca hd th1 H1 D W x := by
  cases x with
  | nx r S => exact fun th' sg' H' g' => h th' sg' H' (g.trans g')
  | rt d S => exact fun th' H' v g' => h th' H' v (g.trans g')
  | bk r S => exact fun th' sg' H' g' => h th' sg' H' (g.trans g')
  | ct r S => exact fun th' sg' H' g' => h th' sg' H' (g.trans g')
  | ex x r S => exact fun th' sg' H' cls dd g' => h th' sg' H' cls dd (g.trans g')
  | bad => exact h
/-- the reading of a statement -/
def rdR (K : PySem.W.Frag) (ca : CA) (hd : Hd) (W : WX) (ev : Ev → Sto → RS) : TS := fun D sg H => ∃ th S r, Sim K ca hd th H S r sg ∧ PoS K ca hd th H D W (ev r S)
abbrev rdS (K : PySem.W.Frag) (ca : CA) (hd : Hd) (c : Call) (W : WX) (s : St) : TS := rdR K ca hd W (evS c s)
abbrev rdSs (K : PySem.W.Frag) (ca : CA) (hd : Hd) (c : Call) (W : WX) (s : Ss) : TS := rdR K ca hd W (evSs c s)
theorem PoS.bnd {A B : Type} {rel : List Addr → Hp → A → B → Prop} {th : List Addr} {H : Hp} {S : Sto} {D : Ends} {sg : L2.St} {r : Ev} {x : R A} {Q : B → Hp → Prop} {f : A → Sto → RS} (m : Sim K ca hd th H S r sg) (h : PoS K ca hd th H D W (x.bndS r f))
    (k : ∀ a S th1 H1 b, Go th H th1 H1 → Rep K ca th1 H1 S → rel th1 H1 a b → PoS K ca hd th1 H1 D W (f a S) → Q b H1) : Po K ca th H rel (fun cls dd H' => W cls dd sg H') Q x := by
  cases x with
  | ok a S => exact fun th' H' b g R e => k a S th' H' b g R e (PoS.later g h)
  | exn y S => exact fun th' H' cls dd g R e => h th' sg H' cls dd g (m.go R g) e
  | bad => exact h
theorem PoS.nx {th : List Addr} {H : Hp} {S : Sto} {D : Ends} {sg : L2.St} {r : Ev} (m : Sim K ca hd th H S r sg) (h : PoS K ca hd th H D W (.nx r S)) : D.nx sg H := h th sg H (Go.refl _ _) m
theorem whN_mono {t : Ev → Sto → R Bool} {b : Ev → Sto → RS} : ∀ {n : Nat} {r : Ev} {S : Sto} {x : RS}, whN t b n r S = some x → whN t b (n + 1) r S = some x
  | 0, r, S, x, h => by cases h
  | n + 1, r, S, x, h => by
    rw [whN] at h ⊢
    cases e : t r S with
    | ok k S1 =>
      rw [e] at h
      cases k with
      | true =>
        dsimp only at h ⊢
        cases e2 : b r S1 with
        | nx r2 S2 => rw [e2] at h; exact whN_mono h
        | ct r2 S2 => rw [e2] at h; exact whN_mono h
        | _ => rw [e2] at h; exact h
      | false => exact h
    | _ => rw [e] at h; exact h
theorem whN_le {t : Ev → Sto → R Bool} {b : Ev → Sto → RS} {n m : Nat} {r : Ev} {S : Sto} {x : RS} (h : whN t b n r S = some x) (k : n ≤ m) : whN t b m r S = some x := by
  induction k with
  | refl => exact h
  | step _ ih => exact whN_mono ih
theorem whN_det {t : Ev → Sto → R Bool} {b : Ev → Sto → RS} {n m : Nat} {r : Ev} {S : Sto} {x y : RS} (h : whN t b n r S = some x) (k : whN t b m r S = some y) : x = y := by
  have h1 := whN_le h (Nat.le_max_left n m)
  have h2 := whN_le k (Nat.le_max_right n m)
  rw [h1] at h2
  exact Option.some.inj h2
theorem whR_of {t : Ev → Sto → R Bool} {b : Ev → Sto → RS} {n : Nat} {r : Ev} {S : Sto} {x : RS} (h : whN t b n r S = some x) : whR t b r S = x := by
  unfold whR
  have hx : ∃ n x, whN t b n r S = some x := ⟨n, x, h⟩
  rw [dif_pos hx]
  exact whN_det (Classical.choose_spec (Classical.choose_spec hx)) h
theorem whR_ex {t : Ev → Sto → R Bool} {b : Ev → Sto → RS} {r : Ev} {S : Sto} (h : whR t b r S ≠ .bad) : ∃ n, whN t b n r S = some (whR t b r S) := by
  by_cases hx : ∃ n x, whN t b n r S = some x
  · obtain ⟨n, x, hn⟩ := hx
    exact ⟨n, by rw [whR_of hn]; exact hn⟩
  · exact absurd (by unfold whR; rw [dif_neg hx]) h
/-- the equation of a while -/
theorem whR_eq {t : Ev → Sto → R Bool} {b : Ev → Sto → RS} {r : Ev} {S : Sto} : whR t b r S = match t r S with
    | .ok true S1 => (match b r S1 with
      | .nx r2 S2 => whR t b r2 S2
      | .ct r2 S2 => whR t b r2 S2
      | .bk r2 S2 => .nx r2 S2
      | x => x)
    | .ok false S1 => .nx r S1
    | .exn x S1 => .ex x r S1
    | .bad => .bad := by
  have go : ∀ r2 S2, (∀ n x, whN t b n r2 S2 = some x → whN t b (n + 1) r S = some x) → (∀ n x, whN t b n r S = some x → ∃ m, whN t b m r2 S2 = some x) → whR t b r S = whR t b r2 S2 := fun r2 S2 h1 h2 => by
    by_cases hx : ∃ n x, whN t b n r2 S2 = some x
    · obtain ⟨n, x, hn⟩ := hx
      rw [whR_of hn, whR_of (h1 n x hn)]
    · have hy : ¬ ∃ n x, whN t b n r S = some x := fun ⟨n, x, hn⟩ => hx (by obtain ⟨m, hm⟩ := h2 n x hn; exact ⟨m, x, hm⟩)
      unfold whR
      rw [dif_neg hx, dif_neg hy]
  have one : ∀ x, whN t b 1 r S = some x → whR t b r S = x := fun x h => whR_of h
  cases e : t r S with
  | ok k S1 =>
    cases k with
    | true =>
      dsimp only
      cases e2 : b r S1 with
      | nx r2 S2 =>
        refine go r2 S2 (fun n x h => by rw [whN, e]; dsimp only; rw [e2]; exact h) fun n x h => ?_
        cases n with
        | zero => cases h
        | succ n => rw [whN, e] at h; dsimp only at h; rw [e2] at h; exact ⟨n, h⟩
      | ct r2 S2 =>
        refine go r2 S2 (fun n x h => by rw [whN, e]; dsimp only; rw [e2]; exact h) fun n x h => ?_
        cases n with
        | zero => cases h
        | succ n => rw [whN, e] at h; dsimp only at h; rw [e2] at h; exact ⟨n, h⟩
      | _ => exact one _ (by rw [whN, e]; dsimp only; rw [e2])
    | false => exact one _ (by rw [whN, e])
  | _ => exact one _ (by rw [whN, e])
theorem tWhile_of {t : E} {b : Ss} {D : Ends} {sg : L2.St} {H : Hp} (h : rdS K ca hd c W (.whl t b) D sg H) : tWhile (rdT K ca hd c W t) (rdSs K ca hd c W b) D sg H := by
  obtain ⟨th, S, r, m, h⟩ := h
  simp only [evS] at h
  have hne : whR (fun r S => evT c t r S) (fun r S => evSs c b r S) r S ≠ .bad := fun z => by rw [z] at h; exact h
  obtain ⟨n, hn⟩ := whR_ex hne
  refine ⟨fun n sg H => ∃ th S r x, Sim K ca hd th H S r sg ∧ whN (fun r S => evT c t r S) (fun r S => evSs c b r S) n r S = some x ∧ PoS K ca hd th H D W x, ⟨n, th, S, r, _, m, hn, h⟩, ?_⟩
  rintro n sg H ⟨th, S, r, x, m, hn, h⟩
  cases n with
  | zero => cases hn
  | succ n =>
    rw [whN] at hn
    refine ⟨th, S, r, m, ?_⟩
    cases e : evT c t r S with
    | ok k S1 =>
      rw [e] at hn
      refine fun th1 H1 k' g1 R1 ek => ?_
      subst ek
      have m1 := m.go R1 g1
      cases k with
      | true =>
        rw [if_pos rfl]
        dsimp only at hn
        refine ⟨fun sg H => ∃ th S r x, Sim K ca hd th H S r sg ∧ whN (fun r S => evT c t r S) (fun r S => evSs c b r S) n r S = some x ∧ PoS K ca hd th H D W x, fun sg' H' hN => ⟨n, Nat.lt_succ_self n, hN⟩, th1, S1, r, m1, ?_⟩
        cases e2 : evSs c b r S1 with
        | nx r2 S2 =>
          rw [e2] at hn
          exact fun th2 sg2 H2 g2 m2 => ⟨th2, S2, r2, x, m2, hn, PoS.later (g1.trans g2) h⟩
        | ct r2 S2 =>
          rw [e2] at hn
          exact fun th2 sg2 H2 g2 m2 => ⟨th2, S2, r2, x, m2, hn, PoS.later (g1.trans g2) h⟩
        | bk r2 S2 =>
          rw [e2] at hn
          cases hn
          exact fun th2 sg2 H2 g2 m2 => h th2 sg2 H2 (g1.trans g2) m2
        | rt d S2 =>
          rw [e2] at hn
          cases hn
          exact fun th2 H2 v g2 => h th2 H2 v (g1.trans g2)
        | ex y r2 S2 =>
          rw [e2] at hn
          cases hn
          exact fun th2 sg2 H2 cls dd g2 => h th2 sg2 H2 cls dd (g1.trans g2)
        | bad =>
          rw [e2] at hn
          cases hn
          exact h
      | false =>
        rw [if_neg Bool.false_ne_true]
        dsimp only at hn
        cases hn
        exact h th1 sg H1 g1 m1
    | exn y S1 =>
      rw [e] at hn
      cases hn
      exact fun th1 H1 cls dd g1 R1 rx => h th1 sg H1 cls dd g1 (m.go R1 g1) rx
    | bad =>
      rw [e] at hn
      cases hn
      exact h
theorem tFor_of {t : Tg} {it : It} {b : Ss} {D : Ends} {sg : L2.St} {H : Hp} (h : rdS K ca hd c W (.for_ t it b) D sg H) : tFor (rdI K ca hd c W it) (rdG K ca hd t) (rdSs K ca hd c W b) D sg H := by
  obtain ⟨th, S, r, m, h⟩ := h
  simp only [evS] at h
  refine ⟨th, S, r, m, PoS.bnd m h fun p S1 th1 H1 J g1 R1 it1 q => ?_⟩
  obtain ⟨ds, ck⟩ := p
  dsimp only at q
  refine ⟨fun i n sg Hc => n + i = ds.length ∧ ∃ th' S' r', Go th1 H1 th' Hc ∧ Sim K ca hd th' Hc S' r' sg ∧ PoS K ca hd th' Hc D W (forL ck (fun d r => asgT t d r) (fun r S => evSs c b r S) (ds.drop i) r' S'),
    ⟨ds.length, rfl, th1, S1, r, Go.refl _ _, m.go R1 g1, by rw [List.drop_zero]; exact q⟩, ?_⟩
  rintro i n sg Hc ⟨en, th', S', r', g', m', q'⟩
  cases e : ds[i]? with
  | none =>
    have hi : ds.length ≤ i := List.getElem?_eq_none_iff.mp e
    have hi' : i = ds.length := by omega
    rw [List.drop_eq_nil_iff.mpr hi] at q'
    unfold forL at q'
    split at q'
    · rename_i st
      refine .inl ⟨?_, PoS.nx m' q'⟩
      rw [hi']
      exact it1.stop th' Hc S' g' m'.rep st
    · exact q'.elim
  | some d =>
    have hi : i < ds.length := (List.getElem?_eq_some_iff.mp e).1
    rw [drop_get e] at q'
    unfold forL at q'
    split at q'
    · rename_i st
      obtain ⟨g0, y0⟩ := it1.go th' Hc S' g' m'.rep st i d e
      refine .inr ⟨g0, fun sg H' => (n - 1) + (i + 1) = ds.length ∧ ∃ th2 S2 r2, Go th1 H1 th2 H' ∧ Sim K ca hd th2 H' S2 r2 sg ∧ PoS K ca hd th2 H' D W (forL ck (fun d r => asgT t d r) (fun r S => evSs c b r S) (ds.drop (i + 1)) r2 S2),
        fun sg' H' hN => ⟨n - 1, by omega, hN⟩, fun v H2 y => ?_⟩
      obtain ⟨g2, R2, rv⟩ := y0 v H2 y
      cases ea : asgT t d r' with
      | none => rw [ea] at q'; exact q'.elim
      | some r2 =>
        rw [ea] at q'
        dsimp only at q'
        have m2 : Sim K ca hd th' H2 S' r' sg := m'.go R2 g2
        refine ⟨th', S', r', d, r2, m2, rv, ea, fun sg2 m3 off => ⟨th', S', r2, m3, ?_⟩⟩
        cases e2 : evSs c b r2 S' with
        | nx r3 S3 =>
          rw [e2] at q'
          exact fun th3 sg3 H3 g3 m4 => ⟨by omega, th3, S3, r3, (g'.trans g2).trans g3, m4, PoS.later (g2.trans g3) q'⟩
        | ct r3 S3 =>
          rw [e2] at q'
          exact fun th3 sg3 H3 g3 m4 => ⟨by omega, th3, S3, r3, (g'.trans g2).trans g3, m4, PoS.later (g2.trans g3) q'⟩
        | bk r3 S3 =>
          rw [e2] at q'
          exact fun th3 sg3 H3 g3 m4 => q' th3 sg3 H3 (g2.trans g3) m4
        | rt d S3 =>
          rw [e2] at q'
          exact fun th3 H3 v g3 => q' th3 H3 v (g2.trans g3)
        | ex y r3 S3 =>
          rw [e2] at q'
          exact fun th3 sg3 H3 cls dd g3 => q' th3 sg3 H3 cls dd (g2.trans g3)
        | bad => rw [e2] at q'; exact q'
    · exact q'.elim
end
theorem pip_aug {X : Cx} {ca : CA} {Wx : Value → Option Addr → Hp → Prop} (o : Bop) : PIp X (bopO o) (fun x y H Q => ∃ th S a b, Rep X.K ca th H S ∧ RV X.K ca th H a x ∧ RV X.K ca th H b y ∧ Po X.K ca th H (RV X.K ca) Wx Q (augD S o a b)) := by
  intro pins s sg H x y v u Q I rx ry h
  obtain ⟨th, S, a, b, R, ha, hb, h⟩ := h
  unfold augD at h
  split at h
  · cases ha.int_inv; cases hb.int_inv
    exact ip_add pins s sg H _ _ v u Q I rx ry ⟨_, _, rfl, rfl, h.ok R (.int _)⟩
  · cases ha.int_inv; cases hb.int_inv
    exact ip_sub pins s sg H _ _ v u Q I rx ry ⟨_, _, rfl, rfl, h.ok R (.int _)⟩
  · exact h.elim
theorem swap2 {env : Env} {x y : Str} {px py pt pt2 : Pos} {kt k2 : Nat} {u v : Expr} (hk : env.scope.kind = .function) (hx : env.scope.names.lookup x = some .local) (hy : env.scope.names.lookup y = some .local) (hxy : x ≠ y) (hl : (py.line == px.line) = true) (hf : foldB [u, v] = true) :
    swappedStores [.Tuple [.Name x px, .Name y py] kt pt] (.Tuple [u, v] k2 pt2) env = pure (some [x, y]) := by
  have kx : env.kindOf x = some .local := hx
  have ky : env.kindOf y = some .local := hy
  have hb : env.blockKind = .function := by unfold Env.blockKind; rw [hk]; rfl
  have hyx : (y == x) = false := by simpa using fun z : y = x => hxy z.symm
  have hl' : py.line = px.line := by simpa using hl
  unfold foldB at hf
  simp only [Bool.and_eq_true, Bool.not_eq_true'] at hf
  obtain ⟨⟨h1, h2⟩, h3⟩ := hf
  simp only [List.any_cons, List.any_nil, Bool.or_false, Bool.or_eq_false_iff] at h3
  obtain ⟨su, sv⟩ := h3
  unfold swappedStores
  simp only [hb, kx, ky, h1, h2, List.filterMap_cons, List.filterMap_nil, Expr.pos, List.head?_cons, Option.map_some, Option.getD_some, beq_self_eq_true, hl', Bool.and_self, if_true]
  simp [List.eraseDups_cons, hyx, hxy, hxy.symm, bind, pure]
  refine ⟨?_, ?_⟩
  · cases u <;> first | rfl | exact Bool.noConfusion su
  · cases v <;> first | rfl | exact Bool.noConfusion sv
theorem swap3 {env : Env} {x y z : Str} {px py pz pt pt2 : Pos} {kt k2 : Nat} {u v w : Expr} (hk : env.scope.kind = .function) (hx : env.scope.names.lookup x = some .local) (hy : env.scope.names.lookup y = some .local) (hz : env.scope.names.lookup z = some .local)
    (hxy : x ≠ y) (hxz : x ≠ z) (hyz : y ≠ z) (hl : (py.line == px.line) = true) (hl2 : (pz.line == px.line) = true) (hf : foldB [u, v, w] = true) :
    swappedStores [.Tuple [.Name x px, .Name y py, .Name z pz] kt pt] (.Tuple [u, v, w] k2 pt2) env = pure (some [x, y, z]) := by
  have kx : env.kindOf x = some .local := hx
  have ky : env.kindOf y = some .local := hy
  have kz : env.kindOf z = some .local := hz
  have hb : env.blockKind = .function := by unfold Env.blockKind; rw [hk]; rfl
  have hyx : (y == x) = false := by simpa using fun z : y = x => hxy z.symm
  have hzx : (z == x) = false := by simpa using fun q : z = x => hxz q.symm
  have hzy : (z == y) = false := by simpa using fun q : z = y => hyz q.symm
  have hl' : py.line = px.line := by simpa using hl
  have hl2' : pz.line = px.line := by simpa using hl2
  unfold foldB at hf
  simp only [Bool.and_eq_true, Bool.not_eq_true'] at hf
  obtain ⟨⟨h1, h2⟩, h3⟩ := hf
  simp only [List.any_cons, List.any_nil, Bool.or_false, Bool.or_eq_false_iff] at h3
  obtain ⟨su, sv, sw⟩ := h3
  unfold swappedStores
  simp only [hb, kx, ky, kz, h1, h2, List.filterMap_cons, List.filterMap_nil, Expr.pos, List.head?_cons, Option.map_some, Option.getD_some, beq_self_eq_true, hl', hl2', Bool.and_self, if_true]
  simp [List.eraseDups_cons, hyx, hzx, hzy, hxy, hxy.symm, hxz, hxz.symm, hyz, hyz.symm, bind, pure]
  refine ⟨?_, ?_, ?_⟩
  · cases u <;> first | rfl | exact Bool.noConfusion su
  · cases v <;> first | rfl | exact Bool.noConfusion sv
  · cases w <;> first | rfl | exact Bool.noConfusion sw
end HP
namespace HP
open PySem L2 PySem.Spec PyProof.Rows
/-- the context of statements -/
structure XS (X : Cx) (C : Cc) (c : Call) (ca : CA) (W : WX) (hd : Hd) : Prop where
  xc : XC X C c ca W hd
  pass : C.hot = false → PassesOwn (model X.prog X.w) X.A X.env X.xe
  kind : X.env.scope.kind = .function
  stk : X.stack = X.env :: X.outer
  frm : X.env.frame = some X.env.locals
section
variable {c : Call} {ca : CA}
theorem kn_of {C : Cc} {x : Str} {k : Nat} (h : C.cls.lookup x = some (k, true)) : k ∈ knOf C.cls := by
  have go : ∀ {l : List (Str × Nat × Bool)}, l.lookup x = some (k, true) → k ∈ knOf l := by
    intro l
    induction l with
    | nil => intro h; cases h
    | cons p l ih =>
      intro h
      obtain ⟨y, j, b⟩ := p
      unfold knOf
      by_cases e : x = y
      · subst e
        simp [List.lookup] at h
        obtain ⟨rfl, rfl⟩ := h
        simp
      · have e' : (x == y) = false := by simpa using e
        simp [List.lookup, e'] at h
        have := ih h
        unfold knOf at this
        cases b with
        | true => rw [List.filter_cons_of_pos rfl, List.map_cons]; exact List.mem_cons_of_mem _ this
        | false => rw [List.filter_cons_of_neg (by simp)]; exact this
  exact go h
/-- behind the suite nothing holds the exception -/
theorem Sim.cool {K : PySem.W.Frag} {ca : CA} {hd : Hd} {th : List Addr} {H : Hp} {S : Sto} {r : Ev} {sg : L2.St} (m : Sim K ca hd th H S r sg) (h : noX r = true) : Sim K ca ⟨none, hd.l⟩ th H S r sg := by
  refine ⟨m.rep, m.len, fun i d e => ?_⟩
  obtain ⟨v, h1, h2⟩ := m.env i d e
  refine ⟨v, h1, ?_⟩
  rcases h2 with h2 | ⟨c, fs, a, cls, dd, h3, _⟩ | h2
  · exact .inl h2
  · subst h3
    have := List.all_eq_true.1 h _ (List.mem_of_getElem? e)
    cases this
  · exact .inr (.inr h2)
theorem Sim.warm {K : PySem.W.Frag} {ca : CA} {hd : Hd} {th : List Addr} {H : Hp} {S : Sto} {r : Ev} {sg : L2.St} (m : Sim K ca ⟨none, hd.l⟩ th H S r sg) : Sim K ca hd th H S r sg := by
  refine ⟨m.rep, m.len, fun i d e => ?_⟩
  obtain ⟨v, h1, h2⟩ := m.env i d e
  refine ⟨v, h1, ?_⟩
  rcases h2 with h2 | ⟨c, fs, a, cls, dd, h3, h4, h5, _⟩ | h2
  · exact .inl h2
  · cases h5
  · exact .inr (.inr h2)
theorem coolR_of {K : PySem.W.Frag} {ca : CA} {hd : Hd} {th : List Addr} {H : Hp} {D : Ends} {W : WX} {x : RS} (h : PoS K ca ⟨none, hd.l⟩ th H D W (coolR id x)) : PoS K ca hd th H D (fun _ _ _ _ => False) x := by
  cases x with
  | nx r S =>
    simp only [coolR] at h
    split at h
    · rename_i hn
      exact fun th' sg' H' g m => h th' sg' H' g (m.cool hn)
    · exact h.elim
  | bk r S =>
    simp only [coolR] at h
    split at h
    · rename_i hn
      exact fun th' sg' H' g m => h th' sg' H' g (m.cool hn)
    · exact h.elim
  | ct r S =>
    simp only [coolR] at h
    split at h
    · rename_i hn
      exact fun th' sg' H' g m => h th' sg' H' g (m.cool hn)
    · exact h.elim
  | rt d S => exact h
  | ex _ _ _ => exact h.elim
  | bad => exact h
theorem coolS_of {K : PySem.W.Frag} {ca : CA} {hd : Hd} {th : List Addr} {H : Hp} {D : Ends} {W : WX} {x : RS} {i : Nat} (h : PoS K ca ⟨none, hd.l⟩ th H D W (coolR (fun r => r.set i none) x)) :
    PoS K ca hd th H { nx := fun sg H' => D.nx (sg.set i none) H', rt := D.rt, bk := fun sg H' => D.bk (sg.set i none) H', ct := fun sg H' => D.ct (sg.set i none) H' } (fun _ _ _ _ => False) x := by
  cases x with
  | nx r S =>
    simp only [coolR] at h
    split at h
    · rename_i hn
      exact fun th' sg' H' g m => h th' _ H' g ((m.unset i).cool hn)
    · exact h.elim
  | bk r S =>
    simp only [coolR] at h
    split at h
    · rename_i hn
      exact fun th' sg' H' g m => h th' _ H' g ((m.unset i).cool hn)
    · exact h.elim
  | ct r S =>
    simp only [coolR] at h
    split at h
    · rename_i hn
      exact fun th' sg' H' g m => h th' _ H' g ((m.unset i).cool hn)
    · exact h.elim
  | rt d S => exact h
  | ex _ _ _ => exact h.elim
  | bad => exact h
theorem rdX_mono {K : PySem.W.Frag} {ca : CA} {hd : Hd} {W : WX} {A B : Type} {rel : List Addr → Hp → A → B → Prop} {ev : Ev → Sto → R A} : ∀ z H (Q Q' : B → Hp → Prop), (∀ vs H1, Q vs H1 → Q' vs H1) → rdX K ca hd W rel ev z H Q → rdX K ca hd W rel ev z H Q' := fun z H Q Q' k ⟨th, S, r, m, q⟩ => by
  refine ⟨th, S, r, m, ?_⟩
  cases e : ev r S with
  | ok a S1 => rw [e] at q; exact fun th' H' b g R rb => k b H' (q th' H' b g R rb)
  | exn x S1 => rw [e] at q; exact q
  | bad => rw [e] at q; exact q
theorem fldsOf_len (k : Nat) : (fldsOf k).length ≤ 2 := by
  unfold fldsOf
  split <;> simp
theorem fldsOf_ne {k : Nat} (h : noFld k = false) : (fldsOf k).length ≠ 0 := by
  unfold noFld at h
  rw [Bool.not_eq_false'] at h
  have : k = 3 ∨ k = 4 ∨ k = 5 ∨ k = 8 ∨ k = 12 := by simpa using h
  rcases this with rfl | rfl | rfl | rfl | rfl <;> decide
/-- the class that a clause names -/
theorem exm_cl {X : Cx} {C : Cc} {ca : CA} {c : Call} {W : WX} {hd : Hd} {kn : List Nat} {k : Option Nat} {x : Str} (hX : XC X C c ca W hd) (h3 : (kn.all fun k => (knOf C.cls).contains k) = true) (h6 : namB C x = true)
    (h7 : (match k with
      | none => (x == ("ValueError" : Str)) && C.blt.contains x
      | some j => clsB C j x) = true) : ∃ cv, Names X x cv ∧ ∀ k' ∈ kn, PySem.W.exmOne X.K (.ref (ca k')) cv = some (k.all (subC k')) := by
  obtain ⟨g1, g2, g3⟩ := hX.gl h6
  cases k with
  | none =>
    simp only [Bool.and_eq_true, beq_iff_eq] at h7
    refine ⟨.type "ValueError", ⟨g1, g2, .inr ⟨hX.blt x h7.2, by rw [h7.1]; decide +kernel, g3⟩⟩, fun k' m => ?_⟩
    have K := hX.knf k' (kn_mem h3 m)
    unfold PySem.W.exmOne
    have hs : PySem.W.subIn X.K (.type "ValueError") (.type "BaseException") = some true := (show (PySem.fastBuiltinMro "ValueError").map (·.contains (Value.type "BaseException")) = some true from by decide +kernel)
    rw [hs, if_pos (show (some true == some true) = true from rfl)]
    unfold PySem.W.kitCls
    dsimp only
    rw [if_pos (by decide +kernel)]
    exact K.ve
  | some j =>
    obtain ⟨bb, e, _⟩ := clsB_ok hX h7
    have F := hX.clf _ _ _ e
    refine ⟨.ref (ca j), ⟨g1, g2, .inl F.m⟩, fun k' m => ?_⟩
    have K := hX.knf k' (kn_mem h3 m)
    exact PySem.W.exm_ref F.ex F.hd F.ty (K.rel _ _ _ e)
/-- the context of what is tried -/
theorem xs_body {X : Cx} {C : Cc} {ca : CA} {c : Call} {W W' : WX} {hl : Option Lm} {pn : List (Addr × Obj)} {xe : Value → Shared → Prop} (hX : XS X C c ca W ⟨none, hl⟩) (tk : Takes (X.tr pn xe) W') (pw : PassesOwn (model X.prog X.w) X.A X.env xe) :
    XS (X.tr pn xe) { C with lx := ⟨if C.lx.act = 1 then 2 else 0, false, [], []⟩ } c ca W' ⟨none, hl⟩ where
  xc := { hN := hX.xc.hN, nd := hX.xc.nd, sc := hX.xc.sc, calm := hX.xc.calm, fn := hX.xc.fn, fns := hX.xc.fns, cons := hX.xc.cons, blt := hX.xc.blt, takes := tk, un := hX.xc.un, cold := fun _ => rfl, hotI := fun a D dd e => (by cases e), hotF := fun a D dd e => (by cases e),
          act1 := fun e => by
            dsimp only at e
            split at e <;> cases e
          act2 := fun e m hm a ha => by
            dsimp only at e
            split at e
            · rename_i e1
              exact hX.xc.act1 e1 m hm a ha pn xe W' tk
            · cases e
          lam := fun e => (by cases e), stk := fun e => (by dsimp only at e; split at e <;> cases e), gd := fun e => (by dsimp only at e; split at e <;> cases e), ini := hX.xc.ini, clf := hX.xc.clf, knf := hX.xc.knf }
  pass := fun _ => pw
  kind := hX.kind
  stk := hX.stk
  frm := hX.frm
/-- the context of an except suite -/
theorem xs_suite {X : Cx} {C : Cc} {ca : CA} {c : Call} {W : WX} {hl : Option Lm} {a : Addr} {oe : Obj} {cls : Value} {d : Option Addr} {pn : List (Addr × Obj)} (hX : XS X C c ca W ⟨none, hl⟩) (hz : Zc cls d oe) (hf : ∃ vs, oe.data = .fields vs) :
    XS (X.suite a ((a, oe) :: pn)) { C with hot := true, lx := Lx.no } c ca (fun _ _ _ _ => False) ⟨some (a, cls, d), hl⟩ :=
  ⟨{ hN := hX.xc.hN, nd := hX.xc.nd, sc := hX.xc.sc, calm := fun e => (by cases e), fn := hX.xc.fn, fns := fun e => (by cases e), cons := hX.xc.cons, blt := hX.xc.blt, takes := takes_none5, un := hX.xc.un, cold := fun e => (by cases e),
      hotI := fun a' D dd e ec => (by cases e; exact call_isEX ec hz hf), hotF := fun a' D dd e T f _ hno e2 te pos hb he => (by cases e; exact pe_xfX T hno hz hf hb he),
      act1 := fun e => (by cases e), act2 := fun e => (by cases e), lam := fun e => (by cases e), stk := fun e => (by cases e), gd := fun e => (by cases e), ini := fun e => (by cases e), clf := hX.xc.clf, knf := hX.xc.knf }, fun e => (by cases e), hX.kind, hX.stk, hX.frm⟩
theorem PSs.seq {X : Cx} {st : Stmt} {rest : List Stmt} {W : WX} {hd : Hd} {s : St} {ss : Ss} (h1 : PS X st (rdS X.K ca hd c W s)) (h2 : PSs X rest (rdSs X.K ca hd c W ss)) : PSs X (st :: rest) (rdSs X.K ca hd c W (.cons s ss)) := by
  refine PSs.imp (pss_cons h1 h2) fun D sg H q => ?_
  obtain ⟨th, S, r, m, q⟩ := q
  simp only [evSs] at q
  refine ⟨th, S, r, m, ?_⟩
  cases e : evS c s r S with
  | nx r1 S1 =>
    rw [e] at q
    exact fun th1 sg1 H1 g1 m1 => ⟨th1, S1, r1, m1, PoS.later g1 q⟩
  | _ => rw [e] at q; exact q
mutual
theorem soundS : ∀ (s : St) {X : Cx} {C : Cc} {W : WX} {hd : Hd} {st : Stmt}, XS X C c ca W hd → okS s C st = true → PS X st (rdS X.K ca hd c W s)
  | .set i e, X, C, W, hd, st, hX, h => by
    simp only [okS] at h
    split at h
    · rename_i x p v ps
      simp only [Bool.and_eq_true, Bool.or_eq_true] at h
      obtain ⟨⟨h1, h2⟩, h3⟩ := h
      obtain ⟨s1, s2, s3⟩ := hX.xc.setOk h1
      have fin : ∀ {te : TE}, (∀ sg H Q, rdE X.K ca hd c W e sg H Q → te sg H Q) → ∀ D sg H, rdS X.K ca hd c W (.set i e) D sg H → tAsg te (gName i) D sg H := fun {te} ht D sg H q => by
        obtain ⟨th, S, r, m, q⟩ := q
        simp only [evS] at q
        exact ht _ _ _ ⟨th, S, r, m, PoS.bnd m q fun d S1 th1 H1 v g1 R1 rv q1 => PoS.nx ((m.go R1 g1).set (.inl rv)) q1⟩
      rcases h3 with h3 | h3
      · exact PS.imp (ps_set (i := i) hX.xc.nd s1 s2 (soundE e (hd := hd) hX.xc h2) (nocoB_ok h3 _ _ _) s3) (fin fun _ _ _ q => q)
      · cases v with
        | ListComp elt gens scope q =>
          simp only [Bool.or_eq_true, Bool.and_eq_true, Bool.not_eq_true'] at h3
          rcases h3 with h3 | ⟨⟨k1, k2⟩, k3⟩
          · exact PS.imp (ps_set (i := i) hX.xc.nd s1 s2 (soundE e (hd := hd) hX.xc h2) (sw_cell (by rw [hX.xc.sc]; exact celB_ok h3)) s3) (fin fun _ _ _ q => q)
          have hy : X.env.scope.names.lookup x = some .local := by rw [hX.xc.sc]; exact lclB_ok k1
          cases e with
          | lc x' tg it cd own =>
            simp only [okE] at h2
            split at h2
            · rename_i elt' t iter ifs z scope' p' he
              cases he
              simp only [Bool.and_eq_true, beq_iff_eq, Bool.not_eq_true', decide_eq_true_eq] at h2
              obtain ⟨⟨⟨⟨⟨⟨⟨h1', h2', hx'⟩, h3'⟩, h4'⟩, h5'⟩, h6'⟩, h7'⟩, h8'⟩ := h2
              subst h1'
              cases hb : eoX cd with
              | true =>
                rw [hb] at hx'
                have hx' : C.lx.act = 3 := by simpa using hx'
                have hst := hX.xc.stk hx'
                refine PS.imp (LCX.ps_setLcX (own := ownP C.N own) (te := fun σ => rdE X.K ca hd c (LCX.wx W σ) x') (g := rdG X.K ca hd tg) (tt := fun σ => rdC X.K ca hd c (LCX.wx W σ) cd) (wi := rdI X.K ca hd c W it) hX.xc.takes hst.1 hst.2 (hX.xc.calm h2') hX.xc.nd s1 hy (sw_true hX.kind hy k2 k3)
                  (soundI it (hd := hd) hX.xc h3') (blkOk_by (by rw [hX.xc.hN, hX.xc.sc]; exact h4')) (fun σ s H D cl fp => soundG tg (hX.xc.blkX h2' s H scope D cl fp _) h6')
                  (fun σ s H D cl fp => soundC cd (hd := hd) (hX.xc.blkX h2' s H scope D cl fp _) h7') (fun σ s H D cl fp => soundE x' (hd := hd) (hX.xc.blkX h2' s H scope D cl fp _) h8') (okI_set h3' _)) (fin fun sg H Q q => ?_)
                rw [h5']
                exact tLc_ofX hb (okTg_slots h6') q
              | false =>
              refine PS.imp (ps_setLc (own := ownP C.N own) (te := rdE X.K ca hd c W0 x') (g := rdG X.K ca hd tg) (tt := rdC X.K ca hd c W0 cd) (wi := rdI X.K ca hd c W it) (hX.xc.calm h2') hX.xc.nd s1 hy (sw_true hX.kind hy k2 k3)
                (soundI it (hd := hd) hX.xc h3') (blkOk_by (by rw [hX.xc.hN, hX.xc.sc]; exact h4')) (fun s H D cl fp => soundG tg (hX.xc.blk h2' s H scope D cl fp) h6')
                (fun s H D cl fp => soundC cd (hd := hd) (hX.xc.blk h2' s H scope D cl fp) h7') (fun s H D cl fp => soundE x' (hd := hd) (hX.xc.blk h2' s H scope D cl fp) h8') (okI_set h3' _)) (fin fun sg H Q q => ?_)
              rw [h5']
              exact tLc_of hb (okTg_slots h6') q
            · cases h2
          | _ => simp [okE] at h2
        | _ => cases h3
    · cases h
  | .asg t e, X, C, W, hd, st, hX, h => by
    simp only [okS] at h
    split at h
    · rename_i ts k p v ps
      simp only [Bool.and_eq_true, Bool.not_eq_true'] at h
      obtain ⟨⟨h1, h2⟩, h3⟩ := h
      cases t with
      | name i => simp [okTg] at h1
      | tup tts =>
        refine PS.imp (ps_asg (soundE e (hd := hd) hX.xc h2) (soundGL tts (hd := hd) hX.xc h1) (by cases v <;> rfl) (by cases v <;> first | rfl | cases h3) rfl) fun D sg H q => ?_
        obtain ⟨th, S, r, m, q⟩ := q
        simp only [evS] at q
        refine ⟨th, S, r, m, PoS.bnd m q fun d S1 th1 H1 v g1 R1 rv q1 => ?_⟩
        cases ea : asgT (.tup tts) (unL S1 d) r with
        | none => rw [ea] at q1; exact q1.elim
        | some r1 =>
          rw [ea] at q1
          exact ⟨th1, S1, r, d, r1, m.go R1 g1, rv, ea, fun sg' m' _ => PoS.nx m' q1⟩
    · cases h
  | .setIx o i e, X, C, W, hd, st, hX, h => by
    simp only [okS] at h
    split at h
    · rename_i u w p v ps
      simp only [Bool.and_eq_true] at h
      obtain ⟨⟨h1, h2⟩, h3⟩ := h
      refine PS.imp (ps_asg (soundE e (hd := hd) hX.xc h3) (pg_sub (soundE o (hd := hd) hX.xc h1) (soundE i (hd := hd) hX.xc h2) (set_setD (ca := ca)) (by
        intro v
        cases w with
        | Slice a b d p => cases i <;> simp [okE] at h2
        | _ => rfl)) (by cases v <;> rfl) (by cases v <;> rfl) rfl) fun D sg H q => ?_
      obtain ⟨th, S, r, m, q⟩ := q
      simp only [evS] at q
      refine ⟨th, S, r, m, PoS.bnd m q fun d S1 th1 H1 v g1 R1 rv q1 => ?_⟩
      have m1 := m.go R1 g1
      refine ⟨th1, S1, r, m1, PoS.bnd m1 q1 fun x S2 th2 H2 vo g2 R2 ro q2 => ?_⟩
      have m2 := m1.go R2 g2
      refine ⟨th2, S2, r, m2, PoS.bnd m2 q2 fun k S3 th3 H3 vk g3 R3 rk q3 => ?_⟩
      have m3 := m2.go R3 g3
      cases es : setIxD S3 x k d with
      | none => rw [es] at q3; exact q3.elim
      | some S4 =>
        rw [es] at q3
        exact ⟨th3, S3, x, k, d, S4, R3, ro.go g3, rk, rv.go (g2.trans g3), es, fun H' g' R' => q3 th3 sg H' g' (m3.go R' g')⟩
    · cases h
  | .setD o i e, X, C, W, hd, st, hX, h => by
    simp only [okS] at h
    split at h
    · rename_i u w p v ps
      simp only [Bool.and_eq_true] at h
      obtain ⟨⟨h1, h2⟩, h3⟩ := h
      refine PS.imp (ps_asg (soundE e (hd := hd) hX.xc h3) (pg_sub (soundE o (hd := hd) hX.xc h1) (soundE i (hd := hd) hX.xc h2) (set_setK (ca := ca) hX.xc.un) (by
        intro v
        cases w with
        | Slice a b d p => cases i <;> simp [okE] at h2
        | _ => rfl)) (by cases v <;> rfl) (by cases v <;> rfl) rfl) fun D sg H q => ?_
      obtain ⟨th, S, r, m, q⟩ := q
      simp only [evS] at q
      refine ⟨th, S, r, m, PoS.bnd m q fun d S1 th1 H1 v g1 R1 rv q1 => ?_⟩
      have m1 := m.go R1 g1
      refine ⟨th1, S1, r, m1, PoS.bnd m1 q1 fun x S2 th2 H2 vo g2 R2 ro q2 => ?_⟩
      have m2 := m1.go R2 g2
      refine ⟨th2, S2, r, m2, PoS.bnd m2 q2 fun k S3 th3 H3 vk g3 R3 rk q3 => ?_⟩
      have m3 := m2.go R3 g3
      cases es : setDD S3 x k d with
      | none => rw [es] at q3; exact q3.elim
      | some S4 =>
        rw [es] at q3
        exact ⟨th3, S3, x, k, d, S4, R3, ro.go g3, rk, rv.go (g2.trans g3), es, fun H' g' R' => q3 th3 sg H' g' (m3.go R' g')⟩
    · cases h
  | .aug i o e, X, C, W, hd, st, hX, h => by
    simp only [okS] at h
    split at h
    · rename_i x p op v ps
      simp only [Bool.and_eq_true] at h
      obtain ⟨⟨⟨h1, h2⟩, h3⟩, h4⟩ := h
      obtain ⟨s1, s2, s3⟩ := hX.xc.setOk h1
      have e1 := bopB_eq h3
      subst e1
      refine ⟨fun pins s sg H D I q => ?_⟩
      refine (ps_aug (i := i) hX.xc.nd s1 s2 (soundE e (hd := hd) hX.xc h4) (pip_aug (ca := ca) (Wx := fun cls dd H' => W cls dd sg H') o) s3).run pins s sg H D I ?_
      obtain ⟨th, S, r, m, q⟩ := q
      simp only [evS, evE] at q
      cases hr : r[i]? with
      | none => rw [hr] at q; exact q.elim
      | some od =>
        cases od with
        | none => rw [hr] at q; exact q.elim
        | some d =>
          obtain ⟨v, v1, v2⟩ := m.env i d hr
          have nx : ∀ k fs, d ≠ .exc k fs := fun k fs z => by subst z; rw [hr] at q; exact q.elim
          have nl : ∀ k ds, d ≠ .lam k ds := fun k fs z => by subst z; rw [hr] at q; exact q.elim
          have rv : RV X.K ca th H d v := by
            rcases v2 with v2 | ⟨k, fs, _, _, _, z, _⟩ | ⟨k, ds, _, _, z, _⟩
            · exact v2
            · exact absurd z (nx k fs)
            · exact absurd z (nl k ds)
          have q' : PoS X.K ca hd th H D W ((R.ok d S).bndS r fun x S1 => (evE c e r S1).bndS r fun y S2 => (augD S2 o x y).bndS r fun z S3 => .nx (r.set i (some z)) S3) := by
            rw [hr] at q
            cases d with
            | exc k fs => exact absurd rfl (nx k fs)
            | lam k ds => exact absurd rfl (nl k ds)
            | _ => exact q
          refine ⟨v, v1, th, S, r, m, PoS.bnd m q' fun y S1 th1 H1 u g1 R1 ru q1 => ?_⟩
          have m1 := m.go R1 g1
          exact ⟨th1, S1, d, y, R1, rv.go g1, ru, PoS.bnd m1 q1 fun z S2 th2 H2 w g2 R2 rz q2 => PoS.nx ((m1.go R2 g2).set (.inl rz)) q2⟩
    · cases h
  | .expr e, X, C, W, hd, st, hX, h => by
    simp only [okS] at h
    split at h
    · rename_i v ps
      simp only [Bool.and_eq_true] at h
      refine PS.imp (ps_expr (soundE e (hd := hd) hX.xc h.1) (nocoB_ok h.2 _ _ _)) fun D sg H q => ?_
      obtain ⟨th, S, r, m, q⟩ := q
      simp only [evS] at q
      exact ⟨th, S, r, m, PoS.bnd m q fun d S1 th1 H1 v g1 R1 rv q1 => PoS.nx (m.go R1 g1) q1⟩
    · cases h
  | .ret e, X, C, W, hd, st, hX, h => by
    simp only [okS] at h
    split at h
    · rename_i v ps
      refine PS.imp (ps_ret (soundE e (hd := hd) hX.xc h)) fun D sg H q => ?_
      obtain ⟨th, S, r, m, q⟩ := q
      simp only [evS] at q
      exact ⟨th, S, r, m, PoS.bnd m q fun d S1 th1 H1 v g1 R1 rv q1 => q1 th1 H1 v (Go.refl _ _) R1 rv⟩
    · cases h
  | .retN, X, C, W, hd, st, hX, h => by
    simp only [okS] at h
    split at h
    · refine PS.imp ps_retN fun D sg H q => ?_
      obtain ⟨th, S, r, m, q⟩ := q
      simp only [evS] at q
      exact q th H _ (Go.refl _ _) m.rep .non
    · cases h
  | .ite t a b, X, C, W, hd, st, hX, h => by
    simp only [okS] at h
    split at h
    · simp only [Bool.and_eq_true] at h
      obtain ⟨⟨h1, h2⟩, h3⟩ := h
      refine PS.imp (ps_if (soundT t (hd := hd) hX.xc h1) (soundSs a (hd := hd) hX h2) (soundSs b (hd := hd) hX h3)) fun D sg H q => ?_
      obtain ⟨th, S, r, m, q⟩ := q
      simp only [evS] at q
      refine ⟨th, S, r, m, PoS.bnd m q fun k S1 th1 H1 v g1 R1 rv q1 => ?_⟩
      subst rv
      cases k with
      | true => rw [if_pos rfl] at q1 ⊢; exact ⟨th1, S1, r, m.go R1 g1, q1⟩
      | false => rw [if_neg Bool.false_ne_true] at q1 ⊢; exact ⟨th1, S1, r, m.go R1 g1, q1⟩
    · cases h
  | .whl t b, X, C, W, hd, st, hX, h => by
    simp only [okS] at h
    split at h
    · simp only [Bool.and_eq_true, Bool.not_eq_true'] at h
      obtain ⟨⟨h1, h2⟩, h3⟩ := h
      exact PS.imp (ps_while (hX.pass h1) (soundT t (hd := hd) hX.xc h2) (soundSs b (hd := hd) hX h3)) fun D sg H q => tWhile_of q
    · cases h
  | .for_ t it b, X, C, W, hd, st, hX, h => by
    simp only [okS] at h
    split at h
    · simp only [Bool.and_eq_true, Bool.not_eq_true'] at h
      obtain ⟨⟨⟨h1, h2⟩, h3⟩, h4⟩ := h
      exact PS.imp (ps_for (hX.pass h1) (hX.xc.calm h1) (soundI it (hd := hd) hX.xc h2) (soundG t (hd := hd) hX.xc h3) (soundSs b (hd := hd) hX h4) (okI_set h2 _)) fun D sg H q => tFor_of q
    · cases h
  | .brk, X, C, W, hd, st, hX, h => by
    simp only [okS] at h
    split at h
    · refine PS.imp ps_break fun D sg H q => ?_
      obtain ⟨th, S, r, m, q⟩ := q
      simp only [evS] at q
      exact q th sg H (Go.refl _ _) m
    · cases h
  | .cnt, X, C, W, hd, st, hX, h => by
    simp only [okS] at h
    split at h
    · refine PS.imp ps_continue fun D sg H q => ?_
      obtain ⟨th, S, r, m, q⟩ := q
      simp only [evS] at q
      exact q th sg H (Go.refl _ _) m
    · cases h
  | .pass, X, C, W, hd, st, hX, h => by
    simp only [okS] at h
    split at h
    · refine PS.imp ps_pass fun D sg H q => ?_
      obtain ⟨th, S, r, m, q⟩ := q
      simp only [evS] at q
      exact q th sg H (Go.refl _ _) m
    · cases h
  | .par i j a b, X, C, W, hd, st, hX, h => by
    simp only [okS] at h
    split at h
    · rename_i x px y py kt pt u v k2 pt2 ps
      simp only [Bool.and_eq_true, Bool.not_eq_true', decide_eq_true_eq] at h
      obtain ⟨⟨⟨⟨⟨⟨⟨⟨⟨⟨h0, h1⟩, h2⟩, h3⟩, h4⟩, h5⟩, h6⟩, h7⟩, h8⟩, h9⟩, h10⟩ := h
      have lx : X.env.scope.names.lookup x = some .local := by rw [hX.xc.sc]; exact lclB_ok h5
      have ly : X.env.scope.names.lookup y = some .local := by rw [hX.xc.sc]; exact lclB_ok h6
      refine PS.imp (ps_par (hX.xc.calm h0) hX.xc.nd (hX.xc.slot h1) (hX.xc.slot h2) h3 lx ly (pa_cons (soundE a (hd := hd) hX.xc h9) (pa_cons (soundE b (hd := hd) hX.xc h10) pa_nil (okE_star h10 _ _)) (okE_star h9 _ _)) (swap2 hX.kind lx ly h4 h7 h8) rfl) fun D sg H q => ?_
      obtain ⟨th, S, r, m, q⟩ := q
      simp only [evS] at q
      refine ⟨th, S, r, m, PoS.bnd m q fun d S1 th1 H1 v g1 R1 rv q1 => ?_⟩
      have m1 := m.go R1 g1
      exact ⟨th1, S1, r, m1, PoS.bnd m1 q1 fun d2 S2 th2 H2 v2 g2 R2 rv2 q2 => ⟨v, v2, rfl, PoS.nx (((m1.go R2 g2).set (.inl (rv.go g2))).set (.inl rv2)) q2⟩⟩
    · cases h
  | .par3 i j k a b d, X, C, W, hd, st, hX, h => by
    simp only [okS] at h
    split at h
    · rename_i x px y py z pz kt pt u v w k2 pt2 ps
      simp only [Bool.and_eq_true, Bool.not_eq_true', decide_eq_true_eq] at h
      obtain ⟨⟨⟨⟨⟨⟨⟨⟨⟨⟨⟨⟨⟨⟨⟨⟨⟨⟨h0, h1⟩, h2⟩, h3⟩, h4⟩, h5⟩, h6⟩, h7⟩, h8⟩, h9⟩, h10⟩, h11⟩, h12⟩, h13⟩, h14⟩, h15⟩, h16⟩, h17⟩, h18⟩ := h
      have lx : X.env.scope.names.lookup x = some .local := by rw [hX.xc.sc]; exact lclB_ok h10
      have ly : X.env.scope.names.lookup y = some .local := by rw [hX.xc.sc]; exact lclB_ok h11
      have lz : X.env.scope.names.lookup z = some .local := by rw [hX.xc.sc]; exact lclB_ok h12
      refine PS.imp (ps_par3 (hX.xc.calm h0) hX.xc.nd (hX.xc.slot h1) (hX.xc.slot h2) (hX.xc.slot h3) h4 h5 h6 lx ly lz (pa_cons (soundE a (hd := hd) hX.xc h16) (pa_cons (soundE b (hd := hd) hX.xc h17) (pa_cons (soundE d (hd := hd) hX.xc h18) pa_nil (okE_star h18 _ _)) (okE_star h17 _ _)) (okE_star h16 _ _)) (swap3 hX.kind lx ly lz h7 h8 h9 h13 h14 h15) rfl) fun D sg H q => ?_
      obtain ⟨th, S, r, m, q⟩ := q
      simp only [evS] at q
      refine ⟨th, S, r, m, PoS.bnd m q fun d S1 th1 H1 v g1 R1 rv q1 => ?_⟩
      have m1 := m.go R1 g1
      refine ⟨th1, S1, r, m1, PoS.bnd m1 q1 fun d2 S2 th2 H2 v2 g2 R2 rv2 q2 => ?_⟩
      have m2 := m1.go R2 g2
      exact ⟨th2, S2, r, m2, PoS.bnd m2 q2 fun d3 S3 th3 H3 v3 g3 R3 rv3 q3 => ⟨v, v2, v3, rfl, PoS.nx ((((m2.go R3 g3).set (.inl (rv.go (g2.trans g3)))).set (.inl (rv2.go g3))).set (.inl rv3)) q3⟩⟩
    · cases h
  | .rse k fl es, X, C, W, hd, st, hX, h => by
    simp only [okS] at h
    split at h
    · rename_i x p x0 xs pos pos'
      simp only [Bool.and_eq_true, Bool.not_eq_true', decide_eq_true_eq] at h
      obtain ⟨⟨⟨h1, h2⟩, h3⟩, h4⟩ := h
      obtain ⟨g1, g2, g3⟩ := hX.xc.gl h2
      have F := hX.xc.clf _ _ _ h3
      have K := hX.xc.knf k (kn_of h3)
      cases e1 : noFld k with
      | true =>
        rw [e1] at h4
        split at h4
        case h_2 => rename_i z; cases z
        case h_3 => cases h4
        simp only [Bool.and_eq_true, List.isEmpty_iff] at h4
        obtain ⟨h5, h6⟩ := h4
        refine PS.imp (ps_raise (hX.xc.calm h1) hX.xc.takes (pmk_own PySem.F.excBase_ValueError (K.own e1) F.m K.kp (raises_own K.ex K.ty) g1 g2)) fun D sg H q => ?_
        obtain ⟨th, S, r, m, q⟩ := q
        cases es with
        | cons _ _ => cases h6
        | nil =>
          subst h5
          simp only [evS, evEs] at q
          exact q th sg H _ _ (Go.refl _ _) m ⟨rfl, .inl ⟨rfl, rfl⟩⟩
      | false =>
        rw [e1] at h4
        simp only [Bool.and_eq_true, decide_eq_true_eq] at h4
        obtain ⟨⟨h5, h6⟩, h7⟩ := h4
        subst h5
        have I := hX.xc.ini h1 k (kn_of h3) e1
        cases es with
        | nil => simp [okEs] at h6
        | cons m0 ms =>
          have h8 := h6
          simp only [okEs, Bool.and_eq_true] at h8
          refine PS.imp (ps_raise (hX.xc.calm h1) hX.xc.takes (pmk_ini I hX.xc.takes g1 F.m (soundEs (.cons m0 ms) (hd := hd) hX.xc h6) g2 (okE_star h8.1 _ _) (okEs_plain h8.2 _ _) rdX_mono)) fun D sg H q => ?_
          obtain ⟨th, S, r, m, q⟩ := q
          simp only [evS] at q
          refine ⟨th, S, r, m, PoS.bnd m q fun ds S1 th1 H1 vs g1 R1 rvs q1 => ?_⟩
          have hl := rvs.length
          split at q1
          · rename_i hn
            refine ⟨by omega, by have := fldsOf_len k; omega, fun d hd => ?_⟩
            refine q1 th1 sg _ _ _ (Go.lay hd) ((m.go R1 g1).go (R1.lay hd) (Go.lay hd)) ⟨rfl, .inr ⟨?_, d, _, rfl, upd_same, ?_, ?_⟩⟩
            · intro z
              have := congrArg List.length z
              have h9 := fldsOf_ne e1
              simp only [List.length_reverse, List.length_zip, List.length_nil] at this
              omega
            · rw [List.map_reverse, List.map_reverse, List.map_fst_zip (by omega), List.map_fst_zip (by omega)]
            · rw [List.map_reverse, List.map_reverse, List.map_snd_zip (by omega), List.map_snd_zip (by omega)]
              exact (rvs.go (Go.lay hd)).reverse
          · exact q1.elim
    · cases h
  | .try_ b h' kn, X, C, W, hd, st, hX, h => by
    simp only [okS] at h
    split at h
    · rename_i body hds pos
      simp only [Bool.and_eq_true, Bool.not_eq_true'] at h
      obtain ⟨⟨⟨h1, h2⟩, h3⟩, h4⟩ := h
      obtain ⟨hx, hl⟩ := hd
      have e0 : hx = none := hX.xc.cold h1
      subst e0
      have hbody : ∀ (W' : WX) (pn : List (Addr × Obj)) (xe : Value → Shared → Prop), Takes (X.tr pn xe) W' → PassesOwn (model X.prog X.w) X.A X.env xe → PSs (X.tr pn xe) body (rdSs X.K ca ⟨none, hl⟩ c W' b) := fun W' pn xe tk pw =>
        soundSs b (hd := ⟨none, hl⟩) (X := X.tr pn xe) (W := W') (C := { C with lx := ⟨if C.lx.act = 1 then 2 else 0, false, [], []⟩ }) (xs_body hX tk pw) h2
      rw [Bool.or_eq_true] at h4
      rcases h4 with h4 | h4
      case inr =>
        rw [Bool.and_eq_true] at h4
        obtain ⟨l, hcl, hw⟩ := soundHs h' hX h1 h3 h4.2
        cases hcl with
        | nil => cases h4.1
        | cons hc hi hl2 hs r =>
          refine PS.imp (ps_names hX.stk hX.frm hX.xc.nd hX.xc.takes hbody (.cons hc hi hl2 hs r)) fun D sg H q => ?_
          obtain ⟨th, S, r, m, q⟩ := q
          simp only [evS] at q
          refine ⟨th, S, r, m, ?_⟩
          cases e : evSs c b r S with
          | ex x1 r1 S1 =>
            rw [e] at q
            dsimp only at q
            split at q
            · rename_i hk
              exact fun th1 sg1 H1 cls dd g1 m1 rx => hw D x1 r1 S1 hk th1 sg1 H1 cls dd (PoS.later g1 q) m1 rx
            · exact q.elim
          | _ => rw [e] at q; exact q
      cases h' with
      | nil => simp [okHs] at h4
      | cons k i su r =>
        simp only [okHs] at h4
        split at h4
        · rename_i x np nm b0 bs pos'
          simp only [Bool.and_eq_true] at h4
          obtain ⟨⟨⟨⟨h5, h6⟩, h7⟩, h8⟩, h9⟩ := h4
          have hr : r = .nil := by cases r with
            | nil => rfl
            | cons _ _ _ _ => cases h5
          subst hr
          obtain ⟨g1, g2, g3⟩ := hX.xc.gl h6
          obtain ⟨cv, hc, hexm⟩ := exm_cl hX.xc h3 h6 h7
          have hsuite : ∀ (a : Addr) (oe : Obj) (cls : Value) (d : Option Addr) (pn : List (Addr × Obj)), Zc cls d oe → (∃ vs, oe.data = .fields vs) → PSs (X.suite a ((a, oe) :: pn)) (b0 :: bs) (rdSs X.K ca ⟨some (a, cls, d), hl⟩ c (fun _ _ _ _ => False) su) := fun a oe cls d pn hz hf =>
            soundSs su (hd := ⟨some (a, cls, d), hl⟩) (X := X.suite a ((a, oe) :: pn)) (C := { C with hot := true, lx := Lx.no }) (W := fun _ _ _ _ => False) (xs_suite hX hz hf) h9
          cases i with
          | none =>
            cases nm with
            | some _ => cases h8
            | none =>
              refine PS.imp (ps_try_only hX.stk hX.frm hc hX.xc.takes hbody hsuite) fun D sg H q => ?_
              obtain ⟨th, S, r, m, q⟩ := q
              simp only [evS] at q
              refine ⟨th, S, r, m, ?_⟩
              cases e : evSs c b r S with
              | ex x1 r1 S1 =>
                rw [e] at q
                dsimp only at q
                split at q
                · rename_i hk
                  refine fun th1 sg1 H1 cls dd g1 m1 rx => ⟨_, by have := hexm _ hk; rw [← rx.1] at this; exact this, fun ht a ha => ?_, fun hff => ?_⟩
                  · simp only [evH] at q
                    rw [if_pos ht] at q
                    exact ⟨th1, S1, r1, m1.warm (hd := ⟨some (a, cls, dd), hl⟩), coolR_of (hd := ⟨some (a, cls, dd), hl⟩) (PoS.later g1 q)⟩
                  · simp only [evH] at q
                    rw [if_neg (by rw [hff]; exact Bool.false_ne_true)] at q
                    exact q th1 sg1 H1 cls dd g1 m1 rx
                · exact q.elim
              | _ => rw [e] at q; exact q
          | some i =>
            cases nm with
            | none => cases h8
            | some n =>
              simp only [Bool.and_eq_true] at h8
              refine PS.imp (ps_try_as hX.stk hX.frm hX.xc.nd (hX.xc.slot h8.1) (by show X.env.scope.names.lookup n = some .local; rw [hX.xc.sc]; exact lclB_ok h8.2) hc hX.xc.takes hbody hsuite) fun D sg H q => ?_
              obtain ⟨th, S, r, m, q⟩ := q
              simp only [evS] at q
              refine ⟨th, S, r, m, ?_⟩
              cases e : evSs c b r S with
              | ex x1 r1 S1 =>
                rw [e] at q
                dsimp only at q
                split at q
                · rename_i hk
                  refine fun th1 sg1 H1 cls dd g1 m1 rx => ⟨_, by have := hexm _ hk; rw [← rx.1] at this; exact this, fun ht a ha => ?_, fun hff => ?_⟩
                  · simp only [evH] at q
                    rw [if_pos ht] at q
                    exact ⟨th1, S1, _, (m1.warm (hd := ⟨some (a, cls, dd), hl⟩)).set (.inr (.inl ⟨_, _, a, cls, dd, rfl, rfl, rfl, rx⟩)), coolS_of (hd := ⟨some (a, cls, dd), hl⟩) (PoS.later g1 q)⟩
                  · simp only [evH] at q
                    rw [if_neg (by rw [hff]; exact Bool.false_ne_true)] at q
                    exact q th1 sg1 H1 cls dd g1 m1 rx
                · exact q.elim
              | _ => rw [e] at q; exact q
        · cases h4
    · cases h
  | .lamB _ _ _, X, C, W, hd, st, hX, h => by simp [okS] at h
  | .never, X, C, W, hd, st, hX, h => PS.imp ps_never fun D sg H q => by obtain ⟨th, S, r, m, q⟩ := q; simp only [evS] at q; exact q
theorem soundHs : ∀ (h' : Hs) {X : Cx} {C : Cc} {W : WX} {hl : Option Lm} {hds : List ExceptHandler} {kn : List Nat}, XS X C c ca W ⟨none, hl⟩ → C.hot = false → (kn.all fun k => (knOf C.cls).contains k) = true → okHn h' C hds = true → ∃ l, ClsOk X hds l ∧
    ∀ (D : Ends) (x1 : Xn) (r1 : Ev) (S1 : Sto), x1.c ∈ kn → ∀ th1 sg1 H1 cls dd, PoS X.K ca ⟨none, hl⟩ th1 H1 D W (evH c h' x1 r1 S1) → Sim X.K ca ⟨none, hl⟩ th1 H1 S1 r1 sg1 → RX X.K ca th1 H1 x1.c x1.fs cls dd → wNames X.K W D l cls dd sg1 H1
  | .nil, X, C, W, hl, hds, kn, hX, h1, h3, h => by
    simp only [okHn, List.isEmpty_iff] at h
    subst h
    refine ⟨[], .nil, fun D x1 r1 S1 hk th1 sg1 H1 cls dd q m rx => ?_⟩
    simp only [evH] at q
    exact q th1 sg1 H1 cls dd (Go.refl _ _) m rx
  | .cons k i su r, X, C, W, hl, hds, kn, hX, h1, h3, h => by
    simp only [okHn] at h
    split at h
    · rename_i x np n b0 bs pos' hds'
      simp only [Bool.and_eq_true] at h
      obtain ⟨⟨⟨⟨h6, h7⟩, h8⟩, h9⟩, h10⟩ := h
      obtain ⟨l, hcl, hw⟩ := soundHs r hX h1 h3 h10
      obtain ⟨cv, hc, hexm⟩ := exm_cl hX.xc h3 h6 h7
      cases i with
      | none => cases h8
      | some i =>
        simp only [Bool.and_eq_true] at h8
        refine ⟨(cv, i, fun a cls d => rdSs X.K ca ⟨some (a, cls, d), hl⟩ c (fun _ _ _ _ => False) su) :: l, .cons hc (hX.xc.slot h8.1) (by show X.env.scope.names.lookup n = some .local; rw [hX.xc.sc]; exact lclB_ok h8.2) (fun a oe cls d pn hz hf =>
            soundSs su (hd := ⟨some (a, cls, d), hl⟩) (X := X.suite a ((a, oe) :: pn)) (C := { C with hot := true, lx := Lx.no }) (W := fun _ _ _ _ => False) (xs_suite hX hz hf) h9) hcl, fun D x1 r1 S1 hk th1 sg1 H1 cls dd q m1 rx => ?_⟩
        refine ⟨_, by have := hexm _ hk; rw [← rx.1] at this; exact this, fun ht a ha => ?_, fun hff => ?_⟩
        · simp only [evH] at q
          rw [if_pos ht] at q
          exact ⟨th1, S1, _, (m1.warm (hd := ⟨some (a, cls, dd), hl⟩)).set (.inr (.inl ⟨_, _, a, cls, dd, rfl, rfl, rfl, rx⟩)), coolS_of (hd := ⟨some (a, cls, dd), hl⟩) q⟩
        · simp only [evH] at q
          rw [if_neg (by rw [hff]; exact Bool.false_ne_true)] at q
          exact hw D x1 r1 S1 hk th1 sg1 H1 cls dd q m1 rx
    · cases h
theorem soundSs : ∀ (s : Ss) {X : Cx} {C : Cc} {W : WX} {hd : Hd} {st : List Stmt}, XS X C c ca W hd → okSs s C st = true → PSs X st (rdSs X.K ca hd c W s)
  | .nil, X, C, W, hd, st, hX, h => by
    simp only [okSs, List.isEmpty_iff] at h
    subst h
    refine PSs.imp pss_nil fun D sg H q => ?_
    obtain ⟨th, S, r, m, q⟩ := q
    simp only [evSs] at q
    exact PoS.nx m q
  | .cons s ss, X, C, W, hd, st, hX, h => by
    cases st with
    | nil => simp [okSs] at h
    | cons x xs =>
      simp only [okSs, Bool.and_eq_true] at h
      exact PSs.seq (soundS s (hd := hd) hX h.1) (soundSs ss (hd := hd) hX h.2)
end
end
/-- a def's body, its code's value known -/
theorem fun_okC {P : Program} {w : World} {K : PySem.W.Frag} {mg : Str → Option Value} {base : Heap} {x qual : Str} {st : Stmt} {f : Addr} {fd : FuncData} {N ps : List Str} {k : Nat} {sp : Sp} (F : Fun K x qual st f fd) (S : FnScope N ps (defScope st)) (len : ∀ vs H Q E, sp vs H Q E → vs.length = ps.length)
    (hb : ∀ (cdv : Value), fd.code = cdv → ∀ (A : Around) (outer : List Env) (s : Shared) (H : Hp) (vs : List V) (Q : VK) (E : XK), Room k (A.deeper (envOfC qual (defScope st) s.heap.objs.size f cdv)) → sp vs H Q E →
      ∃ t, PSs (cxOf (L2.CX P w) P w K mg base N qual (defScope st) f cdv A outer s H E) (defBody st) t ∧ t { nx := fun _ H' => Q .non H', rt := Q } (L2.start N vs) H) : FnOk P w K mg base (L2.CX P w) (k + 1) f fd ps sp := by
  obtain ⟨oc, od, kV, doc, pm, an, cdv, ct, osl, rfl, lk, hcd⟩ := F.ex
  exact fn_of lk hcd S len fun A outer s H vs Q E hr q => hb cdv rfl A outer s H vs Q E hr q
/-- of which defs lambdas are made, which get one -/
def lxOf (l : List (Str × Lx)) (x : Str) : Lx := (l.lookup x).getD Lx.no
/-- the __init__ of an exception class: its base's, then its fields -/
def initB (fl ps : List Str) (sc : Scope) (b : List Stmt) : Bool := match fl, ps, b with
  | [f], [s, p], [.Expr (.Call (.Attribute (.Name x _) m ap) [.Name s1 _, .Constant (.str _) _ _] [] cp) _, .Assign [.Attribute (.Name s2 _) f1 _] (.Name p1 _) _] =>
    (x == ("HurryError" : Str)) && (m == ("__init__" : Str)) && (ap.endLine == cp.line) && glbB sc x && (s1 == s) && (s2 == s) && (f1 == f) && (p1 == p) && visB sc s && visB sc p && dbgB s && dbgB p
  | [f, g], [s, p, q], [.Expr (.Call (.Attribute (.Name x _) m ap) [.Name s1 _, .Constant (.str _) _ _] [] cp) _, .Assign [.Attribute (.Name s2 _) f1 _] (.Name p1 _) _, .Assign [.Attribute (.Name s3 _) g1 _] (.Name q1 _) _] =>
    (x == ("HurryError" : Str)) && (m == ("__init__" : Str)) && (ap.endLine == cp.line) && glbB sc x && (s1 == s) && (s2 == s) && (s3 == s) && (f1 == f) && (g1 == g) && (p1 == p) && (q1 == q) && visB sc s && visB sc p && visB sc q && dbgB s && dbgB p && dbgB q
  | _, _, _ => false
/-- an exception class with an __init__ of its own, as the text tells it -/
structure IniT (K : PySem.W.Frag) (mg : Str → Option Value) (C : Addr) (fl : List Str) : Prop where
  oex : OexC K C
  no : ∀ f ∈ fl, PySem.W.findIn K (.ref C) f = some none
  ini : ∃ (fI : Addr) (st : Stmt) (ps : List Str) (fd : FuncData) (qual nm : Str), Fun K nm qual st fI fd ∧ PySem.W.findIn K (.ref C) "__init__" = some (some (.ref fI)) ∧ PySem.W.typeIn K (.ref fI) = some (.type "function") ∧ Binds K fd ps [] ∧ FnScope ps ps (defScope st) ∧ initB fl ps (defScope st) (defBody st) = true
  base : ∃ A : Addr, mg "HurryError" = some (.ref A) ∧ ClRd K A (.type "type") ∧ PySem.W.findCls K (.ref A) (.type "type") "__init__" = some (.val (.builtin "ValueError.__init__"))
theorem ini_ok {P : Program} {w : World} {K : PySem.W.Frag} {mg : Str → Option Value} {base : Heap} {C : Addr} {fl : List Str} (T : IniT K mg C fl) : ∃ (fI : Addr) (fd : FuncData) (ps : List Str), PySem.W.findIn K (.ref C) "__init__" = some (some (.ref fI)) ∧ PySem.W.typeIn K (.ref fI) = some (.type "function") ∧ Binds K fd ps [] ∧
    ∀ n, FnOk P w K mg base (L2.CX P w) (n + 1) fI fd ps (spInit C fl) := by
  obtain ⟨fI, st, ps, fd, qual, nm, F, h1, h2, h3, S, h4⟩ := T.ini
  obtain ⟨A, a1, a2, a3⟩ := T.base
  refine ⟨fI, fd, ps, h1, h2, h3, fun n => fun_okC F S (fun vs H Q E q => ?_) fun cdv _ A' outer s H vs Q E hr q => ?_⟩
  · obtain ⟨a, ws, rfl, hl, _⟩ := q
    unfold initB at h4
    split at h4
    · simp at hl; simp [hl]
    · simp at hl; simp [hl]
    · cases h4
  · obtain ⟨a, ws, rfl, hl, ea, q⟩ := q
    generalize hXX : cxOf (L2.CX P w) P w K mg base ps qual (defScope st) fI cdv A' outer s H E = X
    have e1 : X.N = ps := by rw [← hXX]; rfl
    have e2 : X.K = K := by rw [← hXX]; rfl
    have e3 : X.mg = mg := by rw [← hXX]; rfl
    have e4 : X.env.scope = defScope st := by rw [← hXX]; rfl
    have hgl : ∀ {x : Str}, (x == ("HurryError" : Str)) = true → glbB (defScope st) x = true → Gl X x ∧ X.mg x = some (.ref A) ∧ (x == ("__debug__" : Str)) = false := fun {x} z1 z2 => by
      have z3 : x = ("HurryError" : Str) := by simpa using z1
      refine ⟨?_, by rw [z3, e3]; exact a1, by rw [z3]; decide⟩
      have q := glbB_ok z2
      rw [← e4] at q
      exact q
    have hvr : ∀ {i : Nat} {x : Str} {p : Pos}, ps[i]? = some x → visB (defScope st) x = true → dbgB x = true → PE X (.Name x p) (tVar i) := fun {i x p} z1 z2 z3 => by
      obtain ⟨d1, d2, _⟩ := dbgB_ok z3
      exact pe_var (by rw [e1]; exact z1) (by rw [e4]; exact visB_ok z2) d1 d2
    have a2' : ClRd X.K A (.type "type") := by rw [e2]; exact a2
    have a3' : PySem.W.findCls X.K (.ref A) (.type "type") "__init__" = some (.val (.builtin "ValueError.__init__")) := by rw [e2]; exact a3
    clear hXX
    unfold initB at h4
    split at h4
    · rename_i f s0 p x p1 m p2 s1 p3 z zj p4 p5 p6 s2 p8 f1 p9 q1 p10 p11 heq
      rw [heq]
      simp only [Bool.and_eq_true, beq_iff_eq] at h4
      obtain ⟨⟨⟨⟨⟨⟨⟨⟨⟨⟨⟨k1, k2⟩, kl⟩, k3⟩, k4⟩, k5⟩, k6⟩, k7⟩, k8⟩, k9⟩, k10⟩, k11⟩ := h4
      subst k2 k4 k5 k6 k7
      obtain ⟨g1, g2, g3⟩ := hgl (by simpa using k1) k3
      have v0 : ∀ p, PE X (.Name s2 p) (tVar 0) := fun p => hvr rfl k8 k10
      have v1 : ∀ p, PE X (.Name q1 p) (tVar 1) := fun p => hvr rfl k9 k11
      match ws, hl with
      | [y], _ =>
        refine ⟨_, pss_cons (ps_expr (pe_cinit g1 g2 a2' a3' (pa_cons (v0 _) (pa_cons pe_str pa_nil)) g3 (by simpa using kl) rfl rfl rfl)) (pss_one (ps_ost (v0 _) (v1 _) rfl)), ?_⟩
        refine ⟨.ref a, rfl, a, C, [.str z], rfl, by simp, by rw [e2]; exact T.oex, ea, ?_⟩
        refine ⟨y, rfl, .ref a, rfl, a, C, rfl, by rw [e2]; exact T.oex, by rw [e2]; exact T.no _ (by simp), .inl ⟨ea, fun dx hd ne => ?_⟩⟩
        exact q dx _ hd ne upd_same (by rw [upd_ne ne, upd_same]; rfl) fun b b1 b2 => by rw [upd_ne b1, upd_ne b2]
    · rename_i f g s0 p qq x p1 m p2 s1 p3 z zj p4 p5 p6 s2 p8 f1 p9 q1 p10 p11 s3 p12 g1' p13 q2 p14 p15 heq
      rw [heq]
      simp only [Bool.and_eq_true, beq_iff_eq] at h4
      obtain ⟨⟨⟨⟨⟨⟨⟨⟨⟨⟨⟨⟨⟨⟨⟨⟨k1, k2⟩, kl⟩, k3⟩, k4⟩, k5⟩, k5'⟩, k6⟩, k6'⟩, k7⟩, k7'⟩, k8⟩, k9⟩, k9'⟩, k10⟩, k11⟩, k11'⟩ := h4
      subst k2 k4 k5 k5' k6 k6' k7 k7'
      obtain ⟨g1, g2, g3⟩ := hgl (by simpa using k1) k3
      have v0 : ∀ p, PE X (.Name s3 p) (tVar 0) := fun p => hvr rfl k8 k10
      have v1 : ∀ p, PE X (.Name q1 p) (tVar 1) := fun p => hvr rfl k9 k11
      have v2 : ∀ p, PE X (.Name q2 p) (tVar 2) := fun p => hvr rfl k9' k11'
      match ws, hl with
      | [y, y2], _ =>
        refine ⟨_, pss_cons (ps_expr (pe_cinit g1 g2 a2' a3' (pa_cons (v0 _) (pa_cons pe_str pa_nil)) g3 (by simpa using kl) rfl rfl rfl)) (pss_cons (ps_ost (v0 _) (v1 _) rfl) (pss_one (ps_ost (v0 _) (v2 _) rfl))), ?_⟩
        refine ⟨.ref a, rfl, a, C, [.str z], rfl, by simp, by rw [e2]; exact T.oex, ea, ?_⟩
        refine ⟨y, rfl, .ref a, rfl, a, C, rfl, by rw [e2]; exact T.oex, by rw [e2]; exact T.no _ (by simp), .inl ⟨ea, fun dx hd ne => ?_⟩⟩
        refine ⟨y2, rfl, .ref a, rfl, a, C, rfl, by rw [e2]; exact T.oex, by rw [e2]; exact T.no _ (by simp), .inr ⟨dx, [(f1, y)], upd_same, by rw [upd_ne ne, upd_same], by simp, ?_⟩⟩
        exact q dx _ hd ne (by rw [upd_ne (Ne.symm ne), upd_same]) (by rw [upd_same]; rfl) fun b b1 b2 => by rw [upd_ne b2, upd_ne b1, upd_ne b2]
    · cases h4
/-- of a def: what of it is told of lambdas -/
def LxF0 (ca : CA) (G : Tab) (lxs : List (Str × Lx)) (x : Str) (st : Stmt) (N ps : List Str) (fd : FuncData) : Prop := (lxOf lxs x).act ≠ 2 ∧
    ((lxOf lxs x).act = 1 → ∃ a, ps = [a] ∧ N[0]? = some a ∧ Vis (defScope st) a ∧ (a == ("__debug__" : Str)) = false ∧ (a == ("__classdict__" : Str)) = false) ∧
    ((lxOf lxs x).mkl = true → ∃ cA P, fd.code = .ref cA ∧ (cA, P) ∈ ca.cs ∧ (P, (x ++ ".<locals>.") ++ "<lambda>") ∈ ca.T ∧ (∀ p ∈ ca.T, p.1 = P → p.2 = (x ++ ".<locals>.") ++ "<lambda>") ∧
      (∀ j cs b, (lxOf lxs x).lams.lookup j = some (cs, b) → G j = some ⟨cs.length, cs.length, .cons (.lamB cs N.length b) .nil⟩) ∧ ∀ y, (lxOf lxs x).rcv.contains y = true → lxOf lxs y = ⟨1, false, [], []⟩)
def LxF (ca : CA) (G : Tab) (lxs : List (Str × Lx)) (x : Str) (st : Stmt) (N ps : List Str) (fd : FuncData) : Prop := (lxOf lxs x).act ≠ 4 ∧ LxF0 ca G lxs x st N ps fd
/-- what the top leaves of the defs, constants and built-in names -/
structure Top (w : World) (K : PySem.W.Frag) (mg : Str → Option Value) (ca : CA) (G : Tab) (fns : List (Str × Nat × Nat)) (cons : List (Str × D)) (blt : List Str) (cls : List (Str × Nat × Bool)) (lxs : List (Str × Lx)) : Prop where
  hclf : ∀ y j b, cls.lookup y = some (j, b) → ClF K mg (ca j) y
  hknf : ∀ k, k ∈ knOf cls → KnF K ca cls k
  hini : ∀ k, k ∈ knOf cls → noFld k = false → IniT K mg (ca k) (fldsOf k)
  hcons : ∀ x d, cons.lookup x = some d → ∃ u v, mg x = some u ∧ RelV v u ∧ (∀ th H, RV K ca th H d v) ∧ KdF K w d v
  hblt : ∀ x, blt.contains x = true → mg x = none
  hfns : ∀ x f n, fns.lookup x = some (f, n) → ∃ (st : Stmt) (N ps : List Str) (fn : Fn) (fA : Addr) (fd : FuncData), Fun K x x st fA fd ∧ mg x = some (.ref fA) ∧ Binds K fd ps [] ∧ ps.length = n ∧ FnScope N ps (defScope st) ∧
    G f = some fn ∧ fn.ar = n ∧ fn.n = N.length ∧ okSs fn.body ⟨N, defScope st, fun _ => true, false, fns, cons, blt, cls, lxOf lxs x⟩ (defBody st) = true ∧ LxF ca G lxs x st N ps fd
section
variable {P : Program} {w : World} {K : PySem.W.Frag} {mg : Str → Option Value} {base : Heap} {ca : CA} {G : Tab} {fns : List (Str × Nat × Nat)} {cons : List (Str × D)} {blt : List Str} {cls : List (Str × Nat × Bool)} {lxs : List (Str × Lx)}
theorem RVs.start {th : List Addr} {H : Hp} {S : Sto} {hd : Hd} {ds : List D} {vs : List V} {N : List Str} (R : Rep K ca th H S) (r : RVs K ca th H ds vs) : Sim K ca hd th H S (ds.map some ++ List.replicate (N.length - ds.length) none) (L2.start N vs) := by
  have hl := r.length
  refine ⟨R, ?_, fun i d h => ?_⟩
  · unfold L2.start
    simp [hl]
  · have hi : i < ds.length := by
      by_cases hi : i < ds.length
      · exact hi
      · rw [List.getElem?_append_right (by simpa using hi), List.getElem?_replicate] at h
        split at h <;> cases h
    rw [List.getElem?_append_left (by simpa using hi), List.getElem?_map] at h
    obtain ⟨d', h1, h2⟩ := map_some h
    cases h2
    obtain ⟨v, h3, h4⟩ := r.get h1
    refine ⟨v, ?_, .inl h4⟩
    unfold L2.start
    rw [List.getElem?_append_left (by simp; omega), List.getElem?_map, h3]
    rfl
/-- the defs at a level of calls -/
def AllOk (P : Program) (w : World) (K : PySem.W.Frag) (mg : Str → Option Value) (base : Heap) (ca : CA) (G : Tab) (fns : List (Str × Nat × Nat)) (k m : Nat) : Prop :=
  ∀ (x : Str) (f n : Nat), fns.lookup x = some (f, n) → ∃ (fA : Addr) (fd : FuncData) (ps : List Str), mg x = some (.ref fA) ∧ PySem.W.keepIn K (.ref fA) = true ∧ Binds K fd ps [] ∧ ps.length = n ∧
    FnOk P w K mg base (L2.CX P w) m fA fd ps (spOf K ca (callN G k) f n)
theorem fn_bad (T : Top w K mg ca G fns cons blt cls lxs) (m : Nat) : AllOk P w K mg base ca G fns 0 m := fun x f n h => by
  obtain ⟨st, N, ps, fn, fA, fd, F, hm, hb, hl, _⟩ := T.hfns x f n h
  refine ⟨fA, fd, ps, hm, F.kp, hb, hl, ⟨fun vs H Q E q => ?_, fun A outer s H args us vs Q E hr e0 hbt hv q => ?_⟩⟩
  · obtain ⟨th, S, ds, R, rv, hn, q⟩ := q
    rw [← rv.length, hn, hl]
  · obtain ⟨th, S, ds, R, rv, hn, q⟩ := q
    exact q.elim
/-- a context of a def's body -/
theorem xc_base (T : Top w K mg ca G fns cons blt cls lxs) {X : Cx} {N : List Str} {sc : Scope} {fB : Str → Bool} {lx : Lx} {c : Call} {W : WX} {hl : Option Lm} {m : Nat} (e1 : X.N = N) (e2 : X.K = K) (e3 : X.mg = mg) (eW : X.w = w) (eP : X.prog = P) (eB : X.base = base) (e4 : X.env.scope = sc) (nd : N.Nodup) (cl : X.calm = true) (hf : ∀ x, fB x = true → X.fn x = true)
    (rm : Room m X.A) (hm : 2 ≤ m) (IH : ∀ (x : Str) (f n : Nat), fns.lookup x = some (f, n) → ∃ (fA : Addr) (fd : FuncData) (ps : List Str), mg x = some (.ref fA) ∧ PySem.W.keepIn K (.ref fA) = true ∧ Binds K fd ps [] ∧ ps.length = n ∧ FnOk P w K mg base (L2.CX P w) m fA fd ps (spOf K ca c f n)) (tk : Takes X W)
    (a1 : lx.act = 1 → ∀ m, hl = some m → ∀ a, N[0]? = some a → ∀ pn xe W', Takes (X.tr pn xe) W' → ActP (X.tr pn xe) c ca W' m a) (a2 : lx.act ≠ 2) (a3 : lx.mkl = true → LamF X ⟨N, sc, fB, false, fns, cons, blt, cls, lx⟩ c ca ⟨none, hl⟩) (a4 : lx.act = 3 → X.stack = X.env :: X.outer ∧ X.env.frame = some X.env.locals := by intro e; cases e) (a5 : lx.act = 4 → X.A.guards = some [] := by intro e; cases e) :
    XC X ⟨N, sc, fB, false, fns, cons, blt, cls, lx⟩ c ca W ⟨none, hl⟩ where
  hN := e1
  nd := by rw [e1]; exact nd
  sc := e4
  calm := fun _ => cl
  fn := hf
  fns := fun _ y g n hg => by
    obtain ⟨gA, gd, qs, q1, q2, q3, q4, q5⟩ := IH y g n hg
    refine ⟨m, gA, gd, qs, rm, by rw [e3]; exact q1, by rw [e2]; exact q2, by rw [e2]; exact q3, q4, ?_⟩
    rw [e2, e3, eW, eP, eB]
    exact q5
  cons := fun y d hy => by
    obtain ⟨u, v, q1, q2, q3, q4⟩ := T.hcons y d hy
    exact ⟨u, v, by rw [e3]; exact q1, q2, by rw [e2]; exact q3, by rw [e2, eW]; exact q4⟩
  blt := fun y hy => by rw [e3]; exact T.hblt y hy
  takes := tk
  un := by have := rm.un; omega
  cold := fun _ => rfl
  hotI := fun a D dd e => by cases e
  hotF := fun a D dd e => by cases e
  act1 := a1
  act2 := fun e => absurd e a2
  lam := a3
  stk := a4
  gd := a5
  ini := fun _ k hk hn => by
    have I := T.hini k hk hn
    obtain ⟨fI, fd, ps, h1, h2, h3, h4⟩ := ini_ok (P := P) (w := w) (base := base) I
    refine ⟨by rw [e2]; exact I.oex, m - 1, fI, fd, ps, by rw [e2]; exact h1, by rw [e2]; exact h2, rm.mono (by omega), by rw [e2]; exact h3, ?_⟩
    rw [e2, e3, eW, eP, eB]
    have := h4 (m - 2)
    rwa [show m - 2 + 1 = m - 1 by omega] at this
  clf := fun y j b hy => by rw [e2, e3]; exact T.hclf y j b hy
  knf := fun k hk => by rw [e2]; exact T.hknf k hk
/-- a def that gets a lambda -/
theorem recv_ok (T : Top w K mg ca G fns cons blt cls lxs) {X : Cx} (e2 : X.K = K) (e3 : X.mg = mg) (eW : X.w = w) (eP : X.prog = P) (eB : X.base = base) {k : Nat} (IH : ∀ j, j < k → AllOk P w K mg base ca G fns j (j + 4)) {x : Str} {f : Nat} (hx : fns.lookup x = some (f, 1)) (hl : lxOf lxs x = ⟨1, false, [], []⟩) :
    RecvF X ca (callN G k) (callN G (k - 1)) (k + 2) x f := by
  obtain ⟨st, N, ps, fn, fA, fd, F, hm, hb, hps, hS, hG, h1, h2, h3, _, _, h4, _⟩ := T.hfns x f 1 hx
  rw [hl] at h3 h4
  obtain ⟨a, rfl, n0, hv, d1, d2⟩ := h4 rfl
  obtain ⟨oc, od, kV, doc, pm, an, cdv, ct, osl, rfl, lk, hcd⟩ := F.ex
  refine ⟨fA, _, _, _, _, _, _, _, _, _, _, _, _, _, N, a, by rw [e3]; exact hm, by rw [e2]; exact F.kp, by rw [e2]; exact lk, by rw [e2]; exact hcd, by rw [e2]; exact hb, hS, n0, hv, d1, d2, ?_⟩
  intro f' c' s H Q tl rm act hc tt
  obtain ⟨th, S, j, ds, R, htl, q⟩ := tt
  cases k with
  | zero => exact q.elim
  | succ k =>
    have ec : callN G (k + 1) f [.lam j ds] S = runF (callN G k) fn [.lam j ds] S := by
      show (match G f with | some fn => runF (callN G k) fn [.lam j ds] S | none => .bad) = _
      rw [hG]
    rw [ec] at q
    have htl' : ∀ th' H' S' E Q', Go th H th' H' → Rep X.K ca th' H' S' → Po X.K ca th' H' (RV X.K ca) E Q' (callN G k j ds S') → tl E H' Q' := htl
    generalize hXX : cxOf C8.CX0 X.prog X.w X.K X.mg X.base N x (defScope st) fA cdv X.A X.stack s H C8.E0 = Z at act ⊢
    have z1 : Z.N = N := by rw [← hXX]; rfl
    have z2 : Z.K = K := by rw [← hXX]; exact e2
    have z3 : Z.mg = mg := by rw [← hXX]; exact e3
    have zW : Z.w = w := by rw [← hXX]; exact eW
    have zP : Z.prog = P := by rw [← hXX]; exact eP
    have zB : Z.base = base := by rw [← hXX]; exact eB
    have z4 : Z.env.scope = defScope st := by rw [← hXX]; rfl
    have zr : Room (k + 4) Z.A := by rw [← hXX]; exact rm
    let m : Lm := { P := fun th1 H1 j1 ds1 f1 => f1 = f' ∧ H1 c' = some (LamX.CodeO c' (X.env.qual ++ "<lambda>")) ∧ ∀ th' H' S' E Q', Go th1 H1 th' H' → Rep X.K ca th' H' S' → Po X.K ca th' H' (RV X.K ca) E Q' (callN G k j1 ds1 S') → tl E H' Q'
                    go := fun g h => ⟨h.1, g.frm _ _ h.2.1 rfl, fun th' H' S' E Q' g' => h.2.2 th' H' S' E Q' (g.trans g')⟩ }
    have xc : XC Z ⟨N, defScope st, fun _ => true, false, fns, cons, blt, cls, ⟨1, false, [], []⟩⟩ (callN G k) ca (fun _ _ _ _ => False) ⟨none, some m⟩ :=
      xc_base T (P := P) (base := base) z1 z2 z3 zW zP zB z4 hS.nd (by rw [← hXX]; rfl) (fun _ _ => by rw [← hXX]; rfl) zr (by omega) (IH k (by omega)) (by rw [← hXX]; exact LamX.takes0)
        (fun _ m' em a' ha' pn xe W' tk p1 p2 => by
          cases em
          have ea : a' = a := by rw [n0] at ha'; exact (Option.some.inj ha').symm
          subst ea
          refine PE.imp (act W' pn xe p1 p2 tk) fun z H1 Q1 q1 => ?_
          obtain ⟨th1, S1, j1, ds1, f1, R1, y1, ⟨y2, y3, y4⟩, y5⟩ := q1
          subst y2
          have ek : (Z.tr pn xe).K = X.K := by rw [← hXX]; rfl
          rw [ek] at R1 y5
          exact ⟨y1, y3, y4 th1 H1 S1 _ _ (Go.refl _ _) R1 y5⟩)
        (by simp) (fun e => by cases e)
    have xs : XS Z ⟨N, defScope st, fun _ => true, false, fns, cons, blt, cls, ⟨1, false, [], []⟩⟩ (callN G k) ca (fun _ _ _ _ => False) ⟨none, some m⟩ :=
      ⟨xc, fun _ => by rw [← hXX]; exact passes_of rfl, by rw [z4]; exact hS.kind, by rw [← hXX]; rfl, by rw [← hXX]; rfl⟩
    refine ⟨_, soundSs fn.body (hd := ⟨none, some m⟩) xs h3, ?_⟩
    have ek : Z.K = X.K := by rw [← hXX]; rfl
    rw [ek]
    unfold runF at q
    rw [if_pos (by rw [h1]; rfl)] at q
    refine ⟨th, S, [some (.lam j ds)] ++ List.replicate (fn.n - fn.ar) none, ⟨R, ?_, fun i d h => ?_⟩, ?_⟩
    · rw [h2, h1]
      unfold L2.start
      have : 0 < N.length := by
        have := (List.getElem?_eq_some_iff.mp n0).1
        exact this
      simp
    · cases i with
      | zero =>
        have e : D.lam j ds = d := by simpa using h
        subst e
        refine ⟨.ref f', ?_, .inr (.inr ⟨j, ds, f', m, rfl, rfl, rfl, rfl, hc, htl'⟩)⟩
        unfold L2.start
        simp
      | succ i =>
        simp [List.getElem?_replicate] at h
    · show PoS X.K ca ⟨none, some m⟩ th H _ _ (evSs (callN G k) fn.body (([D.lam j ds].map some) ++ List.replicate (fn.n - fn.ar) none) S)
      cases ev : evSs (callN G k) fn.body (([D.lam j ds].map some) ++ List.replicate (fn.n - fn.ar) none) S with
      | nx r1 S1 =>
        rw [ev] at q
        exact fun th1 sg1 H1 g1 m1 => q th1 H1 _ g1 m1.rep .non
      | rt d S1 =>
        rw [ev] at q
        exact fun th1 H1 v g1 R1 rv1 => q th1 H1 v g1 R1 rv1
      | ex y r1 S1 =>
        rw [ev] at q
        exact fun th1 sg1 H1 cls dd g1 m1 rx => q th1 H1 cls dd g1 m1.rep rx
      | bk r1 S1 => rw [ev] at q; exact q.elim
      | ct r1 S1 => rw [ev] at q; exact q.elim
      | bad => rw [ev] at q; exact q.elim
theorem def_body (T : Top w K mg ca G fns cons blt cls lxs) (TB : ∀ p ∈ ca.cs, LamX.TabB base mg p.1 p.2) {k : Nat} (IH : ∀ j, j ≤ k → AllOk P w K mg base ca G fns j (j + 4)) {x : Str} {f n : Nat} {st : Stmt} {N ps : List Str} {fn : Fn} {fA : Addr} {fd : FuncData} (hS : FnScope N ps (defScope st))
    (hG : G f = some fn) (h1 : fn.ar = n) (h2 : fn.n = N.length) (h3 : okSs fn.body ⟨N, defScope st, fun _ => true, false, fns, cons, blt, cls, lxOf lxs x⟩ (defBody st) = true) (hlx : LxF0 ca G lxs x st N ps fd)
    (cdv : Value) (hcd : fd.code = cdv) (A : Around) (outer : List Env) (s : Shared) (H : Hp) (vs : List V) (Q : VK) (E : XK) (hr : Room (k + 4) (A.deeper (envOfC x (defScope st) s.heap.objs.size fA cdv))) (gd : (lxOf lxs x).act = 4 → A.guards = some []) (q : spOf K ca (callN G (k + 1)) f n vs H Q E) :
    ∃ t, PSs (cxOf (L2.CX P w) P w K mg base N x (defScope st) fA cdv A outer s H E) (defBody st) t ∧ t { nx := fun _ H' => Q .non H', rt := Q } (L2.start N vs) H := by
  obtain ⟨ha1, ha2, hmk⟩ := hlx
  generalize hXX : cxOf (L2.CX P w) P w K mg base N x (defScope st) fA cdv A outer s H E = X
  have e1 : X.N = N := by rw [← hXX]; rfl
  have e2 : X.K = K := by rw [← hXX]; rfl
  have e3 : X.mg = mg := by rw [← hXX]; rfl
  have eW : X.w = w := by rw [← hXX]; rfl
  have eP : X.prog = P := by rw [← hXX]; rfl
  have eB : X.base = base := by rw [← hXX]; rfl
  have e4 : X.env.scope = defScope st := by rw [← hXX]; rfl
  have eC : X.env.code = cdv := by rw [← hXX]; rfl
  have eQ : X.env.qual = x ++ ".<locals>." := by rw [← hXX]; rfl
  have tk : Takes X (fun cls dd _ H' => E cls dd H') := by
    rw [← hXX]
    exact takes_of rfl rfl rfl rfl
  have rm : Room (k + 4) X.A := by rw [← hXX]; exact hr
  have hlam : (lxOf lxs x).mkl = true → LamF X ⟨N, defScope st, fun _ => true, false, fns, cons, blt, cls, lxOf lxs x⟩ (callN G k) ca ⟨none, none⟩ := fun hmk1 => by
    obtain ⟨cA, Pt, g1, g2, g3, g4, g5, g6⟩ := hmk hmk1
    refine ⟨rfl, callN G (k - 1), callN G (k - 2), k + 2, cA, Pt, rm, by rw [eB, e3]; exact TB _ g2, by rw [eC, ← hcd]; exact g1, by rw [eQ]; exact g3, fun p hp e => by rw [eQ]; exact g4 p hp e, ?_, ?_, ?_⟩
    · intro j cs b hj ds S hlen
      match k, IH with
      | 0, _ => exact .inl rfl
      | 1, _ => exact .inl rfl
      | k + 2, _ =>
        refine .inr ?_
        show (match G j with | some fn => runF (callN G k) fn ds S | none => .bad) = evE (callN G k) b _ S
        rw [g5 j cs b hj]
        show runF (callN G k) _ ds S = _
        unfold runF
        rw [if_pos hlen]
        simp only [Nat.sub_self, List.replicate_zero, List.append_nil, evSs, evS]
        cases evE (callN G k) b (plcD N.length cs (ds.map some)) S <;> rfl
    · intro y g hy hg
      exact recv_ok T e2 e3 eW eP eB (fun j hj => IH j (by omega)) hg (g6 y hy)
    · intro j cs b hj scope lb hsc hok A1 outer1 s1 H1 E1 f1 c1 rm1
      generalize hYY : LamX.lamCx X A1 outer1 s1 H1 E1 scope f1 c1 = Y
      have y1 : Y.N = N := by rw [← hYY]; exact e1
      have y2 : Y.K = K := by rw [← hYY]; exact e2
      have y3 : Y.mg = mg := by rw [← hYY]; exact e3
      have yW : Y.w = w := by rw [← hYY]; exact eW
      have yP : Y.prog = P := by rw [← hYY]; exact eP
      have yB : Y.base = base := by rw [← hYY]; exact eB
      have yk : Y.K = X.K := by rw [← hYY]; rfl
      have y4 : Y.env.scope = scope := by rw [← hYY]; rfl
      have yr : Room (k + 2) Y.A := by rw [← hYY]; exact rm1
      have ytk : Takes Y (fun cls d _ H' => E1 cls d H') := by rw [← hYY]; exact lam_takes
      have IH2 : AllOk P w K mg base ca G fns (k - 2) (k + 2) := by
        by_cases h : 2 ≤ k
        · have q := IH (k - 2) (by omega)
          rwa [show k - 2 + 4 = k + 2 by omega] at q
        · rw [show k - 2 = 0 by omega]
          exact fn_bad T _
      have xl : XC Y (lamCc ⟨N, defScope st, fun _ => true, false, fns, cons, blt, cls, lxOf lxs x⟩ scope) (callN G (k - 2)) ca (fun cls d _ H' => E1 cls d H') ⟨none, none⟩ :=
        xc_base T (P := P) (base := base) y1 y2 y3 yW yP yB y4 hS.nd (by rw [← hYY]; rfl) (fun _ e => by cases e) yr (by omega) IH2 ytk (fun e => by cases e) (by simp) (fun e => by cases e)
      rw [← yk]
      exact soundE b (hd := ⟨none, none⟩) xl hok
  have xc : XC X ⟨N, defScope st, fun _ => true, false, fns, cons, blt, cls, lxOf lxs x⟩ (callN G k) ca (fun cls dd _ H' => E cls dd H') ⟨none, none⟩ :=
    xc_base T (P := P) (base := base) e1 e2 e3 eW eP eB e4 hS.nd (by rw [← hXX]; rfl) (fun _ _ => by rw [← hXX]; rfl) rm (by omega) (IH k (Nat.le_refl _)) tk (fun _ m em => by cases em) ha1 hlam (fun _ => ⟨by rw [← hXX]; rfl, by rw [← hXX]; rfl⟩) (fun e => by rw [← hXX]; exact gd e)
  have xs : XS X ⟨N, defScope st, fun _ => true, false, fns, cons, blt, cls, lxOf lxs x⟩ (callN G k) ca (fun cls dd _ H' => E cls dd H') ⟨none, none⟩ :=
    ⟨xc, fun _ => by rw [← hXX]; exact passes_of rfl, by rw [e4]; exact hS.kind, by rw [← hXX]; rfl, by rw [← hXX]; rfl⟩
  refine ⟨_, soundSs fn.body (hd := ⟨none, none⟩) xs h3, ?_⟩
  obtain ⟨th, S, ds, R, rv, hn, q⟩ := q
  have q' : Po K ca th H (RV K ca) (fun cls dd H' => E cls dd H') Q (runF (callN G k) fn ds S) := by
    have e : callN G (k + 1) f ds S = runF (callN G k) fn ds S := by
      show (match G f with | some fn => runF (callN G k) fn ds S | none => .bad) = _
      rw [hG]
    rw [← e]
    exact q
  unfold runF at q'
  rw [if_pos (hn.trans h1.symm)] at q'
  rw [e2]
  refine ⟨th, S, _, RVs.start R rv, ?_⟩
  rw [h2] at q'
  rw [h1, ← hn] at q'
  cases ev : evSs (callN G k) fn.body (ds.map some ++ List.replicate (N.length - ds.length) none) S with
  | nx r1 S1 =>
    rw [ev] at q'
    exact fun th1 sg1 H1 g1 m1 => q' th1 H1 _ g1 m1.rep .non
  | rt d S1 =>
    rw [ev] at q'
    exact fun th1 H1 v g1 R1 rv1 => q' th1 H1 v g1 R1 rv1
  | ex y r1 S1 =>
    rw [ev] at q'
    exact fun th1 sg1 H1 cls dd g1 m1 rx => q' th1 H1 cls dd g1 m1.rep rx
  | bk r1 S1 => rw [ev] at q'; exact q'.elim
  | ct r1 S1 => rw [ev] at q'; exact q'.elim
  | bad => rw [ev] at q'; exact q'.elim
theorem fn_def (T : Top w K mg ca G fns cons blt cls lxs) (TB : ∀ p ∈ ca.cs, LamX.TabB base mg p.1 p.2) {k : Nat} (IH : ∀ j, j ≤ k → AllOk P w K mg base ca G fns j (j + 4)) {x : Str} {f n : Nat} {st : Stmt} {N ps : List Str} {fn : Fn} {fA : Addr} {fd : FuncData} (F : Fun K x x st fA fd) (hl : ps.length = n) (hS : FnScope N ps (defScope st))
    (hG : G f = some fn) (h1 : fn.ar = n) (h2 : fn.n = N.length) (h3 : okSs fn.body ⟨N, defScope st, fun _ => true, false, fns, cons, blt, cls, lxOf lxs x⟩ (defBody st) = true) (hlx : LxF ca G lxs x st N ps fd) :
    FnOk P w K mg base (L2.CX P w) (k + 1 + 4) fA fd ps (spOf K ca (callN G (k + 1)) f n) := by
  refine fun_okC F hS (fun vs H Q E q => ?_) fun cdv hcd A outer s H vs Q E hr q => def_body T TB IH hS hG h1 h2 h3 hlx.2 cdv hcd A outer s H vs Q E hr (fun e => absurd e hlx.1) q
  obtain ⟨th, S, ds, R, rv, hn, q⟩ := q
  rw [← rv.length, hn, hl]
theorem fn_one (T : Top w K mg ca G fns cons blt cls lxs) (TB : ∀ p ∈ ca.cs, LamX.TabB base mg p.1 p.2) {k : Nat} (IH : ∀ j, j ≤ k → AllOk P w K mg base ca G fns j (j + 4)) {x : Str} {f n : Nat} (hx : fns.lookup x = some (f, n)) :
    ∃ (fA : Addr) (fd : FuncData) (ps : List Str), mg x = some (.ref fA) ∧ PySem.W.keepIn K (.ref fA) = true ∧ Binds K fd ps [] ∧ ps.length = n ∧ FnOk P w K mg base (L2.CX P w) (k + 1 + 4) fA fd ps (spOf K ca (callN G (k + 1)) f n) := by
  obtain ⟨st, N, ps, fn, fA, fd, F, hm, hb, hl, hS, hG, h1, h2, h3, h4⟩ := T.hfns x f n hx
  exact ⟨fA, fd, ps, hm, F.kp, hb, hl, fn_def T TB IH F hl hS hG h1 h2 h3 h4⟩
theorem fn_ok (T : Top w K mg ca G fns cons blt cls lxs) (TB : ∀ p ∈ ca.cs, LamX.TabB base mg p.1 p.2) : ∀ (k j : Nat), j ≤ k → AllOk P w K mg base ca G fns j (j + 4)
  | 0, 0, _ => fn_bad T 4
  | k + 1, j, h => by
    by_cases e : j ≤ k
    · exact fn_ok T TB k j e
    · have e' : j = k + 1 := by omega
      subst e'
      exact fun x f n hx => fn_one T TB (fn_ok T TB k) hx
theorem rvs_ints {H : Hp} {th : List Addr} : ∀ ns : List Int, RVs K ca th H (ns.map D.int) (ns.map V.int)
  | [] => .nil
  | n :: ns => .cons (.int n) (rvs_ints ns)
theorem cx_false {P : Program} {w : World} {outer : List Env} {H : Hp} {s s' : Shared} {e : Value} (h : L2.CX P w outer H s (fun _ _ _ => False) e s') : False := by
  obtain ⟨_, _, _, _, _, _, _, _, _, _, _, _, z⟩ := h
  exact z
theorem lookup_mem {A : Type} : ∀ {l : List (Str × A)} {x : Str} {a : A}, l.lookup x = some a → (x, a) ∈ l
  | (y, b) :: l, x, a, h => by
    by_cases e : x = y
    · subst e
      simp [List.lookup] at h
      subst h
      simp
    · have e' : (x == y) = false := by simpa using e
      simp [List.lookup, e'] at h
      exact List.mem_cons_of_mem _ (lookup_mem h)
theorem rel_of {k : Nat} (h : ∀ p ∈ cls, PySem.W.subIn K (.ref (ca k)) (.ref (ca p.2.1)) = some (subC k p.2.1)) : ∀ y j b, cls.lookup y = some (j, b) → PySem.W.subIn K (.ref (ca k)) (.ref (ca j)) = some (subC k j) := fun y j b e => h _ (lookup_mem e)
theorem lxf_no {ca : CA} {G : Tab} {lxs : List (Str × Lx)} {x : Str} {st : Stmt} {N ps : List Str} {fd : FuncData} (h : lxOf lxs x = Lx.no) : LxF ca G lxs x st N ps fd := by
  unfold LxF
  rw [h]
  unfold LxF0
  rw [h]
  exact ⟨by decide, by decide, fun e => (by cases e), fun e => (by cases e)⟩
theorem top_of (h01 : ∀ p ∈ cls, ClF K mg (ca p.2.1) p.1) (h02 : ∀ k ∈ knOf cls, KnF K ca cls k) (h03 : ∀ k ∈ (knOf cls).filter (fun k => !noFld k), IniT K mg (ca k) (fldsOf k)) (h1 : ∀ p ∈ cons, ∃ u v, mg p.1 = some u ∧ RelV v u ∧ (∀ th H, RV K ca th H p.2 v) ∧ KdF K w p.2 v) (h2 : ∀ x ∈ blt, mg x = none)
    (h3 : ∀ p ∈ fns, ∃ (st : Stmt) (N ps : List Str) (fn : Fn) (fA : Addr) (fd : FuncData), Fun K p.1 p.1 st fA fd ∧ mg p.1 = some (.ref fA) ∧ Binds K fd ps [] ∧ ps.length = p.2.2 ∧ FnScope N ps (defScope st) ∧
      G p.2.1 = some fn ∧ fn.ar = p.2.2 ∧ fn.n = N.length ∧ okSs fn.body ⟨N, defScope st, fun _ => true, false, fns, cons, blt, cls, lxOf lxs p.1⟩ (defBody st) = true ∧ LxF ca G lxs p.1 st N ps fd) : Top w K mg ca G fns cons blt cls lxs where
  hclf := fun y j b h => h01 _ (lookup_mem h)
  hknf := fun k h => h02 k h
  hini := fun k h hn => h03 k (List.mem_filter.mpr ⟨h, by rw [hn]; rfl⟩)
  hcons := fun x d h => h1 _ (lookup_mem h)
  hblt := fun x h => h2 x (by simpa using h)
  hfns := fun x f n h => h3 _ (lookup_mem h)
end
end HP
namespace HP
open PySem L2 PySem.Spec PyProof.Rows
section
variable {P : Program} {w : World} {K : PySem.W.Frag} {mg : Str → Option Value} {base : Heap}
/-- a def run at one place of call -/
theorem fun_run {x qual : Str} {st : Stmt} {f : Addr} {fd : FuncData} {N ps : List Str} {k : Nat} {A : Around} {outer : List Env} {s : Shared} {H : Hp} {args : Args} {us : List Value} {vs : List V} {Q : VK} {E : XK} (F : Fun K x qual st f fd) (S : FnScope N ps (defScope st))
    (hr : Room (k + 1) A) (e0 : Env0 P w K mg base A outer s H) (hb : BindsTo s fd args (ps.zip us)) (r : Vals vs us) (hl : vs.length = ps.length)
    (body : ∀ cdv : Value, fd.code = cdv → Room k (A.deeper (envOfC qual (defScope st) s.heap.objs.size f cdv)) →
      ∃ t, PSs (cxOf (L2.CX P w) P w K mg base N qual (defScope st) f cdv A outer s H E) (defBody st) t ∧ t { nx := fun _ H' => Q .non H', rt := Q } (L2.start N vs) H) :
    codeAny (model P w) A (.call (.ref f) args) (CR (L2.CX P w) outer P w H s Q E) s := by
  obtain ⟨oc, od, kV, doc, pm, an, cdv, ct, osl, rfl, lk, hcd⟩ := F.ex
  have old : ∀ b o, base.get? b = some o → s.heap.get? b = some o := fun b o e => (e0.bs b o e).1
  have KX : K.In s.heap := e0.mod.kin.keeps old
  obtain ⟨t, ht, hq⟩ := body cdv rfl (hr.deeper _)
  have slots : ∀ y ∈ ps.zip us, (defScope st).names.lookup y.1 = some .local ∨ ((defScope st).names.lookup y.1 = some .cell ∧ ((cellsFrom (s.heap.objs.size + 1) (defScope st).names []).lookup y.1).isSome = true) := fun ⟨n, v⟩ hy =>
    (S.par n (List.of_mem_zip hy).1).imp id fun q => ⟨q, PySem.W.cellsFrom_some _ _ _ (.inl q)⟩
  refine codeAny_call_function hr.depth (KX _ _ lk) rfl S.co S.gen rfl (PySem.W.codeRec_of KX hcd) (hb _ _ _ _ (wpAny_newFunctionEnv_cells S.kind slots fun env he s1 z => ?_))
  subst he
  have I := inv_start (CX := L2.CX P w) (E := E) (f := f) (cd := cdv) (qual := qual) S hr.hd e0 hl r z
  refine ⟨(e0.mod.nolimit.keeps old).keeps z.toInCall.keep, codeAny_func (wpAny_mono (ht.run [] s1 (L2.start N vs) H _ I hq) (fun fl s' hs => ?_) fun e s' hs => hs)⟩
  cases fl with
  | ret u =>
    obtain ⟨v, σ', H', J, rv, q⟩ := hs
    exact ⟨v, H', J.os, J.bare, J.base, J.hok, rv, q⟩
  | next =>
    obtain ⟨σ', H', J, q⟩ := hs
    exact ⟨.non, H', J.os, J.bare, J.base, J.hok, rfl, q⟩
  | brk =>
    obtain ⟨_, _, _, q⟩ := hs
    exact False.elim q
  | cont =>
    obtain ⟨_, _, _, q⟩ := hs
    exact False.elim q
end
section
variable {P : Program} {w : World} {K : PySem.W.Frag} {mg : Str → Option Value} {base : Heap} {ca : CA} {G : Tab} {fns : List (Str × Nat × Nat)} {cons : List (Str × D)} {blt : List Str} {cls : List (Str × Nat × Bool)} {lxs : List (Str × Lx)}
theorem lxf_shw {x : Str} {st : Stmt} {N ps : List Str} {fd : FuncData} (h : lxOf lxs x = ⟨4, false, [], []⟩) : LxF0 ca G lxs x st N ps fd := by
  unfold LxF0
  rw [h]
  exact ⟨by decide, fun e => (by cases e), fun e => (by cases e)⟩
/-- a law that shows data, run by the head -/
theorem show_run (T : Top w K mg ca G fns cons blt cls lxs) (TB : ∀ p ∈ ca.cs, LamX.TabB base mg p.1 p.2) {k f n : Nat} {x y : Str} {st : Stmt} {N : List Str} {fn : Fn} {fA : Addr} {fd : FuncData} (F : Fun K x x st fA fd) (hS : FnScope N [y] (defScope st))
    (hG : G f = some fn) (h1 : fn.ar = 1) (h2 : fn.n = N.length) (h3 : okSs fn.body ⟨N, defScope st, fun _ => true, false, fns, cons, blt, cls, lxOf lxs x⟩ (defBody st) = true) (hlx : LxF0 ca G lxs x st N [y] fd)
    (lt : ∀ ns : List Int, ns.length ≤ n → ∃ S, callN G (k + 1) f [.frl (ns.map D.int)] [] = .ok (.bl true) S) {s : Shared} {H : Hp} {a : Addr} {ns : List Int} {args : Args} {us : List Value} (hr : Room (k + 4 + 1) callerA) (e0 : Env0 P w K mg base callerA [] s H)
    (hb : BindsTo s fd args ([y].zip us)) (hv : Vals [V.ref a] us) (hz : FzL K H a (ns.map V.int)) (hn : ns.length ≤ n) (tT : LamX.Tabs ca.T H) :
    codeAny (model P w) callerA (.call (.ref fA) args) (CR (L2.CX P w) [] P w H s (fun v _ => v = .bl true) fun _ _ _ => False) s := by
  refine fun_run (E := fun _ _ _ => False) F hS hr e0 hb hv rfl fun cdv hcd hr' => def_body (P := P) T TB (n := 1) (fn_ok T TB k) hS hG h1 h2 h3 hlx cdv hcd callerA [] s H [.ref a] (fun v _ => v = .bl true) (fun _ _ _ => False) hr' (fun _ => rfl) ?_
  obtain ⟨S, e⟩ := lt ns hn
  refine ⟨[], [], [.frl (ns.map D.int)], ⟨rfl, List.nodup_nil, fun l a o h1 _ => by simp at h1, tT⟩, .one (.frl hz (rvs_ints ns)), rfl, ?_⟩
  rw [e]
  exact fun th' H' v _ _ r => by rw [r.bl_inv]
end
/-- the head of such a law -/
theorem law_callG {P : Program} {w : World} {K : PySem.W.Frag} {mg mb : Str → Option Value} {fa a : Addr} {s₁ : Shared} {vs : List Value} {ns : List Int} (KX : K.In s₁.heap) (hns : s₁.heap.Ns mainGlobals mg) (hb : s₁.heap.Ns builtinsNs mb) (hbb : ∀ x : Str, x ≠ "__name__" → mb x = bootBuiltins x) (hlim : s₁.heap.NoLimit) (hg : s₁.gens = #[])
    (ha : s₁.heap.get? a = some { cls := .type "list", data := .seq vs.toArray }) (hi : IntsAre vs ns) (hl : ns.length ≤ sizeLine)
    (run : ∀ (base : Heap) (H : Hp), K.In base → base.Ns mainGlobals mg → FzL K H a (ns.map V.int) → Env0 P w K mg base callerA [] s₁ H → codeAny (model P w) callerA (.call (.ref fa) ⟨[.ref a], []⟩) (CR (L2.CX P w) [] P w H s₁ (fun v _ => v = .bl true) fun _ _ _ => False) s₁) :
    codeAny (model P w) callerA (.call (.ref fa) ⟨[.ref a], []⟩) (fun r s' => r = .ok (.ret (.bool true)) ∧ OldK s₁.heap s'.heap ∧ s'.os = s₁.os ∧ AllBare s'.gens) s₁ := by
  classical
  have rv := vals_ints hi
  let ob : Obj := { cls := .type "list", data := .seq vs.toArray }
  let H : Hp := fun b => if b = a ∧ K.lookup a = none then some (.frz ob (.lst (ns.map V.int))) else none
  have inv : ∀ {b : Addr} {u : HO}, H b = some u → b = a ∧ K.lookup a = none ∧ u = .frz ob (.lst (ns.map V.int)) := fun {b u} e => by
    by_cases c : b = a ∧ K.lookup a = none
    · have e2 : (if b = a ∧ K.lookup a = none then some (HO.frz ob (.lst (ns.map V.int))) else none) = some u := e
      rw [if_pos c] at e2
      exact ⟨c.1, c.2, (Option.some.inj e2).symm⟩
    · have e2 : (if b = a ∧ K.lookup a = none then some (HO.frz ob (.lst (ns.map V.int))) else none) = some u := e
      rw [if_neg c] at e2
      cases e2
  have free : ∀ {b : Addr} {o : Obj}, s₁.heap.get? b = some o → (∀ us n, o.data ≠ .seq us n) → H b = none := fun {b o} e hd => by
    cases q : H b with
    | none => rfl
    | some u =>
      obtain ⟨rfl, _, _⟩ := inv q
      rw [ha] at e
      cases e
      exact absurd rfl (hd _ _)
  have hok : HOk P w H s₁.heap := fun b u e => by
    obtain ⟨rfl, _, rfl⟩ := inv e
    exact ⟨ha, by rw [List.length_map]; exact hl, vs, _, rv, ha⟩
  have hKb : K.In (hidT s₁.heap H) := fun b o e => hidT_get (KX b o e) (by
    cases q : H b with
    | none => rfl
    | some u =>
      obtain ⟨rfl, hk, _⟩ := inv q
      rw [hk] at e
      cases e)
  have nsK : ∀ {b : Addr} {m : Str → Option Value}, s₁.heap.Ns b m → (hidT s₁.heap H).Ns b m := fun {b m} ⟨o, es, ep, e, d, r⟩ => ⟨o, es, ep, hidT_get e (free e fun us n z => by rw [d] at z; cases z), d, r⟩
  have e0 : Env0 P w K mg (hidT s₁.heap H) callerA [] s₁ H :=
    { frames := rfl, mod := ⟨hKb, nsK hns, ⟨mb, nsK hb, hbb⟩, let ⟨mc, h1, h2⟩ := hlim; ⟨mc, nsK h1, h2⟩⟩, bs := fun b o e => of_hidT e, bsz := Nat.le_of_eq (hidT_size _ _), funs := trivial, frf := fun b h => absurd (show b ∈ ([] : List Addr) from h) (by simp), hok := hok, bare := .of_eq hg }
  have hz : FzL K H a (ns.map V.int) := by
    cases hk : K.lookup a with
    | none => exact .inl ⟨ob, if_pos ⟨rfl, hk⟩⟩
    | some o =>
      have e := KX a o hk
      rw [ha] at e
      cases e
      exact .inr ⟨_, vs.toArray, _, hk, rfl, rfl, rfl, by rw [List.size_toArray, hi.length]; exact hl, by simpa using rv⟩
  refine codeAny_mono (run _ H hKb (nsK hns) hz e0) fun r s' h => ?_
  cases r with
  | error e => exact (cx_false h).elim
  | ok fl =>
    cases fl with
    | next => exact False.elim h
    | brk => exact False.elim h
    | cont => exact False.elim h
    | ret u =>
      obtain ⟨v, H', os, bare, un, hok', r', rfl⟩ := h
      cases (show u = Value.bool true from r')
      refine ⟨rfl, OldK.of_keep fun b o e => ?_, os, bare⟩
      cases q : H b with
      | none => exact un.keep b o e q (fun z => absurd (show b ∈ ([] : List Addr) from z) (by simp)) (by simp)
      | some u =>
        obtain ⟨rfl, _, rfl⟩ := inv q
        rw [ha] at e
        cases e
        exact (hok' _ _ (un.frzs _ ob _ q)).1
/-- the goal that k_head leaves, of a law that shows data -/
theorem walk_show {l : PySem.W.OpenLaw} {n : Nat} {q : Program} {loose : List Str} {XP : (Str → Option Value) → Heap → Prop} {YP : World → Heap → Prop} {d : DefRec} {K : Params → PySem.W.Frag}
    (hn : l.most = some n) (hn2 : n ≤ sizeLine) (hdf : d.params.defaults = []) (hY : ∀ (w : World) (h : Heap), YP w h → (K w.params).In h)
    (F : ∀ (w : World) (mg : Str → Option Value) (fa : Addr) (h : Heap), (K w.params).In h → h.Ns mainGlobals mg → mg d.name = some (.ref fa) →
      ∀ (base : Heap) (H : Hp) (s : Shared) (a : Addr) (ns : List Int), ns.length ≤ n → (K w.params).In base → base.Ns mainGlobals mg → FzL (K w.params) H a (ns.map V.int) → Env0 l.prog w (K w.params) mg base callerA [] s H →
        codeAny (model l.prog w) callerA (.call (.ref fa) ⟨[.ref a], []⟩) (CR (L2.CX l.prog w) [] l.prog w H s (fun v _ => v = .bl true) fun _ _ _ => False) s) :
    PySem.W.WalkO q loose XP YP l.row.toRowW d [] (fun f vs => PySem.call f vs) := by
  refine Att.attach_call hn hdf fun w s₀ s₁ mg mb fa o pm cd doc a vs ns G Y ho hd hcd hmg hobj hints hlen hg => ?_
  have KX := hY w _ Y
  exact law_callG KX G.T.g G.T.b G.T.builtins G.T.nolimit hg hobj hints (Nat.le_trans hlen hn2) fun base H h1 h2 h3 h4 => F w mg fa _ KX G.T.g hmg base H s₁ a ns hlen h1 h2 h3 h4
end HP
namespace HP
open PySem L2
/-- it ends well, with this -/
def Wp {A : Type} (x : R A) (Q : A → Sto → Prop) : Prop := ∃ a S, x = .ok a S ∧ Q a S
/-- what is wanted behind a statement -/
structure Post where
  nx : Ev → Sto → Prop
  rt : D → Sto → Prop
  bk : Ev → Sto → Prop := fun _ _ => False
  ct : Ev → Sto → Prop := fun _ _ => False
  ex : Xn → Ev → Sto → Prop := fun _ _ _ => False
def WpS (x : RS) (P : Post) : Prop :=
  match x with
  | .nx r S => P.nx r S
  | .rt d S => P.rt d S
  | .bk r S => P.bk r S
  | .ct r S => P.ct r S
  | .ex x r S => P.ex x r S
  | .bad => False
section
variable {A B : Type} {c : Call} {r : Ev} {S : Sto} {Q : A → Sto → Prop} {P : Post}
theorem wp_ok {a : A} (h : Q a S) : Wp (.ok a S) Q := ⟨a, S, rfl, h⟩
theorem wp_of {x : R A} {a : A} (e : x = .ok a S) (h : Q a S) : Wp x Q := ⟨a, S, e, h⟩
theorem wp_bnd {x : R B} {f : B → Sto → R A} (h : Wp x fun b S => Wp (f b S) Q) : Wp (x.bnd f) Q := by
  obtain ⟨b, S1, e, h⟩ := h
  rw [e]
  exact h
theorem wp_mono {x : R A} {Q' : A → Sto → Prop} (h : Wp x Q') (k : ∀ a S, Q' a S → Q a S) : Wp x Q := by
  obtain ⟨b, S1, e, h⟩ := h
  exact ⟨b, S1, e, k _ _ h⟩
theorem wps_bnd {x : R B} {f : B → Sto → RS} (h : Wp x fun b S => WpS (f b S) P) : WpS (x.bndS r f) P := by
  obtain ⟨b, S1, e, h⟩ := h
  rw [e]
  exact h
theorem wps_mono {x : RS} {P' : Post} (h : WpS x P') (h1 : ∀ r S, P'.nx r S → P.nx r S) (h2 : ∀ d S, P'.rt d S → P.rt d S) (h3 : ∀ r S, P'.bk r S → P.bk r S) (h4 : ∀ r S, P'.ct r S → P.ct r S) (h5 : ∀ x r S, P'.ex x r S → P.ex x r S) : WpS x P := by
  cases x with
  | nx r S => exact h1 _ _ h
  | rt d S => exact h2 _ _ h
  | bk r S => exact h3 _ _ h
  | ct r S => exact h4 _ _ h
  | ex x r S => exact h5 _ _ _ h
  | bad => exact h
end
section
variable {c : Call} {r : Ev} {S : Sto} {Q : D → Sto → Prop} {P : Post}
def noExc : D → Bool
  | .exc _ _ => false | .lam _ _ => false | _ => true
theorem wp_var {i : Nat} {d : D} (h : r[i]? = some (some d)) (n : noExc d = true) (k : Q d S) : Wp (evE c (.var i) r S) Q := by
  refine ⟨d, S, ?_, k⟩
  simp only [evE]
  rw [h]
  cases d <;> first | rfl | cases n
theorem wp_con {d : D} (k : Q d S) : Wp (evE c (.con d) r S) Q := ⟨d, S, by simp only [evE], k⟩
theorem wp_int {i : Int} (k : Q (.int i) S) : Wp (evE c (.int i) r S) Q := ⟨_, S, by simp only [evE], k⟩
theorem wp_bl {i : Bool} (k : Q (.bl i) S) : Wp (evE c (.bl i) r S) Q := ⟨_, S, by simp only [evE], k⟩
theorem wp_str {i : Str} (k : Q (.str i) S) : Wp (evE c (.str i) r S) Q := ⟨_, S, by simp only [evE], k⟩
theorem wp_non (k : Q .non S) : Wp (evE c .non r S) Q := ⟨_, S, by simp only [evE], k⟩
theorem wp_tup {es : Es} (k : Wp (evEs c es r S) fun ds S1 => Q (.tup ds) S1) : Wp (evE c (.tup es) r S) Q := by
  simp only [evE]; exact wp_bnd (wp_mono k fun a S h => wp_ok h)
theorem wp_lst {es : Es} (k : Wp (evEs c es r S) fun ds S1 => Q (.loc S1.length) (S1 ++ [.lst ds])) : Wp (evE c (.lst es) r S) Q := by
  simp only [evE]; exact wp_bnd (wp_mono k fun a S h => wp_ok h)
theorem wp_dic0 (k : Q (.loc S.length) (S ++ [.dic []])) : Wp (evE c .dic0 r S) Q := by
  simp only [evE]; exact wp_ok k
theorem wp_bin {o : Bop} {a b : E} (k : Wp (evE c a r S) fun x S1 => Wp (evE c b r S1) fun y S2 => Wp (binD S2 o x y) Q) : Wp (evE c (.bin o a b) r S) Q := by
  simp only [evE]; exact wp_bnd (wp_mono k fun a S h => wp_bnd h)
theorem wp_neg {a : E} (k : Wp (evE c a r S) fun x S1 => Wp (negD S1 x) Q) : Wp (evE c (.neg a) r S) Q := by
  simp only [evE]; exact wp_bnd k
theorem wp_cmp {o : Cop} {a b : E} (k : Wp (evE c a r S) fun x S1 => Wp (evE c b r S1) fun y S2 => Wp (cmpD S2 o x y) Q) : Wp (evE c (.cmp o a b) r S) Q := by
  simp only [evE]; exact wp_bnd (wp_mono k fun a S h => wp_bnd h)
theorem wp_chain {o o2 : Cop} {a b d : E} (k : Wp (evE c a r S) fun x S1 => Wp (evE c b r S1) fun y S2 => Wp (cmpD S2 o x y) fun z S3 => ∃ q, z = .bl q ∧ (q = true → Wp (evE c d r S3) fun w S4 => Wp (cmpD S4 o2 y w) Q) ∧ (q = false → Q (.bl false) S3)) :
    Wp (evE c (.chain o o2 a b d) r S) Q := by
  simp only [evE]
  refine wp_bnd (wp_mono k fun a S h => wp_bnd (wp_mono h fun y S h => wp_bnd (wp_mono h fun z S h => ?_)))
  obtain ⟨q, rfl, h1, h2⟩ := h
  cases q with
  | true => exact wp_bnd (h1 rfl)
  | false => exact wp_ok (h2 rfl)
theorem wp_band1 {e : E} (k : Wp (evE c e r S) Q) : Wp (evE c (.band (.cons e .nil)) r S) Q := by simp only [evE, evAnd]; exact k
theorem wp_band2 {e e2 : E} {es : Es} (k : Wp (evE c e r S) fun z S1 => ∃ q, z = .bl q ∧ (q = true → Wp (evE c (.band (.cons e2 es)) r S1) Q) ∧ (q = false → Q (.bl false) S1)) : Wp (evE c (.band (.cons e (.cons e2 es))) r S) Q := by
  simp only [evE, evAnd] at k ⊢
  refine wp_bnd (wp_mono k fun z S h => ?_)
  obtain ⟨q, rfl, h1, h2⟩ := h
  cases q with
  | true => exact h1 rfl
  | false => exact wp_ok (h2 rfl)
theorem wp_bor1 {e : E} (k : Wp (evE c e r S) Q) : Wp (evE c (.bor (.cons e .nil)) r S) Q := by simp only [evE, evOr]; exact k
theorem wp_bor2 {e e2 : E} {es : Es} (k : Wp (evE c e r S) fun z S1 => ∃ q, z = .bl q ∧ (q = true → Q (.bl true) S1) ∧ (q = false → Wp (evE c (.bor (.cons e2 es)) r S1) Q)) : Wp (evE c (.bor (.cons e (.cons e2 es))) r S) Q := by
  simp only [evE, evOr] at k ⊢
  refine wp_bnd (wp_mono k fun z S h => ?_)
  obtain ⟨q, rfl, h1, h2⟩ := h
  cases q with
  | true => exact wp_ok (h1 rfl)
  | false => exact h2 rfl
theorem wp_bnot {a : E} (k : Wp (evE c a r S) fun x S1 => Wp (truR S1 x) fun b S2 => Q (.bl (!b)) S2) : Wp (evE c (.bnot a) r S) Q := by
  simp only [evE]; exact wp_bnd (wp_mono k fun a S h => wp_bnd (wp_mono h fun b S h => wp_ok h))
theorem wp_ife {t a b : E} (k : Wp (evT c t r S) fun q S1 => (q = true → Wp (evE c a r S1) Q) ∧ (q = false → Wp (evE c b r S1) Q)) : Wp (evE c (.ife t a b) r S) Q := by
  simp only [evE]
  refine wp_bnd (wp_mono k fun q S h => ?_)
  cases q with
  | true => rw [if_pos rfl]; exact h.1 rfl
  | false => rw [if_neg Bool.false_ne_true]; exact h.2 rfl
theorem wp_call {f : Nat} {es : Es} (k : Wp (evEs c es r S) fun ds S1 => Wp (c f ds S1) Q) : Wp (evE c (.call f es) r S) Q := by
  simp only [evE]; exact wp_bnd k
theorem wp_bcall {f : Bf} {es : Es} (k : Wp (evEs c es r S) fun ds S1 => Wp (bfD S1 f ds) Q) : Wp (evE c (.bcall f es) r S) Q := by
  simp only [evE]; exact wp_bnd k
theorem wp_meth {m : Mt} {o : E} {es : Es} (k : Wp (evE c o r S) fun x S1 => isL S1 x = true ∧ Wp (evEs c es r S1) fun ds S2 => Wp (mtD S2 m x ds) Q) : Wp (evE c (.meth m o es) r S) Q := by
  simp only [evE]
  refine wp_bnd (wp_mono k fun x S h => ?_)
  rw [if_pos h.1]
  exact wp_bnd h.2
theorem wp_ix {a b : E} (k : Wp (evE c a r S) fun x S1 => Wp (evE c b r S1) fun y S2 => Wp (ixD S2 x y) Q) : Wp (evE c (.ix a b) r S) Q := by
  simp only [evE]; exact wp_bnd (wp_mono k fun a S h => wp_bnd h)
theorem wp_sl {a : E} {lo hi : Eo} (k : Wp (evE c a r S) fun x S1 => Wp (evO c lo r S1) fun l S2 => Wp (evO c hi r S2) fun h S3 => Wp (slD S3 x l h) Q) : Wp (evE c (.sl a lo hi) r S) Q := by
  simp only [evE]; exact wp_bnd (wp_mono k fun a S h => wp_bnd (wp_mono h fun l S h => wp_bnd h))
theorem wp_rev {a : E} (k : Wp (evE c a r S) fun x S1 => Wp (revD S1 x) Q) : Wp (evE c (.rev a) r S) Q := by
  simp only [evE]; exact wp_bnd k
theorem wp_nil {Q : List D → Sto → Prop} (k : Q [] S) : Wp (evEs c .nil r S) Q := by simp only [evEs]; exact wp_ok k
theorem wp_cons {e : E} {es : Es} {Q : List D → Sto → Prop} (k : Wp (evE c e r S) fun d S1 => Wp (evEs c es r S1) fun ds S2 => Q (d :: ds) S2) : Wp (evEs c (.cons e es) r S) Q := by
  simp only [evEs]; exact wp_bnd (wp_mono k fun a S h => wp_bnd (wp_mono h fun ds S h => wp_ok h))
theorem wp_oN {Q : Option Int → Sto → Prop} (k : Q none S) : Wp (evO c .none r S) Q := by simp only [evO]; exact wp_ok k
theorem wp_oS {e : E} {Q : Option Int → Sto → Prop} (k : Wp (evE c e r S) fun d S1 => ∃ i, d = .int i ∧ Q (some i) S1) : Wp (evO c (.some e) r S) Q := by
  simp only [evO]
  refine wp_bnd (wp_mono k fun d S h => ?_)
  obtain ⟨i, rfl, h⟩ := h
  exact wp_ok h
theorem wpt_and1 {e : E} {Q : Bool → Sto → Prop} (k : Wp (evT c e r S) Q) : Wp (evT c (.band (.cons e .nil)) r S) Q := by simp only [evT, evTA]; exact k
theorem wpt_and2 {e e2 : E} {es : Es} {Q : Bool → Sto → Prop} (k : Wp (evT c e r S) fun q S1 => (q = true → Wp (evT c (.band (.cons e2 es)) r S1) Q) ∧ (q = false → Q false S1)) : Wp (evT c (.band (.cons e (.cons e2 es))) r S) Q := by
  simp only [evT, evTA] at k ⊢
  refine wp_bnd (wp_mono k fun q S h => ?_)
  cases q with
  | true => rw [if_pos rfl]; exact h.1 rfl
  | false => rw [if_neg Bool.false_ne_true]; exact wp_ok (h.2 rfl)
theorem wpt_or1 {e : E} {Q : Bool → Sto → Prop} (k : Wp (evT c e r S) Q) : Wp (evT c (.bor (.cons e .nil)) r S) Q := by simp only [evT, evTO]; exact k
theorem wpt_or2 {e e2 : E} {es : Es} {Q : Bool → Sto → Prop} (k : Wp (evT c e r S) fun q S1 => (q = true → Q true S1) ∧ (q = false → Wp (evT c (.bor (.cons e2 es)) r S1) Q)) : Wp (evT c (.bor (.cons e (.cons e2 es))) r S) Q := by
  simp only [evT, evTO] at k ⊢
  refine wp_bnd (wp_mono k fun q S h => ?_)
  cases q with
  | true => rw [if_pos rfl]; exact wp_ok (h.1 rfl)
  | false => rw [if_neg Bool.false_ne_true]; exact h.2 rfl
theorem wpt_not {e : E} {Q : Bool → Sto → Prop} (k : Wp (evT c e r S) fun q S1 => Q (!q) S1) : Wp (evT c (.bnot e) r S) Q := by
  simp only [evT]; exact wp_bnd (wp_mono k fun q S h => wp_ok h)
theorem wpt_cmp {o : Cop} {a b : E} {Q : Bool → Sto → Prop} (k : Wp (evE c (.cmp o a b) r S) fun d S1 => Wp (truR S1 d) Q) : Wp (evT c (.cmp o a b) r S) Q := by simp only [evT]; exact wp_bnd k
theorem wpt_chain {o o2 : Cop} {a b d : E} {Q : Bool → Sto → Prop} (k : Wp (evE c (.chain o o2 a b d) r S) fun d S1 => Wp (truR S1 d) Q) : Wp (evT c (.chain o o2 a b d) r S) Q := by simp only [evT]; exact wp_bnd k
theorem wpt_var {i : Nat} {Q : Bool → Sto → Prop} (k : Wp (evE c (.var i) r S) fun d S1 => Wp (truR S1 d) Q) : Wp (evT c (.var i) r S) Q := by simp only [evT]; exact wp_bnd k
theorem wpt_call {f : Nat} {es : Es} {Q : Bool → Sto → Prop} (k : Wp (evE c (.call f es) r S) fun d S1 => Wp (truR S1 d) Q) : Wp (evT c (.call f es) r S) Q := by simp only [evT]; exact wp_bnd k
theorem wpt_bcall {f : Bf} {es : Es} {Q : Bool → Sto → Prop} (k : Wp (evE c (.bcall f es) r S) fun d S1 => Wp (truR S1 d) Q) : Wp (evT c (.bcall f es) r S) Q := by simp only [evT]; exact wp_bnd k
theorem wpt_meth {m : Mt} {o : E} {es : Es} {Q : Bool → Sto → Prop} (k : Wp (evE c (.meth m o es) r S) fun d S1 => Wp (truR S1 d) Q) : Wp (evT c (.meth m o es) r S) Q := by simp only [evT]; exact wp_bnd k
theorem wpt_ix {a b : E} {Q : Bool → Sto → Prop} (k : Wp (evE c (.ix a b) r S) fun d S1 => Wp (truR S1 d) Q) : Wp (evT c (.ix a b) r S) Q := by simp only [evT]; exact wp_bnd k
theorem wp_tru {d : D} {b : Bool} {Q : Bool → Sto → Prop} (h : truD S d = some b) (k : Q b S) : Wp (truR S d) Q := by unfold truR; rw [h]; exact wp_ok k
theorem wp_truB {b : Bool} {Q : Bool → Sto → Prop} (k : Q b S) : Wp (truR S (.bl b)) Q := wp_tru rfl k
theorem wpi_seq {e : E} {Q : List D × Ck → Sto → Prop} (k : Wp (evE c e r S) fun d S1 => Wp (itSeq S1 d) Q) : Wp (evI c (.seq e) r S) Q := by simp only [evI]; exact wp_bnd k
theorem wpi_rng1 {e : E} {Q : List D × Ck → Sto → Prop} (k : Wp (evE c e r S) fun d S1 => ∃ j, d = .int j ∧ okRng j = true ∧ Q (rngL 0 j.toNat, []) S1) : Wp (evI c (.rng1 e) r S) Q := by
  simp only [evI]
  refine wp_bnd (wp_mono k fun d S h => ?_)
  obtain ⟨j, rfl, h1, h2⟩ := h
  unfold rng1D
  simp only []
  rw [if_pos h1]
  exact wp_ok h2
theorem wpi_rng2 {a b : E} {Q : List D × Ck → Sto → Prop} (k : Wp (evE c a r S) fun x S1 => Wp (evE c b r S1) fun y S2 => ∃ i j, x = .int i ∧ y = .int j ∧ okRng i = true ∧ okRng j = true ∧ Q (rngL i (j - i).toNat, []) S2) : Wp (evI c (.rng2 a b) r S) Q := by
  simp only [evI]
  refine wp_bnd (wp_mono k fun d S h => wp_bnd (wp_mono h fun y S h => ?_))
  obtain ⟨i, j, rfl, rfl, h1, h2, h3⟩ := h
  unfold rng2D
  simp only []
  rw [if_pos ⟨h1, h2⟩]
  exact wp_ok h3
theorem wpi_rng3 {a b d : E} {Q : List D × Ck → Sto → Prop} (k : Wp (evE c a r S) fun x S1 => Wp (evE c b r S1) fun y S2 => Wp (evE c d r S2) fun z S3 => ∃ i j m n, x = .int i ∧ y = .int j ∧ z = .int m ∧ RgC i j m n ∧ Q (rngC i m n, []) S3) : Wp (evI c (.rng3 a b d) r S) Q := by
  simp only [evI]
  refine wp_bnd (wp_mono k fun x S1 k => ?_)
  refine wp_bnd (wp_mono k fun y S2 k => ?_)
  refine wp_bnd (wp_mono k fun z S3 k => ?_)
  obtain ⟨i, j, m, n, rfl, rfl, rfl, h, q⟩ := k
  unfold rng3D
  have e : rngN i j m = n := by unfold rngN; rw [h.2.2.2]; simp
  dsimp only
  rw [if_pos ⟨h.1, h.2.1, h.2.2.1, by rw [e]; exact h.2.2.2⟩, e]
  exact wp_ok q
theorem wp_dicT (k : Q (.loc S.length) (S ++ [.dct []])) : Wp (evE c .dicT r S) Q := by
  simp only [evE]; exact wp_ok k
theorem wp_kin {neg : Bool} {e : E} {kvs : List (Str × Int)} (k : Wp (evE c e r S) fun d S1 => Wp (kinD S1 neg kvs d) Q) : Wp (evE c (.kin neg e kvs) r S) Q := by simp only [evE]; exact wp_bnd k
theorem wp_kix {e : E} {kvs : List (Str × Int)} (k : Wp (evE c e r S) fun d S1 => Wp (kixD S1 kvs d) Q) : Wp (evE c (.kix kvs e) r S) Q := by simp only [evE]; exact wp_bnd k
theorem wp_din {neg : Bool} {a b : E} (k : Wp (evE c a r S) fun x S1 => Wp (evE c b r S1) fun y S2 => Wp (dinD S2 neg x y) Q) : Wp (evE c (.din neg a b) r S) Q := by
  simp only [evE]; exact wp_bnd (wp_mono k fun a S h => wp_bnd h)
theorem wpt_kin {neg : Bool} {e : E} {kvs : List (Str × Int)} {Q : Bool → Sto → Prop} (k : Wp (evE c (.kin neg e kvs) r S) fun d S1 => Wp (truR S1 d) Q) : Wp (evT c (.kin neg e kvs) r S) Q := by simp only [evT]; exact wp_bnd k
theorem wpt_din {neg : Bool} {a b : E} {Q : Bool → Sto → Prop} (k : Wp (evE c (.din neg a b) r S) fun d S1 => Wp (truR S1 d) Q) : Wp (evT c (.din neg a b) r S) Q := by simp only [evT]; exact wp_bnd k
theorem wp_dic1 {k : Key} {v : Int} (q : Q (.loc S.length) (S ++ [.dic [(k, .int v)]])) : Wp (evE c (.dic1 k v) r S) Q := ⟨_, _, by simp only [evE]; rfl, q⟩
theorem wp_joinS {s : Str} {e : E} (k : Wp (evE c e r S) fun d S1 => Wp (joinD S1 s d) Q) : Wp (evE c (.joinS s e) r S) Q := by simp only [evE]; exact wp_bnd k
theorem wp_shw {t : Bool} {e : E} (k : Wp (evE c e r S) fun d S1 => Wp (shwD S1 d) Q) : Wp (evE c (.shw t e) r S) Q := by simp only [evE]; exact wp_bnd k
theorem wp_lstR {e : E} (k : Wp (evE c e r S) fun d S1 => Wp (lstRD S1 d) Q) : Wp (evE c (.lstR e) r S) Q := by simp only [evE]; exact wp_bnd k
theorem wp_lstZ {a b : E} (k : Wp (evE c a r S) fun x S1 => Wp (evE c b r S1) fun y S2 => Wp (lstZD S2 x y) Q) : Wp (evE c (.lstZ a b) r S) Q := by
  simp only [evE]; exact wp_bnd (wp_mono k fun _ _ h => wp_bnd h)
theorem wpi_enm {e : E} {Q : List D × Ck → Sto → Prop} (k : Wp (evE c e r S) fun d S1 => ∃ p, itLst S1 d = some p ∧ Q (enmL 0 p.1, p.2) S1) : Wp (evI c (.enm e) r S) Q := by
  simp only [evI]
  refine wp_bnd (wp_mono k fun d S h => ?_)
  obtain ⟨p, h1, h2⟩ := h
  unfold enmD
  rw [h1]
  exact wp_ok h2
theorem wpi_zip {a b : E} {Q : List D × Ck → Sto → Prop} (k : Wp (evE c a r S) fun x S1 => Wp (evE c b r S1) fun y S2 => Wp (zipD S2 x y) Q) : Wp (evI c (.zip a b) r S) Q := by
  simp only [evI]; exact wp_bnd (wp_mono k fun d S h => wp_bnd h)
theorem wp_zipL {x y : D} {p q : List D × Ck} {Q : List D × Ck → Sto → Prop} (h1 : itLst S x = some p) (h2 : itLst S y = some q) (k : Q (zipL p.1 q.1, p.2 ++ q.2) S) : Wp (zipD S x y) Q := by
  unfold zipD
  split
  · cases h1
  · rw [h1, h2]
    exact wp_ok k
variable {nx : Ev → Sto → Prop} {rt : D → Sto → Prop} {bk ct : Ev → Sto → Prop} {ex : Xn → Ev → Sto → Prop}
theorem wps_set {i : Nat} {e : E} (k : Wp (evE c e r S) fun d S1 => nx (r.set i (some d)) S1) : WpS (evS c (.set i e) r S) ⟨nx, rt, bk, ct, ex⟩ := by simp only [evS]; exact wps_bnd k
theorem wps_asg {t : Tg} {e : E} (k : Wp (evE c e r S) fun d S1 => ∃ r1, asgT t (unL S1 d) r = some r1 ∧ nx r1 S1) : WpS (evS c (.asg t e) r S) ⟨nx, rt, bk, ct, ex⟩ := by
  simp only [evS]
  refine wps_bnd (wp_mono k fun d S h => ?_)
  obtain ⟨r1, h1, h2⟩ := h
  rw [h1]
  exact h2
theorem wps_setIx {o i e : E} (k : Wp (evE c e r S) fun d S1 => Wp (evE c o r S1) fun x S2 => Wp (evE c i r S2) fun j S3 => ∃ S4, setIxD S3 x j d = some S4 ∧ nx r S4) : WpS (evS c (.setIx o i e) r S) ⟨nx, rt, bk, ct, ex⟩ := by
  simp only [evS]
  refine wps_bnd (wp_mono k fun d S h => wps_bnd (wp_mono h fun d S h => wps_bnd (wp_mono h fun d S h => ?_)))
  obtain ⟨S4, h1, h2⟩ := h
  rw [h1]
  exact h2
theorem wps_setD {o i e : E} (k : Wp (evE c e r S) fun d S1 => Wp (evE c o r S1) fun x S2 => Wp (evE c i r S2) fun j S3 => ∃ S4, setDD S3 x j d = some S4 ∧ nx r S4) : WpS (evS c (.setD o i e) r S) ⟨nx, rt, bk, ct, ex⟩ := by
  simp only [evS]
  refine wps_bnd (wp_mono k fun d S h => wps_bnd (wp_mono h fun d S h => wps_bnd (wp_mono h fun d S h => ?_)))
  obtain ⟨S4, h1, h2⟩ := h
  rw [h1]
  exact h2
theorem wps_aug {i : Nat} {o : Bop} {e : E} (k : Wp (evE c (.var i) r S) fun x S1 => Wp (evE c e r S1) fun y S2 => Wp (augD S2 o x y) fun z S3 => nx (r.set i (some z)) S3) : WpS (evS c (.aug i o e) r S) ⟨nx, rt, bk, ct, ex⟩ := by
  simp only [evS]
  exact wps_bnd (wp_mono k fun d S h => wps_bnd (wp_mono h fun d S h => wps_bnd h))
theorem wps_expr {e : E} (k : Wp (evE c e r S) fun _ S1 => nx r S1) : WpS (evS c (.expr e) r S) ⟨nx, rt, bk, ct, ex⟩ := by simp only [evS]; exact wps_bnd k
theorem wps_ret {e : E} (k : Wp (evE c e r S) fun d S1 => rt d S1) : WpS (evS c (.ret e) r S) ⟨nx, rt, bk, ct, ex⟩ := by simp only [evS]; exact wps_bnd k
theorem wps_retN (k : rt .non S) : WpS (evS c .retN r S) ⟨nx, rt, bk, ct, ex⟩ := by simp only [evS]; exact k
theorem wps_ite {t : E} {a b : Ss} (k : Wp (evT c t r S) fun q S1 => (q = true → WpS (evSs c a r S1) ⟨nx, rt, bk, ct, ex⟩) ∧ (q = false → WpS (evSs c b r S1) ⟨nx, rt, bk, ct, ex⟩)) : WpS (evS c (.ite t a b) r S) ⟨nx, rt, bk, ct, ex⟩ := by
  simp only [evS]
  refine wps_bnd (wp_mono k fun q S h => ?_)
  cases q with
  | true => rw [if_pos rfl]; exact h.1 rfl
  | false => rw [if_neg Bool.false_ne_true]; exact h.2 rfl
theorem wps_brk (k : bk r S) : WpS (evS c .brk r S) ⟨nx, rt, bk, ct, ex⟩ := by simp only [evS]; exact k
theorem wps_cnt (k : ct r S) : WpS (evS c .cnt r S) ⟨nx, rt, bk, ct, ex⟩ := by simp only [evS]; exact k
theorem wps_pass (k : nx r S) : WpS (evS c .pass r S) ⟨nx, rt, bk, ct, ex⟩ := by simp only [evS]; exact k
theorem wps_par {i j : Nat} {a b : E} (k : Wp (evE c a r S) fun x S1 => Wp (evE c b r S1) fun y S2 => nx ((r.set i (some x)).set j (some y)) S2) : WpS (evS c (.par i j a b) r S) ⟨nx, rt, bk, ct, ex⟩ := by
  simp only [evS]; exact wps_bnd (wp_mono k fun d S h => wps_bnd h)
theorem wps_par3 {i j l : Nat} {a b d : E} (k : Wp (evE c a r S) fun x S1 => Wp (evE c b r S1) fun y S2 => Wp (evE c d r S2) fun z S3 => nx (((r.set i (some x)).set j (some y)).set l (some z)) S3) : WpS (evS c (.par3 i j l a b d) r S) ⟨nx, rt, bk, ct, ex⟩ := by
  simp only [evS]; exact wps_bnd (wp_mono k fun d S h => wps_bnd (wp_mono h fun d S h => wps_bnd h))
theorem wps_rse {n : Nat} {fl : List Str} {es : Es} (k : Wp (evEs c es r S) fun ds S1 => fl.length = ds.length ∧ ex ⟨n, (fl.zip ds).reverse⟩ r S1) : WpS (evS c (.rse n fl es) r S) ⟨nx, rt, bk, ct, ex⟩ := by
  simp only [evS]
  refine wps_bnd (wp_mono k fun d S h => ?_)
  rw [if_pos h.1]
  exact h.2
theorem wps_nil (k : nx r S) : WpS (evSs c .nil r S) ⟨nx, rt, bk, ct, ex⟩ := by simp only [evSs]; exact k
theorem wps_cons {s : St} {ss : Ss} (k : WpS (evS c s r S) ⟨fun r1 S1 => WpS (evSs c ss r1 S1) ⟨nx, rt, bk, ct, ex⟩, rt, bk, ct, ex⟩) : WpS (evSs c (.cons s ss) r S) ⟨nx, rt, bk, ct, ex⟩ := by
  simp only [evSs]
  cases e : evS c s r S with
  | nx r1 S1 => rw [e] at k; exact k
  | rt d S1 => rw [e] at k; exact k
  | bk r1 S1 => rw [e] at k; exact k
  | ct r1 S1 => rw [e] at k; exact k
  | ex x r1 S1 => rw [e] at k; exact k
  | bad => rw [e] at k; exact k
theorem wps_whl (I : Nat → Ev → Sto → Prop) {t : E} {b : Ss} {n : Nat} (h0 : I n r S)
    (hs : ∀ n r S, I n r S → Wp (evT c t r S) fun q S1 => (q = true → WpS (evSs c b r S1) ⟨fun r2 S2 => ∃ m, m < n ∧ I m r2 S2, rt, nx, fun r2 S2 => ∃ m, m < n ∧ I m r2 S2, ex⟩) ∧ (q = false → nx r S1)) : WpS (evS c (.whl t b) r S) ⟨nx, rt, bk, ct, ex⟩ := by
  simp only [evS]
  induction n using Nat.strongRecOn generalizing r S with
  | _ n ih =>
    rw [whR_eq]
    obtain ⟨q, S1, e, h⟩ := hs n r S h0
    rw [e]
    cases q with
    | true =>
      have h1 := h.1 rfl
      dsimp only
      cases e2 : evSs c b r S1 with
      | nx r2 S2 => rw [e2] at h1; obtain ⟨m, hm, h1⟩ := h1; exact ih m hm h1
      | ct r2 S2 => rw [e2] at h1; obtain ⟨m, hm, h1⟩ := h1; exact ih m hm h1
      | bk r2 S2 => rw [e2] at h1; exact h1
      | rt d S2 => rw [e2] at h1; exact h1
      | ex x r2 S2 => rw [e2] at h1; exact h1
      | bad => rw [e2] at h1; exact h1
    | false => exact h.2 rfl
/-- a for over what was walked -/
noncomputable def forE (c : Call) (t : Tg) (b : Ss) (p : List D × Ck) (r : Ev) (S : Sto) : RS := forL p.2 (fun d r => asgT t d r) (fun r S => evSs c b r S) p.1 r S
theorem wps_for {t : Tg} {it : It} {b : Ss} (k : Wp (evI c it r S) fun p S1 => WpS (forE c t b p r S1) ⟨nx, rt, bk, ct, ex⟩) : WpS (evS c (.for_ t it b) r S) ⟨nx, rt, bk, ct, ex⟩ := by
  simp only [evS]; exact wps_bnd k
theorem forE_inv (I : Nat → Ev → Sto → Prop) {t : Tg} {b : Ss} {p : List D × Ck} (h0 : I 0 r S) (hk : ∀ i r S, i ≤ p.1.length → I i r S → Still p.2 S)
    (hs : ∀ i d r S, p.1[i]? = some d → I i r S → ∃ r1, asgT t d r = some r1 ∧ WpS (evSs c b r1 S) ⟨I (i + 1), rt, nx, I (i + 1), ex⟩) (hd : ∀ r S, I p.1.length r S → nx r S) : WpS (forE c t b p r S) ⟨nx, rt, bk, ct, ex⟩ := by
  unfold forE
  have go : ∀ (n i : Nat) (r : Ev) (S : Sto), i + n = p.1.length → I i r S → WpS (forL p.2 (fun d r => asgT t d r) (fun r S => evSs c b r S) (p.1.drop i) r S) ⟨nx, rt, bk, ct, ex⟩ := by
    intro n
    induction n with
    | zero =>
      intro i r S hi h
      have e : i = p.1.length := by omega
      subst e
      rw [List.drop_length]
      unfold forL
      rw [if_pos (hk _ r S (Nat.le_refl _) h)]
      exact hd r S h
    | succ n ih =>
      intro i r S hi h
      have hl : i < p.1.length := by omega
      have e : p.1[i]? = some p.1[i] := List.getElem?_eq_getElem hl
      rw [drop_get e]
      unfold forL
      rw [if_pos (hk _ r S (Nat.le_of_lt hl) h)]
      obtain ⟨r1, e1, h1⟩ := hs i _ r S e h
      rw [e1]
      dsimp only
      cases e2 : evSs c b r1 S with
      | nx r2 S2 => rw [e2] at h1; exact ih (i + 1) r2 S2 (by omega) h1
      | ct r2 S2 => rw [e2] at h1; exact ih (i + 1) r2 S2 (by omega) h1
      | bk r2 S2 => rw [e2] at h1; exact h1
      | rt d S2 => rw [e2] at h1; exact h1
      | ex x r2 S2 => rw [e2] at h1; exact h1
      | bad => rw [e2] at h1; exact h1
  have q := go p.1.length 0 r S (by omega) h0
  rw [List.drop_zero] at q
  exact q
/-- a comprehension over what was walked -/
noncomputable def compE (c : Call) (x : E) (tg : Tg) (cd : Eo) (own : List Nat) (r : Ev) (l : Nat) (p : List D × Ck) (S : Sto) : R D :=
  compL (eoX cd) p.2 l (fun d S2 => match asgT tg d (wipeD r own) with
        | none => .bad
        | some r2 => (evC c cd r2 S2).bnd fun k S3 => if k = true then (evE c x r2 S3).bnd fun y S4 => .ok (some y) S4 else .ok none S3) p.1 S
theorem wp_lc {x : E} {tg : Tg} {it : It} {cd : Eo} {own : List Nat} (k : Wp (evI c it r S) fun p S1 => Wp (compE c x tg cd own r S1.length p (S1 ++ [.lst []])) Q) : Wp (evE c (.lc x tg it cd own) r S) Q := by
  simp only [evE]; exact wp_bnd k
theorem compE_inv (I : Nat → Sto → Prop) {x : E} {tg : Tg} {cd : Eo} {own : List Nat} {l : Nat} {p : List D × Ck} (h0 : I 0 S) (hk : ∀ i S, i ≤ p.1.length → I i S → Still p.2 S)
    (hs : ∀ i d S, p.1[i]? = some d → I i S → ∃ r1, asgT tg d (wipeD r own) = some r1 ∧ Wp (evC c cd r1 S) fun q S1 => (q = true → Wp (evE c x r1 S1) fun y S2 => ∃ acc, S2[l]? = some (.lst acc) ∧ acc.length < szL ∧ I (i + 1) (S2.set l (.lst (acc ++ [y])))) ∧ (q = false → I (i + 1) S1))
    (hd : ∀ S, I p.1.length S → Q (.loc l) S) : Wp (compE c x tg cd own r l p S) Q := by
  unfold compE
  generalize hf : (fun d S2 => match asgT tg d (wipeD r own) with
        | none => (.bad : R (Option D))
        | some r2 => (evC c cd r2 S2).bnd fun k S3 => if k = true then (evE c x r2 S3).bnd fun y S4 => .ok (some y) S4 else .ok none S3) = f
  have go : ∀ (n i : Nat) (S : Sto), i + n = p.1.length → I i S → Wp (compL (eoX cd) p.2 l f (p.1.drop i) S) Q := by
    intro n
    induction n with
    | zero =>
      intro i S hi h
      have e : i = p.1.length := by omega
      subst e
      rw [List.drop_length]
      unfold compL
      rw [if_pos (hk _ S (Nat.le_refl _) h)]
      exact wp_ok (hd S h)
    | succ n ih =>
      intro i S hi h
      have hl : i < p.1.length := by omega
      have e : p.1[i]? = some p.1[i] := List.getElem?_eq_getElem hl
      rw [drop_get e]
      unfold compL
      rw [if_pos (hk _ S (Nat.le_of_lt hl) h)]
      obtain ⟨r1, e1, q, S1, e2, h1, h2⟩ := hs i _ S e h
      have ef : f p.1[i] S = (evC c cd r1 S).bnd fun k S3 => if k = true then (evE c x r1 S3).bnd fun y S4 => .ok (some y) S4 else .ok none S3 := by rw [← hf]; dsimp only; rw [e1]
      rw [ef, e2]
      dsimp only [R.bnd]
      cases q with
      | true =>
        rw [if_pos rfl]
        obtain ⟨y, S2, e3, acc, h3, h4, h5⟩ := h1 rfl
        rw [e3]
        dsimp only
        rw [h3]
        dsimp only
        rw [if_pos h4]
        exact ih (i + 1) _ (by omega) h5
      | false =>
        rw [if_neg Bool.false_ne_true]
        exact ih (i + 1) _ (by omega) (h2 rfl)
  have q := go p.1.length 0 S (by omega) h0
  rw [List.drop_zero] at q
  exact q
theorem wpc_none {Q : Bool → Sto → Prop} (k : Q true S) : Wp (evC c .none r S) Q := by simp only [evC]; exact wp_ok k
theorem wpc_some {e : E} {Q : Bool → Sto → Prop} (k : Wp (evT c e r S) Q) : Wp (evC c (.some e) r S) Q := by simp only [evC]; exact k
theorem wp_run {fn : Fn} {ds : List D} (h : ds.length = fn.ar) (k : WpS (evSs c fn.body (ds.map some ++ List.replicate (fn.n - fn.ar) none) S) { nx := fun _ S1 => Q .non S1, rt := Q }) : Wp (runF c fn ds S) Q := by
  unfold runF
  rw [if_pos h]
  cases e : evSs c fn.body (ds.map some ++ List.replicate (fn.n - fn.ar) none) S with
  | nx r1 S1 => rw [e] at k; exact wp_ok k
  | rt d S1 => rw [e] at k; exact wp_ok k
  | bk r1 S1 => rw [e] at k; exact k.elim
  | ct r1 S1 => rw [e] at k; exact k.elim
  | ex x r1 S1 => rw [e] at k; exact k.elim
  | bad => rw [e] at k; exact k.elim
theorem callN_succ {G : Tab} {k f : Nat} {fn : Fn} {ds : List D} {S : Sto} (h : G f = some fn) : callN G (k + 1) f ds S = runF (callN G k) fn ds S := by
  show (match G f with | some fn => runF (callN G k) fn ds S | none => .bad) = _
  rw [h]
/-- a def is entered -/
theorem wp_def {G : Tab} {k f : Nat} {fn : Fn} {ds : List D} (hG : G f = some fn) (h : ds.length = fn.ar) (q : WpS (evSs (callN G k) fn.body (ds.map some ++ List.replicate (fn.n - fn.ar) none) S) { nx := fun _ S1 => Q .non S1, rt := Q }) : Wp (callN G (k + 1) f ds S) Q := by
  rw [callN_succ hG]
  exact wp_run h q
/-- a call whose value is known -/
theorem wp_val {x : R D} {d : D} (e : x = .ok d S) (k : Q d S) : Wp x Q := ⟨d, S, e, k⟩
theorem wp_eq {x : R D} {d : D} {S' : Sto} (h : Wp x fun a S1 => a = d ∧ S1 = S') : x = .ok d S' := by
  obtain ⟨a, S1, e, rfl, rfl⟩ := h
  exact e
theorem wb_add {i j : Int} (k : Q (.int (i + j)) S) : Wp (binD S .add (.int i) (.int j)) Q := wp_ok k
theorem wb_sub {i j : Int} (k : Q (.int (i - j)) S) : Wp (binD S .sub (.int i) (.int j)) Q := wp_ok k
theorem wb_mul {i j : Int} (h : okMul i j = true) (k : Q (.int (i * j)) S) : Wp (binD S .mul (.int i) (.int j)) Q := by
  unfold binD; dsimp only; rw [if_pos h]; exact wp_ok k
theorem wb_fdiv {i j : Int} (h : okDiv i j = true) (k : Q (.int (i.fdiv j)) S) : Wp (binD S .fdiv (.int i) (.int j)) Q := by
  unfold binD; dsimp only; rw [if_pos h]; exact wp_ok k
theorem wb_mod {i j : Int} (h : j ≠ 0) (k : Q (.int (i.fmod j)) S) : Wp (binD S .mod (.int i) (.int j)) Q := by
  unfold binD; dsimp only; rw [if_pos h]; exact wp_ok k
theorem wb_pow {i j : Int} (h : okPow i j = true) (k : Q (.int (i ^ j.toNat)) S) : Wp (binD S .pow (.int i) (.int j)) Q := by
  unfold binD; dsimp only; rw [if_pos h]; exact wp_ok k
theorem wb_addt {x y : List D} (h : x ≠ []) (h2 : x.length + y.length ≤ szL) (k : Q (.tup (x ++ y)) S) : Wp (binD S .add (.tup x) (.tup y)) Q := by
  unfold binD; dsimp only; rw [if_pos ⟨h, h2⟩]; exact wp_ok k
theorem wb_addl {l m : Nat} {x y : List D} (h1 : S[l]? = some (.lst x)) (h2 : S[m]? = some (.lst y)) (h3 : x.length + y.length ≤ szL) (k : Q (.loc S.length) (S ++ [.lst (x ++ y)])) : Wp (binD S .add (.loc l) (.loc m)) Q := by
  unfold binD; dsimp only; rw [h1, h2]; dsimp only; rw [if_pos h3]; exact wp_ok k
theorem wn_neg {i : Int} (k : Q (.int (-i)) S) : Wp (negD S (.int i)) Q := wp_ok k
theorem wg_add {i j : Int} (k : Q (.int (i + j)) S) : Wp (augD S .add (.int i) (.int j)) Q := wp_ok k
theorem wg_sub {i j : Int} (k : Q (.int (i - j)) S) : Wp (augD S .sub (.int i) (.int j)) Q := wp_ok k
theorem wc_lt {i j : Int} (k : Q (.bl (decide (i < j))) S) : Wp (cmpD S .lt (.int i) (.int j)) Q := wp_ok k
theorem wc_le {i j : Int} (k : Q (.bl (decide (i ≤ j))) S) : Wp (cmpD S .le (.int i) (.int j)) Q := wp_ok k
theorem wc_gt {i j : Int} (k : Q (.bl (decide (j < i))) S) : Wp (cmpD S .gt (.int i) (.int j)) Q := wp_ok k
theorem wc_ge {i j : Int} (k : Q (.bl (decide (j ≤ i))) S) : Wp (cmpD S .ge (.int i) (.int j)) Q := wp_ok k
theorem wc_eqI {i j : Int} (k : Q (.bl (decide (i = j))) S) : Wp (cmpD S .eq (.int i) (.int j)) Q := wp_ok k
theorem wc_neI {i j : Int} (k : Q (.bl (!decide (i = j))) S) : Wp (cmpD S .ne (.int i) (.int j)) Q := wp_ok k
theorem wc_eqS {i j : Str} (k : Q (.bl (decide (i = j))) S) : Wp (cmpD S .eq (.str i) (.str j)) Q := wp_ok k
theorem wc_neS {i j : Str} (k : Q (.bl (!decide (i = j))) S) : Wp (cmpD S .ne (.str i) (.str j)) Q := wp_ok k
theorem wc_eq {a b : D} {q : Bool} (h : eqD S a b = some q) (k : Q (.bl q) S) : Wp (cmpD S .eq a b) Q := by
  unfold cmpD; dsimp only; rw [h]; exact wp_ok k
theorem wc_ne {a b : D} {q : Bool} (h : eqD S a b = some q) (k : Q (.bl (!q)) S) : Wp (cmpD S .ne a b) Q := by
  unfold cmpD; dsimp only; rw [h]; exact wp_ok k
theorem wc_is {a b : D} {q : Bool} (h : isD S a b = some q) (k : Q (.bl q) S) : Wp (cmpD S .is a b) Q := by
  unfold cmpD; dsimp only; rw [h]; exact wp_ok k
theorem wc_isn {a b : D} {q : Bool} (h : isD S a b = some q) (k : Q (.bl (!q)) S) : Wp (cmpD S .isn a b) Q := by
  unfold cmpD; dsimp only; rw [h]; exact wp_ok k
theorem wc_in {a b : D} {q : Bool} (h : inD S a b = some q) (k : Q (.bl q) S) : Wp (cmpD S .inn a b) Q := by
  unfold cmpD; dsimp only; rw [h]; exact wp_ok k
theorem wc_nin {a b : D} {q : Bool} (h : inD S a b = some q) (k : Q (.bl (!q)) S) : Wp (cmpD S .nin a b) Q := by
  unfold cmpD; dsimp only; rw [h]; exact wp_ok k
theorem wx_ix {d : D} {ds : List D} {i : Int} {v : D} (h : seqOf S d = some ds) (h2 : atI ds i = some v) (k : Q v S) : Wp (ixD S d (.int i)) Q := by
  unfold ixD
  split
  · cases h
  · rename_i e heq
    cases heq
    rw [h]
    dsimp only
    rw [h2]
    exact wp_ok k
  · rename_i z _
    exact absurd rfl (z _)
theorem wf_len {d : D} {ds : List D} (h : seqOf S d = some ds) (k : Q (.int ds.length) S) : Wp (bfD S .len [d]) Q := by
  cases d
  case str => cases h
  all_goals
    unfold bfD
    dsimp only
    rw [h]
    exact wp_ok k
theorem seq_loc {S : Sto} {l : Nat} {ds : List D} (h : S[l]? = some (.lst ds)) : seqOf S (.loc l) = some ds := by
  unfold seqOf lstOf; dsimp only; rw [h]
theorem lst_loc {S : Sto} {l : Nat} {ds : List D} (h : S[l]? = some (.lst ds)) : lstOf S (.loc l) = some ds := by
  unfold lstOf; dsimp only; rw [h]
theorem wq_dec {p : Prop} [Decidable p] {A B : Prop} (h1 : p → A) (h2 : ¬p → B) : (decide p = true → A) ∧ (decide p = false → B) :=
  ⟨fun h => h1 (of_decide_eq_true h), fun h => h2 (of_decide_eq_false h)⟩
theorem wq_ndec {p : Prop} [Decidable p] {A B : Prop} (h1 : ¬p → A) (h2 : p → B) : ((!decide p) = true → A) ∧ ((!decide p) = false → B) := by
  by_cases h : p
  · exact ⟨fun q => by simp [h] at q, fun _ => h2 h⟩
  · exact ⟨fun _ => h1 h, fun q => by simp [h] at q⟩
theorem wq_tt {A B : Prop} (h : A) : (true = true → A) ∧ (true = false → B) := ⟨fun _ => h, fun h => nomatch h⟩
theorem wq_ff {A B : Prop} (h : B) : (false = true → A) ∧ (false = false → B) := ⟨fun h => (nomatch h), fun _ => h⟩
theorem wq_ntt {A B : Prop} (h : B) : ((!true) = true → A) ∧ ((!true) = false → B) := ⟨fun h => (nomatch h), fun _ => h⟩
theorem wq_nff {A B : Prop} (h : A) : ((!false) = true → A) ∧ ((!false) = false → B) := ⟨fun _ => h, fun h => (nomatch h)⟩
theorem wq_et {b : Bool} {A B : Prop} (e : b = true) (h : A) : (b = true → A) ∧ (b = false → B) := ⟨fun _ => h, fun k => by rw [e] at k; cases k⟩
theorem wq_ef {b : Bool} {A B : Prop} (e : b = false) (h : B) : (b = true → A) ∧ (b = false → B) := ⟨fun k => by (rw [e] at k; cases k), fun _ => h⟩
theorem wz_bl {q : Bool} {X : Bool → Prop} (h : X q) : ∃ k, D.bl q = .bl k ∧ X k := ⟨_, rfl, h⟩
theorem wz_int {q : Int} {X : Int → Prop} (h : X q) : ∃ k, D.int q = .int k ∧ X k := ⟨_, rfl, h⟩
theorem wz_some {A : Type} {x : Option A} {a : A} {X : A → Prop} (e : x = some a) (h : X a) : ∃ k, x = some k ∧ X k := ⟨_, e, h⟩
theorem wf_isin {d : D} {b t : Bt} (h : tyD S d = some t) (k : Q (.bl (isTy t b)) S) : Wp (bfD S .isin [d, .ty b]) Q := by
  unfold bfD
  dsimp only
  rw [h]
  exact wp_ok k
theorem wf_abs {i : Int} (k : Q (.int (if i < 0 then -i else i)) S) : Wp (bfD S .abs [.int i]) Q := wp_ok k
theorem wf_min {i j : Int} (k : Q (.int (if j < i then j else i)) S) : Wp (bfD S .min [.int i, .int j]) Q := wp_ok k
theorem wf_max {i j : Int} (k : Q (.int (if j > i then j else i)) S) : Wp (bfD S .max [.int i, .int j]) Q := wp_ok k
theorem wf_int {i : Int} (k : Q (.int i) S) : Wp (bfD S .int [.int i]) Q := wp_ok k
theorem wf_intB {b : Bool} (k : Q (.int (if b then 1 else 0)) S) : Wp (bfD S .int [.bl b]) Q := wp_ok k
theorem wf_list {d : D} {ds : List D} (h : seqOf S d = some ds) (k : Q (.loc S.length) (S ++ [.lst ds])) : Wp (bfD S .list [d]) Q := by
  cases d
  case str => cases h
  all_goals
    unfold bfD
    dsimp only
    rw [h]
    exact wp_ok k
theorem wm_append {l : Nat} {y : D} {ds : List D} (h : S[l]? = some (.lst ds)) (h2 : ds.length < szL) (k : Q .non (S.set l (.lst (ds ++ [y])))) : Wp (mtD S .append (.loc l) [y]) Q := by
  unfold mtD; dsimp only; rw [h]; dsimp only; rw [if_pos h2]; exact wp_ok k
theorem ws_lst {d : D} {ds : List D} {lo hi : Option Int} (h : lstOf S d = some ds) (k : Q (.loc S.length) (S ++ [.lst (cutL ds lo hi)])) : Wp (slD S d lo hi) Q := by
  unfold slD
  split
  · cases h
  · rw [h]; exact wp_ok k
theorem wi_tup {ds : List D} {Q : List D × Ck → Sto → Prop} (k : Q (ds, []) S) : Wp (itSeq S (.tup ds)) Q := wp_ok k
theorem wi_frl {ds : List D} {Q : List D × Ck → Sto → Prop} (k : Q (ds, []) S) : Wp (itSeq S (.frl ds)) Q := wp_ok k
theorem wi_loc {l : Nat} {ds : List D} {Q : List D × Ck → Sto → Prop} (h : S[l]? = some (.lst ds)) (k : Q (ds, [(l, ds)]) S) : Wp (itSeq S (.loc l)) Q := by
  unfold itSeq; dsimp only; rw [h]; exact wp_ok k
end
end HP
namespace HP
open PySem L2
section
variable {S : Sto} {Q : D → Sto → Prop}
theorem wf_isinT {d : D} {ts : List D} {t : Bt} {bs : List Bt} (h : tyD S d = some t) (h2 : allOf tyOf ts = some bs) (k : Q (.bl (bs.any (isTy t))) S) : Wp (bfD S .isin [d, .tup ts]) Q := by
  unfold bfD
  dsimp only
  rw [h, h2]
  exact wp_ok k
end
/-- a fraction as the program has it -/
def q (x : Rat) : D := .tup [.int x.num, .int x.den]
/-- its size: at most 2^a on either side, the bottom at most 2^b -/
structure Sz (a b : Nat) (x : Rat) : Prop where
  v : x.num.natAbs ≤ 2 ^ a * x.den
  d : x.den ≤ 2 ^ b
theorem Sz.mono {a b a' b' : Nat} {x : Rat} (h : Sz a b x) (ha : a ≤ a') (hb : b ≤ b') : Sz a' b' x :=
  ⟨Nat.le_trans h.v (Nat.mul_le_mul_right _ (Nat.pow_le_pow_right (by decide) ha)), Nat.le_trans h.d (Nat.pow_le_pow_right (by decide) hb)⟩
theorem Sz.num {a b : Nat} {x : Rat} (h : Sz a b x) : x.num.natAbs ≤ 2 ^ (a + b) := by
  refine Nat.le_trans h.v ?_
  rw [Nat.pow_add]
  exact Nat.mul_le_mul_left _ h.d
theorem log2_le {n k : Nat} (h : n ≤ 2 ^ k) : n.log2 ≤ k := by
  by_cases e : n = 0
  · subst e; exact Nat.zero_le _
  · have := (Nat.log2_lt e (k := k + 1)).2 (Nat.lt_of_le_of_lt h (Nat.pow_lt_pow_right (by decide) (by omega)))
    omega
theorem okMul_of {i j : Int} {a b : Nat} (h1 : i.natAbs ≤ 2 ^ a) (h2 : j.natAbs ≤ 2 ^ b) (h : a + b < 1000000) : okMul i j = true := by
  unfold okMul
  have := log2_le h1
  have := log2_le h2
  exact decide_eq_true (by omega)
theorem okDiv_of {i j : Int} (h0 : j ≠ 0) (h : j.natAbs ≤ 2 ^ 8900) : okDiv i j = true := by
  unfold okDiv
  have := log2_le h
  have e : Builtin.divisionGoesByPylong i j = false := by
    unfold Builtin.divisionGoesByPylong
    simp only []
    rw [Bool.and_eq_false_iff]
    left
    refine decide_eq_false ?_
    split <;> omega
  rw [e, decide_eq_true h0]
  rfl
theorem okDiv_s {i j : Int} (h0 : j ≠ 0) (h : j.natAbs ≤ 2 ^ 200) : okDiv i j = true := okDiv_of h0 (Nat.le_trans h (Nat.pow_le_pow_right (by decide) (by decide)))
theorem sz_mkRat {n : Int} {d : Nat} {a b : Nat} (h0 : d ≠ 0) (h1 : n.natAbs ≤ 2 ^ a * d) (h2 : d ≤ 2 ^ b) : Sz a b (mkRat n d) := by
  have hg : 0 < d.gcd n.natAbs := Nat.gcd_pos_of_pos_left _ (Nat.pos_of_ne_zero h0)
  have e1 : (mkRat n d).num = n / ((d.gcd n.natAbs : Nat) : Int) := by rw [Rat.num_mkRat, if_neg h0]
  have e2 : (mkRat n d).den = d / d.gcd n.natAbs := by rw [Rat.den_mkRat, if_neg h0]
  obtain ⟨k, hk⟩ := Nat.gcd_dvd_left d n.natAbs
  have hn : ((d.gcd n.natAbs : Nat) : Int) ∣ n := Int.ofNat_dvd_left.2 (Nat.gcd_dvd_right _ _)
  obtain ⟨m, hm⟩ := hn
  generalize hG : d.gcd n.natAbs = g at *
  have e3 : n / (g : Int) = m := by rw [hm]; exact Int.mul_ediv_cancel_left _ (by omega)
  have e4 : d / g = k := by rw [hk]; exact Nat.mul_div_cancel_left _ hg
  constructor
  · rw [e1, e2, e3, e4]
    have e5 : n.natAbs = g * m.natAbs := by rw [hm, Int.natAbs_mul]; rfl
    rw [e5] at h1
    have : g * m.natAbs ≤ g * (2 ^ a * k) := by
      calc g * m.natAbs ≤ 2 ^ a * d := h1
        _ = 2 ^ a * (g * k) := by rw [← hk]
        _ = g * (2 ^ a * k) := by rw [Nat.mul_left_comm]
    exact Nat.le_of_mul_le_mul_left this hg
  · rw [e2, e4]
    exact Nat.le_trans (by rw [hk]; exact Nat.le_mul_of_pos_left _ hg) h2
theorem Sz.add {a b c d : Nat} {x y : Rat} (h : Sz a b x) (k : Sz c d y) : Sz (max a c + 1) (b + d) (x + y) := by
  rw [Rat.add_def']
  have hx := x.den_pos
  have hy := y.den_pos
  refine sz_mkRat (Nat.mul_ne_zero (by omega) (by omega)) ?_ ?_
  · refine Nat.le_trans (Int.natAbs_add_le _ _) ?_
    rw [Int.natAbs_mul, Int.natAbs_mul]
    simp only [Int.natAbs_natCast]
    have h1 : x.num.natAbs ≤ 2 ^ (max a c) * x.den := (h.mono (Nat.le_max_left a c) (Nat.le_refl _)).v
    have h2 : y.num.natAbs ≤ 2 ^ (max a c) * y.den := (k.mono (Nat.le_max_right a c) (Nat.le_refl _)).v
    have h3 := Nat.mul_le_mul_right y.den h1
    have h4 := Nat.mul_le_mul_right x.den h2
    rw [Nat.pow_succ]
    generalize 2 ^ (max a c) = p at *
    rw [Nat.mul_assoc] at h3 h4
    rw [Nat.mul_comm y.den x.den] at h4
    generalize x.num.natAbs * y.den = u at *
    generalize y.num.natAbs * x.den = w at *
    rw [Nat.mul_assoc, Nat.mul_comm 2, ← Nat.mul_assoc]
    omega
  · rw [Nat.pow_add]; exact Nat.mul_le_mul h.d k.d
theorem Sz.neg {a b : Nat} {x : Rat} (h : Sz a b x) : Sz a b (-x) := ⟨by simpa using h.v, by simpa using h.d⟩
theorem Sz.sub {a b c d : Nat} {x y : Rat} (h : Sz a b x) (k : Sz c d y) : Sz (max a c + 1) (b + d) (x - y) := by
  rw [Rat.sub_eq_add_neg]; exact h.add k.neg
theorem Sz.mul {a b c d : Nat} {x y : Rat} (h : Sz a b x) (k : Sz c d y) : Sz (a + c) (b + d) (x * y) := by
  rw [Rat.mul_def']
  have hx := x.den_pos
  have hy := y.den_pos
  refine sz_mkRat (Nat.mul_ne_zero (by omega) (by omega)) ?_ ?_
  · rw [Int.natAbs_mul, Nat.pow_add]
    have := Nat.mul_le_mul h.v k.v
    rw [Nat.mul_mul_mul_comm] at this
    exact this
  · rw [Nat.pow_add]; exact Nat.mul_le_mul h.d k.d
theorem fmod_natAbs_lt {a b : Int} (h : b ≠ 0) : (a.fmod b).natAbs < b.natAbs := by
  rcases Int.lt_or_gt_of_ne h with g | g
  · have h1 := Int.fmod_lt_of_pos (-a) (b := -b) (by omega)
    have h2 := Int.fmod_nonneg_of_pos (-a) (b := -b) (by omega)
    rw [Int.neg_fmod_neg] at h1 h2
    omega
  · have h1 := Int.fmod_lt_of_pos a g
    have h2 := Int.fmod_nonneg_of_pos a g
    omega
theorem gcd_fmod (a b : Int) : b.gcd (a.fmod b) = a.gcd b := by
  rw [Int.fmod_def, Int.gcd_comm]
  have := Int.gcd_sub_mul_right_left b a (a.fdiv b)
  rw [Int.mul_comm b]
  exact this
/-- what in_lowest tells of a top, a bottom and their divisor -/
theorem low_eq {a b g : Int} (h : b ≠ 0) (hg : g = if b < 0 then 0 - (a.gcd b : Int) else (a.gcd b : Int)) :
    D.tup [.int (a.fdiv g), .int (b.fdiv g)] = q (Rat.divInt a b) := by
  have hp : 0 < a.gcd b := Int.gcd_pos_iff.2 (Or.inr h)
  obtain ⟨m, hm⟩ := Int.gcd_dvd_left a b
  obtain ⟨k, hk⟩ := Int.gcd_dvd_right a b
  unfold q
  rw [Rat.num_divInt, Rat.den_divInt, if_neg h, Int.gcd_comm b a]
  generalize hG : a.gcd b = G at *
  have hG0 : (G : Int) ≠ 0 := by omega
  by_cases hb : b < 0
  · have eg : g = -(G : Int) := by rw [hg, if_pos hb]; omega
    have e1 : a.fdiv g = -m := by
      rw [eg, Int.fdiv_eq_ediv_of_dvd ⟨-m, by rw [hm]; grind⟩, Int.ediv_neg]
      conv => lhs; rw [hm]
      rw [Int.mul_ediv_cancel_left _ hG0]
    have e2 : b.fdiv g = -k := by
      rw [eg, Int.fdiv_eq_ediv_of_dvd ⟨-k, by rw [hk]; grind⟩, Int.ediv_neg]
      conv => lhs; rw [hk]
      rw [Int.mul_ediv_cancel_left _ hG0]
    have e3 : b.sign * a / (G : Int) = -m := by
      rw [Int.sign_eq_neg_one_of_neg hb]
      have : -1 * a = (G : Int) * (-m) := by rw [hm]; grind
      rw [this, Int.mul_ediv_cancel_left _ hG0]
    have e4 : ((b.natAbs / G : Nat) : Int) = -k := by
      rw [Int.natCast_ediv, Int.ofNat_natAbs_of_nonpos (by omega)]
      have : -b = (G : Int) * (-k) := by rw [hk]; grind
      rw [this, Int.mul_ediv_cancel_left _ hG0]
    rw [e1, e2, e3, e4]
  · have hb2 : 0 < b := by omega
    have eg : g = (G : Int) := by rw [hg, if_neg hb]
    have e1 : a.fdiv g = m := by
      rw [eg, Int.fdiv_eq_ediv_of_dvd ⟨m, hm⟩]
      conv => lhs; rw [hm]
      rw [Int.mul_ediv_cancel_left _ hG0]
    have e2 : b.fdiv g = k := by
      rw [eg, Int.fdiv_eq_ediv_of_dvd ⟨k, hk⟩]
      conv => lhs; rw [hk]
      rw [Int.mul_ediv_cancel_left _ hG0]
    have e3 : b.sign * a / (G : Int) = m := by
      rw [Int.sign_eq_one_of_pos hb2, Int.one_mul]
      conv => lhs; rw [hm]
      rw [Int.mul_ediv_cancel_left _ hG0]
    have e4 : ((b.natAbs / G : Nat) : Int) = k := by
      rw [Int.natCast_ediv, Int.natAbs_of_nonneg (by omega)]
      conv => lhs; rw [hk]
      rw [Int.mul_ediv_cancel_left _ hG0]
    rw [e1, e2, e3, e4]
end HP
namespace HP
open PySem L2
def F_none : Fn := ⟨0, 0, .nil⟩
def F_alone_of : Fn := ⟨4, 14,
 (.cons (.asg (.tup (.cons (.name 4) (.cons (.name 5) .nil))) (.ix (.var 1) (.var 3)))
 (.cons (.set 6 (.call 164 (.cons (.var 4) (.cons (.var 5) .nil))))
 (.cons (.set 7 (.call 126 (.cons (.var 2) (.cons (.var 6) .nil))))
 (.cons (.for_ (.tup (.cons (.name 8) (.cons (.name 9) (.cons (.name 10) .nil)))) (.seq (.ix (.var 0) (.int 1))) (.cons (.ite (.cmp .eq (.var 8) (.var 3)) (.cons (.set 7 (.call 210 (.cons (.var 7) (.cons (.call 126 (.cons (.call 126 (.cons (.ix (.ix (.var 1) (.var 9)) (.int 0)) (.cons (.var 6) .nil))) (.cons (.var 10) .nil))) .nil))))
 .nil) .nil)
 .nil))
 (.cons (.for_ (.tup (.cons (.name 11) (.cons (.name 12) (.cons (.name 13) .nil)))) (.seq (.ix (.var 0) (.int 2))) (.cons (.ite (.band (.cons (.cmp .eq (.var 12) (.var 3)) (.cons (.cmp .eq (.var 11) (.str "till")) .nil))) (.cons (.set 7 (.call 210 (.cons (.var 7) (.cons (.call 126 (.cons (.var 13) (.cons (.var 4) .nil))) .nil))))
 .nil) (.cons (.ite (.band (.cons (.cmp .eq (.var 12) (.var 3)) (.cons (.cmp .eq (.var 11) (.str "by")) .nil))) (.cons (.set 7 (.call 210 (.cons (.var 7) (.cons (.call 126 (.cons (.var 13) (.cons (.var 6) .nil))) .nil))))
 .nil) .nil)
 .nil))
 .nil))
 (.cons (.ret (.var 7))
 .nil))))))⟩
def F_amounts_of : Fn := ⟨2, 2,
 (.cons (.expr (.call 118 (.cons (.var 0) (.cons (.var 1) .nil))))
 (.cons (.ret (.call 56 (.cons (.var 0) (.cons (.var 1) .nil))))
 .nil))⟩
def F_are_corners : Fn := ⟨1, 3,
 (.cons (.ite (.bor (.cons (.bnot (.bcall .isin (.cons (.var 0) (.cons (.con (.ty .list)) .nil)))) (.cons (.bnot (.chain .le .le (.int 1) (.bcall .len (.cons (.var 0) .nil)) (.con (.int 5)))) .nil))) (.cons (.ret (.bl false))
 .nil) .nil)
 (.cons (.ite (.bnot (.bcall .all (.cons (.lc (.call 70 (.cons (.var 1) .nil)) (.name 1) (.seq (.var 0)) .none [1]) .nil))) (.cons (.ret (.bl false))
 .nil) .nil)
 (.cons (.for_ (.tup (.cons (.name 1) (.cons (.name 2) .nil))) (.zip (.var 0) (.sl (.var 0) (.some (.int 1)) .none)) (.cons (.ite (.bor (.cons (.bnot (.call 74 (.cons (.ix (.var 2) (.int 0)) (.cons (.ix (.var 1) (.int 0)) .nil)))) (.cons (.bnot (.call 74 (.cons (.ix (.var 1) (.int 1)) (.cons (.ix (.var 2) (.int 1)) .nil)))) .nil))) (.cons (.ret (.bl false))
 .nil) .nil)
 .nil))
 (.cons (.ret (.bl true))
 .nil))))⟩
def F_are_hollow : Fn := ⟨1, 4,
 (.cons (.set 1 (.lc (.call 176 (.cons (.var 2) (.cons (.var 3) .nil))) (.tup (.cons (.name 2) (.cons (.name 3) .nil))) (.zip (.var 0) (.sl (.var 0) (.some (.int 1)) .none)) .none [2, 3]))
 (.cons (.ret (.bcall .all (.cons (.lc (.call 74 (.cons (.var 2) (.cons (.var 3) .nil))) (.tup (.cons (.name 2) (.cons (.name 3) .nil))) (.zip (.var 1) (.sl (.var 1) (.some (.int 1)) .none)) .none [2, 3]) .nil)))
 .nil))⟩
def F_bars : Fn := ⟨3, 6,
 (.cons (.asg (.tup (.cons (.name 3) (.cons (.name 4) (.cons (.name 5) .nil)))) (.call 37 (.cons (.var 0) (.cons (.var 1) .nil))))
 (.cons (.ret (.call 74 (.cons (.call 169 (.cons (.var 4) (.cons (.var 2) .nil))) (.cons (.var 5) .nil))))
 .nil))⟩
def F_broken_group : Fn := ⟨2, 6,
 (.cons (.for_ (.tup (.cons (.name 2) (.cons (.name 3) .nil))) (.enm (.ix (.var 0) (.int 3))) (.cons (.set 4 (.lc (.call 43 (.cons (.var 0) (.cons (.var 1) (.cons (.var 5) .nil)))) (.name 5) (.seq (.var 3)) .none [5]))
 (.cons (.ite (.cmp .ne (.var 4) (.bin .mul (.lst (.cons (.ix (.var 4) (.int 0)) .nil)) (.bcall .len (.cons (.var 4) .nil)))) (.cons (.ret (.tup (.cons (.str "group") (.cons (.var 2) .nil))))
 .nil) .nil)
 .nil)))
 (.cons (.ret .non)
 .nil))⟩
def F_broken_hold : Fn := ⟨3, 8,
 (.cons (.for_ (.tup (.cons (.name 3) (.cons (.tup (.cons (.name 4) (.cons (.name 5) (.cons (.name 6) .nil)))) .nil))) (.enm (.ix (.var 0) (.int 2))) (.cons (.set 7 (.bor (.cons (.band (.cons (.cmp .eq (.var 4) (.str "till")) (.cons (.call 74 (.cons (.var 6) (.cons (.ix (.ix (.var 1) (.var 5)) (.int 0)) .nil))) .nil))) (.cons (.band (.cons (.cmp .eq (.var 4) (.str "by")) (.cons (.call 74 (.cons (.var 6) (.cons (.ix (.var 2) (.var 5)) .nil))) .nil))) .nil))))
 (.cons (.ite (.bor (.cons (.var 7) (.cons (.band (.cons (.cmp .eq (.var 4) (.str "from")) (.cons (.call 74 (.cons (.ix (.ix (.var 1) (.var 5)) (.int 0)) (.cons (.var 6) .nil))) .nil))) .nil))) (.cons (.ret (.tup (.cons (.str "hold") (.cons (.var 3) .nil))))
 .nil) .nil)
 .nil)))
 (.cons (.ret .non)
 .nil))⟩
def F_broken_start : Fn := ⟨1, 3,
 (.cons (.for_ (.tup (.cons (.name 1) (.cons (.name 2) .nil))) (.enm (.var 0)) (.cons (.ite (.call 74 (.cons (.ix (.var 2) (.int 0)) (.cons (.con (.tup [(.int 0), (.int 1)])) .nil))) (.cons (.ret (.tup (.cons (.str "start") (.cons (.var 1) .nil))))
 .nil) .nil)
 .nil))
 (.cons (.ret .non)
 .nil))⟩
def F_broken_time : Fn := ⟨2, 5,
 (.cons (.for_ (.tup (.cons (.name 2) (.cons (.tup (.cons (.name 3) (.cons (.name 4) .nil))) .nil))) (.enm (.ix (.var 0) (.int 0))) (.cons (.ite (.bnot (.call 82 (.cons (.var 4) (.cons (.ix (.ix (.var 1) (.var 2)) (.int 1)) .nil)))) (.cons (.ret (.tup (.cons (.str "time") (.cons (.var 2) .nil))))
 .nil) .nil)
 .nil))
 (.cons (.ret .non)
 .nil))⟩
def F_broken_wait : Fn := ⟨3, 7,
 (.cons (.for_ (.tup (.cons (.name 3) (.cons (.tup (.cons (.name 4) (.cons (.name 5) (.cons (.name 6) .nil)))) .nil))) (.enm (.ix (.var 0) (.int 1))) (.cons (.ite (.call 74 (.cons (.ix (.ix (.var 1) (.var 5)) (.int 0)) (.cons (.call 164 (.cons (.ix (.var 2) (.var 4)) (.cons (.var 6) .nil))) .nil))) (.cons (.ret (.tup (.cons (.str "wait") (.cons (.var 3) .nil))))
 .nil) .nil)
 .nil))
 (.cons (.ret .non)
 .nil))⟩
def F_broken_whole : Fn := ⟨2, 4,
 (.cons (.for_ (.tup (.cons (.name 2) (.cons (.name 3) .nil))) (.enm (.var 0)) (.cons (.ite (.call 74 (.cons (.var 1) (.cons (.var 3) .nil))) (.cons (.ret (.tup (.cons (.str "whole") (.cons (.var 2) .nil))))
 .nil) .nil)
 .nil))
 (.cons (.ret .non)
 .nil))⟩
def F_by_falls : Fn := ⟨2, 6,
 (.cons (.set 2 (.lst .nil))
 (.cons (.set 3 (.int 0))
 (.cons (.for_ (.tup (.cons (.name 4) (.cons (.name 5) .nil))) (.seq (.var 1)) (.cons (.whl (.band (.cons (.cmp .lt (.var 3) (.bcall .len (.cons (.var 0) .nil))) (.cons (.call 74 (.cons (.var 4) (.cons (.ix (.ix (.var 0) (.var 3)) (.int 0)) .nil))) .nil))) (.cons (.expr (.meth .append (.var 2) (.cons (.ix (.var 0) (.var 3)) .nil)))
 (.cons (.set 3 (.bin .add (.var 3) (.int 1)))
 .nil)))
 (.cons (.ite (.band (.cons (.cmp .lt (.var 3) (.bcall .len (.cons (.var 0) .nil))) (.cons (.cmp .eq (.ix (.ix (.var 0) (.var 3)) (.int 0)) (.var 4)) .nil))) (.cons (.set 5 (.call 164 (.cons (.var 5) (.cons (.ix (.ix (.var 0) (.var 3)) (.int 1)) .nil))))
 (.cons (.set 3 (.bin .add (.var 3) (.int 1)))
 .nil)) .nil)
 (.cons (.expr (.meth .append (.var 2) (.cons (.tup (.cons (.var 4) (.cons (.var 5) .nil))) .nil)))
 .nil))))
 (.cons (.ret (.bin .add (.var 2) (.sl (.var 0) (.some (.var 3)) .none)))
 .nil))))⟩
def F_carried_paper : Fn := ⟨3, 9,
 (.cons (.expr (.call 28 (.cons (.var 0) (.cons (.var 1) .nil))))
 (.cons (.set 3 (.lst .nil))
 (.cons (.for_ (.tup (.cons (.tup (.cons (.name 4) (.cons (.name 5) .nil))) (.cons (.name 6) .nil))) (.seq (.var 2)) (.cons (.ite (.bnot (.call 73 (.cons (.var 0) (.cons (.var 1) (.cons (.tup (.cons (.var 4) (.cons (.var 5) .nil))) .nil))))) (.cons (.ret .non)
 .nil) .nil)
 (.cons (.set 7 (.lc (.var 8) (.name 8) (.rng1 (.var 5)) (.some (.call 73 (.cons (.var 0) (.cons (.var 1) (.cons (.tup (.cons (.var 4) (.cons (.var 8) .nil))) .nil))))) [8]))
 (.cons (.expr (.meth .append (.var 3) (.cons (.tup (.cons (.tup (.cons (.var 4) (.cons (.bcall .len (.cons (.var 7) .nil)) .nil))) (.cons (.var 6) .nil))) .nil)))
 .nil))))
 (.cons (.ret (.var 3))
 .nil))))⟩
def F_carried_plan : Fn := ⟨3, 4,
 (.cons (.set 3 (.ix (.call 28 (.cons (.var 0) (.cons (.var 1) .nil))) (.int 0)))
 (.cons (.ite (.cmp .eq (.ix (.var 1) (.int 0)) (.str "gone")) (.cons (.ret (.bin .add (.sl (.var 2) .none (.some (.ix (.var 1) (.int 1)))) (.sl (.var 2) (.some (.bin .add (.ix (.var 1) (.int 1)) (.int 1))) .none)))
 .nil) .nil)
 (.cons (.ite (.cmp .eq (.ix (.var 1) (.int 0)) (.str "work")) (.cons (.ret (.bin .add (.var 2) (.lst (.cons (.tup (.cons (.con (.tup [(.int 0), (.int 1)])) (.cons (.ix (.ix (.ix (.ix (.ix (.var 3) (.neg (.int 1))) (.int 1)) (.int 1)) (.int 0)) (.int 0)) .nil))) .nil))))
 .nil) .nil)
 (.cons (.ret (.bcall .list (.cons (.var 2) .nil)))
 .nil))))⟩
def F_changed : Fn := ⟨2, 4,
 (.cons (.ite (.bnot (.call 68 (.cons (.var 0) (.cons (.var 1) .nil)))) (.cons (.rse 11 [] .nil)
 .nil) .nil)
 (.cons (.set 2 (.call 134 (.cons (.var 0) (.cons (.var 1) .nil))))
 (.cons (.set 3 (.bl false))
 (.cons (.try_ (.cons (.expr (.call 117 (.cons (.var 2) .nil)))
 .nil) (.cons (some 3) none (.cons (.set 3 (.bl true))
 .nil) .nil) [1, 3])
 (.cons (.ite (.var 3) (.cons (.rse 11 [] .nil)
 .nil) .nil)
 (.cons (.ret (.call 41 (.cons (.var 2) .nil)))
 .nil))))))⟩
def F_claimed : Fn := ⟨3, 6,
 (.cons (.asg (.tup (.cons (.name 3) (.cons (.name 4) (.cons (.name 5) .nil)))) (.call 37 (.cons (.var 0) (.cons (.var 1) .nil))))
 (.cons (.ret (.call 126 (.cons (.var 3) (.cons (.call 169 (.cons (.var 4) (.cons (.var 2) .nil))) .nil))))
 .nil))⟩
def F_claims_of : Fn := ⟨2, 8,
 (.cons (.set 2 (.call 5 (.cons (.var 0) (.cons (.var 1) .nil))))
 (.cons (.set 3 (.call 230 (.cons (.var 0) (.cons (.var 1) .nil))))
 (.cons (.set 4 (.var 3))
 (.cons (.for_ (.tup (.cons (.name 5) (.cons (.name 6) .nil))) (.enm (.var 2)) (.cons (.set 7 (.ix (.ix (.ix (.var 0) (.int 0)) (.var 5)) (.int 1)))
 (.cons (.set 3 (.call 164 (.cons (.var 3) (.cons (.call 105 (.cons (.var 7) (.cons (.var 6) .nil))) .nil))))
 (.cons (.set 4 (.call 164 (.cons (.var 4) (.cons (.call 169 (.cons (.var 6) (.cons (.ix (.ix (.ix (.var 7) (.int 1)) (.neg (.int 1))) (.int 0)) .nil))) .nil))))
 .nil))))
 (.cons (.ret (.tup (.cons (.var 3) (.cons (.call 177 (.cons (.var 1) .nil)) (.cons (.var 4) .nil)))))
 .nil)))))⟩
def F_corner_of : Fn := ⟨3, 5,
 (.cons (.set 3 (.lc (.ix (.var 4) (.int 0)) (.name 4) (.seq (.ix (.ix (.ix (.ix (.var 0) (.int 0)) (.var 2)) (.int 1)) (.int 1))) .none [4]))
 (.cons (.ret (.meth .index (.var 3) (.cons (.ix (.ix (.var 1) (.var 2)) (.int 1)) .nil)))
 .nil))⟩
def F_cut_at : Fn := ⟨2, 6,
 (.cons (.asg (.tup (.cons (.name 2) (.cons (.name 3) .nil))) (.var 0))
 (.cons (.ite (.call 74 (.cons (.ix (.ix (.var 3) (.int 0)) (.int 0)) (.cons (.var 1) .nil))) (.cons (.ret (.tup (.cons (.var 2) (.cons (.lst (.cons (.tup (.cons (.var 1) (.cons (.ix (.ix (.var 3) (.int 0)) (.int 1)) .nil))) .nil)) .nil))))
 .nil) .nil)
 (.cons (.ite (.cmp .eq (.var 2) (.str "steps")) (.cons (.ret (.tup (.cons (.var 2) (.cons (.lc (.var 5) (.name 5) (.seq (.var 3)) (.some (.bnot (.call 74 (.cons (.ix (.var 5) (.int 0)) (.cons (.var 1) .nil))))) [5]) .nil))))
 .nil) .nil)
 (.cons (.ite (.bnot (.call 74 (.cons (.ix (.ix (.var 3) (.neg (.int 1))) (.int 0)) (.cons (.var 1) .nil)))) (.cons (.ret (.tup (.cons (.var 2) (.cons (.bcall .list (.cons (.var 3) .nil)) .nil))))
 .nil) .nil)
 (.cons (.set 4 (.lc (.var 5) (.name 5) (.seq (.var 3)) (.some (.call 74 (.cons (.var 1) (.cons (.ix (.var 5) (.int 0)) .nil)))) [5]))
 (.cons (.ret (.tup (.cons (.var 2) (.cons (.bin .add (.var 4) (.lst (.cons (.tup (.cons (.var 1) (.cons (.call 167 (.cons (.var 0) (.cons (.var 1) .nil))) .nil))) .nil))) .nil))))
 .nil))))))⟩
def F_divisor : Fn := ⟨2, 2,
 (.cons (.whl (.cmp .ne (.var 1) (.int 0)) (.cons (.par 0 1 (.var 1) (.bin .mod (.var 0) (.var 1)))
 .nil))
 (.cons (.ret (.bcall .abs (.cons (.var 0) .nil)))
 .nil))⟩
def F_earliest : Fn := ⟨2, 9,
 (.cons (.set 0 (.call 222 (.cons (.var 0) (.cons (.var 1) .nil))))
 (.cons (.set 2 (.call 213 (.cons (.var 0) .nil)))
 (.cons (.set 3 .non)
 (.cons (.for_ (.name 4) (.rng1 (.bcall .len (.cons (.var 1) .nil))) (.cons (.set 3 (.call 171 (.cons (.var 0) (.cons (.var 1) (.cons (.var 2) .nil)))))
 .nil))
 (.cons (.ite (.cmp .isn (.var 3) .non) (.cons (.ret (.tup (.cons (.str "ring") (.cons (.call 149 (.cons (.call 187 (.cons (.var 0) (.cons (.var 2) (.cons (.var 3) (.cons (.int 0) .nil))))) .nil)) .nil))))
 .nil) .nil)
 (.cons (.for_ (.tup (.cons (.name 5) (.cons (.name 6) .nil))) (.enm (.call 99 (.cons (.var 0) (.cons (.var 1) (.cons .non .nil))))) (.cons (.ite (.band (.cons (.cmp .isn (.var 6) .non) (.cons (.call 74 (.cons (.ix (.var 6) (.int 0)) (.cons (.ix (.ix (.var 2) (.var 5)) (.int 0)) .nil))) .nil))) (.cons (.ret (.tup (.cons (.str "ring") (.cons (.call 149 (.cons (.bin .add (.call 229 (.cons (.var 0) (.cons (.var 2) (.cons (.var 5) (.cons (.int 0) .nil))))) (.lst (.cons (.ix (.var 6) (.int 1)) .nil))) .nil)) .nil))))
 .nil) .nil)
 .nil))
 (.cons (.ret (.tup (.cons (.str "starts") (.cons (.lc (.var 7) (.tup (.cons (.name 7) (.cons (.name 8) .nil))) (.seq (.var 2)) .none [7, 8]) .nil))))
 .nil)))))))⟩
def F_ends_of : Fn := ⟨1, 3,
 (.cons (.ret (.lc (.call 164 (.cons (.var 1) (.cons (.var 2) .nil))) (.tup (.cons (.name 1) (.cons (.name 2) .nil))) (.seq (.var 0)) .none [1, 2]))
 .nil)⟩
def F_fall_of : Fn := ⟨2, 2,
 (.cons (.ret (.call 152 (.cons (.call 126 (.cons (.ix (.var 0) (.int 1)) (.cons (.ix (.var 1) (.int 1)) .nil))) (.cons (.call 126 (.cons (.ix (.var 1) (.int 0)) (.cons (.ix (.var 0) (.int 0)) .nil))) .nil))))
 .nil)⟩
def F_first_broken : Fn := ⟨3, 5,
 (.cons (.set 3 (.call 18 (.cons (.var 0) (.cons (.var 1) .nil))))
 (.cons (.ite (.cmp .is (.var 3) .non) (.cons (.set 3 (.call 15 (.cons (.var 0) (.cons (.var 1) .nil))))
 .nil) .nil)
 (.cons (.ite (.cmp .is (.var 3) .non) (.cons (.set 3 (.call 17 (.cons (.var 1) .nil)))
 .nil) .nil)
 (.cons (.set 4 (.call 50 (.cons (.var 1) .nil)))
 (.cons (.ite (.cmp .is (.var 3) .non) (.cons (.set 3 (.call 19 (.cons (.var 0) (.cons (.var 1) (.cons (.var 4) .nil)))))
 .nil) .nil)
 (.cons (.ite (.cmp .is (.var 3) .non) (.cons (.set 3 (.call 16 (.cons (.var 0) (.cons (.var 1) (.cons (.var 4) .nil)))))
 .nil) .nil)
 (.cons (.ite (.band (.cons (.cmp .is (.var 3) .non) (.cons (.cmp .isn (.var 2) .non) .nil))) (.cons (.set 3 (.call 20 (.cons (.var 4) (.cons (.var 2) .nil))))
 .nil) .nil)
 (.cons (.ret (.var 3))
 .nil))))))))⟩
def F_gone_in : Fn := ⟨2, 7,
 (.cons (.set 2 (.lc (.con (.tup [(.int 0), (.int 1)])) (.name 6) (.seq (.ix (.var 0) (.int 0))) .none [6]))
 (.cons (.for_ (.tup (.cons (.tup (.cons (.name 3) (.cons (.name 4) .nil))) (.cons (.name 5) .nil))) (.seq (.var 1)) (.cons (.ite (.cmp .eq (.var 3) (.str "start")) (.cons (.setIx (.var 2) (.var 4) (.call 164 (.cons (.ix (.var 2) (.var 4)) (.cons (.var 5) .nil))))
 .nil) (.cons (.ite (.cmp .eq (.var 3) (.str "wait")) (.cons (.setIx (.var 2) (.ix (.ix (.ix (.var 0) (.int 1)) (.var 4)) (.int 1)) (.call 164 (.cons (.ix (.var 2) (.ix (.ix (.ix (.var 0) (.int 1)) (.var 4)) (.int 1))) (.cons (.var 5) .nil))))
 .nil) (.cons (.ite (.band (.cons (.cmp .eq (.var 3) (.str "hold")) (.cons (.cmp .eq (.ix (.ix (.ix (.var 0) (.int 2)) (.var 4)) (.int 0)) (.str "from")) .nil))) (.cons (.setIx (.var 2) (.ix (.ix (.ix (.var 0) (.int 2)) (.var 4)) (.int 1)) (.call 164 (.cons (.ix (.var 2) (.ix (.ix (.ix (.var 0) (.int 2)) (.var 4)) (.int 1))) (.cons (.var 5) .nil))))
 .nil) (.cons (.ite (.band (.cons (.cmp .eq (.var 3) (.str "hold")) (.cons (.cmp .eq (.ix (.ix (.ix (.var 0) (.int 2)) (.var 4)) (.int 0)) (.str "till")) .nil))) (.cons (.setIx (.var 2) (.ix (.ix (.ix (.var 0) (.int 2)) (.var 4)) (.int 1)) (.call 126 (.cons (.ix (.var 2) (.ix (.ix (.ix (.var 0) (.int 2)) (.var 4)) (.int 1))) (.cons (.var 5) .nil))))
 .nil) .nil)
 .nil))
 .nil))
 .nil))
 .nil))
 (.cons (.ret (.var 2))
 .nil)))⟩
def F_gone_off : Fn := ⟨2, 7,
 (.cons (.set 2 (.lc (.con (.tup [(.int 0), (.int 1)])) (.name 6) (.seq (.ix (.var 0) (.int 0))) .none [6]))
 (.cons (.for_ (.tup (.cons (.tup (.cons (.name 3) (.cons (.name 4) .nil))) (.cons (.name 5) .nil))) (.seq (.var 1)) (.cons (.ite (.cmp .eq (.var 3) (.str "end")) (.cons (.setIx (.var 2) (.var 4) (.call 164 (.cons (.ix (.var 2) (.var 4)) (.cons (.var 5) .nil))))
 .nil) (.cons (.ite (.cmp .eq (.var 3) (.str "wait")) (.cons (.setIx (.var 2) (.ix (.ix (.ix (.var 0) (.int 1)) (.var 4)) (.int 0)) (.call 164 (.cons (.ix (.var 2) (.ix (.ix (.ix (.var 0) (.int 1)) (.var 4)) (.int 0))) (.cons (.var 5) .nil))))
 .nil) (.cons (.ite (.band (.cons (.cmp .eq (.var 3) (.str "hold")) (.cons (.cmp .eq (.ix (.ix (.ix (.var 0) (.int 2)) (.var 4)) (.int 0)) (.str "by")) .nil))) (.cons (.setIx (.var 2) (.ix (.ix (.ix (.var 0) (.int 2)) (.var 4)) (.int 1)) (.call 164 (.cons (.ix (.var 2) (.ix (.ix (.ix (.var 0) (.int 2)) (.var 4)) (.int 1))) (.cons (.var 5) .nil))))
 .nil) .nil)
 .nil))
 .nil))
 .nil))
 (.cons (.ret (.var 2))
 .nil)))⟩
def F_in_lowest : Fn := ⟨2, 3,
 (.cons (.set 2 (.call 46 (.cons (.var 0) (.cons (.var 1) .nil))))
 (.cons (.ite (.cmp .lt (.var 1) (.int 0)) (.cons (.set 2 (.bin .sub (.int 0) (.var 2)))
 .nil) .nil)
 (.cons (.ret (.tup (.cons (.bin .fdiv (.var 0) (.var 2)) (.cons (.bin .fdiv (.var 1) (.var 2)) .nil))))
 .nil)))⟩
def F_is_amount : Fn := ⟨1, 1,
 (.cons (.ret (.band (.cons (.call 88 (.cons (.var 0) .nil)) (.cons (.cmp .ge (.ix (.var 0) (.int 0)) (.int 0)) .nil))))
 .nil)⟩
def F_is_arc : Fn := ⟨2, 2,
 (.cons (.ite (.bor (.cons (.bnot (.bcall .isin (.cons (.var 1) (.cons (.con (.ty .tuple)) .nil)))) (.cons (.cmp .ne (.bcall .len (.cons (.var 1) .nil)) (.int 2)) (.cons (.bnot (.bcall .isin (.cons (.ix (.var 1) (.int 0)) (.cons (.con (.ty .str)) .nil)))) .nil)))) (.cons (.ret (.bl false))
 .nil) .nil)
 (.cons (.ite (.bor (.cons (.kin true (.ix (.var 1) (.int 0)) [(("start" : Str), 0), (("end" : Str), 0), (("wait" : Str), 1), (("hold" : Str), 2)]) (.cons (.bnot (.call 95 (.cons (.ix (.var 1) (.int 1)) .nil))) .nil))) (.cons (.ret (.bl false))
 .nil) .nil)
 (.cons (.ret (.chain .le .lt (.int 0) (.ix (.var 1) (.int 1)) (.bcall .len (.cons (.ix (.var 0) (.kix [(("start" : Str), 0), (("end" : Str), 0), (("wait" : Str), 1), (("hold" : Str), 2)] (.ix (.var 1) (.int 0)))) .nil))))
 .nil)))⟩
def F_is_change : Fn := ⟨2, 3,
 (.cons (.ite (.bor (.cons (.bnot (.bcall .isin (.cons (.var 1) (.cons (.con (.ty .tuple)) .nil)))) (.cons (.cmp .lt (.bcall .len (.cons (.var 1) .nil)) (.int 2)) (.cons (.bnot (.bcall .isin (.cons (.ix (.var 1) (.int 0)) (.cons (.con (.ty .str)) .nil)))) .nil)))) (.cons (.ret (.bl false))
 .nil) .nil)
 (.cons (.set 2 (.ix (.var 1) (.int 0)))
 (.cons (.ite (.kin false (.var 2) [(("work" : Str), 0), (("wait" : Str), 1), (("hold" : Str), 2), (("group" : Str), 3), (("unwait" : Str), (-1)), (("unhold" : Str), (-1)), (("ungroup" : Str), (-1)), (("offer" : Str), (-1)), (("lag" : Str), (-1)), (("moment" : Str), (-1)), (("gone" : Str), (-1))]) (.cons (.ret (.cmp .eq (.bcall .len (.cons (.var 1) .nil)) (.int 2)))
 .nil) .nil)
 (.cons (.ite (.kin false (.var 2) [(("unwait" : Str), 1), (("unhold" : Str), 2), (("ungroup" : Str), 3), (("work" : Str), (-1)), (("wait" : Str), (-1)), (("hold" : Str), (-1)), (("group" : Str), (-1)), (("offer" : Str), (-1)), (("lag" : Str), (-1)), (("moment" : Str), (-1)), (("gone" : Str), (-1))]) (.cons (.ret (.band (.cons (.cmp .eq (.bcall .len (.cons (.var 1) .nil)) (.int 2)) (.cons (.call 79 (.cons (.var 0) (.cons (.kix [(("unwait" : Str), 1), (("unhold" : Str), 2), (("ungroup" : Str), 3), (("work" : Str), (-1)), (("wait" : Str), (-1)), (("hold" : Str), (-1)), (("group" : Str), (-1)), (("offer" : Str), (-1)), (("lag" : Str), (-1)), (("moment" : Str), (-1)), (("gone" : Str), (-1))] (.var 2)) (.cons (.ix (.var 1) (.int 1)) .nil)))) .nil))))
 .nil) .nil)
 (.cons (.ite (.kin false (.var 2) [(("offer" : Str), 0), (("lag" : Str), 1), (("moment" : Str), 2), (("work" : Str), (-1)), (("wait" : Str), (-1)), (("hold" : Str), (-1)), (("group" : Str), (-1)), (("unwait" : Str), (-1)), (("unhold" : Str), (-1)), (("ungroup" : Str), (-1)), (("gone" : Str), (-1))]) (.cons (.ret (.band (.cons (.cmp .eq (.bcall .len (.cons (.var 1) .nil)) (.int 3)) (.cons (.call 79 (.cons (.var 0) (.cons (.kix [(("offer" : Str), 0), (("lag" : Str), 1), (("moment" : Str), 2), (("work" : Str), (-1)), (("wait" : Str), (-1)), (("hold" : Str), (-1)), (("group" : Str), (-1)), (("unwait" : Str), (-1)), (("unhold" : Str), (-1)), (("ungroup" : Str), (-1)), (("gone" : Str), (-1))] (.var 2)) (.cons (.ix (.var 1) (.int 1)) .nil)))) .nil))))
 .nil) .nil)
 (.cons (.ret (.band (.cons (.cmp .eq (.var 2) (.str "gone")) (.cons (.cmp .eq (.bcall .len (.cons (.var 1) .nil)) (.int 2)) (.cons (.call 79 (.cons (.var 0) (.cons (.int 0) (.cons (.ix (.var 1) (.int 1)) .nil)))) .nil)))))
 .nil))))))⟩
def F_is_corner : Fn := ⟨1, 1,
 (.cons (.ret (.band (.cons (.bcall .isin (.cons (.var 0) (.cons (.con (.ty .tuple)) .nil))) (.cons (.cmp .eq (.bcall .len (.cons (.var 0) .nil)) (.int 2)) (.cons (.call 62 (.cons (.ix (.var 0) (.int 0)) .nil)) (.cons (.call 62 (.cons (.ix (.var 0) (.int 1)) .nil)) .nil))))))
 .nil)⟩
def F_is_group : Fn := ⟨3, 7,
 (.cons (.ite (.bor (.cons (.bnot (.bcall .isin (.cons (.var 0) (.cons (.con (.ty .list)) .nil)))) (.cons (.cmp .lt (.bcall .len (.cons (.var 0) .nil)) (.int 2)) .nil))) (.cons (.ret (.bl false))
 .nil) .nil)
 (.cons (.for_ (.tup (.cons (.name 3) (.cons (.name 4) .nil))) (.enm (.var 0)) (.cons (.ite (.bor (.cons (.bnot (.call 80 (.cons (.var 4) (.cons (.bcall .len (.cons (.var 1) .nil)) .nil)))) (.cons (.cmp .inn (.var 4) (.sl (.var 0) .none (.some (.var 3)))) (.cons (.cmp .inn (.var 4) (.var 2)) .nil)))) (.cons (.ret (.bl false))
 .nil) .nil)
 .nil))
 (.cons (.set 5 (.lc (.ix (.ix (.var 1) (.var 4)) (.int 1)) (.name 4) (.seq (.var 0)) .none [4]))
 (.cons (.ret (.bcall .all (.cons (.lc (.band (.cons (.cmp .eq (.ix (.var 6) (.int 0)) (.str "steps")) (.cons (.cmp .eq (.bcall .len (.cons (.ix (.var 6) (.int 1)) .nil)) (.bcall .len (.cons (.ix (.ix (.var 5) (.int 0)) (.int 1)) .nil))) .nil))) (.name 6) (.seq (.var 5)) .none [6]) .nil)))
 .nil))))⟩
def F_is_left : Fn := ⟨3, 5,
 (.cons (.asg (.tup (.cons (.name 3) (.cons (.name 4) .nil))) (.var 2))
 (.cons (.ite (.band (.cons (.cmp .eq (.ix (.var 1) (.int 0)) (.str "gone")) (.cons (.cmp .eq (.var 3) (.str "wait")) .nil))) (.cons (.ret (.cmp .nin (.ix (.var 1) (.int 1)) (.sl (.ix (.ix (.var 0) (.int 1)) (.var 4)) .none (.some (.int 2)))))
 .nil) .nil)
 (.cons (.ite (.band (.cons (.cmp .eq (.ix (.var 1) (.int 0)) (.str "gone")) (.cons (.cmp .eq (.var 3) (.str "hold")) .nil))) (.cons (.ret (.cmp .ne (.ix (.ix (.ix (.var 0) (.int 2)) (.var 4)) (.int 1)) (.ix (.var 1) (.int 1))))
 .nil) .nil)
 (.cons (.ite (.bor (.cons (.cmp .eq (.ix (.var 1) (.int 0)) (.str "gone")) (.cons (.cmp .eq (.ix (.var 1) (.int 0)) (.bin .add (.str "un") (.var 3))) .nil))) (.cons (.ret (.cmp .ne (.var 4) (.ix (.var 1) (.int 1))))
 .nil) .nil)
 (.cons (.ret (.bl true))
 .nil)))))⟩
def F_is_less : Fn := ⟨2, 2,
 (.cons (.ret (.cmp .lt (.bin .mul (.ix (.var 0) (.int 0)) (.ix (.var 1) (.int 1))) (.bin .mul (.ix (.var 1) (.int 0)) (.ix (.var 0) (.int 1)))))
 .nil)⟩
def F_is_name : Fn := ⟨1, 2,
 (.cons (.ite (.bor (.cons (.bnot (.bcall .isin (.cons (.var 0) (.cons (.con (.ty .str)) .nil)))) (.cons (.cmp .eq (.var 0) (.str "")) (.cons (.cmp .gt (.bcall .len (.cons (.var 0) .nil)) (.con (.int 8))) .nil)))) (.cons (.ret (.bl false))
 .nil) .nil)
 (.cons (.ret (.bcall .all (.cons (.lc (.cmp .inn (.var 1) (.con (.str "abcdefghijklmnopqrstuvwxyz"))) (.name 1) (.seq (.var 0)) .none [1]) .nil)))
 .nil))⟩
def F_is_number : Fn := ⟨3, 3,
 (.cons (.ret (.band (.cons (.call 95 (.cons (.var 2) .nil)) (.cons (.chain .le .lt (.int 0) (.var 2) (.bcall .len (.cons (.ix (.var 0) (.var 1)) .nil))) .nil))))
 .nil)⟩
def F_is_number_of : Fn := ⟨2, 2,
 (.cons (.ret (.band (.cons (.call 95 (.cons (.var 0) .nil)) (.cons (.chain .le .lt (.int 0) (.var 0) (.var 1)) .nil))))
 .nil)⟩
def F_is_offer : Fn := ⟨1, 3,
 (.cons (.ite (.bor (.cons (.bnot (.bcall .isin (.cons (.var 0) (.cons (.con (.ty .tuple)) .nil)))) (.cons (.cmp .ne (.bcall .len (.cons (.var 0) .nil)) (.int 2)) .nil))) (.cons (.ret (.bl false))
 .nil) .nil)
 (.cons (.asg (.tup (.cons (.name 1) (.cons (.name 2) .nil))) (.var 0))
 (.cons (.ite (.bor (.cons (.bnot (.bcall .isin (.cons (.var 1) (.cons (.con (.ty .str)) .nil)))) (.cons (.cmp .nin (.var 1) (.con (.tup [(.str "straight"), (.str "steps")]))) (.cons (.bnot (.call 6 (.cons (.var 2) .nil))) .nil)))) (.cons (.ret (.bl false))
 .nil) .nil)
 (.cons (.ret (.bor (.cons (.cmp .eq (.var 1) (.str "steps")) (.cons (.call 7 (.cons (.var 2) .nil)) .nil))))
 .nil))))⟩
def F_is_offered : Fn := ⟨2, 5,
 (.cons (.asg (.tup (.cons (.name 2) (.cons (.name 3) .nil))) (.var 0))
 (.cons (.ite (.cmp .eq (.var 2) (.str "steps")) (.cons (.ret (.cmp .inn (.var 1) (.lc (.ix (.var 4) (.int 0)) (.name 4) (.seq (.var 3)) .none [4])))
 .nil) .nil)
 (.cons (.ret (.band (.cons (.bnot (.call 74 (.cons (.var 1) (.cons (.ix (.ix (.var 3) (.neg (.int 1))) (.int 0)) .nil)))) (.cons (.bnot (.call 74 (.cons (.ix (.ix (.var 3) (.int 0)) (.int 0)) (.cons (.var 1) .nil)))) .nil))))
 .nil)))⟩
def F_is_ratio : Fn := ⟨1, 3,
 (.cons (.ite (.bor (.cons (.bnot (.bcall .isin (.cons (.var 0) (.cons (.con (.ty .tuple)) .nil)))) (.cons (.cmp .ne (.bcall .len (.cons (.var 0) .nil)) (.int 2)) .nil))) (.cons (.ret (.bl false))
 .nil) .nil)
 (.cons (.asg (.tup (.cons (.name 1) (.cons (.name 2) .nil))) (.var 0))
 (.cons (.ite (.bor (.cons (.bnot (.call 95 (.cons (.var 1) .nil))) (.cons (.bnot (.call 95 (.cons (.var 2) .nil))) .nil))) (.cons (.ret (.bl false))
 .nil) .nil)
 (.cons (.ret (.band (.cons (.cmp .gt (.var 2) (.int 0)) (.cons (.cmp .eq (.call 46 (.cons (.var 1) (.cons (.var 2) .nil))) (.int 1)) .nil))))
 .nil))))⟩
def F_is_share : Fn := ⟨2, 2,
 (.cons (.ite (.bor (.cons (.bnot (.bcall .isin (.cons (.var 1) (.cons (.con (.ty .tuple)) .nil)))) (.cons (.cmp .ne (.bcall .len (.cons (.var 1) .nil)) (.int 2)) (.cons (.bnot (.call 63 (.cons (.var 0) (.cons (.ix (.var 1) (.int 0)) .nil)))) .nil)))) (.cons (.ret (.bl false))
 .nil) .nil)
 (.cons (.ret (.band (.cons (.call 88 (.cons (.ix (.var 1) (.int 1)) .nil)) (.cons (.call 74 (.cons (.con (.tup [(.int 0), (.int 1)])) (.cons (.ix (.var 1) (.int 1)) .nil))) .nil))))
 .nil))⟩
def F_is_straight : Fn := ⟨1, 3,
 (.cons (.ret (.bcall .all (.cons (.lc (.cmp .eq (.ix (.var 2) (.int 0)) (.str "straight")) (.tup (.cons (.name 1) (.cons (.name 2) .nil))) (.seq (.ix (.var 0) (.int 0))) .none [1, 2]) .nil)))
 .nil)⟩
def F_is_tight : Fn := ⟨4, 10,
 (.cons (.set 4 (.call 5 (.cons (.var 0) (.cons (.var 1) .nil))))
 (.cons (.ite (.bnot (.bcall .all (.cons (.lc (.call 75 (.cons (.var 0) (.cons (.var 2) (.cons (.var 9) (.cons (.var 3) .nil))))) (.tup (.cons (.name 9) (.cons (.name 6) .nil))) (.seq (.var 1)) .none [9, 6]) .nil))) (.cons (.ret (.bl false))
 .nil) .nil)
 (.cons (.for_ (.tup (.cons (.name 5) (.cons (.name 6) .nil))) (.enm (.var 4)) (.cons (.set 7 (.ix (.ix (.ix (.var 0) (.int 0)) (.var 5)) (.int 1)))
 (.cons (.set 8 (.ix (.ix (.var 2) (.var 5)) (.int 1)))
 (.cons (.ite (.cmp .ne (.call 164 (.cons (.call 167 (.cons (.var 7) (.cons (.var 8) .nil))) (.cons (.call 169 (.cons (.var 6) (.cons (.var 8) .nil))) .nil))) (.call 105 (.cons (.var 7) (.cons (.var 6) .nil)))) (.cons (.ret (.bl false))
 .nil) .nil)
 .nil))))
 (.cons (.ret (.bl true))
 .nil))))⟩
def F_is_whole : Fn := ⟨1, 1,
 (.cons (.ret (.band (.cons (.bcall .isin (.cons (.var 0) (.cons (.con (.ty .int)) .nil))) (.cons (.bnot (.bcall .isin (.cons (.var 0) (.cons (.con (.ty .bool)) .nil)))) .nil))))
 .nil)⟩
def F_is_work : Fn := ⟨1, 1,
 (.cons (.ret (.band (.cons (.bcall .isin (.cons (.var 0) (.cons (.con (.ty .tuple)) .nil))) (.cons (.cmp .eq (.bcall .len (.cons (.var 0) .nil)) (.int 2)) (.cons (.call 76 (.cons (.ix (.var 0) (.int 0)) .nil)) (.cons (.call 81 (.cons (.ix (.var 0) (.int 1)) .nil)) .nil))))))
 .nil)⟩
def F_larger : Fn := ⟨2, 2,
 (.cons (.ite (.call 74 (.cons (.var 0) (.cons (.var 1) .nil))) (.cons (.ret (.var 1))
 .nil) .nil)
 (.cons (.ret (.var 0))
 .nil))⟩
def F_latest : Fn := ⟨3, 10,
 (.cons (.set 0 (.call 222 (.cons (.var 0) (.cons (.var 1) .nil))))
 (.cons (.set 3 (.call 99 (.cons (.var 0) (.cons (.var 1) (.cons (.var 2) .nil)))))
 (.cons (.set 4 .non)
 (.cons (.for_ (.name 5) (.rng1 (.bcall .len (.cons (.var 1) .nil))) (.cons (.set 4 (.call 170 (.cons (.var 0) (.cons (.var 1) (.cons (.var 3) .nil)))))
 .nil))
 (.cons (.ite (.cmp .isn (.var 4) .non) (.cons (.ret (.tup (.cons (.str "bar") (.cons (.call 149 (.cons (.call 187 (.cons (.var 0) (.cons (.var 3) (.cons (.var 4) (.cons (.int 1) .nil))))) .nil)) .nil))))
 .nil) .nil)
 (.cons (.for_ (.tup (.cons (.name 6) (.cons (.name 7) .nil))) (.enm (.call 213 (.cons (.var 0) .nil))) (.cons (.ite (.call 74 (.cons (.ix (.ix (.var 3) (.var 6)) (.int 0)) (.cons (.ix (.var 7) (.int 0)) .nil))) (.cons (.ret (.tup (.cons (.str "bar") (.cons (.call 149 (.cons (.bin .add (.lst (.cons (.ix (.var 7) (.int 1)) .nil)) (.call 229 (.cons (.var 0) (.cons (.var 3) (.cons (.var 6) (.cons (.int 1) .nil)))))) .nil)) .nil))))
 .nil) .nil)
 .nil))
 (.cons (.ret (.tup (.cons (.str "starts") (.cons (.lc (.var 8) (.tup (.cons (.name 8) (.cons (.name 9) .nil))) (.seq (.var 3)) .none [8, 9]) .nil))))
 .nil)))))))⟩
def F_latest_let : Fn := ⟨3, 9,
 (.cons (.set 3 (.lc .non (.name 6) (.seq (.var 1)) .none [6]))
 (.cons (.ite (.cmp .isn (.var 2) .non) (.cons (.set 3 (.lc (.tup (.cons (.call 126 (.cons (.var 2) (.cons (.var 8) .nil))) (.cons (.tup (.cons (.str "end") (.cons (.var 6) .nil))) .nil))) (.tup (.cons (.name 6) (.cons (.name 8) .nil))) (.enm (.var 1)) .none [6, 8]))
 .nil) .nil)
 (.cons (.for_ (.tup (.cons (.name 4) (.cons (.tup (.cons (.name 5) (.cons (.name 6) (.cons (.name 7) .nil)))) .nil))) (.enm (.ix (.var 0) (.int 2))) (.cons (.ite (.cmp .ne (.var 5) (.str "from")) (.cons (.ite (.cmp .eq (.var 5) (.str "by")) (.cons (.set 7 (.call 126 (.cons (.var 7) (.cons (.ix (.var 1) (.var 6)) .nil))))
 .nil) .nil)
 (.cons (.ite (.bor (.cons (.cmp .is (.ix (.var 3) (.var 6)) .non) (.cons (.call 74 (.cons (.var 7) (.cons (.ix (.ix (.var 3) (.var 6)) (.int 0)) .nil))) .nil))) (.cons (.setIx (.var 3) (.var 6) (.tup (.cons (.var 7) (.cons (.tup (.cons (.str "hold") (.cons (.var 4) .nil))) .nil))))
 .nil) .nil)
 .nil)) .nil)
 .nil))
 (.cons (.ret (.var 3))
 .nil))))⟩
def F_least_with : Fn := ⟨2, 6,
 (.cons (.set 2 .non)
 (.cons (.for_ (.tup (.cons (.name 3) (.cons (.name 4) .nil))) (.seq (.ix (.var 0) (.int 1))) (.cons (.set 5 (.call 164 (.cons (.var 4) (.cons (.call 169 (.cons (.var 1) (.cons (.var 3) .nil))) .nil))))
 (.cons (.ite (.cmp .is (.var 2) .non) (.cons (.set 2 (.var 5))
 .nil) .nil)
 (.cons (.set 2 (.call 210 (.cons (.var 2) (.cons (.var 5) .nil))))
 .nil))))
 (.cons (.ret (.var 2))
 .nil)))⟩
def F_look_at_groups : Fn := ⟨2, 5,
 (.cons (.expr (.call 116 (.cons (.str "groups") (.cons (.var 0) (.cons (.int 0) (.cons (.con (.int 4)) .nil))))))
 (.cons (.set 2 (.lst .nil))
 (.cons (.for_ (.tup (.cons (.name 3) (.cons (.name 4) .nil))) (.enm (.var 0)) (.cons (.ite (.bnot (.call 72 (.cons (.var 4) (.cons (.var 1) (.cons (.var 2) .nil))))) (.cons (.rse 3 ["part", "number"] (.cons (.str "groups") (.cons (.var 3) .nil)))
 .nil) .nil)
 (.cons (.set 2 (.bin .add (.var 2) (.var 4)))
 .nil)))
 .nil)))⟩
def F_look_at_holds : Fn := ⟨2, 4,
 (.cons (.expr (.call 116 (.cons (.str "holds") (.cons (.var 0) (.cons (.int 0) (.cons (.con (.int 40)) .nil))))))
 (.cons (.for_ (.tup (.cons (.name 2) (.cons (.name 3) .nil))) (.enm (.var 0)) (.cons (.ite (.bor (.cons (.bnot (.bcall .isin (.cons (.var 3) (.cons (.con (.ty .tuple)) .nil)))) (.cons (.cmp .ne (.bcall .len (.cons (.var 3) .nil)) (.int 3)) (.cons (.bnot (.bcall .isin (.cons (.ix (.var 3) (.int 0)) (.cons (.con (.ty .str)) .nil)))) .nil)))) (.cons (.rse 3 ["part", "number"] (.cons (.str "holds") (.cons (.var 2) .nil)))
 .nil) .nil)
 (.cons (.ite (.bor (.cons (.cmp .nin (.ix (.var 3) (.int 0)) (.con (.tup [(.str "from"), (.str "till"), (.str "by")]))) (.cons (.bnot (.call 80 (.cons (.ix (.var 3) (.int 1)) (.cons (.var 1) .nil)))) (.cons (.bnot (.call 88 (.cons (.ix (.var 3) (.int 2)) .nil))) .nil)))) (.cons (.rse 3 ["part", "number"] (.cons (.str "holds") (.cons (.var 2) .nil)))
 .nil) .nil)
 .nil)))
 .nil))⟩
def F_look_at_list : Fn := ⟨4, 4,
 (.cons (.ite (.bor (.cons (.bnot (.bcall .isin (.cons (.var 1) (.cons (.con (.ty .list)) .nil)))) (.cons (.bnot (.chain .le .le (.var 2) (.bcall .len (.cons (.var 1) .nil)) (.var 3))) .nil))) (.cons (.rse 3 ["part", "number"] (.cons (.var 0) (.cons .non .nil)))
 .nil) .nil)
 .nil)⟩
def F_look_at_net : Fn := ⟨1, 5,
 (.cons (.ite (.bor (.cons (.bnot (.bcall .isin (.cons (.var 0) (.cons (.con (.ty .tuple)) .nil)))) (.cons (.cmp .ne (.bcall .len (.cons (.var 0) .nil)) (.int 4)) .nil))) (.cons (.rse 3 ["part", "number"] (.cons (.str "net") (.cons .non .nil)))
 .nil) .nil)
 (.cons (.asg (.tup (.cons (.name 1) (.cons (.name 2) (.cons (.name 3) (.cons (.name 4) .nil))))) (.var 0))
 (.cons (.expr (.call 121 (.cons (.var 1) .nil)))
 (.cons (.expr (.call 120 (.cons (.var 2) (.cons (.bcall .len (.cons (.var 1) .nil)) .nil))))
 (.cons (.expr (.call 115 (.cons (.var 3) (.cons (.bcall .len (.cons (.var 1) .nil)) .nil))))
 (.cons (.expr (.call 114 (.cons (.var 4) (.cons (.var 1) .nil))))
 .nil))))))⟩
def F_look_at_paper : Fn := ⟨2, 8,
 (.cons (.ite (.bnot (.bcall .isin (.cons (.var 1) (.cons (.con (.ty .list)) .nil)))) (.cons (.rse 4 ["number"] (.cons .non .nil))
 .nil) .nil)
 (.cons (.set 2 .dicT)
 (.cons (.for_ (.tup (.cons (.name 3) (.cons (.name 4) .nil))) (.enm (.var 1)) (.cons (.ite (.bor (.cons (.bnot (.call 91 (.cons (.var 0) (.cons (.var 4) .nil)))) (.cons (.din false (.ix (.var 4) (.int 0)) (.var 2)) .nil))) (.cons (.rse 4 ["number"] (.cons (.var 3) .nil))
 .nil) .nil)
 (.cons (.setD (.var 2) (.ix (.var 4) (.int 0)) (.bl true))
 .nil)))
 (.cons (.set 5 (.call 57 (.cons (.var 0) (.cons (.var 1) .nil))))
 (.cons (.for_ (.tup (.cons (.name 6) (.cons (.name 7) .nil))) (.enm (.call 56 (.cons (.var 0) (.cons (.var 1) .nil)))) (.cons (.ite (.bor (.cons (.call 74 (.cons (.var 7) (.cons (.con (.tup [(.int 0), (.int 1)])) .nil))) (.cons (.cmp .ne (.var 7) (.ix (.var 5) (.var 6))) .nil))) (.cons (.rse 5 ["work"] (.cons (.var 6) .nil))
 .nil) .nil)
 .nil))
 .nil)))))⟩
def F_look_at_waits : Fn := ⟨2, 4,
 (.cons (.expr (.call 116 (.cons (.str "waits") (.cons (.var 0) (.cons (.int 0) (.cons (.con (.int 40)) .nil))))))
 (.cons (.for_ (.tup (.cons (.name 2) (.cons (.name 3) .nil))) (.enm (.var 0)) (.cons (.ite (.bor (.cons (.bnot (.bcall .isin (.cons (.var 3) (.cons (.con (.ty .tuple)) .nil)))) (.cons (.cmp .ne (.bcall .len (.cons (.var 3) .nil)) (.int 3)) (.cons (.bnot (.call 88 (.cons (.ix (.var 3) (.int 2)) .nil))) .nil)))) (.cons (.rse 3 ["part", "number"] (.cons (.str "waits") (.cons (.var 2) .nil)))
 .nil) .nil)
 (.cons (.ite (.bor (.cons (.bnot (.call 80 (.cons (.ix (.var 3) (.int 0)) (.cons (.var 1) .nil)))) (.cons (.bnot (.call 80 (.cons (.ix (.var 3) (.int 1)) (.cons (.var 1) .nil)))) (.cons (.cmp .eq (.ix (.var 3) (.int 0)) (.ix (.var 3) (.int 1))) .nil)))) (.cons (.rse 3 ["part", "number"] (.cons (.str "waits") (.cons (.var 2) .nil)))
 .nil) .nil)
 .nil)))
 .nil))⟩
def F_look_at_works : Fn := ⟨1, 4,
 (.cons (.expr (.call 116 (.cons (.str "works") (.cons (.var 0) (.cons (.int 1) (.cons (.con (.int 10)) .nil))))))
 (.cons (.set 1 (.lst .nil))
 (.cons (.for_ (.tup (.cons (.name 2) (.cons (.name 3) .nil))) (.enm (.var 0)) (.cons (.ite (.bor (.cons (.bnot (.call 96 (.cons (.var 3) .nil))) (.cons (.cmp .inn (.ix (.var 3) (.int 0)) (.var 1)) .nil))) (.cons (.rse 3 ["part", "number"] (.cons (.str "works") (.cons (.var 2) .nil)))
 .nil) .nil)
 (.cons (.expr (.meth .append (.var 1) (.cons (.ix (.var 3) (.int 0)) .nil)))
 .nil)))
 .nil)))⟩
def F_lowered : Fn := ⟨2, 2,
 (.cons (.ret (.bin .sub (.var 0) (.bcall .int (.cons (.cmp .gt (.var 0) (.var 1)) .nil))))
 .nil)⟩
def F_minus : Fn := ⟨2, 2,
 (.cons (.ret (.call 60 (.cons (.bin .sub (.bin .mul (.ix (.var 0) (.int 0)) (.ix (.var 1) (.int 1))) (.bin .mul (.ix (.var 1) (.int 0)) (.ix (.var 0) (.int 1)))) (.cons (.bin .mul (.ix (.var 0) (.int 1)) (.ix (.var 1) (.int 1))) .nil))))
 .nil)⟩
def F_net_changed : Fn := ⟨2, 5,
 (.cons (.set 2 (.ix (.var 1) (.int 0)))
 (.cons (.ite (.cmp .eq (.var 2) (.str "gone")) (.cons (.ret (.call 135 (.cons (.var 0) (.cons (.ix (.var 1) (.int 1)) .nil))))
 .nil) .nil)
 (.cons (.set 3 (.lc (.bcall .list (.cons (.var 4) .nil)) (.name 4) (.seq (.var 0)) .none [4]))
 (.cons (.ite (.kin false (.var 2) [(("work" : Str), 0), (("wait" : Str), 1), (("hold" : Str), 2), (("group" : Str), 3), (("unwait" : Str), (-1)), (("unhold" : Str), (-1)), (("ungroup" : Str), (-1)), (("offer" : Str), (-1)), (("lag" : Str), (-1)), (("moment" : Str), (-1)), (("gone" : Str), (-1))]) (.cons (.expr (.meth .append (.ix (.var 3) (.kix [(("work" : Str), 0), (("wait" : Str), 1), (("hold" : Str), 2), (("group" : Str), 3), (("unwait" : Str), (-1)), (("unhold" : Str), (-1)), (("ungroup" : Str), (-1)), (("offer" : Str), (-1)), (("lag" : Str), (-1)), (("moment" : Str), (-1)), (("gone" : Str), (-1))] (.var 2))) (.cons (.ix (.var 1) (.int 1)) .nil)))
 .nil) (.cons (.ite (.kin false (.var 2) [(("unwait" : Str), 1), (("unhold" : Str), 2), (("ungroup" : Str), 3), (("work" : Str), (-1)), (("wait" : Str), (-1)), (("hold" : Str), (-1)), (("group" : Str), (-1)), (("offer" : Str), (-1)), (("lag" : Str), (-1)), (("moment" : Str), (-1)), (("gone" : Str), (-1))]) (.cons (.expr (.meth .pop (.ix (.var 3) (.kix [(("unwait" : Str), 1), (("unhold" : Str), 2), (("ungroup" : Str), 3), (("work" : Str), (-1)), (("wait" : Str), (-1)), (("hold" : Str), (-1)), (("group" : Str), (-1)), (("offer" : Str), (-1)), (("lag" : Str), (-1)), (("moment" : Str), (-1)), (("gone" : Str), (-1))] (.var 2))) (.cons (.ix (.var 1) (.int 1)) .nil)))
 .nil) (.cons (.set 4 (.ix (.var 3) (.kix [(("offer" : Str), 0), (("lag" : Str), 1), (("moment" : Str), 2), (("work" : Str), (-1)), (("wait" : Str), (-1)), (("hold" : Str), (-1)), (("group" : Str), (-1)), (("unwait" : Str), (-1)), (("unhold" : Str), (-1)), (("ungroup" : Str), (-1)), (("gone" : Str), (-1))] (.var 2))))
 (.cons (.setIx (.var 4) (.ix (.var 1) (.int 1)) (.call 173 (.cons (.var 2) (.cons (.ix (.var 4) (.ix (.var 1) (.int 1))) (.cons (.ix (.var 1) (.int 2)) .nil)))))
 .nil)))
 .nil))
 (.cons (.ret (.tup (.cons (.ix (.var 3) (.int 0)) (.cons (.ix (.var 3) (.int 1)) (.cons (.ix (.var 3) (.int 2)) (.cons (.ix (.var 3) (.int 3)) .nil))))))
 .nil)))))⟩
def F_net_less : Fn := ⟨2, 16,
 (.cons (.asg (.tup (.cons (.name 2) (.cons (.name 3) (.cons (.name 4) (.cons (.name 5) .nil))))) (.var 0))
 (.cons (.set 3 (.lc (.var 9) (.name 9) (.seq (.var 3)) (.some (.cmp .nin (.var 1) (.sl (.var 9) .none (.some (.int 2))))) [9]))
 (.cons (.set 4 (.lc (.var 10) (.name 10) (.seq (.var 4)) (.some (.cmp .ne (.ix (.var 10) (.int 1)) (.var 1))) [10]))
 (.cons (.set 6 (.lst .nil))
 (.cons (.for_ (.name 7) (.seq (.var 5)) (.cons (.set 8 (.lc (.call 123 (.cons (.var 14) (.cons (.var 1) .nil))) (.name 14) (.seq (.var 7)) (.some (.cmp .ne (.var 14) (.var 1))) [14]))
 (.cons (.ite (.cmp .gt (.bcall .len (.cons (.var 8) .nil)) (.int 1)) (.cons (.expr (.meth .append (.var 6) (.cons (.var 8) .nil)))
 .nil) .nil)
 .nil)))
 (.cons (.set 3 (.lc (.tup (.cons (.call 123 (.cons (.var 11) (.cons (.var 1) .nil))) (.cons (.call 123 (.cons (.var 12) (.cons (.var 1) .nil))) (.cons (.var 9) .nil)))) (.tup (.cons (.name 11) (.cons (.name 12) (.cons (.name 9) .nil)))) (.seq (.var 3)) .none [11, 12, 9]))
 (.cons (.set 4 (.lc (.tup (.cons (.var 13) (.cons (.call 123 (.cons (.var 14) (.cons (.var 1) .nil))) (.cons (.var 15) .nil)))) (.tup (.cons (.name 13) (.cons (.name 14) (.cons (.name 15) .nil)))) (.seq (.var 4)) .none [13, 14, 15]))
 (.cons (.ret (.tup (.cons (.bin .add (.sl (.var 2) .none (.some (.var 1))) (.sl (.var 2) (.some (.bin .add (.var 1) (.int 1))) .none)) (.cons (.var 3) (.cons (.var 4) (.cons (.var 6) .nil))))))
 .nil))))))))⟩
def F_paper_of : Fn := ⟨1, 2,
 (.cons (.ret (.lc (.tup (.cons (.var 1) (.cons (.con (.tup [(.int 1), (.int 1)])) .nil))) (.name 1) (.seq (.var 0)) .none [1]))
 .nil)⟩
def F_parted : Fn := ⟨2, 2,
 (.cons (.ite (.cmp .eq (.ix (.var 1) (.int 0)) (.int 0)) (.cons (.rse 1 [] .nil)
 .nil) .nil)
 (.cons (.ret (.call 60 (.cons (.bin .mul (.ix (.var 0) (.int 0)) (.ix (.var 1) (.int 1))) (.cons (.bin .mul (.ix (.var 0) (.int 1)) (.ix (.var 1) (.int 0))) .nil))))
 .nil))⟩
def F_pieces_of : Fn := ⟨1, 3,
 (.cons (.ret (.lc (.tup (.cons (.call 51 (.cons (.var 1) (.cons (.var 2) .nil))) (.cons (.call 126 (.cons (.ix (.var 2) (.int 0)) (.cons (.ix (.var 1) (.int 0)) .nil))) .nil))) (.tup (.cons (.name 1) (.cons (.name 2) .nil))) (.zip (.var 0) (.sl (.var 0) (.some (.int 1)) .none)) .none [1, 2]))
 .nil)⟩
def F_plus : Fn := ⟨2, 2,
 (.cons (.ret (.call 60 (.cons (.bin .add (.bin .mul (.ix (.var 0) (.int 0)) (.ix (.var 1) (.int 1))) (.bin .mul (.ix (.var 1) (.int 0)) (.ix (.var 0) (.int 1)))) (.cons (.bin .mul (.ix (.var 0) (.int 1)) (.ix (.var 1) (.int 1))) .nil))))
 .nil)⟩
def F_price_at : Fn := ⟨2, 4,
 (.cons (.ite (.call 74 (.cons (.var 1) (.cons (.ix (.ix (.var 0) (.int 0)) (.int 0)) .nil))) (.cons (.ret .non)
 .nil) .nil)
 (.cons (.for_ (.tup (.cons (.name 2) (.cons (.name 3) .nil))) (.zip (.var 0) (.sl (.var 0) (.some (.int 1)) .none)) (.cons (.ite (.call 74 (.cons (.var 1) (.cons (.ix (.var 3) (.int 0)) .nil))) (.cons (.ret (.call 126 (.cons (.ix (.var 2) (.int 1)) (.cons (.call 169 (.cons (.call 51 (.cons (.var 2) (.cons (.var 3) .nil))) (.cons (.call 126 (.cons (.var 1) (.cons (.ix (.var 2) (.int 0)) .nil))) .nil))) .nil))))
 .nil) .nil)
 .nil))
 (.cons (.ret (.ix (.ix (.var 0) (.neg (.int 1))) (.int 1)))
 .nil)))⟩
def F_price_of_time : Fn := ⟨2, 6,
 (.cons (.ite (.bnot (.call 82 (.cons (.var 0) (.cons (.var 1) .nil)))) (.cons (.rse 2 [] .nil)
 .nil) .nil)
 (.cons (.set 2 (.ix (.var 0) (.int 1)))
 (.cons (.for_ (.name 3) (.seq (.var 2)) (.cons (.ite (.cmp .eq (.ix (.var 3) (.int 0)) (.var 1)) (.cons (.ret (.ix (.var 3) (.int 1)))
 .nil) .nil)
 .nil))
 (.cons (.set 4 (.bcall .len (.cons (.lc (.var 3) (.name 3) (.seq (.var 2)) (.some (.call 74 (.cons (.var 1) (.cons (.ix (.var 3) (.int 0)) .nil)))) [3]) .nil)))
 (.cons (.set 5 (.ix (.var 2) (.bin .sub (.var 4) (.int 1))))
 (.cons (.ret (.call 164 (.cons (.ix (.var 5) (.int 1)) (.cons (.call 169 (.cons (.call 176 (.cons (.var 5) (.cons (.ix (.var 2) (.var 4)) .nil))) (.cons (.call 126 (.cons (.ix (.var 5) (.int 0)) (.cons (.var 1) .nil))) .nil))) .nil))))
 .nil))))))⟩
def F_product : Fn := ⟨2, 2,
 (.cons (.ret (.call 60 (.cons (.bin .mul (.ix (.var 0) (.int 0)) (.ix (.var 1) (.int 0))) (.cons (.bin .mul (.ix (.var 0) (.int 1)) (.ix (.var 1) (.int 1))) .nil))))
 .nil)⟩
def F_pulled : Fn := ⟨3, 9,
 (.cons (.set 3 .non)
 (.cons (.for_ (.tup (.cons (.name 4) (.cons (.tup (.cons (.name 5) (.cons (.name 6) (.cons (.name 7) .nil)))) .nil))) (.enm (.ix (.var 0) (.int 1))) (.cons (.set 8 (.call 126 (.cons (.call 126 (.cons (.ix (.ix (.var 2) (.var 6)) (.int 0)) (.cons (.var 7) .nil))) (.cons (.ix (.var 1) (.var 5)) .nil))))
 (.cons (.ite (.call 74 (.cons (.var 8) (.cons (.ix (.ix (.var 2) (.var 5)) (.int 0)) .nil))) (.cons (.setIx (.var 2) (.var 5) (.tup (.cons (.var 8) (.cons (.tup (.cons (.str "wait") (.cons (.var 4) .nil))) .nil))))
 (.cons (.set 3 (.var 5))
 .nil)) .nil)
 .nil)))
 (.cons (.ret (.var 3))
 .nil)))⟩
def F_pushed : Fn := ⟨3, 9,
 (.cons (.set 3 .non)
 (.cons (.for_ (.tup (.cons (.name 4) (.cons (.tup (.cons (.name 5) (.cons (.name 6) (.cons (.name 7) .nil)))) .nil))) (.enm (.ix (.var 0) (.int 1))) (.cons (.set 8 (.call 164 (.cons (.call 164 (.cons (.ix (.ix (.var 2) (.var 5)) (.int 0)) (.cons (.ix (.var 1) (.var 5)) .nil))) (.cons (.var 7) .nil))))
 (.cons (.ite (.call 74 (.cons (.ix (.ix (.var 2) (.var 6)) (.int 0)) (.cons (.var 8) .nil))) (.cons (.setIx (.var 2) (.var 6) (.tup (.cons (.var 8) (.cons (.tup (.cons (.str "wait") (.cons (.var 4) .nil))) .nil))))
 (.cons (.set 3 (.var 6))
 .nil)) .nil)
 .nil)))
 (.cons (.ret (.var 3))
 .nil)))⟩
def F_put_otherwise : Fn := ⟨3, 3,
 (.cons (.ite (.cmp .eq (.var 0) (.str "offer")) (.cons (.ret (.tup (.cons (.ix (.var 1) (.int 0)) (.cons (.var 2) .nil))))
 .nil) .nil)
 (.cons (.ret (.tup (.cons (.ix (.var 1) (.int 0)) (.cons (.ix (.var 1) (.int 1)) (.cons (.var 2) .nil)))))
 .nil))⟩
def F_rate_between : Fn := ⟨2, 2,
 (.cons (.ret (.call 152 (.cons (.call 126 (.cons (.ix (.var 1) (.int 1)) (.cons (.ix (.var 0) (.int 1)) .nil))) (.cons (.call 126 (.cons (.ix (.var 0) (.int 0)) (.cons (.ix (.var 1) (.int 0)) .nil))) .nil))))
 .nil)⟩
def F_rate_of : Fn := ⟨1, 5,
 (.cons (.set 1 (.con (.tup [(.int 0), (.int 1)])))
 (.cons (.for_ (.tup (.cons (.tup (.cons (.name 2) (.cons (.name 3) .nil))) (.cons (.name 4) .nil))) (.seq (.var 0)) (.cons (.ite (.cmp .eq (.var 2) (.str "end")) (.cons (.set 1 (.call 164 (.cons (.var 1) (.cons (.var 4) .nil))))
 .nil) .nil)
 .nil))
 (.cons (.ret (.var 1))
 .nil)))⟩
def F_ratio : Fn := ⟨2, 2,
 (.cons (.ite (.bor (.cons (.bnot (.call 95 (.cons (.var 0) .nil))) (.cons (.bnot (.call 95 (.cons (.var 1) .nil))) .nil))) (.cons (.rse 1 [] .nil)
 .nil) .nil)
 (.cons (.ite (.cmp .eq (.var 1) (.int 0)) (.cons (.rse 1 [] .nil)
 .nil) .nil)
 (.cons (.ret (.call 60 (.cons (.var 0) (.cons (.var 1) .nil))))
 .nil)))⟩
def F_ring_from : Fn := ⟨4, 7,
 (.cons (.for_ (.name 4) (.rng1 (.bcall .len (.cons (.var 1) .nil))) (.cons (.set 2 (.ix (.ix (.ix (.var 0) (.int 1)) (.ix (.ix (.ix (.var 1) (.var 2)) (.int 1)) (.int 1))) (.var 3)))
 .nil))
 (.cons (.set 5 (.lst (.cons (.ix (.ix (.var 1) (.var 2)) (.int 1)) .nil)))
 (.cons (.set 6 (.ix (.ix (.ix (.var 0) (.int 1)) (.ix (.ix (.var 5) (.int 0)) (.int 1))) (.var 3)))
 (.cons (.whl (.cmp .ne (.var 6) (.var 2)) (.cons (.expr (.meth .append (.var 5) (.cons (.ix (.ix (.var 1) (.var 6)) (.int 1)) .nil)))
 (.cons (.set 6 (.ix (.ix (.ix (.var 0) (.int 1)) (.ix (.ix (.var 5) (.neg (.int 1))) (.int 1))) (.var 3)))
 .nil)))
 (.cons (.ret (.var 5))
 .nil)))))⟩
def F_risen : Fn := ⟨2, 5,
 (.cons (.set 2 (.lst .nil))
 (.cons (.set 3 (.int 0))
 (.cons (.for_ (.name 4) (.seq (.var 1)) (.cons (.whl (.band (.cons (.cmp .lt (.var 3) (.bcall .len (.cons (.var 0) .nil))) (.cons (.call 74 (.cons (.ix (.var 0) (.var 3)) (.cons (.var 4) .nil))) .nil))) (.cons (.expr (.meth .append (.var 2) (.cons (.ix (.var 0) (.var 3)) .nil)))
 (.cons (.set 3 (.bin .add (.var 3) (.int 1)))
 .nil)))
 (.cons (.ite (.band (.cons (.cmp .lt (.var 3) (.bcall .len (.cons (.var 0) .nil))) (.cons (.cmp .eq (.ix (.var 0) (.var 3)) (.var 4)) .nil))) (.cons (.set 3 (.bin .add (.var 3) (.int 1)))
 .nil) .nil)
 (.cons (.expr (.meth .append (.var 2) (.cons (.var 4) .nil)))
 .nil))))
 (.cons (.ret (.bin .add (.var 2) (.sl (.var 0) (.some (.var 3)) .none)))
 .nil))))⟩
def F_shape_scaled : Fn := ⟨3, 5,
 (.cons (.ret (.lc (.tup (.cons (.call 169 (.cons (.var 1) (.cons (.var 3) .nil))) (.cons (.call 169 (.cons (.var 2) (.cons (.var 4) .nil))) .nil))) (.tup (.cons (.name 3) (.cons (.name 4) .nil))) (.seq (.var 0)) .none [3, 4]))
 .nil)⟩
def F_shapes_behind : Fn := ⟨3, 8,
 (.cons (.set 3 (.call 164 (.cons (.call 164 (.cons (.ix (.ix (.var 0) (.int 0)) (.int 0)) (.cons (.ix (.ix (.var 1) (.int 0)) (.int 0)) .nil))) (.cons (.var 2) .nil))))
 (.cons (.set 4 (.call 164 (.cons (.ix (.ix (.var 0) (.int 0)) (.int 1)) (.cons (.ix (.ix (.var 1) (.int 0)) (.int 1)) .nil))))
 (.cons (.set 5 (.lst (.cons (.tup (.cons (.var 3) (.cons (.var 4) .nil))) .nil)))
 (.cons (.for_ (.tup (.cons (.name 6) (.cons (.name 7) .nil))) (.seq (.call 23 (.cons (.call 154 (.cons (.var 0) .nil)) (.cons (.call 154 (.cons (.var 1) .nil)) .nil)))) (.cons (.set 3 (.call 164 (.cons (.var 3) (.cons (.var 7) .nil))))
 (.cons (.set 4 (.call 126 (.cons (.var 4) (.cons (.call 169 (.cons (.var 6) (.cons (.var 7) .nil))) .nil))))
 (.cons (.expr (.meth .append (.var 5) (.cons (.tup (.cons (.var 3) (.cons (.var 4) .nil))) .nil)))
 .nil))))
 (.cons (.ret (.var 5))
 .nil)))))⟩
def F_shapes_beside : Fn := ⟨2, 6,
 (.cons (.set 2 (.call 97 (.cons (.ix (.ix (.var 0) (.int 0)) (.int 0)) (.cons (.ix (.ix (.var 1) (.int 0)) (.int 0)) .nil))))
 (.cons (.set 3 (.lst (.cons (.var 2) .nil)))
 (.cons (.for_ (.name 4) (.seq (.call 188 (.cons (.lc (.ix (.var 5) (.int 0)) (.name 5) (.seq (.var 0)) .none [5]) (.cons (.lc (.ix (.var 5) (.int 0)) (.name 5) (.seq (.var 1)) .none [5]) .nil)))) (.cons (.ite (.call 74 (.cons (.var 2) (.cons (.var 4) .nil))) (.cons (.expr (.meth .append (.var 3) (.cons (.var 4) .nil)))
 .nil) .nil)
 .nil))
 (.cons (.ret (.lc (.tup (.cons (.var 4) (.cons (.call 164 (.cons (.call 165 (.cons (.var 0) (.cons (.var 4) .nil))) (.cons (.call 165 (.cons (.var 1) (.cons (.var 4) .nil))) .nil))) .nil))) (.name 4) (.seq (.var 3)) .none [4]))
 .nil))))⟩
def F_slips_of : Fn := ⟨3, 9,
 (.cons (.set 3 (.ix (.call 98 (.cons (.var 0) (.cons (.lc (.var 8) (.tup (.cons (.name 7) (.cons (.name 8) .nil))) (.seq (.var 1)) .none [7, 8]) (.cons (.var 2) .nil)))) (.int 1)))
 (.cons (.set 4 (.lst .nil))
 (.cons (.for_ (.tup (.cons (.name 5) (.cons (.name 6) .nil))) (.enm (.var 1)) (.cons (.expr (.meth .append (.var 4) (.cons (.tup (.cons (.call 2 (.cons (.var 0) (.cons (.var 1) (.cons (.var 2) (.cons (.var 5) .nil))))) (.cons (.call 126 (.cons (.ix (.var 3) (.var 5)) (.cons (.ix (.var 6) (.int 0)) .nil))) .nil))) .nil)))
 .nil))
 (.cons (.ret (.var 4))
 .nil))))⟩
def F_smaller : Fn := ⟨2, 2,
 (.cons (.ite (.call 74 (.cons (.var 1) (.cons (.var 0) .nil))) (.cons (.ret (.var 1))
 .nil) .nil)
 (.cons (.ret (.var 0))
 .nil))⟩
def F_smoothed : Fn := ⟨1, 3,
 (.cons (.set 1 (.lst .nil))
 (.cons (.for_ (.name 2) (.seq (.ix (.var 0) (.int 1))) (.cons (.whl (.band (.cons (.cmp .gt (.bcall .len (.cons (.var 1) .nil)) (.int 1)) (.cons (.bnot (.call 74 (.cons (.call 176 (.cons (.ix (.var 1) (.neg (.int 2))) (.cons (.ix (.var 1) (.neg (.int 1))) .nil))) (.cons (.call 176 (.cons (.ix (.var 1) (.neg (.int 1))) (.cons (.var 2) .nil))) .nil)))) .nil))) (.cons (.expr (.meth .pop (.var 1) .nil))
 .nil))
 (.cons (.expr (.meth .append (.var 1) (.cons (.var 2) .nil)))
 .nil)))
 (.cons (.ret (.tup (.cons (.str "straight") (.cons (.var 1) .nil))))
 .nil)))⟩
def F_smoothed_net : Fn := ⟨1, 7,
 (.cons (.asg (.tup (.cons (.name 1) (.cons (.name 2) (.cons (.name 3) (.cons (.name 4) .nil))))) (.var 0))
 (.cons (.ret (.tup (.cons (.lc (.tup (.cons (.var 5) (.cons (.call 211 (.cons (.var 6) .nil)) .nil))) (.tup (.cons (.name 5) (.cons (.name 6) .nil))) (.seq (.var 1)) .none [5, 6]) (.cons (.bcall .list (.cons (.var 2) .nil)) (.cons (.bcall .list (.cons (.var 3) .nil)) (.cons (.lst .nil) .nil))))))
 .nil))⟩
def F_soonest : Fn := ⟨1, 6,
 (.cons (.set 1 (.lc (.tup (.cons (.con (.tup [(.int 0), (.int 1)])) (.cons (.tup (.cons (.str "start") (.cons (.var 4) .nil))) .nil))) (.name 4) (.rng1 (.bcall .len (.cons (.ix (.var 0) (.int 0)) .nil))) .none [4]))
 (.cons (.for_ (.tup (.cons (.name 2) (.cons (.tup (.cons (.name 3) (.cons (.name 4) (.cons (.name 5) .nil)))) .nil))) (.enm (.ix (.var 0) (.int 2))) (.cons (.ite (.band (.cons (.cmp .eq (.var 3) (.str "from")) (.cons (.call 74 (.cons (.ix (.ix (.var 1) (.var 4)) (.int 0)) (.cons (.var 5) .nil))) .nil))) (.cons (.setIx (.var 1) (.var 4) (.tup (.cons (.var 5) (.cons (.tup (.cons (.str "hold") (.cons (.var 2) .nil))) .nil))))
 .nil) .nil)
 .nil))
 (.cons (.ret (.var 1))
 .nil)))⟩
def F_sum_of : Fn := ⟨1, 3,
 (.cons (.set 1 (.con (.tup [(.int 0), (.int 1)])))
 (.cons (.for_ (.name 2) (.seq (.var 0)) (.cons (.set 1 (.call 164 (.cons (.var 1) (.cons (.var 2) .nil))))
 .nil))
 (.cons (.ret (.var 1))
 .nil)))⟩
def F_timed : Fn := ⟨2, 6,
 (.cons (.set 2 (.lst .nil))
 (.cons (.for_ (.tup (.cons (.tup (.cons (.name 3) (.cons (.name 4) .nil))) (.cons (.name 5) .nil))) (.zip (.ix (.var 0) (.int 0)) (.var 1)) (.cons (.expr (.meth .append (.var 2) (.cons (.tup (.cons (.var 3) (.cons (.tup (.cons (.str "straight") (.cons (.lst (.cons (.tup (.cons (.var 5) (.cons (.call 167 (.cons (.var 4) (.cons (.var 5) .nil))) .nil))) .nil)) .nil))) .nil))) .nil)))
 .nil))
 (.cons (.ret (.tup (.cons (.var 2) (.cons (.bcall .list (.cons (.ix (.var 0) (.int 1)) .nil)) (.cons (.bcall .list (.cons (.ix (.var 0) (.int 2)) .nil)) (.cons (.lst .nil) .nil))))))
 .nil)))⟩
def F_way_from : Fn := ⟨4, 5,
 (.cons (.set 4 (.lst (.cons (.ix (.ix (.var 1) (.var 2)) (.int 1)) .nil)))
 (.cons (.whl (.cmp .eq (.ix (.ix (.var 4) (.neg (.int 1))) (.int 0)) (.str "wait")) (.cons (.set 2 (.ix (.ix (.ix (.var 0) (.int 1)) (.ix (.ix (.var 4) (.neg (.int 1))) (.int 1))) (.var 3)))
 (.cons (.expr (.meth .append (.var 4) (.cons (.ix (.ix (.var 1) (.var 2)) (.int 1)) .nil)))
 .nil)))
 (.cons (.ret (.var 4))
 .nil)))⟩
def F_weight_of : Fn := ⟨2, 6,
 (.cons (.set 2 (.con (.tup [(.int 0), (.int 1)])))
 (.cons (.for_ (.tup (.cons (.tup (.cons (.name 3) (.cons (.name 4) .nil))) (.cons (.name 5) .nil))) (.seq (.var 1)) (.cons (.ite (.cmp .eq (.var 3) (.str "wait")) (.cons (.set 2 (.call 164 (.cons (.var 2) (.cons (.call 169 (.cons (.var 5) (.cons (.ix (.ix (.ix (.var 0) (.int 1)) (.var 4)) (.int 2)) .nil))) .nil))))
 .nil) (.cons (.ite (.band (.cons (.cmp .eq (.var 3) (.str "hold")) (.cons (.cmp .eq (.ix (.ix (.ix (.var 0) (.int 2)) (.var 4)) (.int 0)) (.str "from")) .nil))) (.cons (.set 2 (.call 164 (.cons (.var 2) (.cons (.call 169 (.cons (.var 5) (.cons (.ix (.ix (.ix (.var 0) (.int 2)) (.var 4)) (.int 2)) .nil))) .nil))))
 .nil) (.cons (.ite (.cmp .eq (.var 3) (.str "hold")) (.cons (.set 2 (.call 126 (.cons (.var 2) (.cons (.call 169 (.cons (.var 5) (.cons (.ix (.ix (.ix (.var 0) (.int 2)) (.var 4)) (.int 2)) .nil))) .nil))))
 .nil) .nil)
 .nil))
 .nil))
 .nil))
 (.cons (.ret (.var 2))
 .nil)))⟩
/-- the defs that are reached -/
def progL : List Fn := [F_none, F_none, F_alone_of, F_none, F_none, F_amounts_of, F_are_corners, F_are_hollow, F_none, F_none, F_bars, F_none, F_none, F_none, F_none, F_broken_group, F_broken_hold, F_broken_start, F_broken_time, F_broken_wait, F_broken_whole, F_none, F_none, F_by_falls, F_none, F_carried_paper, F_carried_plan, F_none, F_changed, F_none, F_none, F_none, F_none, F_none, F_none, F_claimed, F_none, F_claims_of, F_none, F_none, F_none, F_none, F_none, F_corner_of, F_none, F_cut_at, F_divisor, F_none, F_earliest, F_none, F_ends_of, F_fall_of, F_none, F_first_broken, F_none, F_none, F_gone_in, F_gone_off, F_none, F_none, F_in_lowest, F_none, F_is_amount, F_is_arc, F_none, F_none, F_none, F_none, F_is_change, F_none, F_is_corner, F_none, F_is_group, F_is_left, F_is_less, F_none, F_is_name, F_none, F_none, F_is_number, F_is_number_of, F_is_offer, F_is_offered, F_none, F_none, F_none, F_none, F_none, F_is_ratio, F_none, F_none, F_is_share, F_is_straight, F_is_tight, F_none, F_is_whole, F_is_work, F_larger, F_latest, F_latest_let, F_none, F_none, F_none, F_none, F_none, F_least_with, F_none, F_none, F_none, F_none, F_none, F_none, F_none, F_none, F_look_at_groups, F_look_at_holds, F_look_at_list, F_look_at_net, F_look_at_paper, F_none, F_look_at_waits, F_look_at_works, F_none, F_lowered, F_none, F_none, F_minus, F_none, F_none, F_none, F_none, F_none, F_none, F_none, F_net_changed, F_net_less, F_none, F_none, F_none, F_none, F_none, F_none, F_none, F_none, F_none, F_none, F_none, F_none, F_none, F_paper_of, F_none, F_none, F_parted, F_none, F_pieces_of, F_none, F_none, F_none, F_none, F_none, F_none, F_none, F_none, F_none, F_plus, F_price_at, F_none, F_price_of_time, F_none, F_product, F_pulled, F_pushed, F_none, F_put_otherwise, F_none, F_none, F_rate_between, F_rate_of, F_none, F_ratio, F_none, F_none, F_none, F_none, F_none, F_none, F_none, F_ring_from, F_risen, F_none, F_none, F_none, F_none, F_none, F_shape_scaled, F_shapes_behind, F_shapes_beside, F_none, F_none, F_none, F_none, F_none, F_none, F_none, F_none, F_none, F_none, F_none, F_none, F_slips_of, F_smaller, F_smoothed, F_smoothed_net, F_soonest, F_none, F_none, F_none, F_none, F_none, F_none, F_sum_of, F_none, F_timed, F_none, F_none, F_none, F_none, F_none, F_none, F_way_from, F_weight_of, F_none, F_none, F_none, F_none]
/-- these, and a law's own from 1000 on -/
def Gof (L : List Fn) : Tab := fun n => if n < 1000 then progL[n]? else L[n - 1000]?
end HP
local macro_rules | `(tactic| walk_at "hp1") => `(tactic| with_reducible refine HP.wc_neS ?_)
local macro_rules | `(tactic| walk_at "hp1") => `(tactic| with_reducible refine HP.wc_eqS ?_)
local macro_rules | `(tactic| walk_at "hp1") => `(tactic| with_reducible refine HP.wi_frl ?_)
local macro_rules | `(tactic| walk_at "hp1") => `(tactic| with_reducible refine HP.wi_tup ?_)
local macro_rules | `(tactic| walk_at "hp1") => `(tactic| with_reducible refine HP.wf_intB ?_)
local macro_rules | `(tactic| walk_at "hp1") => `(tactic| with_reducible refine HP.wf_int ?_)
local macro_rules | `(tactic| walk_at "hp1") => `(tactic| with_reducible refine HP.wf_max ?_)
local macro_rules | `(tactic| walk_at "hp1") => `(tactic| with_reducible refine HP.wf_min ?_)
local macro_rules | `(tactic| walk_at "hp1") => `(tactic| with_reducible refine HP.wf_abs ?_)
local macro_rules | `(tactic| walk_at "hp1") => `(tactic| with_reducible refine HP.wf_isin rfl ?_)
local macro_rules | `(tactic| walk_at "hp1") => `(tactic| with_reducible refine HP.wz_some rfl ?_)
local macro_rules | `(tactic| walk_at "hp1") => `(tactic| with_reducible refine HP.wz_int ?_)
local macro_rules | `(tactic| walk_at "hp1") => `(tactic| with_reducible refine HP.wz_bl ?_)
local macro_rules | `(tactic| walk_at "hp1") => `(tactic| with_reducible refine HP.wq_nff ?_)
local macro_rules | `(tactic| walk_at "hp1") => `(tactic| with_reducible refine HP.wq_ntt ?_)
local macro_rules | `(tactic| walk_at "hp1") => `(tactic| with_reducible refine HP.wq_ff ?_)
local macro_rules | `(tactic| walk_at "hp1") => `(tactic| with_reducible refine HP.wq_tt ?_)
local macro_rules | `(tactic| walk_at "hp1") => `(tactic| with_reducible refine HP.wpc_some ?_)
local macro_rules | `(tactic| walk_at "hp1") => `(tactic| with_reducible refine HP.wpc_none ?_)
local macro_rules | `(tactic| walk_at "hp1") => `(tactic| with_reducible refine HP.wpi_zip ?_)
local macro_rules | `(tactic| walk_at "hp1") => `(tactic| with_reducible refine HP.wps_setD ?_)
local macro_rules | `(tactic| walk_at "hp1") => `(tactic| with_reducible refine HP.wpt_din ?_)
local macro_rules | `(tactic| walk_at "hp1") => `(tactic| with_reducible refine HP.wpt_kin ?_)
local macro_rules | `(tactic| walk_at "hp1") => `(tactic| with_reducible refine HP.wp_din ?_)
local macro_rules | `(tactic| walk_at "hp1") => `(tactic| with_reducible refine HP.wp_kix ?_)
local macro_rules | `(tactic| walk_at "hp1") => `(tactic| with_reducible refine HP.wp_kin ?_)
local macro_rules | `(tactic| walk_at "hp1") => `(tactic| with_reducible refine HP.wp_dicT ?_)
local macro_rules | `(tactic| walk_at "hp1") => `(tactic| with_reducible refine HP.wp_lstZ ?_)
local macro_rules | `(tactic| walk_at "hp1") => `(tactic| with_reducible refine HP.wp_lstR ?_)
local macro_rules | `(tactic| walk_at "hp1") => `(tactic| with_reducible refine HP.wp_shw ?_)
local macro_rules | `(tactic| walk_at "hp1") => `(tactic| with_reducible refine HP.wp_dic1 ?_)
local macro_rules | `(tactic| walk_at "hp1") => `(tactic| with_reducible refine HP.wp_joinS ?_)
local macro_rules | `(tactic| walk_at "hp1") => `(tactic| with_reducible refine HP.wpi_rng3 ?_)
local macro_rules | `(tactic| walk_at "hp1") => `(tactic| with_reducible refine HP.wpi_enm ?_)
local macro_rules | `(tactic| walk_at "hp1") => `(tactic| with_reducible refine HP.wpi_rng2 ?_)
local macro_rules | `(tactic| walk_at "hp1") => `(tactic| with_reducible refine HP.wpi_rng1 ?_)
local macro_rules | `(tactic| walk_at "hp1") => `(tactic| with_reducible refine HP.wpi_seq ?_)
local macro_rules | `(tactic| walk_at "hp1") => `(tactic| (first | with_reducible refine HP.wb_mul (by decide) ?_ | fail))
local macro_rules | `(tactic| walk_at "hp1") => `(tactic| (first | with_reducible refine HP.wb_fdiv (HP.okDiv_s (by decide) (by decide)) ?_ | fail))
local macro_rules | `(tactic| walk_at "hp1") => `(tactic| (first | with_reducible refine HP.wb_pow (by decide) ?_ | fail))
local macro_rules | `(tactic| walk_at "hp1") => `(tactic| (first | with_reducible refine HP.wb_mod (by decide) ?_ | fail))
local macro_rules | `(tactic| walk_at "hp1") => `(tactic| with_reducible refine HP.wps_for ?_)
local macro_rules | `(tactic| walk_at "hp1") => `(tactic| with_reducible refine HP.wps_setIx ?_)
local macro_rules | `(tactic| walk_at "hp1") => `(tactic| with_reducible refine HP.wps_asg ?_)
local macro_rules | `(tactic| walk_at "hp1") => `(tactic| with_reducible refine HP.wg_sub ?_)
local macro_rules | `(tactic| walk_at "hp1") => `(tactic| with_reducible refine HP.wg_add ?_)
local macro_rules | `(tactic| walk_at "hp1") => `(tactic| with_reducible refine HP.wps_aug ?_)
local macro_rules | `(tactic| walk_at "hp1") => `(tactic| with_reducible refine HP.wps_cnt ?_)
local macro_rules | `(tactic| walk_at "hp1") => `(tactic| with_reducible refine HP.wps_brk ?_)
local macro_rules | `(tactic| walk_at "hp1") => `(tactic| with_reducible refine HP.wps_pass ?_)
local macro_rules | `(tactic| walk_at "hp1") => `(tactic| with_reducible refine HP.wps_retN ?_)
local macro_rules | `(tactic| walk_at "hp1") => `(tactic| with_reducible refine HP.wps_expr ?_)
local macro_rules | `(tactic| walk_at "hp1") => `(tactic| with_reducible refine HP.wps_par3 ?_)
local macro_rules | `(tactic| walk_at "hp1") => `(tactic| with_reducible refine HP.wps_par ?_)
local macro_rules | `(tactic| walk_at "hp1") => `(tactic| with_reducible refine HP.wp_dic0 ?_)
local macro_rules | `(tactic| walk_at "hp1") => `(tactic| with_reducible refine HP.wp_lc ?_)
local macro_rules | `(tactic| walk_at "hp1") => `(tactic| with_reducible refine HP.wp_chain ?_)
local macro_rules | `(tactic| walk_at "hp1") => `(tactic| with_reducible refine HP.wp_bor2 ?_)
local macro_rules | `(tactic| walk_at "hp1") => `(tactic| with_reducible refine HP.wp_bor1 ?_)
local macro_rules | `(tactic| walk_at "hp1") => `(tactic| with_reducible refine HP.wp_band2 ?_)
local macro_rules | `(tactic| walk_at "hp1") => `(tactic| with_reducible refine HP.wp_band1 ?_)
local macro_rules | `(tactic| walk_at "hp1") => `(tactic| with_reducible refine HP.wp_oS ?_)
local macro_rules | `(tactic| walk_at "hp1") => `(tactic| with_reducible refine HP.wp_oN ?_)
local macro_rules | `(tactic| walk_at "hp1") => `(tactic| with_reducible refine HP.wp_rev ?_)
local macro_rules | `(tactic| walk_at "hp1") => `(tactic| with_reducible refine HP.wp_sl ?_)
local macro_rules | `(tactic| walk_at "hp1") => `(tactic| with_reducible refine HP.wp_meth ?_)
local macro_rules | `(tactic| walk_at "hp1") => `(tactic| with_reducible refine HP.wp_ife ?_)
local macro_rules | `(tactic| walk_at "hp1") => `(tactic| with_reducible refine HP.wp_bnot ?_)
local macro_rules | `(tactic| walk_at "hp1") => `(tactic| with_reducible refine HP.wp_con ?_)
local macro_rules | `(tactic| walk_at "hp1") => `(tactic| with_reducible refine HP.wp_non ?_)
local macro_rules | `(tactic| walk_at "hp1") => `(tactic| with_reducible refine HP.wp_str ?_)
local macro_rules | `(tactic| walk_at "hp1") => `(tactic| with_reducible refine HP.wp_bl ?_)
local macro_rules | `(tactic| walk_at "hp1") => `(tactic| with_reducible refine HP.wn_neg ?_)
local macro_rules | `(tactic| walk_at "hp1") => `(tactic| with_reducible refine HP.wp_neg ?_)
local macro_rules | `(tactic| walk_at "hp1") => `(tactic| with_reducible refine HP.wp_lst ?_)
local macro_rules | `(tactic| walk_at "hp1") => `(tactic| with_reducible refine HP.wp_tup ?_)
local macro_rules | `(tactic| walk_at "hp1") => `(tactic| with_reducible refine HP.wpt_chain ?_)
local macro_rules | `(tactic| walk_at "hp1") => `(tactic| with_reducible refine HP.wpt_ix ?_)
local macro_rules | `(tactic| walk_at "hp1") => `(tactic| with_reducible refine HP.wpt_meth ?_)
local macro_rules | `(tactic| walk_at "hp1") => `(tactic| with_reducible refine HP.wpt_or2 ?_)
local macro_rules | `(tactic| walk_at "hp1") => `(tactic| with_reducible refine HP.wpt_or1 ?_)
local macro_rules | `(tactic| walk_at "hp1") => `(tactic| with_reducible refine HP.wpt_and2 ?_)
local macro_rules | `(tactic| walk_at "hp1") => `(tactic| with_reducible refine HP.wpt_and1 ?_)
local macro_rules | `(tactic| walk_at "hp1") => `(tactic| with_reducible refine HP.wpt_not ?_)
local macro_rules | `(tactic| walk_at "hp1") => `(tactic| with_reducible refine HP.wpt_var ?_)
local macro_rules | `(tactic| walk_at "hp1") => `(tactic| with_reducible refine HP.wpt_call ?_)
local macro_rules | `(tactic| walk_at "hp1") => `(tactic| with_reducible refine HP.wpt_bcall ?_)
local macro_rules | `(tactic| walk_at "hp1") => `(tactic| with_reducible refine HP.wps_nil ?_)
local macro_rules | `(tactic| walk_at "hp1") => `(tactic| with_reducible refine HP.wps_ret ?_)
local macro_rules | `(tactic| walk_at "hp1") => `(tactic| with_reducible refine HP.wp_truB ?_)
local macro_rules | `(tactic| walk_at "hp1") => `(tactic| with_reducible refine HP.wpt_cmp ?_)
local macro_rules | `(tactic| walk_at "hp1") => `(tactic| with_reducible refine HP.wps_ite ?_)
local macro_rules | `(tactic| walk_at "hp1") => `(tactic| with_reducible refine HP.wp_bcall ?_)
local macro_rules | `(tactic| walk_at "hp1") => `(tactic| with_reducible refine HP.wp_nil ?_)
local macro_rules | `(tactic| walk_at "hp1") => `(tactic| with_reducible refine HP.wp_cons ?_)
local macro_rules | `(tactic| walk_at "hp1") => `(tactic| with_reducible refine HP.wp_call ?_)
local macro_rules | `(tactic| walk_at "hp1") => `(tactic| with_reducible refine HP.wx_ix rfl rfl ?_)
local macro_rules | `(tactic| walk_at "hp1") => `(tactic| with_reducible refine HP.wp_ix ?_)
local macro_rules | `(tactic| walk_at "hp1") => `(tactic| with_reducible refine HP.wc_neI ?_)
local macro_rules | `(tactic| walk_at "hp1") => `(tactic| with_reducible refine HP.wc_eqI ?_)
local macro_rules | `(tactic| walk_at "hp1") => `(tactic| with_reducible refine HP.wc_ge ?_)
local macro_rules | `(tactic| walk_at "hp1") => `(tactic| with_reducible refine HP.wc_gt ?_)
local macro_rules | `(tactic| walk_at "hp1") => `(tactic| with_reducible refine HP.wc_le ?_)
local macro_rules | `(tactic| walk_at "hp1") => `(tactic| with_reducible refine HP.wc_lt ?_)
local macro_rules | `(tactic| walk_at "hp1") => `(tactic| with_reducible refine HP.wb_sub ?_)
local macro_rules | `(tactic| walk_at "hp1") => `(tactic| with_reducible refine HP.wb_add ?_)
local macro_rules | `(tactic| walk_at "hp1") => `(tactic| with_reducible refine HP.wp_cmp ?_)
local macro_rules | `(tactic| walk_at "hp1") => `(tactic| with_reducible refine HP.wp_bin ?_)
local macro_rules | `(tactic| walk_at "hp1") => `(tactic| with_reducible refine HP.wp_int ?_)
local macro_rules | `(tactic| walk_at "hp1") => `(tactic| with_reducible refine HP.wp_var rfl rfl ?_)
local macro_rules | `(tactic| walk_at "hp1") => `(tactic| with_reducible refine HP.wps_set ?_)
local macro_rules | `(tactic| walk_at "hp1") => `(tactic| with_reducible refine HP.wps_cons ?_)
local macro_rules | `(tactic| walk_at "hp0") => `(tactic| dsimp only [List.map, List.replicate, Nat.reduceSub, Nat.reduceAdd, List.cons_append, List.nil_append, List.append_nil, Option.map, List.append])
local macro_rules | `(tactic| walk_at "hp") => `(tactic| (repeat' walk_at "hp1"))
local macro_rules | `(tactic| walk_at "hq1") => `(tactic| refine HP.wq_ef rfl ?_)
local macro_rules | `(tactic| walk_at "hq1") => `(tactic| refine HP.wq_et rfl ?_)
local macro_rules | `(tactic| walk_at "hq1") => `(tactic| (first | with_reducible refine HP.wx_ix (HP.seq_loc (by assumption)) rfl ?_ | fail))
local macro_rules | `(tactic| walk_at "hq1") => `(tactic| (first | with_reducible refine HP.wf_len (HP.seq_loc (by assumption)) ?_ | fail))
local macro_rules | `(tactic| walk_at "hq1") => `(tactic| with_reducible refine HP.wf_len rfl ?_)
local macro_rules | `(tactic| walk_at "hq1") => `(tactic| (first | with_reducible refine HP.wq_ef (by decide) ?_ | fail))
local macro_rules | `(tactic| walk_at "hq1") => `(tactic| (first | with_reducible refine HP.wq_et (by decide) ?_ | fail))
local macro_rules | `(tactic| walk_at "hq1") => `(tactic| walk_at "hp1")
local macro_rules | `(tactic| walk_at "hq") => `(tactic| (repeat' walk_at "hq1"))
local macro_rules | `(tactic| walk_at "hs") => `(tactic| (repeat' ((fail_if_success (with_reducible refine HP.wps_ite ?_)); walk_at "hq1")))
local macro_rules | `(tactic| walk_at "hr1") => `(tactic| with_reducible refine HP.wf_isinT rfl rfl ?_)
local macro_rules | `(tactic| walk_at "hr1") => `(tactic| (first | with_reducible refine HP.wf_len (by assumption) ?_ | fail))
local macro_rules | `(tactic| walk_at "hr1") => `(tactic| (first | with_reducible refine HP.wf_isinT (by assumption) rfl ?_ | fail))
local macro_rules | `(tactic| walk_at "hr1") => `(tactic| (first | with_reducible refine HP.wf_isin (by assumption) ?_ | fail))
local macro_rules | `(tactic| walk_at "hr1") => `(tactic| (first | with_reducible refine HP.wp_var rfl (by assumption) ?_ | fail))
local macro_rules | `(tactic| walk_at "hr1") => `(tactic| walk_at "hq1")
local macro_rules | `(tactic| walk_at "hr") => `(tactic| (repeat' walk_at "hr1"))
namespace HP
open PySem L2
section
variable {L : List Fn} {k : Nat} {S : Sto}
theorem divisor_ok {a b : Int} : callN (Gof L) (k + 1) 46 [.int a, .int b] S = .ok (.int (a.gcd b : Nat)) S := by
  refine wp_eq (wp_def (fn := F_divisor) rfl rfl ?_)
  unfold F_divisor
  walk_at "hp0"
  refine wps_cons (wps_whl (fun n r S' => S' = S ∧ ∃ x y : Int, r = [some (.int x), some (.int y)] ∧ n = y.natAbs ∧ x.gcd y = a.gcd b) ⟨rfl, a, b, rfl, rfl, rfl⟩ ?_)
  rintro n r S' ⟨rfl, x, y, rfl, rfl, hg⟩
  walk_at "hp"
  refine wq_ndec (fun h => ?_) (fun h => ?_)
  · walk_at "hp"
    refine wb_mod h ?_
    walk_at "hp"
    exact ⟨_, fmod_natAbs_lt h, rfl, _, _, rfl, rfl, by rw [gcd_fmod]; exact hg⟩
  · subst h
    walk_at "hp"
    refine ⟨?_, rfl⟩
    rw [Int.gcd_zero_right] at hg
    rw [← hg]
    congr 1
    omega
theorem in_lowest_ok {a b : Int} (hb : b ≠ 0) (hs : b.natAbs ≤ 2 ^ 8900) : callN (Gof L) (k + 2) 60 [.int a, .int b] S = .ok (q (Rat.divInt a b)) S := by
  refine wp_eq (wp_def (fn := F_in_lowest) rfl rfl ?_)
  unfold F_in_lowest
  walk_at "hp0"
  walk_at "hp"
  refine wp_val divisor_ok ?_
  walk_at "hp"
  have hp : 0 < a.gcd b := Int.gcd_pos_iff.2 (Or.inr hb)
  have hl : a.gcd b ≤ 2 ^ 8900 := Nat.le_trans (Nat.le_of_dvd (by omega) (Int.gcd_dvd_natAbs_right a b)) hs
  refine wq_dec (fun h => ?_) (fun h => ?_)
  · walk_at "hp"
    have ho : okDiv a (0 - (a.gcd b : Nat)) = true := okDiv_of (by omega) (by omega)
    have ho2 : okDiv b (0 - (a.gcd b : Nat)) = true := okDiv_of (by omega) (by omega)
    refine wb_fdiv ho ?_
    walk_at "hp"
    refine wb_fdiv ho2 ?_
    walk_at "hp"
    exact ⟨low_eq hb (by rw [if_pos h]), rfl⟩
  · walk_at "hp"
    have ho : okDiv a ((a.gcd b : Nat) : Int) = true := okDiv_of (by omega) (by omega)
    have ho2 : okDiv b ((a.gcd b : Nat) : Int) = true := okDiv_of (by omega) (by omega)
    refine wb_fdiv ho ?_
    walk_at "hp"
    refine wb_fdiv ho2 ?_
    walk_at "hp"
    exact ⟨low_eq hb (by rw [if_neg h]), rfl⟩
end
end HP
namespace HP
open PySem L2
section
variable {L : List Fn} {k : Nat} {S : Sto} {x y : Rat} {a b c d : Nat}
theorem den_abs {x : Rat} {b : Nat} (h : x.den ≤ 2 ^ b) : ((x.den : Nat) : Int).natAbs ≤ 2 ^ b := by simpa using h
/-- at most 2^a on either side -/
def V (a : Nat) (x : Rat) : Prop := x.num.natAbs ≤ 2 ^ a * x.den
theorem V.mono {x : Rat} {a a' : Nat} (h : V a x) (k : a ≤ a') : V a' x := Nat.le_trans h (Nat.mul_le_mul_right _ (Nat.pow_le_pow_right (by decide) k))
theorem V.num {x : Rat} {a b : Nat} (h : V a x) (k : x.den ≤ 2 ^ b) : x.num.natAbs ≤ 2 ^ (a + b) := Sz.num ⟨h, k⟩
theorem den2 {x y : Rat} {b d : Nat} (h : x.den ≤ 2 ^ b) (k : y.den ≤ 2 ^ d) (e : b + d ≤ 8900) : x.den * y.den ≤ 2 ^ 8900 := by
  refine Nat.le_trans (Nat.mul_le_mul h k) ?_
  rw [← Nat.pow_add]
  exact Nat.pow_le_pow_right (by decide) e
theorem sz_den (x : Rat) (h : V a x) : Sz a x.den x := ⟨h, Nat.le_of_lt Nat.lt_two_pow_self⟩
theorem V.add {x y : Rat} {a c : Nat} (h : V a x) (k : V c y) : V (max a c + 1) (x + y) := ((sz_den x h).add (sz_den y k)).v
theorem V.sub {x y : Rat} {a c : Nat} (h : V a x) (k : V c y) : V (max a c + 1) (x - y) := ((sz_den x h).sub (sz_den y k)).v
theorem V.mul {x y : Rat} {a c : Nat} (h : V a x) (k : V c y) : V (a + c) (x * y) := ((sz_den x h).mul (sz_den y k)).v
theorem plus_okV (hx : V a x) (hy : V c y) (h : x.den * y.den ≤ 2 ^ 8900) (h2 : a + c ≤ 400000) : callN (Gof L) (k + 3) 164 [q x, q y] S = .ok (q (x + y)) S := by
  have hd := x.den_pos
  have hd2 := y.den_pos
  have hb1 : x.den ≤ 2 ^ 8900 := Nat.le_trans (Nat.le_mul_of_pos_right _ hd2) h
  have hb2 : y.den ≤ 2 ^ 8900 := Nat.le_trans (Nat.le_mul_of_pos_left _ hd) h
  refine wp_eq (wp_def (fn := F_plus) rfl rfl ?_)
  unfold F_plus
  walk_at "hp0"
  walk_at "hp"
  refine wb_mul (okMul_of (hx.num hb1) (den_abs hb2) (by omega)) ?_
  walk_at "hp"
  refine wb_mul (okMul_of (hy.num hb2) (den_abs hb1) (by omega)) ?_
  walk_at "hp"
  refine wb_mul (okMul_of (den_abs hb1) (den_abs hb2) (by decide)) ?_
  walk_at "hp"
  have e : ((x.den : Nat) : Int) * ((y.den : Nat) : Int) = ((x.den * y.den : Nat) : Int) := by simp
  refine wp_val (in_lowest_ok ?_ ?_) ?_
  · rw [e]; exact Int.natCast_ne_zero.2 (Nat.mul_ne_zero (by omega) (by omega))
  · rw [e, Int.natAbs_natCast]; exact h
  · refine ⟨?_, rfl⟩
    rw [e, Rat.divInt_ofNat, ← Rat.add_def']
theorem plus_ok (hx : Sz a b x) (hy : Sz c d y) (h : b + d ≤ 8900) (h2 : a + c ≤ 400000) : callN (Gof L) (k + 3) 164 [q x, q y] S = .ok (q (x + y)) S :=
  plus_okV hx.v hy.v (den2 hx.d hy.d h) h2
theorem minus_okV (hx : V a x) (hy : V c y) (h : x.den * y.den ≤ 2 ^ 8900) (h2 : a + c ≤ 400000) : callN (Gof L) (k + 3) 126 [q x, q y] S = .ok (q (x - y)) S := by
  have hd := x.den_pos
  have hd2 := y.den_pos
  have hb1 : x.den ≤ 2 ^ 8900 := Nat.le_trans (Nat.le_mul_of_pos_right _ hd2) h
  have hb2 : y.den ≤ 2 ^ 8900 := Nat.le_trans (Nat.le_mul_of_pos_left _ hd) h
  refine wp_eq (wp_def (fn := F_minus) rfl rfl ?_)
  unfold F_minus
  walk_at "hp0"
  walk_at "hp"
  refine wb_mul (okMul_of (hx.num hb1) (den_abs hb2) (by omega)) ?_
  walk_at "hp"
  refine wb_mul (okMul_of (hy.num hb2) (den_abs hb1) (by omega)) ?_
  walk_at "hp"
  refine wb_mul (okMul_of (den_abs hb1) (den_abs hb2) (by decide)) ?_
  walk_at "hp"
  have e : ((x.den : Nat) : Int) * ((y.den : Nat) : Int) = ((x.den * y.den : Nat) : Int) := by simp
  refine wp_val (in_lowest_ok ?_ ?_) ?_
  · rw [e]; exact Int.natCast_ne_zero.2 (Nat.mul_ne_zero (by omega) (by omega))
  · rw [e, Int.natAbs_natCast]; exact h
  · refine ⟨?_, rfl⟩
    rw [e, Rat.divInt_ofNat, ← Rat.sub_def']
theorem minus_ok (hx : Sz a b x) (hy : Sz c d y) (h : b + d ≤ 8900) (h2 : a + c ≤ 400000) : callN (Gof L) (k + 3) 126 [q x, q y] S = .ok (q (x - y)) S :=
  minus_okV hx.v hy.v (den2 hx.d hy.d h) h2
theorem product_okV (hx : V a x) (hy : V c y) (h : x.den * y.den ≤ 2 ^ 8900) (h2 : a + c ≤ 400000) : callN (Gof L) (k + 3) 169 [q x, q y] S = .ok (q (x * y)) S := by
  have hd := x.den_pos
  have hd2 := y.den_pos
  have hb1 : x.den ≤ 2 ^ 8900 := Nat.le_trans (Nat.le_mul_of_pos_right _ hd2) h
  have hb2 : y.den ≤ 2 ^ 8900 := Nat.le_trans (Nat.le_mul_of_pos_left _ hd) h
  refine wp_eq (wp_def (fn := F_product) rfl rfl ?_)
  unfold F_product
  walk_at "hp0"
  walk_at "hp"
  refine wb_mul (okMul_of (hx.num hb1) (hy.num hb2) (by omega)) ?_
  walk_at "hp"
  refine wb_mul (okMul_of (den_abs hb1) (den_abs hb2) (by decide)) ?_
  walk_at "hp"
  have e : ((x.den : Nat) : Int) * ((y.den : Nat) : Int) = ((x.den * y.den : Nat) : Int) := by simp
  refine wp_val (in_lowest_ok ?_ ?_) ?_
  · rw [e]; exact Int.natCast_ne_zero.2 (Nat.mul_ne_zero (by omega) (by omega))
  · rw [e, Int.natAbs_natCast]; exact h
  · refine ⟨?_, rfl⟩
    rw [e, Rat.divInt_ofNat, ← Rat.mul_def']
theorem product_ok (hx : Sz a b x) (hy : Sz c d y) (h : b + d ≤ 8900) (h2 : a + c ≤ 400000) : callN (Gof L) (k + 3) 169 [q x, q y] S = .ok (q (x * y)) S :=
  product_okV hx.v hy.v (den2 hx.d hy.d h) h2
theorem is_less_ok (hx : Sz a b x) (hy : Sz c d y) (h : a + b + d < 1000000) (h2 : c + d + b < 1000000) : callN (Gof L) (k + 1) 74 [q x, q y] S = .ok (.bl (decide (x < y))) S := by
  refine wp_eq (wp_def (fn := F_is_less) rfl rfl ?_)
  unfold F_is_less
  walk_at "hp0"
  walk_at "hp"
  refine wb_mul (okMul_of hx.num (den_abs hy.d) (by omega)) ?_
  walk_at "hp"
  refine wb_mul (okMul_of hy.num (den_abs hx.d) (by omega)) ?_
  walk_at "hp"
  refine ⟨?_, rfl⟩
  congr 1
  exact decide_eq_decide.2 (Rat.lt_iff x y).symm
theorem larger_ok (hx : Sz a b x) (hy : Sz c d y) (h : a + b + d < 1000000) (h2 : c + d + b < 1000000) : callN (Gof L) (k + 2) 97 [q x, q y] S = .ok (q (if x < y then y else x)) S := by
  refine wp_eq (wp_def (fn := F_larger) rfl rfl ?_)
  unfold F_larger
  walk_at "hp0"
  walk_at "hp"
  refine wp_val (is_less_ok hx hy h h2) ?_
  walk_at "hp"
  refine wq_dec (fun h => ?_) (fun h => ?_)
  · walk_at "hp"; exact ⟨by rw [if_pos h], rfl⟩
  · walk_at "hp"; exact ⟨by rw [if_neg h], rfl⟩
theorem sz0 : Sz 0 0 (0 : Rat) := ⟨by decide, by decide⟩
theorem V_sum {a : Nat} : {xs : List Rat} → (∀ x ∈ xs, V a x) → V (a + xs.length) xs.sum
  | [], _ => by rw [List.sum_nil]; exact V.mono (sz0).v (Nat.zero_le _)
  | x :: xs, h => by
    rw [List.sum_cons]
    have h1 := V_sum (a := a) (xs := xs) fun y m => h y (List.mem_cons_of_mem _ m)
    refine ((h x List.mem_cons_self).add h1).mono ?_
    rw [List.length_cons]
    omega
theorem take_succ_get {A : Type} {xs : List A} {i : Nat} {x : A} (h : xs[i]? = some x) : xs.take (i + 1) = xs.take i ++ [x] := by
  rw [List.take_add_one, h]; rfl
theorem sum_app (xs ys : List Rat) : (xs ++ ys).sum = xs.sum + ys.sum := by
  induction xs with
  | nil => rw [List.nil_append, List.sum_nil, Rat.zero_add]
  | cons x xs ih => rw [List.cons_append, List.sum_cons, List.sum_cons, ih, Rat.add_assoc]
theorem sum_one (x : Rat) : [x].sum = x := by rw [List.sum_cons, List.sum_nil, Rat.add_zero]
end
end HP
namespace HP
open PySem L2
/-- only places of P may have changed -/
def Ag (P : Nat → Prop) (S S' : Sto) : Prop := S.length ≤ S'.length ∧ ∀ i, i < S.length → ¬P i → S'[i]? = S[i]?
theorem Ag.rfl {P : Nat → Prop} {S : Sto} : Ag P S S := ⟨Nat.le_refl _, fun _ _ _ => _root_.rfl⟩
theorem Ag.trans {P : Nat → Prop} {S S1 S2 : Sto} (h : Ag P S S1) (k : Ag P S1 S2) : Ag P S S2 :=
  ⟨Nat.le_trans h.1 k.1, fun i hi hp => (k.2 i (Nat.lt_of_lt_of_le hi h.1) hp).trans (h.2 i hi hp)⟩
theorem Ag.mono {P P' : Nat → Prop} {S S' : Sto} (h : Ag P S S') (k : ∀ i, P i → P' i) : Ag P' S S' := ⟨h.1, fun i hi hp => h.2 i hi fun q => hp (k i q)⟩
theorem Ag.app {P : Nat → Prop} {S T : Sto} : Ag P S (S ++ T) := ⟨by rw [List.length_append]; omega, fun i hi _ => by rw [List.getElem?_append_left hi]⟩
theorem Ag.set {P : Nat → Prop} {S : Sto} {l : Nat} {o : O} (h : P l ∨ S.length ≤ l) : Ag P S (S.set l o) := by
  refine ⟨by rw [List.length_set]; exact Nat.le_refl _, fun i hi hp => ?_⟩
  rw [List.getElem?_set_ne]
  rintro rfl
  rcases h with h | h
  · exact hp h
  · omega
/-- a new place may be changed, too: what stood stands -/
theorem Ag.new {P : Nat → Prop} {S S1 S2 : Sto} (h : Ag P S S1) (k : Ag (fun i => P i ∨ S.length ≤ i) S1 S2) : Ag P S S2 :=
  ⟨Nat.le_trans h.1 k.1, fun i hi hp => (k.2 i (Nat.lt_of_lt_of_le hi h.1) (by rintro (q | q); exact hp q; omega)).trans (h.2 i hi hp)⟩
theorem Ag.get {P : Nat → Prop} {S S' : Sto} {l : Nat} {o : O} (h : Ag P S S') (k : S[l]? = some o) (hp : ¬P l) : S'[l]? = some o := by
  rw [h.2 l (List.getElem?_eq_some_iff.1 k).1 hp]; exact k
theorem get_lt {S : Sto} {l : Nat} {o : O} (k : S[l]? = some o) : l < S.length := (List.getElem?_eq_some_iff.1 k).1
theorem set_get {S : Sto} {l : Nat} {o o' : O} (h : S[l]? = some o) : (S.set l o')[l]? = some o' := by
  rw [List.getElem?_set_self (get_lt h)]
theorem app_get {S : Sto} {o : O} : (S ++ [o])[S.length]? = some o := by
  rw [List.getElem?_append_right (Nat.le_refl _), Nat.sub_self]; rfl
theorem setIx_loc {S : Sto} {l : Nat} {ds : List D} {i : Int} {j : Nat} {v : D} (h : S[l]? = some (.lst ds)) (h2 : ixN ds.length i = some j) : setIxD S (.loc l) (.int i) v = some (S.set l (.lst (ds.set j v))) := by
  unfold setIxD; dsimp only; rw [h]; dsimp only; rw [h2]
theorem isL_loc {S : Sto} {l : Nat} {ds : List D} (h : S[l]? = some (.lst ds)) : isL S (.loc l) = true := by
  unfold isL; dsimp only; rw [h]
/-- the state that digits are drawn from -/
def StAt (l : Nat) (S : Sto) : Prop := ∃ (a b : Int) (c : Bool), S[l]? = some (.lst [.int a, .int b, .bl c]) ∧ b.natAbs < 2 ^ 31
theorem StAt.ag {P : Nat → Prop} {l : Nat} {S S' : Sto} (h : StAt l S) (k : Ag P S S') (hp : ¬P l) : StAt l S' := by
  obtain ⟨a, b, c, h1, h2⟩ := h
  exact ⟨a, b, c, k.get h1 hp, h2⟩
def K_take (m a p : Int) : Fn := ⟨2, 5,
 (.cons (.ite (.ix (.var 0) (.int 2)) (.cons (.set 2 (.bin .mod (.ix (.var 0) (.int 0)) (.var 1)))
 (.cons (.setIx (.var 0) (.int 0) (.bin .fdiv (.ix (.var 0) (.int 0)) (.var 1)))
 (.cons (.setIx (.var 0) (.int 2) (.cmp .gt (.ix (.var 0) (.int 0)) (.int 0)))
 (.cons (.ret (.var 2))
 .nil)))) .nil)
 (.cons (.set 3 (.int 0))
 (.cons (.for_ (.name 4) (.rng1 (.bin .add (.int 1) (.bin .mul (.int 8) (.bcall .int (.cons (.cmp .gt (.var 1) (.bin .pow (.int 10) (.int 6))) .nil))))) (.cons (.setIx (.var 0) (.int 1) (.bin .mod (.bin .add (.bin .mul (.ix (.var 0) (.int 1)) (.int m)) (.int a)) (.int 2147483647)))
 (.cons (.set 3 (.bin .add (.bin .mul (.var 3) (.int p)) (.bin .mod (.bin .mul (.ix (.var 0) (.int 1)) (.ix (.var 0) (.int 1))) (.int p))))
 .nil)))
 (.cons (.ret (.bin .mod (.bin .fdiv (.var 3) (.int 64)) (.var 1)))
 .nil))))⟩
theorem fmod_lt {i p : Int} (h : 0 < p) : 0 ≤ i.fmod p ∧ i.fmod p < p := ⟨Int.fmod_nonneg_of_pos i h, Int.fmod_lt_of_pos i h⟩
theorem take_ok {G : Tab} {k f l : Nat} {m a p many : Int} {S : Sto} (hG : G f = some (K_take m a p)) (hst : StAt l S) (hm : m.natAbs ≤ 2 ^ 31) (hp : 0 < p ∧ p < 2 ^ 31) (h0 : 0 < many) (h1 : many.natAbs ≤ 2 ^ 8900) :
    Wp (callN G (k + 1) f [.loc l, .int many] S) fun d S' => StAt l S' ∧ Ag (· = l) S S' ∧ ∃ v, d = .int v ∧ 0 ≤ v ∧ v < many := by
  obtain ⟨A, B, C, hl, hb⟩ := hst
  refine wp_def hG rfl ?_
  unfold K_take
  walk_at "hp0"
  walk_at "hp"
  refine wx_ix (seq_loc hl) rfl ?_
  walk_at "hp"
  cases C with
  | true =>
    walk_at "hp"
    refine wx_ix (seq_loc hl) rfl ?_
    walk_at "hp"
    refine wb_mod (by omega) ?_
    walk_at "hp"
    refine wx_ix (seq_loc hl) rfl ?_
    walk_at "hp"
    refine wb_fdiv (okDiv_of (by omega) h1) ?_
    walk_at "hp"
    refine wz_some (setIx_loc hl rfl) ?_
    walk_at "hp"
    refine wx_ix (seq_loc (set_get hl)) rfl ?_
    walk_at "hp"
    refine wz_some (setIx_loc (set_get hl) rfl) ?_
    walk_at "hp"
    refine ⟨⟨_, B, _, set_get (set_get hl), hb⟩, ?_, _, rfl, fmod_lt h0⟩
    exact (Ag.set (P := (· = l)) (l := l) (Or.inl rfl)).trans (Ag.set (P := (· = l)) (l := l) (Or.inl rfl))
  | false =>
    walk_at "hp"
    refine wb_mul (by split <;> decide) ?_
    walk_at "hp"
    refine ⟨by split <;> decide, ?_⟩
    refine forE_inv (fun i r S' => ∃ (v : Int) (z : Option D), r = [some (.loc l), some (.int many), none, some (.int v), z] ∧ v.natAbs < 2 ^ (32 * i) ∧ Ag (· = l) S S' ∧ ∃ b : Int, S'[l]? = some (.lst [.int A, .int b, .bl false]) ∧ b.natAbs < 2 ^ 31)
      ⟨0, none, rfl, by decide, Ag.rfl, B, hl, hb⟩ (fun i r S' _ _ => (by intro p hp; cases hp)) ?_ ?_
    · rintro i d r S' hd ⟨v, z, rfl, hv, hag, b, hl1, hb1⟩
      refine ⟨_, rfl, ?_⟩
      have hi : i < 9 := by
        have := (List.getElem?_eq_some_iff.1 hd).1
        unfold rngL at this
        rw [List.length_map, List.length_range] at this
        split at this <;> omega
      walk_at "hp"
      refine wx_ix (seq_loc hl1) rfl ?_
      walk_at "hp"
      refine wb_mul (okMul_of (a := 31) (b := 31) (Nat.le_of_lt hb1) hm (by decide)) ?_
      walk_at "hp"
      refine wz_some (setIx_loc hl1 rfl) ?_
      walk_at "hp"
      have hv2 : v.natAbs ≤ 2 ^ 300 := Nat.le_trans (Nat.le_of_lt hv) (Nat.pow_le_pow_right (by decide) (by omega))
      refine wb_mul (okMul_of (a := 300) (b := 31) hv2 (by omega) (by decide)) ?_
      walk_at "hp"
      refine wx_ix (seq_loc (set_get hl1)) rfl ?_
      walk_at "hp"
      refine wx_ix (seq_loc (set_get hl1)) rfl ?_
      walk_at "hp"
      have hb2 := fmod_lt (i := b * m + a) (p := 2147483647) (by decide)
      refine wb_mul (okMul_of (a := 31) (b := 31) (by omega) (by omega) (by decide)) ?_
      walk_at "hp"
      refine wb_mod (by omega) ?_
      walk_at "hp"
      refine ⟨_, _, rfl, ?_, hag.trans (Ag.set (l := l) (Or.inl rfl)), _, set_get hl1, by omega⟩
      generalize (b * m + a).fmod 2147483647 = w at *
      have hw := fmod_lt (i := w * w) hp.1
      have h3 : 2 ^ (32 * (i + 1)) = 2 ^ (32 * i) * 2 ^ 32 := by rw [← Nat.pow_add]; rfl
      rw [h3]
      generalize 2 ^ (32 * i) = P at *
      generalize (w * w).fmod p = u at *
      refine Nat.lt_of_le_of_lt (Int.natAbs_add_le _ _) ?_
      rw [Int.natAbs_mul]
      have h4 : v.natAbs * p.natAbs ≤ (P - 1) * 2 ^ 31 := Nat.mul_le_mul (by omega) (by omega)
      omega
    · rintro r S' ⟨v, z, rfl, hv, hag, b, hl1, hb1⟩
      walk_at "hp"
      refine wb_mod (by omega) ?_
      walk_at "hp"
      exact ⟨⟨_, _, _, hl1, hb1⟩, hag, _, rfl, fmod_lt h0⟩
end HP
namespace HP
open PySem L2
def K_begun (p a b : Int) : Fn := ⟨2, 3,
 (.cons (.set 2 (.int 0))
 (.cons (.ite (.cmp .lt (.var 1) (.bcall .len (.cons (.var 0) .nil))) (.cons (.set 2 (.ix (.var 0) (.var 1)))
 .nil) .nil)
 (.cons (.ret (.lst (.cons (.var 2) (.cons (.bin .mod (.bin .add (.bin .add (.bin .mod (.var 2) (.int p)) (.bin .mul (.bin .mul (.int a) (.var 1)) (.var 1))) (.int b)) (.int p)) (.cons (.cmp .ge (.var 2) (.bin .pow (.int 10) (.int 18))) .nil)))))
 .nil)))⟩
theorem atI_nat {A : Type} {xs : List A} {i : Nat} (h : i < xs.length) : atI xs (i : Int) = some xs[i] := by
  unfold atI ixN
  rw [if_pos (by omega), if_pos (by omega)]
  show xs[(i : Int).toNat]? = _
  rw [Int.toNat_natCast, List.getElem?_eq_getElem h]
theorem natAbs_fmod {z p : Int} (h : 0 < p ∧ p < 2 ^ 31) : (z.fmod p).natAbs < 2 ^ 31 := by
  have := fmod_lt (i := z) h.1
  omega
theorem nat_mul {i j : Int} {a b : Nat} (h : i.natAbs ≤ 2 ^ a) (k : j.natAbs ≤ 2 ^ b) : (i * j).natAbs ≤ 2 ^ (a + b) := by
  rw [Int.natAbs_mul, Nat.pow_add]
  exact Nat.mul_le_mul h k
theorem begun_ok {G : Tab} {k f i : Nat} {p a b : Int} {ns : List Int} {S : Sto} (hG : G f = some (K_begun p a b)) (hp : 0 < p ∧ p < 2 ^ 31) (ha : a.natAbs ≤ 2 ^ 31) (hi : i < 2 ^ 31) :
    Wp (callN G (k + 1) f [.frl (ns.map .int), .int (i : Nat)] S) fun d S' => d = .loc S.length ∧ StAt S.length S' ∧ ∃ o, S' = S ++ [o] := by
  refine wp_def hG rfl ?_
  unfold K_begun
  walk_at "hp0"
  walk_at "hp"
  refine wf_len rfl ?_
  walk_at "hp"
  refine wq_dec (fun h => ?_) (fun h => ?_)
  · walk_at "hp"
    have hl : i < (ns.map D.int).length := by omega
    refine wx_ix rfl (atI_nat hl) ?_
    rw [List.getElem_map]
    walk_at "hp"
    refine wb_mod (by omega) ?_
    walk_at "hp"
    refine wb_mul (okMul_of (a := 31) (b := 31) ha (by omega) (by decide)) ?_
    walk_at "hp"
    refine wb_mul (okMul_of (a := 62) (b := 31) (by exact nat_mul (a := 31) (b := 31) ha (by omega)) (by omega) (by decide)) ?_
    walk_at "hp"
    refine wb_mod (by omega) ?_
    walk_at "hp"
    exact ⟨rfl, ⟨_, _, _, app_get, natAbs_fmod hp⟩, _, rfl⟩
  · walk_at "hp"
    refine wb_mod (by omega) ?_
    walk_at "hp"
    refine wb_mul (okMul_of (a := 31) (b := 31) ha (by omega) (by decide)) ?_
    walk_at "hp"
    refine wb_mul (okMul_of (a := 62) (b := 31) (by exact nat_mul (a := 31) (b := 31) ha (by omega)) (by omega) (by decide)) ?_
    walk_at "hp"
    refine wb_mod (by omega) ?_
    walk_at "hp"
    exact ⟨rfl, ⟨_, _, _, app_get, natAbs_fmod hp⟩, _, rfl⟩
def K_low : Fn := ⟨2, 4,
 (.cons (.set 2 (.var 0))
 (.cons (.set 3 (.var 1))
 (.cons (.whl (.cmp .ne (.var 3) (.int 0)) (.cons (.par 2 3 (.var 3) (.bin .mod (.var 2) (.var 3)))
 .nil))
 (.cons (.ret (.tup (.cons (.bin .fdiv (.var 0) (.var 2)) (.cons (.bin .fdiv (.var 1) (.var 2)) .nil))))
 .nil))))⟩
/-- the last rest above nought -/
theorem low_ok {G : Tab} {k f : Nat} {a b : Int} {S : Sto} (hG : G f = some K_low) (hb : 0 < b) (hs : b.natAbs ≤ 2 ^ 8900) : callN G (k + 1) f [.int a, .int b] S = .ok (q (Rat.divInt a b)) S := by
  refine wp_eq (wp_def hG rfl ?_)
  unfold K_low
  walk_at "hp0"
  walk_at "hp"
  refine wps_whl (fun n r S' => S' = S ∧ ∃ x y : Int, r = [some (.int a), some (.int b), some (.int x), some (.int y)] ∧ n = y.natAbs ∧ x.gcd y = a.gcd b ∧ 0 ≤ y ∧ (y = 0 → 0 < x)) ⟨rfl, a, b, rfl, rfl, rfl, by omega, by omega⟩ ?_
  rintro n r S' ⟨rfl, x, y, rfl, rfl, hg, hy, hx⟩
  walk_at "hp"
  refine wq_ndec (fun h => ?_) (fun h => ?_)
  · walk_at "hp"
    refine wb_mod h ?_
    walk_at "hp"
    exact ⟨_, fmod_natAbs_lt h, rfl, _, _, rfl, rfl, by rw [gcd_fmod]; exact hg, (fmod_lt (by omega)).1, fun _ => by omega⟩
  · subst h
    rw [Int.gcd_zero_right] at hg
    have hx := hx rfl
    have e : x = (a.gcd b : Nat) := by omega
    have hp : 0 < a.gcd b := Int.gcd_pos_iff.2 (Or.inr (by omega))
    have hl : a.gcd b ≤ 2 ^ 8900 := Nat.le_trans (Nat.le_of_dvd (by omega) (Int.gcd_dvd_natAbs_right a b)) hs
    have ho : okDiv a ((a.gcd b : Nat) : Int) = true := okDiv_of (by omega) (by omega)
    have ho2 : okDiv b ((a.gcd b : Nat) : Int) = true := okDiv_of (by omega) (by omega)
    rw [e]
    walk_at "hp"
    refine wb_fdiv ho ?_
    walk_at "hp"
    refine wb_fdiv ho2 ?_
    walk_at "hp"
    exact ⟨low_eq (by omega) (by rw [if_neg (by omega)]), rfl⟩
end HP
namespace HP
open PySem L2
mutual
/-- the value d stands for the data x; its changeable places are of P -/
def Dt (P : Nat → Prop) (S : Sto) : PyData → D → Prop
  | .none, d => d = .non
  | .bool b, d => d = .bl b
  | .int i, d => d = .int i
  | .str s, d => d = .str s
  | .tuple xs, d => ∃ ds, d = .tup ds ∧ DtA P S xs ds
  | .list xs, d => ∃ ds, (d = .frl ds ∨ ∃ l, d = .loc l ∧ P l ∧ S[l]? = some (.lst ds)) ∧ DtA P S xs ds
  | .dict _, _ => False
def DtA (P : Nat → Prop) (S : Sto) : List PyData → List D → Prop
  | [], ds => ds = []
  | x :: xs, ds => ∃ d ds', ds = d :: ds' ∧ Dt P S x d ∧ DtA P S xs ds'
end
mutual
def fuel : PyData → Nat
  | .list xs => fuelA xs + 1
  | .tuple xs => fuelA xs + 1
  | _ => 0
def fuelA : List PyData → Nat
  | [] => 0
  | x :: xs => max (fuel x) (fuelA xs) + 1
end
mutual
theorem Dt.rd {P : Nat → Prop} {S : Sto} : {x : PyData} → {d : D} → {n : Nat} → Dt P S x d → fuel x ≤ n → rdD S n d = some x
  | .none, d, n, h, _ => by cases (h : d = .non); cases n <;> rfl
  | .bool b, d, n, h, _ => by cases (h : d = .bl b); cases n <;> rfl
  | .int i, d, n, h, _ => by cases (h : d = .int i); cases n <;> rfl
  | .str s, d, n, h, _ => by cases (h : d = .str s); cases n <;> rfl
  | .tuple xs, d, n, h, hn => by
    obtain ⟨ds, rfl, h⟩ := h
    obtain ⟨m, rfl⟩ : ∃ m, n = m + 1 := ⟨n - 1, by simp only [fuel] at hn; omega⟩
    unfold rdD
    rw [h.rd (by simp only [fuel] at hn; omega)]
    rfl
  | .list xs, d, n, h, hn => by
    obtain ⟨ds, h1, h⟩ := h
    obtain ⟨m, rfl⟩ : ∃ m, n = m + 1 := ⟨n - 1, by simp only [fuel] at hn; omega⟩
    have e := h.rd (n := m) (by simp only [fuel] at hn; omega)
    rcases h1 with rfl | ⟨l, rfl, _, h1⟩
    · unfold rdD
      rw [e]
      rfl
    · unfold rdD
      rw [h1]
      dsimp only
      rw [e]
      rfl
  | .dict _, d, n, h, _ => h.elim
theorem DtA.rd {P : Nat → Prop} {S : Sto} : {xs : List PyData} → {ds : List D} → {n : Nat} → DtA P S xs ds → fuelA xs ≤ n → rdAll S n ds = some xs
  | [], ds, n, h, _ => by cases (h : ds = []); cases n <;> rfl
  | x :: xs, ds, n, h, hn => by
    obtain ⟨d, ds', rfl, h1, h2⟩ := h
    obtain ⟨m, rfl⟩ : ∃ m, n = m + 1 := ⟨n - 1, by simp only [fuelA] at hn; omega⟩
    unfold rdAll
    rw [h1.rd (by simp only [fuelA] at hn; omega), h2.rd (by simp only [fuelA] at hn; omega)]
end
mutual
theorem Dt.mono {P P' : Nat → Prop} {S S' : Sto} (hl : ∀ l ds, P l → S[l]? = some (.lst ds) → P' l ∧ S'[l]? = some (.lst ds)) : {x : PyData} → {d : D} → Dt P S x d → Dt P' S' x d
  | .none, d, h => h
  | .bool b, d, h => h
  | .int i, d, h => h
  | .str s, d, h => h
  | .tuple xs, d, h => by
    obtain ⟨ds, rfl, h⟩ := h
    exact ⟨ds, rfl, h.mono hl⟩
  | .list xs, d, h => by
    obtain ⟨ds, h1, h⟩ := h
    refine ⟨ds, ?_, h.mono hl⟩
    rcases h1 with rfl | ⟨l, rfl, p, h1⟩
    · exact Or.inl rfl
    · exact Or.inr ⟨l, rfl, hl l ds p h1⟩
  | .dict _, d, h => h.elim
theorem DtA.mono {P P' : Nat → Prop} {S S' : Sto} (hl : ∀ l ds, P l → S[l]? = some (.lst ds) → P' l ∧ S'[l]? = some (.lst ds)) : {xs : List PyData} → {ds : List D} → DtA P S xs ds → DtA P' S' xs ds
  | [], ds, h => h
  | x :: xs, ds, h => by
    obtain ⟨d, ds', rfl, h1, h2⟩ := h
    exact ⟨d, ds', rfl, h1.mono hl, h2.mono hl⟩
end
theorem Dt.ag {P Q : Nat → Prop} {S S' : Sto} {x : PyData} {d : D} (h : Dt P S x d) (k : Ag Q S S') (hp : ∀ l, P l → ¬Q l) : Dt P S' x d :=
  h.mono fun l ds p e => ⟨p, k.get e (hp l p)⟩
mutual
def plain : PyData → Bool
  | .list xs => plainA xs
  | .tuple xs => plainA xs
  | .dict _ => false
  | _ => true
def plainA : List PyData → Bool
  | [] => true
  | x :: xs => plain x && plainA xs
end
mutual
theorem eqv_refl : (x : PyData) → plain x = true → PyData.eqv x x = true
  | .none, _ => rfl
  | .bool b, _ => by cases b <;> rfl
  | .int i, _ => by show (i == i) = true; simp
  | .str s, _ => by show (s == s) = true; simp
  | .tuple xs, h => eqvAll_refl xs h
  | .list xs, h => eqvAll_refl xs h
theorem eqvAll_refl : (xs : List PyData) → plainA xs = true → PyData.eqvAll xs xs = true
  | [], _ => rfl
  | x :: xs, h => by
    have h := Bool.and_eq_true_iff.1 h
    show (PyData.eqv x x && PyData.eqvAll xs xs) = true
    rw [eqv_refl x h.1, eqvAll_refl xs h.2]
    rfl
end
/-- data that may be compared -/
structure Cmp (x : PyData) : Prop where
  f : fuel x ≤ 200
  s : SeqAt.shaped x = true
theorem eq_tup {P P' : Nat → Prop} {S : Sto} {x y : PyData} {ds : List D} {b : D} (h1 : Dt P S x (.tup ds)) (h2 : Dt P' S y b) (c1 : Cmp x) (c2 : Cmp y) : eqD S (.tup ds) b = some (PyData.eqv x y) := by
  unfold eqD
  split <;> first | contradiction | skip
  rename_i e1 e2
  rw [h1.rd c1.f, h2.rd c2.f]
  dsimp only
  rw [if_pos ⟨c1.s, c2.s⟩]
theorem eq_loc {P P' : Nat → Prop} {S : Sto} {x y : PyData} {l : Nat} {b : D} (h1 : Dt P S x (.loc l)) (h2 : Dt P' S y b) (c1 : Cmp x) (c2 : Cmp y) : eqD S (.loc l) b = some (PyData.eqv x y) := by
  unfold eqD
  split <;> first | contradiction | skip
  rename_i e1 e2
  rw [h1.rd c1.f, h2.rd c2.f]
  dsimp only
  rw [if_pos ⟨c1.s, c2.s⟩]
/-- a fraction's data -/
def qd (x : Rat) : PyData := .tuple [.int x.num, .int x.den]
theorem dt_q {P : Nat → Prop} {S : Sto} (x : Rat) : Dt P S (qd x) (q x) := ⟨_, rfl, _, _, rfl, rfl, _, _, rfl, rfl, rfl⟩
theorem dtA_map {A : Type} {P : Nat → Prop} {S : Sto} {f : A → PyData} {g : A → D} : {xs : List A} → (∀ x ∈ xs, Dt P S (f x) (g x)) → DtA P S (xs.map f) (xs.map g)
  | [], _ => rfl
  | x :: xs, h => ⟨_, _, rfl, h x List.mem_cons_self, dtA_map fun y m => h y (List.mem_cons_of_mem _ m)⟩
theorem fuelA_map {A : Type} {f : A → PyData} {n : Nat} : {xs : List A} → (∀ x ∈ xs, fuel (f x) ≤ n) → fuelA (xs.map f) ≤ n + xs.length
  | [], _ => Nat.zero_le _
  | x :: xs, h => by
    have h1 := h x List.mem_cons_self
    have h2 := fuelA_map (xs := xs) fun y m => h y (List.mem_cons_of_mem _ m)
    rw [List.map_cons, List.length_cons]
    show max (fuel (f x)) (fuelA (xs.map f)) + 1 ≤ _
    omega
theorem lay_map {A : Type} {f : A → PyData} : {xs : List A} → (∀ x ∈ xs, PyData.canLay0 (f x) = true) → PyData.canLayAll0 (xs.map f) = true
  | [], _ => rfl
  | x :: xs, h => by
    show (PyData.canLay0 (f x) && PyData.canLayAll0 (xs.map f)) = true
    rw [h x List.mem_cons_self, lay_map fun y m => h y (List.mem_cons_of_mem _ m)]
    rfl
theorem depth_map {A : Type} {f : A → PyData} {n : Nat} : {xs : List A} → (∀ x ∈ xs, PyData.depth (f x) ≤ n) → PyData.depthAll (xs.map f) ≤ n
  | [], _ => Nat.zero_le _
  | x :: xs, h => by
    show max (PyData.depth (f x)) (PyData.depthAll (xs.map f)) ≤ n
    exact Nat.max_le.2 ⟨h x List.mem_cons_self, depth_map fun y m => h y (List.mem_cons_of_mem _ m)⟩
theorem plain_map {A : Type} {f : A → PyData} : {xs : List A} → (∀ x ∈ xs, plain (f x) = true) → plainA (xs.map f) = true
  | [], _ => rfl
  | x :: xs, h => by
    show (plain (f x) && plainA (xs.map f)) = true
    rw [h x List.mem_cons_self, plain_map fun y m => h y (List.mem_cons_of_mem _ m)]
    rfl
theorem cmp_q (x : Rat) : Cmp (qd x) := ⟨by show max 0 (max 0 0 + 1) + 1 + 1 ≤ 200; decide, rfl⟩
theorem cmp_list {A : Type} {f : A → PyData} {n : Nat} {xs : List A} (h : ∀ x ∈ xs, fuel (f x) ≤ n ∧ PyData.canLay0 (f x) = true ∧ PyData.depth (f x) ≤ 63) (hn : n + xs.length < 200) : Cmp (.list (xs.map f)) := by
  constructor
  · show fuelA (xs.map f) + 1 ≤ 200
    have := fuelA_map fun x m => (h x m).1
    omega
  · unfold SeqAt.shaped
    rw [Bool.and_eq_true]
    refine ⟨lay_map fun x m => (h x m).2.1, decide_eq_true ?_⟩
    have := depth_map fun x m => (h x m).2.2
    show PyData.depthAll (xs.map f) + 1 ≤ 64
    omega
theorem eqv_q (x y : Rat) : PyData.eqv (qd x) (qd y) = decide (x = y) := by
  show (x.num == y.num && ((x.den : Int) == (y.den : Int) && true)) = _
  by_cases h : x = y
  · subst h; simp
  · rw [decide_eq_false h]
    rw [Bool.and_true, Bool.and_eq_false_iff]
    by_cases e : x.num = y.num
    · right
      have : x.den ≠ y.den := fun e2 => h (Rat.ext e e2)
      rw [beq_eq_false_iff_ne]
      omega
    · left; simpa using e
theorem eqD_q {S : Sto} (x y : Rat) : eqD S (q x) (q y) = some (decide (x = y)) := by
  rw [← eqv_q]
  exact eq_tup (P := fun _ => True) (P' := fun _ => True) (dt_q x) (dt_q y) (cmp_q x) (cmp_q y)
end HP
namespace HP
open PySem L2
section
variable {c : Call} {r : Ev} {S : Sto} {Q : D → Sto → Prop}
variable {nx : Ev → Sto → Prop} {rt : D → Sto → Prop} {bk ct : Ev → Sto → Prop} {ex : Xn → Ev → Sto → Prop}
/-- what holds behind a statement -/
theorem wps_cut (M : Ev → Sto → Prop) {s : RS} (h : WpS s ⟨M, rt, bk, ct, ex⟩) (k : ∀ r1 S1, M r1 S1 → nx r1 S1) : WpS s ⟨nx, rt, bk, ct, ex⟩ :=
  wps_mono h k (fun _ _ h => h) (fun _ _ h => h) (fun _ _ h => h) (fun _ _ _ h => h)
theorem rngi_get {lo : Int} {n i : Nat} {d : D} (h : (rngL lo n)[i]? = some d) : i < n ∧ d = .int (lo + (i : Nat)) := by
  unfold rngL at h
  rw [List.getElem?_map, Option.map_eq_some_iff] at h
  obtain ⟨j, h1, rfl⟩ := h
  obtain ⟨h2, h3⟩ := List.getElem?_eq_some_iff.1 h1
  rw [List.length_range] at h2
  rw [List.getElem_range] at h3
  subst h3
  exact ⟨h2, rfl⟩
theorem rng0_get {n i : Nat} {d : D} (h : (rngL 0 n)[i]? = some d) : i < n ∧ d = .int (i : Nat) := by
  obtain ⟨h1, h2⟩ := rngi_get h
  exact ⟨h1, by rw [h2, Int.zero_add]⟩
theorem rngi_len {lo : Int} {n : Nat} : (rngL lo n).length = n := by unfold rngL; rw [List.length_map, List.length_range]
theorem still0 {S : Sto} : Still [] S := by intro p h; cases h
theorem still1 {S : Sto} {l : Nat} {ds : List D} (h : S[l]? = some (.lst ds)) : Still [(l, ds)] S := by
  intro p m
  rcases List.mem_cons.1 m with rfl | m
  · exact h
  · cases m
theorem divInt_sz {n b : Int} {a c : Nat} (hb : 0 < b) (h1 : n.natAbs ≤ 2 ^ a) (h2 : b ≤ ((2 ^ c : Nat) : Int)) : V a (Rat.divInt n b) ∧ (Rat.divInt n b).den ≤ 2 ^ c := by
  obtain ⟨m, rfl⟩ : ∃ m : Nat, b = m := ⟨b.toNat, by omega⟩
  rw [Rat.divInt_ofNat]
  have h0 : m ≠ 0 := by omega
  have := sz_mkRat (n := n) (d := m) (a := a) (b := c) h0 (Nat.le_trans h1 (Nat.le_mul_of_pos_right _ (by omega))) (Int.ofNat_le.1 h2)
  exact ⟨this.v, this.d⟩
theorem add_divInt (x y : Rat) : Rat.divInt (x.num * y.den + y.num * x.den) ((x.den : Int) * y.den) = x + y := by
  have e : ((x.den : Nat) : Int) * ((y.den : Nat) : Int) = ((x.den * y.den : Nat) : Int) := by simp
  rw [e, Rat.divInt_ofNat, ← Rat.add_def']
theorem sub_divInt (x y : Rat) : Rat.divInt (x.num * y.den - y.num * x.den) ((x.den : Int) * y.den) = x - y := by
  have e : ((x.den : Nat) : Int) * ((y.den : Nat) : Int) = ((x.den * y.den : Nat) : Int) := by simp
  rw [e, Rat.divInt_ofNat, ← Rat.sub_def']
theorem mul_divInt (x y : Rat) : Rat.divInt (x.num * y.num) ((x.den : Int) * y.den) = x * y := by
  have e : ((x.den : Nat) : Int) * ((y.den : Nat) : Int) = ((x.den * y.den : Nat) : Int) := by simp
  rw [e, Rat.divInt_ofNat, ← Rat.mul_def']
theorem den_mul_nz (x y : Rat) : 0 < (x.den : Int) * y.den := by
  have h1 := x.den_pos
  have h2 := y.den_pos
  exact Int.mul_pos (by omega) (by omega)
theorem den_mul_le {x y : Rat} {c : Nat} (h : x.den * y.den ≤ 2 ^ c) : ((x.den : Int) * y.den).natAbs ≤ 2 ^ c := by
  rw [Int.natAbs_mul, Int.natAbs_natCast, Int.natAbs_natCast]; exact h
theorem cut_end {A : Type} {xs : List A} {j : Nat} (h : j ≤ xs.length) : cutL xs (some (j : Int)) none = xs.drop j := by
  unfold cutL
  rw [HT.sIx_none, HT.sIx_nat, Nat.min_eq_left h, List.take_of_length_le]
  rw [List.length_drop]
  exact Nat.le_refl _
theorem wp_true {x : R D} (h : Wp x fun d _ => d = .bl true) : ∃ S, x = .ok (.bl true) S := by
  obtain ⟨d, S, e, rfl⟩ := h
  exact ⟨S, e⟩
end
end HP
namespace HP
open PySem L2
def K_plus (low : Nat) : Fn := ⟨2, 2,
 (.cons (.ret (.call low (.cons (.bin .add (.bin .mul (.ix (.var 0) (.int 0)) (.ix (.var 1) (.int 1))) (.bin .mul (.ix (.var 1) (.int 0)) (.ix (.var 0) (.int 1)))) (.cons (.bin .mul (.ix (.var 0) (.int 1)) (.ix (.var 1) (.int 1))) .nil))))
 .nil)⟩
def K_minus (low : Nat) : Fn := ⟨2, 2,
 (.cons (.ret (.call low (.cons (.bin .sub (.bin .mul (.ix (.var 0) (.int 0)) (.ix (.var 1) (.int 1))) (.bin .mul (.ix (.var 1) (.int 0)) (.ix (.var 0) (.int 1)))) (.cons (.bin .mul (.ix (.var 0) (.int 1)) (.ix (.var 1) (.int 1))) .nil))))
 .nil)⟩
def K_times (low : Nat) : Fn := ⟨2, 2,
 (.cons (.ret (.call low (.cons (.bin .mul (.ix (.var 0) (.int 0)) (.ix (.var 1) (.int 0))) (.cons (.bin .mul (.ix (.var 0) (.int 1)) (.ix (.var 1) (.int 1))) .nil))))
 .nil)⟩
def K_under : Fn := ⟨2, 2,
 (.cons (.ret (.cmp .lt (.bin .mul (.ix (.var 0) (.int 0)) (.ix (.var 1) (.int 1))) (.bin .mul (.ix (.var 1) (.int 0)) (.ix (.var 0) (.int 1)))))
 .nil)⟩
section
variable {G : Tab} {k f low : Nat} {S : Sto} {x y : Rat} {a b c d : Nat}
theorem plusL_ok (hG : G f = some (K_plus low)) (hL : G low = some K_low) (hx : Sz a b x) (hy : Sz c d y) (h : b + d ≤ 8900) (h2 : a + c ≤ 400000) : callN G (k + 2) f [q x, q y] S = .ok (q (x + y)) S := by
  refine wp_eq (wp_def hG rfl ?_)
  unfold K_plus
  walk_at "hp0"
  walk_at "hp"
  refine wb_mul (okMul_of hx.num (den_abs hy.d) (by omega)) ?_
  walk_at "hp"
  refine wb_mul (okMul_of hy.num (den_abs hx.d) (by omega)) ?_
  walk_at "hp"
  refine wb_mul (okMul_of (den_abs hx.d) (den_abs hy.d) (by omega)) ?_
  walk_at "hp"
  refine wp_val (low_ok hL (den_mul_nz _ _) (den_mul_le (den2 hx.d hy.d h))) ?_
  exact ⟨by rw [add_divInt], rfl⟩
theorem minusL_ok (hG : G f = some (K_minus low)) (hL : G low = some K_low) (hx : Sz a b x) (hy : Sz c d y) (h : b + d ≤ 8900) (h2 : a + c ≤ 400000) : callN G (k + 2) f [q x, q y] S = .ok (q (x - y)) S := by
  refine wp_eq (wp_def hG rfl ?_)
  unfold K_minus
  walk_at "hp0"
  walk_at "hp"
  refine wb_mul (okMul_of hx.num (den_abs hy.d) (by omega)) ?_
  walk_at "hp"
  refine wb_mul (okMul_of hy.num (den_abs hx.d) (by omega)) ?_
  walk_at "hp"
  refine wb_mul (okMul_of (den_abs hx.d) (den_abs hy.d) (by omega)) ?_
  walk_at "hp"
  refine wp_val (low_ok hL (den_mul_nz _ _) (den_mul_le (den2 hx.d hy.d h))) ?_
  exact ⟨by rw [sub_divInt], rfl⟩
theorem timesL_ok (hG : G f = some (K_times low)) (hL : G low = some K_low) (hx : Sz a b x) (hy : Sz c d y) (h : b + d ≤ 8900) (h2 : a + c ≤ 400000) : callN G (k + 2) f [q x, q y] S = .ok (q (x * y)) S := by
  refine wp_eq (wp_def hG rfl ?_)
  unfold K_times
  walk_at "hp0"
  walk_at "hp"
  refine wb_mul (okMul_of hx.num hy.num (by omega)) ?_
  walk_at "hp"
  refine wb_mul (okMul_of (den_abs hx.d) (den_abs hy.d) (by omega)) ?_
  walk_at "hp"
  refine wp_val (low_ok hL (den_mul_nz _ _) (den_mul_le (den2 hx.d hy.d h))) ?_
  exact ⟨by rw [mul_divInt], rfl⟩
theorem underL_ok (hG : G f = some K_under) (hx : Sz a b x) (hy : Sz c d y) (h : a + b + d < 1000000) (h2 : c + d + b < 1000000) : callN G (k + 1) f [q x, q y] S = .ok (.bl (decide (x < y))) S := by
  refine wp_eq (wp_def hG rfl ?_)
  unfold K_under
  walk_at "hp0"
  walk_at "hp"
  refine wb_mul (okMul_of hx.num (den_abs hy.d) (by omega)) ?_
  walk_at "hp"
  refine wb_mul (okMul_of hy.num (den_abs hx.d) (by omega)) ?_
  walk_at "hp"
  refine ⟨?_, rfl⟩
  congr 1
  exact decide_eq_decide.2 (Rat.lt_iff x y).symm
end
def K_amount (take low : Nat) : Fn := ⟨3, 5,
 (.cons (.set 3 (.call take (.cons (.var 0) (.cons (.int 6) .nil))))
 (.cons (.ite (.var 1) (.cons (.ret (.tup (.cons (.bin .add (.var 2) (.call take (.cons (.var 0) (.cons (.ix (.lst (.cons (.int 2) (.cons (.int 3) (.cons (.int 3) (.cons (.int 4) (.cons (.int 5) (.cons (.int 6) .nil))))))) (.var 3)) .nil)))) (.cons (.int 1) .nil))))
 .nil) .nil)
 (.cons (.set 4 (.bin .add (.int 1) (.call take (.cons (.var 0) (.cons (.ix (.lst (.cons (.int 1) (.cons (.int 1) (.cons (.int 2) (.cons (.int 4) (.cons (.int 12) (.cons (.int 60) .nil))))))) (.var 3)) .nil)))))
 (.cons (.ret (.call low (.cons (.bin .add (.var 2) (.call take (.cons (.var 0) (.cons (.ix (.lst (.cons (.int 3) (.cons (.int 9) (.cons (.int 12) (.cons (.int 30) (.cons (.bin .pow (.int 10) (.int 12)) (.cons (.int 90) .nil))))))) (.var 3)) .nil)))) (.cons (.var 4) .nil))))
 .nil))))⟩
/-- a list of numbers, asked at a drawn place -/
theorem pick {xs : List Int} {v : Int} {n : Nat} {P : Int → Prop} (h0 : 0 ≤ v) (h1 : v < n) (hn : xs.length = n) (h : ∀ x ∈ xs, P x) : ∃ m, atI (xs.map D.int) v = some (.int m) ∧ P m := by
  have hl : v.toNat < xs.length := by omega
  have hi : v.toNat < (xs.map D.int).length := by rw [List.length_map]; exact hl
  have e := atI_nat hi
  rw [Int.toNat_of_nonneg h0, List.getElem_map] at e
  exact ⟨_, e, h _ (List.getElem_mem hl)⟩
/-- drawing, as a law has it -/
def Takes (G : Tab) (f : Nat) : Prop := ∀ (k l : Nat) (many : Int) (S : Sto), StAt l S → 0 < many → many.natAbs ≤ 2 ^ 201 →
  Wp (callN G (k + 1) f [.loc l, .int many] S) fun d S' => StAt l S' ∧ Ag (· = l) S S' ∧ ∃ v, d = .int v ∧ 0 ≤ v ∧ v < many
theorem takes_A {G : Tab} {f : Nat} (h : G f = some (K_take 39373 17 2147483587)) : Takes G f := fun k l many S hst h0 h1 =>
  take_ok h hst (by decide) (by decide) h0 (Nat.le_trans h1 (Nat.pow_le_pow_right (by decide) (by decide)))
theorem divInt_nonneg {n b : Int} (hb : 0 < b) (h : 0 ≤ n) : 0 ≤ Rat.divInt n b := by
  have := Rat.divInt_nonneg h (Int.le_of_lt hb)
  exact this
theorem divInt_pos {n b : Int} (hb : 0 < b) (h : 0 < n) : 0 < Rat.divInt n b := by
  refine Rat.lt_of_le_of_ne (divInt_nonneg hb (Int.le_of_lt h)) ?_
  intro e
  obtain ⟨m, rfl⟩ : ∃ m : Nat, b = m := ⟨b.toNat, by omega⟩
  rw [Rat.divInt_ofNat] at e
  have := (Rat.mkRat_eq_zero (by omega)).1 e.symm
  omega
theorem stAt_lt {l : Nat} {S : Sto} (h : StAt l S) : l < S.length := by obtain ⟨_, _, _, h, _⟩ := h; exact get_lt h
theorem amount_ok {G : Tab} {k f take low l : Nat} {least : Int} {pl : Bool} {S : Sto} (hG : G f = some (K_amount take low)) (hT : Takes G take) (hL : G low = some K_low) (hst : StAt l S) (h0 : 0 ≤ least) (h1 : least ≤ 1) :
    Wp (callN G (k + 2) f [.loc l, .bl pl, .int least] S) fun d S' => StAt l S' ∧ Ag (· = l) S S' ∧ ∃ x : Rat, d = q x ∧ 0 ≤ x ∧ (least = 1 → 0 < x) ∧ Sz 40 6 x ∧ (pl = true → x.den = 1) := by
  refine wp_def hG rfl ?_
  unfold K_amount
  walk_at "hp0"
  walk_at "hs"
  refine wp_mono (hT _ _ _ _ hst (by decide) (by decide)) ?_
  rintro _ S1 ⟨hst1, hag1, v, rfl, hv0, hv1⟩
  have hl1 := stAt_lt hst1
  walk_at "hs"
  cases pl with
  | true =>
    walk_at "hq"
    obtain ⟨m, em, hm0, hm1⟩ := pick (xs := [2, 3, 3, 4, 5, 6]) (P := fun m => 0 < m ∧ m ≤ 6) hv0 hv1 rfl (by decide)
    refine wx_ix (seq_loc app_get) em ?_
    have hst2 := hst1.ag (P := fun _ => False) (Ag.app (T := [.lst ([2, 3, 3, 4, 5, 6].map D.int)])) id
    have hag2 := hag1.trans (Ag.app (T := [.lst ([2, 3, 3, 4, 5, 6].map D.int)]))
    walk_at "hq"
    refine wp_mono (hT _ _ _ _ hst2 hm0 (by omega)) ?_
    rintro _ S3 ⟨hst3, hag3, w, rfl, hw0, hw1⟩
    walk_at "hq"
    refine ⟨hst3, hag2.trans hag3, ((least + w : Int) : Rat), rfl, ?_, ?_, ⟨?_, (by show 1 ≤ 2 ^ 6; decide)⟩, fun _ => rfl⟩
    · exact Rat.intCast_nonneg.2 (by omega)
    · intro h
      exact Rat.intCast_pos.2 (by omega)
    · show (least + w).natAbs ≤ 2 ^ 40 * 1
      omega
  | false =>
    walk_at "hq"
    obtain ⟨m, em, hm0, hm1⟩ := pick (xs := [1, 1, 2, 4, 12, 60]) (P := fun m => 0 < m ∧ m ≤ 60) hv0 hv1 rfl (by decide)
    refine wx_ix (seq_loc app_get) em ?_
    have hst2 := hst1.ag (P := fun _ => False) (Ag.app (T := [.lst ([1, 1, 2, 4, 12, 60].map D.int)])) id
    have hag2 := hag1.trans (Ag.app (T := [.lst ([1, 1, 2, 4, 12, 60].map D.int)]))
    walk_at "hq"
    refine wp_mono (hT _ _ _ _ hst2 hm0 (by omega)) ?_
    rintro _ S3 ⟨hst3, hag3, w, rfl, hw0, hw1⟩
    walk_at "hq"
    obtain ⟨m2, em2, hm20, hm21⟩ := pick (xs := [3, 9, 12, 30, 10 ^ (12 : Int).toNat, 90]) (P := fun m => 0 < m ∧ m ≤ 10 ^ 12) hv0 hv1 rfl (by decide)
    refine wx_ix (seq_loc app_get) em2 ?_
    have hst4 := hst3.ag (P := fun _ => False) (Ag.app (T := [.lst ([3, 9, 12, 30, 10 ^ (12 : Int).toNat, 90].map D.int)])) id
    have hag4 := (hag2.trans hag3).trans (Ag.app (T := [.lst ([3, 9, 12, 30, 10 ^ (12 : Int).toNat, 90].map D.int)]))
    walk_at "hq"
    refine wp_mono (hT _ _ _ _ hst4 hm20 (by omega)) ?_
    rintro _ S5 ⟨hst5, hag5, u, rfl, hu0, hu1⟩
    walk_at "hq"
    have hb : 0 < 1 + w := by omega
    refine wp_val (low_ok hL hb (Nat.le_trans (m := 2 ^ 6) (by omega) (Nat.pow_le_pow_right (by decide) (by decide)))) ?_
    have hz := divInt_sz (n := least + u) (b := 1 + w) (a := 40) (c := 6) hb (by omega) (by omega)
    walk_at "hq"
    exact ⟨hst5, hag4.trans hag5, _, rfl, divInt_nonneg hb (by omega), fun h => divInt_pos hb (by omega), ⟨hz.1, hz.2⟩, fun h => by cases h⟩
end HP
namespace HP
open PySem L2
section
variable {S : Sto} {Q : D → Sto → Prop}
theorem wm_clear {l : Nat} {ds : List D} (h : S[l]? = some (.lst ds)) (k : Q .non (S.set l (.lst []))) : Wp (mtD S .clear (.loc l) []) Q := by
  unfold mtD; dsimp only; rw [h]; exact wp_ok k
theorem DtA.len {P : Nat → Prop} {S : Sto} : {xs : List PyData} → {ds : List D} → DtA P S xs ds → ds.length = xs.length
  | [], ds, h => by cases (h : ds = []); rfl
  | x :: xs, ds, h => by obtain ⟨d, ds', rfl, h1, h2⟩ := h; rw [List.length_cons, List.length_cons, h2.len]
theorem DtA.get {P : Nat → Prop} {S : Sto} : {xs : List PyData} → {ds : List D} → {i : Nat} → {d : D} → DtA P S xs ds → ds[i]? = some d → ∃ x, xs[i]? = some x ∧ Dt P S x d
  | [], ds, i, d, h, e => by cases (h : ds = []); cases e
  | x :: xs, ds, i, d, h, e => by
    obtain ⟨d1, ds', rfl, h1, h2⟩ := h
    cases i with
    | zero => cases e; exact ⟨x, rfl, h1⟩
    | succ i => exact h2.get (d := d) (i := i) e
mutual
def okA : PyData → Bool
  | .list xs => decide (xs.length < 1000) && okAs xs
  | .tuple xs => decide (xs.length < 1000) && okAs xs
  | .dict _ => false
  | _ => true
def okAs : List PyData → Bool
  | [] => true
  | x :: xs => okA x && okAs xs
end
end
end HP
namespace HP
open PySem L2
section
variable {c : Call} {r : Ev} {S : Sto} {Q : D → Sto → Prop}
variable {nx : Ev → Sto → Prop} {rt : D → Sto → Prop} {bk ct : Ev → Sto → Prop} {ex : Xn → Ev → Sto → Prop}
theorem wps_try {b : Ss} {h : Hs} {kn : List Nat} (k : WpS (evSs c b r S) ⟨nx, rt, bk, ct, fun x r1 S1 => x.c ∈ kn ∧ WpS (evH c h x r1 S1) ⟨nx, rt, bk, ct, ex⟩⟩) : WpS (evS c (.try_ b h kn) r S) ⟨nx, rt, bk, ct, ex⟩ := by
  simp only [evS]
  cases e : evSs c b r S with
  | ex x r1 S1 =>
    rw [e] at k
    obtain ⟨k1, k2⟩ := k
    dsimp only
    rw [if_pos k1]
    exact k2
  | nx r1 S1 => rw [e] at k; exact k
  | rt d S1 => rw [e] at k; exact k
  | bk r1 S1 => rw [e] at k; exact k
  | ct r1 S1 => rw [e] at k; exact k
  | bad => rw [e] at k; exact k
theorem wp_exIs {i k : Nat} {tp : Bool} {cs kn : List Nat} {fs : List (Str × D)} (h : r[i]? = some (some (.exc k fs))) (hk : k ∈ kn) (q : Q (.bl (cs.any (subC k))) S) : Wp (evE c (.exIs i tp cs kn) r S) Q := by
  refine ⟨_, S, ?_, q⟩
  simp only [evE]
  rw [h]
  dsimp only
  rw [if_pos hk]
theorem wp_exVe {i k : Nat} {kn : List Nat} {fs : List (Str × D)} (h : r[i]? = some (some (.exc k fs))) (hk : k ∈ kn) (q : Q (.bl true) S) : Wp (evE c (.exVe i kn) r S) Q := by
  refine ⟨_, S, ?_, q⟩
  simp only [evE]
  rw [h]
  dsimp only
  rw [if_pos hk]
theorem wpt_exIs {i : Nat} {tp : Bool} {cs kn : List Nat} {Q : Bool → Sto → Prop} (k : Wp (evE c (.exIs i tp cs kn) r S) fun d S1 => Wp (truR S1 d) Q) : Wp (evT c (.exIs i tp cs kn) r S) Q := by simp only [evT]; exact wp_bnd k
theorem wpt_exVe {i : Nat} {kn : List Nat} {Q : Bool → Sto → Prop} (k : Wp (evE c (.exVe i kn) r S) fun d S1 => Wp (truR S1 d) Q) : Wp (evT c (.exVe i kn) r S) Q := by simp only [evT]; exact wp_bnd k
end
section
variable {L : List Fn} {k : Nat} {S : Sto}
theorem is_whole_ok {d : D} {t : Bt} (h : tyD S d = some t) (n : noExc d = true) : callN (Gof L) (k + 1) 95 [d] S = .ok (.bl (isTy t .int && !isTy t .bool)) S := by
  refine wp_eq (wp_def (fn := F_is_whole) rfl rfl ?_)
  unfold F_is_whole
  walk_at "hp0"
  walk_at "hr"
  refine ⟨fun e => ?_, fun e => ?_⟩
  · walk_at "hr"
    exact ⟨by rw [e]; rfl, rfl⟩
  · exact ⟨by rw [e]; rfl, rfl⟩
theorem divG_ok {G : Tab} {f : Nat} {a b : Int} (hG : G f = some F_divisor) : callN G (k + 1) f [.int a, .int b] S = .ok (.int (a.gcd b : Nat)) S := by
  refine wp_eq (wp_def (fn := F_divisor) hG rfl ?_)
  unfold F_divisor
  walk_at "hp0"
  refine wps_cons (wps_whl (fun n r S' => S' = S ∧ ∃ x y : Int, r = [some (.int x), some (.int y)] ∧ n = y.natAbs ∧ x.gcd y = a.gcd b) ⟨rfl, a, b, rfl, rfl, rfl⟩ ?_)
  rintro n r S' ⟨rfl, x, y, rfl, rfl, hg⟩
  walk_at "hp"
  refine wq_ndec (fun h => ?_) (fun h => ?_)
  · walk_at "hp"
    refine wb_mod h ?_
    walk_at "hp"
    exact ⟨_, fmod_natAbs_lt h, rfl, _, _, rfl, rfl, by rw [gcd_fmod]; exact hg⟩
  · subst h
    walk_at "hp"
    refine ⟨?_, rfl⟩
    rw [Int.gcd_zero_right] at hg
    rw [← hg]
    congr 1
    omega
end
end HP
local macro_rules | `(tactic| walk_at "hx1") => `(tactic| with_reducible refine HP.wps_rse ?_)
local macro_rules | `(tactic| walk_at "hx1") => `(tactic| with_reducible refine HP.wpt_exVe ?_)
local macro_rules | `(tactic| walk_at "hx1") => `(tactic| with_reducible refine HP.wpt_exIs ?_)
local macro_rules | `(tactic| walk_at "hx1") => `(tactic| (first | with_reducible refine HP.wp_exIs rfl (by decide) ?_ | fail))
local macro_rules | `(tactic| walk_at "hx1") => `(tactic| (first | with_reducible refine HP.wp_exVe rfl (by decide) ?_ | fail))
local macro_rules | `(tactic| walk_at "hx1") => `(tactic| with_reducible refine HP.wps_try ?_)
local macro_rules | `(tactic| walk_at "hx1") => `(tactic| walk_at "hr1")
local macro_rules | `(tactic| walk_at "hx") => `(tactic| (repeat' walk_at "hx1"))
local macro_rules | `(tactic| walk_at "hy1") => `(tactic| refine HP.wz_some rfl ?_)
local macro_rules | `(tactic| walk_at "hy1") => `(tactic| walk_at "hx1")
local macro_rules | `(tactic| walk_at "hy") => `(tactic| (repeat' walk_at "hy1"))
local macro_rules | `(tactic| walk_at "hys") => `(tactic| (repeat' ((fail_if_success (with_reducible refine HP.wps_ite ?_)); walk_at "hy1")))
namespace HP
open PySem L2
theorem div_divInt (x y : Rat) : Rat.divInt (x.num * y.den) ((x.den : Int) * y.num) = x / y := by
  have e1 := Rat.num_divInt_den x
  rw [Rat.div_def, Rat.inv_def]
  conv => rhs; rw [← e1]
  rw [Rat.divInt_mul_divInt]
section
variable {L : List Fn} {k : Nat} {S : Sto} {x y : Rat} {a b c d : Nat}
theorem num_nz (h : y ≠ 0) : y.num ≠ 0 := fun e => h (Rat.num_eq_zero.1 e)
theorem parted_ok (hx : Sz a b x) (hy : Sz c d y) (h0 : y ≠ 0) (h : b + (c + d) ≤ 8900) (h2 : a ≤ 400000) : callN (Gof L) (k + 3) 152 [q x, q y] S = .ok (q (x / y)) S := by
  refine wp_eq (wp_def (fn := F_parted) rfl rfl ?_)
  unfold F_parted
  walk_at "hp0"
  walk_at "hr"
  refine wq_dec (fun h => absurd h (num_nz h0)) (fun _ => ?_)
  walk_at "hr"
  refine wb_mul (okMul_of hx.num (den_abs hy.d) (by omega)) ?_
  walk_at "hr"
  refine wb_mul (okMul_of (den_abs hx.d) hy.num (by omega)) ?_
  walk_at "hr"
  have hd := x.den_pos
  refine wp_val (in_lowest_ok (Int.mul_ne_zero (by omega) (num_nz h0)) ?_) ⟨by rw [div_divInt], rfl⟩
  refine Nat.le_trans (nat_mul (den_abs hx.d) hy.num) (Nat.pow_le_pow_right (by decide) h)
end
end HP
namespace HP
open PySem L2
/-- a corner -/
def pr (p : Rat × Rat) : D := .tup [q p.1, q p.2]
def prd (p : Rat × Rat) : PyData := .tuple [qd p.1, qd p.2]
theorem dt_pr {P : Nat → Prop} {S : Sto} (p : Rat × Rat) : Dt P S (prd p) (pr p) := ⟨_, rfl, _, _, rfl, dt_q p.1, _, _, rfl, dt_q p.2, rfl⟩
def rateB (a b : Rat × Rat) : Rat := (b.2 - a.2) / (a.1 - b.1)
/-- each corner quicker and dearer than the one ahead; of a straight offer by growing rates -/
structure Good (st : Bool) (cs : List (Rat × Rat)) : Prop where
  one : cs ≠ []
  mono : ∀ (i : Nat) (a b : Rat × Rat), cs[i]? = some a → cs[i + 1]? = some b → b.1 < a.1 ∧ a.2 < b.2
  hol : st = true → ∀ (i : Nat) (a b c : Rat × Rat), cs[i]? = some a → cs[i + 1]? = some b → cs[i + 2]? = some c → rateB a b < rateB b c
  pos : ∀ p ∈ cs, 0 ≤ p.1 ∧ 0 ≤ p.2
def K_offer (take plus minus times amount : Nat) : Fn := ⟨4, 13,
 (.cons (.set 4 (.bin .add (.int 1) (.call take (.cons (.var 0) (.cons (.var 2) .nil)))))
 (.cons (.set 5 (.call amount (.cons (.var 0) (.cons (.var 3) (.cons (.int 0) .nil)))))
 (.cons (.set 6 (.call amount (.cons (.var 0) (.cons (.var 3) (.cons (.int 0) .nil)))))
 (.cons (.set 7 (.lc (.call amount (.cons (.var 0) (.cons (.var 3) (.cons (.int 1) .nil)))) (.name 12) (.rng1 (.bin .sub (.var 4) (.int 1))) .none [12]))
 (.cons (.for_ (.name 8) (.seq (.var 7)) (.cons (.set 5 (.call plus (.cons (.var 5) (.cons (.var 8) .nil))))
 .nil))
 (.cons (.set 9 (.lst (.cons (.tup (.cons (.var 5) (.cons (.var 6) .nil))) .nil)))
 (.cons (.set 10 (.tup (.cons (.int 0) (.cons (.int 1) .nil))))
 (.cons (.for_ (.name 8) (.seq (.var 7)) (.cons (.set 11 (.call amount (.cons (.var 0) (.cons (.var 3) (.cons (.int 1) .nil)))))
 (.cons (.set 5 (.call minus (.cons (.var 5) (.cons (.var 8) .nil))))
 (.cons (.set 10 (.call plus (.cons (.var 10) (.cons (.var 11) .nil))))
 (.cons (.ite (.cmp .eq (.var 1) (.str "straight")) (.cons (.set 11 (.call times (.cons (.var 10) (.cons (.var 8) .nil))))
 .nil) .nil)
 (.cons (.set 6 (.call plus (.cons (.var 6) (.cons (.var 11) .nil))))
 (.cons (.expr (.meth .append (.var 9) (.cons (.tup (.cons (.var 5) (.cons (.var 6) .nil))) .nil)))
 .nil)))))))
 (.cons (.ret (.tup (.cons (.var 1) (.cons (.var 9) .nil))))
 .nil)))))))))⟩
theorem app1_get {A : Type} {xs : List A} {x y : A} {i : Nat} (h : (xs ++ [x])[i]? = some y) : xs[i]? = some y ∨ (i = xs.length ∧ y = x) := by
  by_cases hi : i < xs.length
  · rw [List.getElem?_append_left hi] at h; exact Or.inl h
  · have hl := (List.getElem?_eq_some_iff.1 h).1
    rw [List.length_append] at hl
    have : i = xs.length := by simp at hl; omega
    subst this
    rw [List.getElem?_append_right (Nat.le_refl _), Nat.sub_self] at h
    exact Or.inr ⟨rfl, by simpa using h.symm⟩
/-- one corner more -/
theorem Good.more {st : Bool} {cs : List (Rat × Rat)} {p : Rat × Rat} (h : Good st cs) (hp : 0 ≤ p.1 ∧ 0 ≤ p.2) (hl : ∀ a, cs[cs.length - 1]? = some a → p.1 < a.1 ∧ a.2 < p.2)
    (hr : st = true → ∀ a b, 2 ≤ cs.length → cs[cs.length - 2]? = some a → cs[cs.length - 1]? = some b → rateB a b < rateB b p) : Good st (cs ++ [p]) := by
  refine ⟨by simp, ?_, ?_, ?_⟩
  · intro i a b ha hb
    rcases app1_get hb with hb | ⟨e, rfl⟩
    · have hi := (List.getElem?_eq_some_iff.1 hb).1
      rw [List.getElem?_append_left (by omega)] at ha
      exact h.mono i a b ha hb
    · rw [List.getElem?_append_left (by omega)] at ha
      refine hl a ?_
      rw [← e]
      exact ha
  · intro hst i a b c ha hb hc
    rcases app1_get hc with hc | ⟨e, rfl⟩
    · have hi := (List.getElem?_eq_some_iff.1 hc).1
      rw [List.getElem?_append_left (by omega)] at ha hb
      exact h.hol hst i a b c ha hb hc
    · rw [List.getElem?_append_left (by omega)] at ha hb
      refine hr hst a b (by omega) ?_ ?_
      · have : cs.length - 2 = i := by omega
        rw [this]; exact ha
      · have : cs.length - 1 = i + 1 := by omega
        rw [this]; exact hb
  · intro x hx
    rcases List.mem_append.1 hx with hx | hx
    · exact h.pos x hx
    · rw [List.mem_singleton.1 hx]; exact hp
theorem sum_nonneg : {xs : List Rat} → (∀ x ∈ xs, 0 < x) → 0 ≤ xs.sum
  | [], _ => by rw [List.sum_nil]; exact Rat.le_refl
  | x :: xs, h => by
    rw [List.sum_cons]
    exact Rat.add_nonneg (Rat.le_of_lt (h x List.mem_cons_self)) (sum_nonneg fun y m => h y (List.mem_cons_of_mem _ m))
end HP
namespace HP
open PySem L2
theorem Sz.div {a b c d : Nat} {x y : Rat} (h : Sz a b x) (k : Sz c d y) (h0 : y ≠ 0) : Sz (a + d) (b + (c + d)) (x / y) := by
  have hn := num_nz h0
  have hi : Sz d (c + d) y⁻¹ := by
    rw [Rat.inv_def]
    have key : ∀ (n m : Int), 0 < m → n.natAbs ≤ 2 ^ d → m.natAbs ≤ 2 ^ (c + d) → Sz d (c + d) (Rat.divInt n m) := by
      intro n m hm h1 h2
      have := divInt_sz (n := n) (b := m) (a := d) (c := c + d) hm h1 (by omega)
      exact ⟨this.1, this.2⟩
    rcases Int.lt_or_gt_of_ne hn with g | g
    · rw [← Rat.neg_divInt_neg]
      exact key _ _ (by omega) (by rw [Int.natAbs_neg]; exact den_abs k.d) (by rw [Int.natAbs_neg]; exact k.num)
    · exact key _ _ g (den_abs k.d) k.num
  rw [Rat.div_def]
  exact h.mul hi
abbrev Ok2 (p : Rat × Rat) : Prop := Sz 200 200 p.1 ∧ Sz 200 200 p.2
section
variable {L : List Fn} {k : Nat} {S : Sto}
/-- the last of a list by -1 -/
theorem atI_last {A : Type} {xs : List A} {x : A} (h : xs[xs.length - 1]? = some x) : atI xs (-1) = some x := by
  have hl := (List.getElem?_eq_some_iff.1 h).1
  unfold atI ixN
  rw [if_neg (by decide), if_pos (by omega)]
  show xs[(-1 + (xs.length : Int)).toNat]? = _
  have : (-1 + (xs.length : Int)).toNat = xs.length - 1 := by omega
  rw [this]
  exact h
theorem atI_get {A : Type} {xs : List A} {i : Nat} {x : A} (h : xs[i]? = some x) : atI xs (i : Int) = some x := by
  have hl := (List.getElem?_eq_some_iff.1 h).1
  rw [atI_nat hl]
  exact congrArg some (List.getElem?_eq_some_iff.1 h).2
def offeredB (kind : Str) (cs : List (Rat × Rat)) (t : Rat) : Bool :=
  if kind = ("steps" : Str) then cs.any fun c => decide (c.1 = t) else match cs[cs.length - 1]?, cs[0]? with
    | some b, some a => !decide (t < b.1) && !decide (a.1 < t)
    | _, _ => false
theorem fuel_q (x : Rat) : fuel (qd x) ≤ 3 := by show max 0 (max 0 0 + 1) + 1 + 1 ≤ 3; decide
end
end HP
namespace HP
open PySem L2
/-- what a time costs -/
inductive Cost (cs : List (Rat × Rat)) (t : Rat) : Rat → Prop where
  | corner {i : Nat} {c : Rat × Rat} (h : cs[i]? = some c) (e : c.1 = t) : Cost cs t c.2
  | way {i : Nat} {a b : Rat × Rat} (ha : cs[i]? = some a) (hb : cs[i + 1]? = some b) (h1 : b.1 < t) (h2 : t < a.1) : Cost cs t (a.2 + rateB a b * (a.1 - t))
section
variable {L : List Fn} {k : Nat} {S : Sto}
end
end HP
namespace HP
open PySem L2
end HP
namespace HP
open PySem L2
section
variable {L : List Fn} {k : Nat} {S : Sto}
end
end HP
namespace HP
open PySem L2
section
variable {L : List Fn} {k : Nat} {S : Sto}
end
end HP
namespace HP
open PySem L2
end HP
namespace HP
open PySem L2
end HP
namespace HP
open PySem L2
abbrev LC : Nat := 1182266884102822267511361600
theorem den_LC {n : Nat} (h0 : 0 < n) (h : n ≤ 64) : n ∣ LC := by
  have key : ∀ m, m < 65 → m = 0 ∨ LC % m = 0 := by decide
  rcases key n (by omega) with e | e
  · omega
  · exact Nat.dvd_of_mod_eq_zero e
theorem den_mk_dvd {n : Int} {d : Nat} (h : d ≠ 0) : (mkRat n d).den ∣ d := by
  rw [Rat.den_mkRat, if_neg h]
  exact Nat.div_dvd_of_dvd (Nat.gcd_dvd_left _ _)
theorem over_L {x : Rat} {L : Nat} (hL : L ≠ 0) (h : x.den ∣ L) : ∃ n : Int, x = mkRat n L := by
  obtain ⟨u, rfl⟩ := h
  have hu : u ≠ 0 := fun e => hL (by rw [e]; rfl)
  refine ⟨x.num * u, ?_⟩
  rw [Rat.mkRat_mul_right hu, Rat.mkRat_self]
theorem dvd_add {x y : Rat} {L : Nat} (hL : L ≠ 0) (hx : x.den ∣ L) (hy : y.den ∣ L) : (x + y).den ∣ L := by
  obtain ⟨n, rfl⟩ := over_L hL hx
  obtain ⟨m, rfl⟩ := over_L hL hy
  rw [Rat.mkRat_add_mkRat _ _ hL hL, ← Int.add_mul, Rat.mkRat_mul_right hL]
  exact den_mk_dvd hL
theorem dvd_neg {x : Rat} {L : Nat} (hx : x.den ∣ L) : (-x).den ∣ L := hx
theorem dvd_sub {x y : Rat} {L : Nat} (hL : L ≠ 0) (hx : x.den ∣ L) (hy : y.den ∣ L) : (x - y).den ∣ L := by
  rw [Rat.sub_eq_add_neg]
  exact dvd_add hL hx (dvd_neg hy)
theorem dvd_mul {x y : Rat} {L M : Nat} (hL : L ≠ 0) (hM : M ≠ 0) (hx : x.den ∣ L) (hy : y.den ∣ M) : (x * y).den ∣ L * M := by
  obtain ⟨n, rfl⟩ := over_L hL hx
  obtain ⟨m, rfl⟩ := over_L hM hy
  rw [Rat.mkRat_mul_mkRat]
  exact den_mk_dvd (Nat.mul_ne_zero hL hM)
theorem dvd_sum {L : Nat} (hL : L ≠ 0) : {xs : List Rat} → (∀ x ∈ xs, x.den ∣ L) → xs.sum.den ∣ L
  | [], _ => by rw [List.sum_nil]; exact Nat.one_dvd _
  | x :: xs, h => by
    rw [List.sum_cons]
    exact dvd_add hL (h x List.mem_cons_self) (dvd_sum hL fun y m => h y (List.mem_cons_of_mem _ m))
theorem dvd_le {x : Rat} {L b : Nat} (h : x.den ∣ L) (h0 : L ≠ 0) (hb : L ≤ 2 ^ b) : x.den ≤ 2 ^ b := Nat.le_trans (Nat.le_of_dvd (by omega) h) hb
theorem LC0 : LC ≠ 0 := by decide
theorem LC2 : LC * LC ≠ 0 := by decide
theorem LCb : LC ≤ 2 ^ 100 := by decide
theorem LC2b : LC * LC ≤ 2 ^ 200 := by decide
theorem LC12 {x : Rat} (h : x.den ∣ LC) : x.den ∣ LC * LC := Nat.dvd_trans h (Nat.dvd_mul_right _ _)
theorem sz_LC {x : Rat} {b : Nat} (h : Sz b 6 x) : x.den ∣ LC := den_LC x.den_pos (by have := h.d; omega)
theorem V.sz1 {x : Rat} {a : Nat} (h : V a x) (k : x.den ∣ LC) : Sz a 100 x := ⟨h, dvd_le k LC0 LCb⟩
theorem V.sz2 {x : Rat} {a : Nat} (h : V a x) (k : x.den ∣ LC * LC) : Sz a 200 x := ⟨h, dvd_le k LC2 LC2b⟩
/-- a shape: its bends -/
structure Shp (bs : List (Rat × Rat)) : Prop where
  one : bs ≠ []
  mono : ∀ (i : Nat) (a b : Rat × Rat), bs[i]? = some a → bs[i + 1]? = some b → a.1 < b.1 ∧ b.2 < a.2
  conv : ∀ (i : Nat) (a b c : Rat × Rat), bs[i]? = some a → bs[i + 1]? = some b → bs[i + 2]? = some c → rateB b c < rateB a b
  pos : ∀ p ∈ bs, 0 ≤ p.1 ∧ 0 ≤ p.2
theorem Shp.more {cs : List (Rat × Rat)} {p : Rat × Rat} (h : Shp cs) (hp : 0 ≤ p.1 ∧ 0 ≤ p.2) (hl : ∀ a, cs[cs.length - 1]? = some a → a.1 < p.1 ∧ p.2 < a.2)
    (hr : ∀ a b, 2 ≤ cs.length → cs[cs.length - 2]? = some a → cs[cs.length - 1]? = some b → rateB b p < rateB a b) : Shp (cs ++ [p]) := by
  refine ⟨by simp, ?_, ?_, ?_⟩
  · intro i a b ha hb
    rcases app1_get hb with hb | ⟨e, rfl⟩
    · have hi := (List.getElem?_eq_some_iff.1 hb).1
      rw [List.getElem?_append_left (by omega)] at ha
      exact h.mono i a b ha hb
    · rw [List.getElem?_append_left (by omega)] at ha
      refine hl a ?_
      rw [← e]
      exact ha
  · intro i a b c ha hb hc
    rcases app1_get hc with hc | ⟨e, rfl⟩
    · have hi := (List.getElem?_eq_some_iff.1 hc).1
      rw [List.getElem?_append_left (by omega)] at ha hb
      exact h.conv i a b c ha hb hc
    · rw [List.getElem?_append_left (by omega)] at ha hb
      refine hr a b (by omega) ?_ ?_
      · have : cs.length - 2 = i := by omega
        rw [this]; exact ha
      · have : cs.length - 1 = i + 1 := by omega
        rw [this]; exact hb
  · intro x hx
    rcases List.mem_append.1 hx with hx | hx
    · exact h.pos x hx
    · rw [List.mem_singleton.1 hx]; exact hp
theorem rate_of_fall {w p g f : Rat} (hg : 0 < g) : rateB (w, p + f * g) (w + g, p) = f := by
  unfold rateB
  have h0 : g ≠ 0 := fun e => by rw [e] at hg; exact absurd hg Rat.lt_irrefl
  show (p - (p + f * g)) / (w - (w + g)) = f
  have e1 : p - (p + f * g) = f * (-g) := by grind
  have e2 : w - (w + g) = -g := by grind
  rw [e1, e2]
  exact Rat.mul_div_cancel (fun e => h0 (by grind))
def K_shape (take plus minus times amount : Nat) : Fn := ⟨3, 11,
 (.cons (.set 3 (.lc (.call amount (.cons (.var 0) (.cons (.var 2) (.cons (.int 1) .nil)))) (.name 10) (.rng1 (.call take (.cons (.var 0) (.cons (.bin .add (.var 1) (.int 1)) .nil)))) .none [10]))
 (.cons (.set 4 (.call amount (.cons (.var 0) (.cons (.var 2) (.cons (.int 0) .nil)))))
 (.cons (.set 5 (.call amount (.cons (.var 0) (.cons (.var 2) (.cons (.int 0) .nil)))))
 (.cons (.set 6 (.tup (.cons (.int 0) (.cons (.int 1) .nil))))
 (.cons (.set 7 (.lst .nil))
 (.cons (.for_ (.name 8) (.seq (.var 3)) (.cons (.set 6 (.call plus (.cons (.var 6) (.cons (.call amount (.cons (.var 0) (.cons (.var 2) (.cons (.int 1) .nil)))) .nil))))
 (.cons (.expr (.meth .append (.var 7) (.cons (.var 6) .nil)))
 (.cons (.set 5 (.call plus (.cons (.var 5) (.cons (.call times (.cons (.var 6) (.cons (.var 8) .nil))) .nil))))
 .nil))))
 (.cons (.set 9 (.lst (.cons (.tup (.cons (.var 4) (.cons (.var 5) .nil))) .nil)))
 (.cons (.for_ (.name 10) (.rng3 (.bin .sub (.bcall .len (.cons (.var 3) .nil)) (.int 1)) (.neg (.int 1)) (.neg (.int 1))) (.cons (.set 4 (.call plus (.cons (.var 4) (.cons (.ix (.var 3) (.var 10)) .nil))))
 (.cons (.set 5 (.call minus (.cons (.var 5) (.cons (.call times (.cons (.ix (.var 7) (.var 10)) (.cons (.ix (.var 3) (.var 10)) .nil))) .nil))))
 (.cons (.expr (.meth .append (.var 9) (.cons (.tup (.cons (.var 4) (.cons (.var 5) .nil))) .nil)))
 .nil))))
 (.cons (.ret (.var 9))
 .nil)))))))))⟩
theorem rngC_get {lo c : Int} {n i : Nat} {d : D} (h : (rngC lo c n)[i]? = some d) : i < n ∧ d = .int (lo + (i : Nat) * c) := by
  unfold rngC at h
  rw [List.getElem?_map, Option.map_eq_some_iff] at h
  obtain ⟨j, h1, h2⟩ := h
  obtain ⟨h3, h4⟩ := List.getElem?_eq_some_iff.mp h1
  rw [List.length_range] at h3
  rw [List.getElem_range] at h4
  subst h4
  exact ⟨h3, h2.symm⟩
theorem rngC_len {lo c : Int} {n : Nat} : (rngC lo c n).length = n := by unfold rngC; rw [List.length_map, List.length_range]
end HP
namespace HP
open PySem L2
theorem rateB_sym (a b : Rat × Rat) : (a.2 - b.2) / (b.1 - a.1) = rateB a b := by
  unfold rateB
  have e1 : a.2 - b.2 = -(b.2 - a.2) := by grind
  have e2 : b.1 - a.1 = -(a.1 - b.1) := by grind
  rw [e1, e2]
  generalize b.2 - a.2 = x
  generalize a.1 - b.1 = y
  grind
theorem sub_nz {x y : Rat} (h : x < y) : y - x ≠ 0 := fun e => by
  have : x = y := by grind
  rw [this] at h
  exact Rat.lt_irrefl h
theorem fall_sz {a b : Rat × Rat} (ha : Ok2 a) (hb : Ok2 b) (h : a.1 < b.1) : Sz 700 1100 (rateB a b) := by
  rw [← rateB_sym]
  exact ((ha.2.sub hb.2).div (hb.1.sub ha.1) (sub_nz h)).mono (by decide) (by decide)
theorem fall_pos {a b : Rat × Rat} (h : a.1 < b.1) (h2 : b.2 < a.2) : 0 < rateB a b := by
  rw [← rateB_sym, Rat.div_def]
  exact Rat.mul_pos (by grind) (Rat.inv_pos.2 (by grind))
theorem fall_mul {a b : Rat × Rat} (h : a.1 < b.1) : rateB a b * (b.1 - a.1) = a.2 - b.2 := by
  rw [← rateB_sym]
  exact Rat.div_mul_cancel (sub_nz h)
section
variable {L : List Fn} {k : Nat} {S : Sto}
theorem fall_of_ok {a b : Rat × Rat} (ha : Ok2 a) (hb : Ok2 b) (h : a.1 < b.1) : callN (Gof L) (k + 4) 51 [pr a, pr b] S = .ok (q (rateB a b)) S := by
  refine wp_eq (wp_def (fn := F_fall_of) rfl rfl ?_)
  unfold F_fall_of
  walk_at "hp0"
  walk_at "hy"
  refine wp_val (minus_ok ha.2 hb.2 (by decide) (by decide)) ?_
  walk_at "hy"
  refine wp_val (minus_ok hb.1 ha.1 (by decide) (by decide)) ?_
  walk_at "hy"
  exact wp_val (parted_ok (ha.2.sub hb.2) (hb.1.sub ha.1) (sub_nz h) (by decide) (by decide)) ⟨by rw [rateB_sym], rfl⟩
end
def K_parted (low : Nat) : Fn := ⟨2, 2,
 (.cons (.ret (.call low (.cons (.bin .mul (.ix (.var 0) (.int 0)) (.ix (.var 1) (.int 1))) (.cons (.bin .mul (.ix (.var 0) (.int 1)) (.ix (.var 1) (.int 0))) .nil))))
 .nil)⟩
def K_fall (parted minus : Nat) : Fn := ⟨2, 2,
 (.cons (.ret (.call parted (.cons (.call minus (.cons (.ix (.var 0) (.int 1)) (.cons (.ix (.var 1) (.int 1)) .nil))) (.cons (.call minus (.cons (.ix (.var 1) (.int 0)) (.cons (.ix (.var 0) (.int 0)) .nil))) .nil))))
 .nil)⟩
def K_price (under times fall minus : Nat) : Fn := ⟨2, 5,
 (.cons (.set 2 .non)
 (.cons (.for_ (.name 3) (.rng1 (.bcall .len (.cons (.var 0) .nil))) (.cons (.ite (.bnot (.call under (.cons (.var 1) (.cons (.ix (.ix (.var 0) (.var 3)) (.int 0)) .nil)))) (.cons (.set 2 (.ix (.ix (.var 0) (.var 3)) (.int 1)))
 (.cons (.ite (.band (.cons (.cmp .lt (.bin .add (.var 3) (.int 1)) (.bcall .len (.cons (.var 0) .nil))) (.cons (.call under (.cons (.var 1) (.cons (.ix (.ix (.var 0) (.bin .add (.var 3) (.int 1))) (.int 0)) .nil))) .nil))) (.cons (.set 4 (.call times (.cons (.call fall (.cons (.ix (.var 0) (.var 3)) (.cons (.ix (.var 0) (.bin .add (.var 3) (.int 1))) .nil))) (.cons (.call minus (.cons (.var 1) (.cons (.ix (.ix (.var 0) (.var 3)) (.int 0)) .nil))) .nil))))
 (.cons (.set 2 (.call minus (.cons (.ix (.ix (.var 0) (.var 3)) (.int 1)) (.cons (.var 4) .nil))))
 .nil)) .nil)
 .nil)) .nil)
 .nil))
 (.cons (.ret (.var 2))
 .nil)))⟩
/-- the price at a whole -/
inductive AtP (bs : List (Rat × Rat)) (w : Rat) : Rat → Prop where
  | way {i : Nat} {a b : Rat × Rat} (ha : bs[i]? = some a) (hb : bs[i + 1]? = some b) (h1 : a.1 ≤ w) (h2 : w < b.1) : AtP bs w (a.2 - rateB a b * (w - a.1))
  | last {a : Rat × Rat} (ha : bs[bs.length - 1]? = some a) (h1 : a.1 ≤ w) : AtP bs w a.2
section
variable {G : Tab} {k f low minus times under parted fall : Nat} {S : Sto}
theorem partedL_ok {x y : Rat} {a b c d : Nat} (hG : G f = some (K_parted low)) (hL : G low = some K_low) (hx : Sz a b x) (hy : Sz c d y) (h0 : 0 < y) (h : b + (c + d) ≤ 8900) (h2 : a ≤ 400000) : callN G (k + 2) f [q x, q y] S = .ok (q (x / y)) S := by
  have hn : 0 < y.num := by
    have h1 := Rat.num_nonneg.2 (Rat.le_of_lt h0)
    have h2 : y.num ≠ 0 := num_nz (fun e => by rw [e] at h0; exact Rat.lt_irrefl h0)
    omega
  have hd := x.den_pos
  refine wp_eq (wp_def hG rfl ?_)
  unfold K_parted
  walk_at "hp0"
  walk_at "hy"
  refine wb_mul (okMul_of hx.num (den_abs hy.d) (by omega)) ?_
  walk_at "hy"
  refine wb_mul (okMul_of (den_abs hx.d) hy.num (by omega)) ?_
  walk_at "hy"
  refine wp_val (low_ok hL (Int.mul_pos (by omega) hn) (Nat.le_trans (nat_mul (den_abs hx.d) hy.num) (Nat.pow_le_pow_right (by decide) h))) ?_
  exact ⟨by rw [div_divInt], rfl⟩
theorem fallL_ok {a b : Rat × Rat} (hG : G f = some (K_fall parted minus)) (hR : G parted = some (K_parted low)) (hL : G low = some K_low) (hM : G minus = some (K_minus low)) (ha : Ok2 a) (hb : Ok2 b) (h : a.1 < b.1) :
    callN G (k + 3) f [pr a, pr b] S = .ok (q (rateB a b)) S := by
  refine wp_eq (wp_def hG rfl ?_)
  unfold K_fall
  walk_at "hp0"
  walk_at "hy"
  refine wp_val (minusL_ok hM hL ha.2 hb.2 (by decide) (by decide)) ?_
  walk_at "hy"
  refine wp_val (minusL_ok hM hL hb.1 ha.1 (by decide) (by decide)) ?_
  walk_at "hy"
  exact wp_val (partedL_ok hR hL (ha.2.sub hb.2) (hb.1.sub ha.1) (by grind) (by decide) (by decide)) ⟨by rw [rateB_sym], rfl⟩
theorem price_at_ok {n : Nat} {bs : List (Rat × Rat)} {w : Rat} (hG : G f = some (K_price under times fall minus)) (hF : G fall = some (K_fall parted minus)) (hR : G parted = some (K_parted low)) (hL : G low = some K_low) (hM : G minus = some (K_minus low)) (hX : G times = some (K_times low)) (hU : G under = some K_under)
    (h : S[n]? = some (.lst (bs.map pr))) (hs : Shp bs) (hz : ∀ c ∈ bs, Ok2 c) (hw : Sz 2000 3000 w) (hl : bs.length < 100) :
    Wp (callN G (k + 4) f [.loc n, q w] S) fun d S' => S' = S ∧ ((d = .non ∧ ∀ c ∈ bs, w < c.1) ∨ ∃ p, d = q p ∧ AtP bs w p) := by
  refine wp_def hG rfl ?_
  unfold K_price
  walk_at "hp0"
  walk_at "hys"
  rw [List.length_map]
  refine ⟨by unfold okRng; simp; omega, ?_⟩
  rw [Int.toNat_natCast]
  refine forE_inv (fun i r S' => S' = S ∧ ∃ (t : D) (z3 z4 : Option D), r = [some (.loc n), some (q w), some t, z3, z4] ∧ ((t = .non ∧ ∀ (j : Nat) (c : Rat × Rat), j < i → bs[j]? = some c → w < c.1) ∨
    ∃ p, t = q p ∧ ∃ (j : Nat) (a : Rat × Rat), j < i ∧ bs[j]? = some a ∧ a.1 ≤ w ∧ (∀ b, bs[j + 1]? = some b → j + 1 < i → w < b.1) ∧ (∀ b, bs[j + 1]? = some b → w < b.1 → p = a.2 - rateB a b * (w - a.1)) ∧ (j = bs.length - 1 → p = a.2)))
    ⟨rfl, .non, none, none, rfl, Or.inl ⟨rfl, fun _ _ hj => absurd hj (Nat.not_lt_zero _)⟩⟩ (fun _ _ _ _ _ => still0) ?_ ?_
  · rintro i d r S' hd ⟨rfl, t, z3, z4, rfl, hinv⟩
    obtain ⟨hi, rfl⟩ := rng0_get hd
    have ga : bs[i]? = some (bs[i]'hi) := List.getElem?_eq_getElem _
    generalize bs[i]'hi = a at ga
    have ha := hz a (List.mem_of_getElem? ga)
    have ga2 : (bs.map pr)[i]? = some (pr a) := by rw [List.getElem?_map, ga]; rfl
    have e1 : (i : Int) + 1 = ((i + 1 : Nat) : Int) := by omega
    refine ⟨_, rfl, ?_⟩
    walk_at "hys"
    refine wps_ite ?_
    walk_at "hy"
    refine wx_ix (seq_loc h) (atI_get ga2) ?_
    walk_at "hy"
    refine wp_val (underL_ok hU hw ha.1 (by decide) (by decide)) ?_
    walk_at "hys"
    refine wq_ndec (fun h1 => ?_) (fun h1 => ?_)
    · have h1 : a.1 ≤ w := Rat.not_lt.1 h1
      walk_at "hys"
      refine wx_ix (seq_loc h) (atI_get ga2) ?_
      walk_at "hys"
      refine wps_ite ?_
      walk_at "hy"
      rw [List.length_map, e1]
      refine wq_dec (fun h2 => ?_) (fun h2 => ?_)
      · have hi2 : i + 1 < bs.length := by omega
        have gb : bs[i + 1]? = some (bs[i + 1]'hi2) := List.getElem?_eq_getElem _
        generalize bs[i + 1]'hi2 = b at gb
        have hb := hz b (List.mem_of_getElem? gb)
        have gb2 : (bs.map pr)[i + 1]? = some (pr b) := by rw [List.getElem?_map, gb]; rfl
        walk_at "hy"
        rw [e1]
        refine wx_ix (seq_loc h) (atI_get gb2) ?_
        walk_at "hy"
        refine wp_val (underL_ok hU hw hb.1 (by decide) (by decide)) ?_
        walk_at "hy"
        refine wq_dec (fun h3 => ?_) (fun h3 => ?_)
        · walk_at "hy"
          refine wx_ix (seq_loc h) (atI_get ga2) ?_
          walk_at "hy"
          rw [e1]
          refine wx_ix (seq_loc h) (atI_get gb2) ?_
          walk_at "hy"
          have hab := (hs.mono i a b ga gb).1
          refine wp_val (fallL_ok hF hR hL hM ha hb hab) ?_
          walk_at "hy"
          refine wx_ix (seq_loc h) (atI_get ga2) ?_
          walk_at "hy"
          refine wp_val (minusL_ok hM hL hw ha.1 (by decide) (by decide)) ?_
          walk_at "hy"
          refine wp_val (timesL_ok hX hL (fall_sz ha hb hab) (hw.sub ha.1) (by decide) (by decide)) ?_
          walk_at "hy"
          refine wx_ix (seq_loc h) (atI_get ga2) ?_
          walk_at "hy"
          refine wp_val (minusL_ok hM hL ha.2 ((fall_sz ha hb hab).mul (hw.sub ha.1)) (by decide) (by decide)) ?_
          walk_at "hy"
          refine ⟨rfl, _, _, _, rfl, Or.inr ⟨_, rfl, i, a, by omega, ga, h1, fun b' _ h' => by omega, fun b' hb' _ => ?_, fun e => by omega⟩⟩
          rw [gb] at hb'; cases hb'; rfl
        · walk_at "hy"
          refine ⟨rfl, _, _, _, rfl, Or.inr ⟨_, rfl, i, a, by omega, ga, h1, fun b' _ h' => by omega, fun b' hb' h' => ?_, fun e => rfl⟩⟩
          rw [gb] at hb'; cases hb'; exact absurd h' h3
      · walk_at "hy"
        refine ⟨rfl, _, _, _, rfl, Or.inr ⟨_, rfl, i, a, by omega, ga, h1, fun b' _ h' => by omega, fun b' hb' h' => ?_, fun e => rfl⟩⟩
        have := (List.getElem?_eq_some_iff.1 hb').1
        omega
    · walk_at "hys"
      refine ⟨rfl, t, _, z4, rfl, ?_⟩
      rcases hinv with ⟨rfl, hno⟩ | ⟨p, rfl, j, a', hj, gj, hjw, hn, hv, hlst⟩
      · refine Or.inl ⟨rfl, fun j c hj hc => ?_⟩
        by_cases ej : j = i
        · subst ej; rw [ga] at hc; cases hc; exact h1
        · exact hno j c (by omega) hc
      · refine Or.inr ⟨p, rfl, j, a', by omega, gj, hjw, fun b hb hjb => ?_, hv, hlst⟩
        by_cases ej : j + 1 = i
        · subst ej; rw [ga] at hb; cases hb; exact h1
        · exact hn b hb (by omega)
  · rintro r S' ⟨rfl, t, z3, z4, rfl, hinv⟩
    rw [rngL_len] at hinv
    have hne : noExc t = true := by
      rcases hinv with ⟨rfl, _⟩ | ⟨p, rfl, _⟩ <;> rfl
    walk_at "hys"
    refine ⟨rfl, ?_⟩
    rcases hinv with ⟨rfl, hno⟩ | ⟨p, rfl, j, a', hj, gj, hjw, hn, hv, hlst⟩
    · refine Or.inl ⟨rfl, fun c m => ?_⟩
      obtain ⟨j, hj⟩ := List.getElem?_of_mem m
      exact hno j c (List.getElem?_eq_some_iff.1 hj).1 hj
    · refine Or.inr ⟨p, rfl, ?_⟩
      by_cases e : j = bs.length - 1
      · rw [hlst e]
        rw [e] at gj
        exact .last gj hjw
      · have hj2 : j + 1 < bs.length := by omega
        have gb : bs[j + 1]? = some (bs[j + 1]'hj2) := List.getElem?_eq_getElem _
        have hb := hn _ gb hj2
        rw [hv _ gb hb]
        exact .way gj gb hjw hb
end
theorem fuel_pr (p : Rat × Rat) : fuel (prd p) ≤ 6 := by
  show max (fuel (qd p.1)) (max (fuel (qd p.2)) 0 + 1) + 1 + 1 ≤ 6
  have := fuel_q p.1
  have := fuel_q p.2
  omega
theorem depth_pr (p : Rat × Rat) : PyData.depth (prd p) ≤ 2 := by
  show max (max 0 (max 0 0) + 1) (max (max 0 (max 0 0) + 1) 0) + 1 ≤ 2
  decide
theorem cmp_prs {xs : List (Rat × Rat)} (h : xs.length < 190) : Cmp (.list (xs.map prd)) := cmp_list (n := 6) (fun x _ => ⟨fuel_pr x, rfl, Nat.le_trans (depth_pr x) (by decide)⟩) (by omega)
theorem dt_prs {S : Sto} {P : Nat → Prop} {n : Nat} {cs : List (Rat × Rat)} (h : S[n]? = some (.lst (cs.map pr))) (hP : P n) : Dt P S (.list (cs.map prd)) (.loc n) := ⟨_, Or.inr ⟨n, rfl, hP, h⟩, dtA_map fun x _ => dt_pr x⟩
theorem ne_prs {S : Sto} {n m : Nat} {cs : List (Rat × Rat)} {Q : D → Sto → Prop} (h1 : S[n]? = some (.lst (cs.map pr))) (h2 : S[m]? = some (.lst (cs.map pr))) (hl : cs.length < 190) (k : Q (.bl false) S) : Wp (cmpD S .ne (.loc n) (.loc m)) Q := by
  refine wc_ne (eq_loc (dt_prs (P := fun _ => True) h1 trivial) (dt_prs (P := fun _ => True) h2 trivial) (cmp_prs hl) (cmp_prs hl)) ?_
  rw [eqv_refl _ (by show plainA (cs.map prd) = true; exact plain_map fun x _ => rfl)]
  exact k
theorem itLst_loc {S : Sto} {l : Nat} {ds : List D} (h : S[l]? = some (.lst ds)) : itLst S (.loc l) = some (ds, [(l, ds)]) := by unfold itLst; dsimp only; rw [h]
theorem pairs_get {bs : List (Rat × Rat)} {i : Nat} {d : D} (h : (zipL (bs.map pr) ((bs.map pr).drop 1))[i]? = some d) : ∃ a b, bs[i]? = some a ∧ bs[i + 1]? = some b ∧ d = .tup [pr a, pr b] := by
  obtain ⟨x, y, h1, h2, rfl⟩ := zipL_get h
  rw [List.getElem?_drop, List.getElem?_map, Option.map_eq_some_iff] at h2
  rw [List.getElem?_map, Option.map_eq_some_iff] at h1
  obtain ⟨a, h1, rfl⟩ := h1
  obtain ⟨b, h2, rfl⟩ := h2
  exact ⟨a, b, h1, by rw [Nat.add_comm]; exact h2, rfl⟩
theorem pairs_len {bs : List (Rat × Rat)} : (zipL (bs.map pr) ((bs.map pr).drop 1)).length = bs.length - 1 := by
  rw [zipL_len, List.length_drop, List.length_map]
  omega
end HP
namespace HP
open PySem L2
end HP
namespace HP
open PySem L2
def K_order (take : Nat) : Fn := ⟨2, 4,
 (.cons (.set 2 (.lstR (.var 1)))
 (.cons (.set 3 (.lst .nil))
 (.cons (.whl (.cmp .ne (.var 2) (.lst .nil)) (.cons (.expr (.meth .append (.var 3) (.cons (.meth .pop (.var 2) (.cons (.call take (.cons (.var 0) (.cons (.bcall .len (.cons (.var 2) .nil)) .nil))) .nil)) .nil)))
 .nil))
 (.cons (.ret (.var 3))
 .nil))))⟩
def K_lag (take minus amount : Nat) : Fn := ⟨2, 3,
 (.cons (.set 2 (.call amount (.cons (.var 0) (.cons (.var 1) (.cons (.int 0) .nil)))))
 (.cons (.ite (.cmp .eq (.call take (.cons (.var 0) (.cons (.int 4) .nil))) (.int 0)) (.cons (.ret (.call minus (.cons (.tup (.cons (.int 0) (.cons (.int 1) .nil))) (.cons (.var 2) .nil))))
 .nil) .nil)
 (.cons (.ret (.var 2))
 .nil)))⟩
def K_waits (take plus minus amount order lag : Nat) : Fn := ⟨3, 9,
 (.cons (.set 3 (.call order (.cons (.var 0) (.cons (.var 1) .nil))))
 (.cons (.set 4 (.bin .add (.int 2) (.call take (.cons (.var 0) (.cons (.int 3) .nil)))))
 (.cons (.set 5 (.lst .nil))
 (.cons (.for_ (.name 6) (.rng1 (.var 1)) (.cons (.for_ (.name 7) (.rng1 (.var 6)) (.cons (.ite (.cmp .eq (.call take (.cons (.var 0) (.cons (.var 4) .nil))) (.int 0)) (.cons (.expr (.meth .append (.var 5) (.cons (.tup (.cons (.ix (.var 3) (.var 7)) (.cons (.ix (.var 3) (.var 6)) (.cons (.call lag (.cons (.var 0) (.cons (.var 2) .nil))) .nil)))) .nil)))
 .nil) .nil)
 (.cons (.ite (.cmp .eq (.call take (.cons (.var 0) (.cons (.int 12) .nil))) (.int 0)) (.cons (.set 8 (.call plus (.cons (.call amount (.cons (.var 0) (.cons (.var 2) (.cons (.int 1) .nil)))) (.cons (.tup (.cons (.bin .mul (.int 4) (.var 1)) (.cons (.int 1) .nil))) .nil))))
 (.cons (.expr (.meth .append (.var 5) (.cons (.tup (.cons (.ix (.var 3) (.var 6)) (.cons (.ix (.var 3) (.var 7)) (.cons (.call minus (.cons (.tup (.cons (.int 0) (.cons (.int 1) .nil))) (.cons (.var 8) .nil))) .nil)))) .nil)))
 .nil)) .nil)
 .nil)))
 .nil))
 (.cons (.ret (.sl (.var 5) .none (.some (.int 40))))
 .nil)))))⟩
def K_holds (take plus lag : Nat) : Fn := ⟨4, 8,
 (.cons (.set 4 (.lst .nil))
 (.cons (.for_ (.name 5) (.rng1 (.ix (.lst (.cons (.int 0) (.cons (.int 0) (.cons (.int 1) (.cons (.int 2) (.cons (.int 4) .nil)))))) (.call take (.cons (.var 0) (.cons (.int 5) .nil))))) (.cons (.set 6 (.ix (.lst (.cons (.str "from") (.cons (.str "from") (.cons (.str "till") (.cons (.str "by") .nil))))) (.call take (.cons (.var 0) (.cons (.int 4) .nil)))))
 (.cons (.set 7 (.call lag (.cons (.var 0) (.cons (.var 2) .nil))))
 (.cons (.ite (.band (.cons (.cmp .ne (.var 6) (.str "from")) (.cons (.cmp .gt (.call take (.cons (.var 0) (.cons (.int 4) .nil))) (.int 0)) .nil))) (.cons (.set 7 (.call plus (.cons (.var 7) (.cons (.var 3) .nil))))
 .nil) .nil)
 (.cons (.expr (.meth .append (.var 4) (.cons (.tup (.cons (.var 6) (.cons (.call take (.cons (.var 0) (.cons (.var 1) .nil))) (.cons (.var 7) .nil)))) .nil)))
 .nil)))))
 (.cons (.ret (.var 4))
 .nil)))⟩
def K_groups (take order : Nat) : Fn := ⟨2, 7,
 (.cons (.set 2 (.lc (.var 6) (.name 6) (.seq (.call order (.cons (.var 0) (.cons (.bcall .len (.cons (.var 1) .nil)) .nil)))) (.some (.cmp .eq (.ix (.ix (.ix (.var 1) (.var 6)) (.int 1)) (.int 0)) (.str "steps"))) [6]))
 (.cons (.set 3 (.lst .nil))
 (.cons (.whl (.band (.cons (.cmp .gt (.bcall .len (.cons (.var 2) .nil)) (.int 1)) (.cons (.cmp .lt (.bcall .len (.cons (.var 3) .nil)) (.int 4)) .nil))) (.cons (.set 4 (.bcall .len (.cons (.ix (.ix (.ix (.var 1) (.ix (.var 2) (.int 0))) (.int 1)) (.int 1)) .nil)))
 (.cons (.set 5 (.sl (.lc (.var 6) (.name 6) (.seq (.var 2)) (.some (.cmp .eq (.bcall .len (.cons (.ix (.ix (.ix (.var 1) (.var 6)) (.int 1)) (.int 1)) .nil)) (.var 4))) [6]) .none (.some (.bin .add (.int 2) (.call take (.cons (.var 0) (.cons (.int 2) .nil)))))))
 (.cons (.set 2 (.lc (.var 6) (.name 6) (.seq (.sl (.var 2) (.some (.int 1)) .none)) (.some (.cmp .nin (.var 6) (.var 5))) [6]))
 (.cons (.ite (.band (.cons (.cmp .gt (.bcall .len (.cons (.var 5) .nil)) (.int 1)) (.cons (.cmp .eq (.call take (.cons (.var 0) (.cons (.int 2) .nil))) (.int 0)) .nil))) (.cons (.expr (.meth .append (.var 3) (.cons (.var 5) .nil)))
 .nil) .nil)
 .nil)))))
 (.cons (.ret (.var 3))
 .nil))))⟩
section
variable {G : Tab} {k f l : Nat} {S : Sto} {take low plus minus times amount order lag : Nat}
end
def waD (w : Int × Int × Rat) : D := .tup [.int w.1, .int w.2.1, q w.2.2]
def hoD (h : Str × Int × Rat) : D := .tup [.str h.1, .int h.2.1, q h.2.2]
structure Wk where
  nm : Str
  kd : Str
  lc : Nat
  cs : List (Rat × Rat)
def wkD (w : Wk) : D := .tup [.str w.nm, .tup [.str w.kd, .loc w.lc]]
section
variable {G : Tab} {k f l : Nat} {S : Sto} {take low plus minus times amount order lag : Nat}
end
end HP
namespace HP
open PySem L2
section
variable {G : Tab} {k f l : Nat} {S : Sto} {take order : Nat}
end
section
variable {G : Tab} {k f l : Nat} {S : Sto} {take : Nat}
end
end HP
namespace HP
open PySem L2
def K_net (begun take plus offer names waits holds groups : Nat) : Fn := ⟨6, 15,
 (.cons (.set 6 (.call begun (.cons (.var 0) (.cons (.var 1) .nil))))
 (.cons (.set 7 (.bin .add (.int 1) (.call take (.cons (.var 6) (.cons (.var 2) .nil)))))
 (.cons (.set 8 (.call names (.cons (.var 6) (.cons (.var 7) .nil))))
 (.cons (.set 6 (.call begun (.cons (.var 0) (.cons (.bin .add (.var 1) (.int 1)) .nil))))
 (.cons (.set 9 (.lst .nil))
 (.cons (.set 10 (.tup (.cons (.int 0) (.cons (.int 1) .nil))))
 (.cons (.for_ (.name 11) (.seq (.var 8)) (.cons (.set 12 (.call offer (.cons (.var 6) (.cons (.ix (.var 4) (.call take (.cons (.var 6) (.cons (.bcall .len (.cons (.var 4) .nil)) .nil)))) (.cons (.var 3) (.cons (.var 5) .nil))))))
 (.cons (.set 10 (.call plus (.cons (.var 10) (.cons (.ix (.ix (.ix (.var 12) (.int 1)) (.int 0)) (.int 0)) .nil))))
 (.cons (.expr (.meth .append (.var 9) (.cons (.tup (.cons (.var 11) (.cons (.var 12) .nil))) .nil)))
 .nil))))
 (.cons (.set 6 (.call begun (.cons (.var 0) (.cons (.bin .add (.var 1) (.int 2)) .nil))))
 (.cons (.set 13 (.call waits (.cons (.var 6) (.cons (.var 7) (.cons (.var 5) .nil)))))
 (.cons (.set 6 (.call begun (.cons (.var 0) (.cons (.bin .add (.var 1) (.int 3)) .nil))))
 (.cons (.set 14 (.call holds (.cons (.var 6) (.cons (.var 7) (.cons (.var 5) (.cons (.var 10) .nil))))))
 (.cons (.ret (.tup (.cons (.var 9) (.cons (.var 13) (.cons (.var 14) (.cons (.call groups (.cons (.var 6) (.cons (.var 9) .nil))) .nil))))))
 .nil))))))))))))⟩
structure WkOk (w : Wk) : Prop where
  kd : w.kd = ("straight" : Str) ∨ w.kd = ("steps" : Str)
  good : Good (decide (w.kd = ("straight" : Str))) w.cs
  len : w.cs.length ≤ 5
  sz : ∀ p ∈ w.cs, Sz 50 30 p.1 ∧ Sz 100 150 p.2
structure NetAt (S : Sto) (n0 : Nat) (d : D) (ws : List Wk) (wa : List (Int × Int × Rat)) (ho : List (Str × Int × Rat)) (gr : List (Nat × List Int)) : Prop where
  form : ∃ a b c e, d = .tup [.loc a, .loc b, .loc c, .loc e] ∧ n0 ≤ a ∧ n0 ≤ b ∧ n0 ≤ c ∧ n0 ≤ e ∧ S[a]? = some (.lst (ws.map wkD)) ∧ S[b]? = some (.lst (wa.map waD)) ∧ S[c]? = some (.lst (ho.map hoD)) ∧ S[e]? = some (.lst (gr.map fun g => D.loc g.1))
  offers : ∀ w ∈ ws, n0 ≤ w.lc ∧ S[w.lc]? = some (.lst (w.cs.map pr))
  groups : ∀ g ∈ gr, n0 ≤ g.1 ∧ S[g.1]? = some (.lst (g.2.map D.int))
theorem NetAt.ag {P : Nat → Prop} {S S' : Sto} {n0 : Nat} {d : D} {ws : List Wk} {wa : List (Int × Int × Rat)} {ho : List (Str × Int × Rat)} {gr : List (Nat × List Int)} (h : NetAt S n0 d ws wa ho gr) (k : Ag P S S') (hp : ∀ i, P i → i < n0) : NetAt S' n0 d ws wa ho gr := by
  obtain ⟨⟨a, b, c, e, h0, h1, h2, h3, h4, h5, h6, h7, h8⟩, ho', hg⟩ := h
  have g : ∀ {i : Nat} {o : O}, n0 ≤ i → S[i]? = some o → S'[i]? = some o := fun hi ho => k.get ho (fun q => by have := hp _ q; omega)
  exact ⟨⟨a, b, c, e, h0, h1, h2, h3, h4, g h1 h5, g h2 h6, g h3 h7, g h4 h8⟩, fun w m => ⟨(ho' w m).1, g (ho' w m).1 (ho' w m).2⟩, fun w m => ⟨(hg w m).1, g (hg w m).1 (hg w m).2⟩⟩
structure NetOk (ws : List Wk) (wa : List (Int × Int × Rat)) (ho : List (Str × Int × Rat)) (gr : List (Nat × List Int)) : Prop where
  one : 0 < ws.length
  ten : ws.length ≤ 10
  wk : ∀ w ∈ ws, WkOk w
  wal : wa.length ≤ 200
  was : ∀ w ∈ wa, 0 ≤ w.1 ∧ w.1 < ws.length ∧ 0 ≤ w.2.1 ∧ w.2.1 < ws.length ∧ Sz 60 40 w.2.2
  hol : ho.length ≤ 4
  hos : ∀ h ∈ ho, (h.1 = ("from" : Str) ∨ h.1 = ("till" : Str) ∨ h.1 = ("by" : Str)) ∧ 0 ≤ h.2.1 ∧ h.2.1 < ws.length ∧ Sz 110 620 h.2.2
  grl : gr.length ≤ 20
  grs : ∀ g ∈ gr, g.2.length ≤ 20
section
variable {G : Tab} {k f : Nat} {S : Sto} {begun take low plus minus times amount offer names waits holds groups order lag : Nat}
end
end HP
namespace HP
open PySem L2
/-- a time that a work offers -/
structure TOk (w : Wk) (t : Rat) : Prop where
  off : offeredB w.kd w.cs t = true
  sz : Sz 80 100 t
  stp : w.kd = ("steps" : Str) → ∃ c ∈ w.cs, c.1 = t
mutual
/-- data whose lists are all changeable, at places of P -/
def Dl (P : Nat → Prop) (S : Sto) : PyData → D → Prop
  | .none, d => d = .non
  | .bool b, d => d = .bl b
  | .int i, d => d = .int i
  | .str s, d => d = .str s
  | .tuple xs, d => ∃ ds, d = .tup ds ∧ DlA P S xs ds
  | .list xs, d => ∃ l ds, d = .loc l ∧ P l ∧ S[l]? = some (.lst ds) ∧ DlA P S xs ds
  | .dict _, _ => False
def DlA (P : Nat → Prop) (S : Sto) : List PyData → List D → Prop
  | [], ds => ds = []
  | x :: xs, ds => ∃ d ds', ds = d :: ds' ∧ Dl P S x d ∧ DlA P S xs ds'
end
mutual
theorem Dl.mono {P P' : Nat → Prop} {S S' : Sto} (hl : ∀ l ds, P l → S[l]? = some (.lst ds) → P' l ∧ S'[l]? = some (.lst ds)) : {x : PyData} → {d : D} → Dl P S x d → Dl P' S' x d
  | .none, d, h => h
  | .bool b, d, h => h
  | .int i, d, h => h
  | .str s, d, h => h
  | .tuple xs, d, h => by
    obtain ⟨ds, rfl, h⟩ := h
    exact ⟨ds, rfl, h.mono hl⟩
  | .list xs, d, h => by
    obtain ⟨l, ds, rfl, p, h1, h⟩ := h
    exact ⟨l, ds, rfl, (hl l ds p h1).1, (hl l ds p h1).2, h.mono hl⟩
  | .dict _, d, h => h.elim
theorem DlA.mono {P P' : Nat → Prop} {S S' : Sto} (hl : ∀ l ds, P l → S[l]? = some (.lst ds) → P' l ∧ S'[l]? = some (.lst ds)) : {xs : List PyData} → {ds : List D} → DlA P S xs ds → DlA P' S' xs ds
  | [], ds, h => h
  | x :: xs, ds, h => by
    obtain ⟨d, ds', rfl, h1, h2⟩ := h
    exact ⟨d, ds', rfl, h1.mono hl, h2.mono hl⟩
end
theorem Dl.ag {P Q : Nat → Prop} {S S' : Sto} {x : PyData} {d : D} (h : Dl P S x d) (k : Ag Q S S') (hp : ∀ l, P l → ¬Q l) : Dl P S' x d :=
  h.mono fun l ds p e => ⟨p, k.get e (hp l p)⟩
theorem DlA.ag {P Q : Nat → Prop} {S S' : Sto} {x : List PyData} {d : List D} (h : DlA P S x d) (k : Ag Q S S') (hp : ∀ l, P l → ¬Q l) : DlA P S' x d :=
  h.mono fun l ds p e => ⟨p, k.get e (hp l p)⟩
theorem DlA.app {P : Nat → Prop} {S : Sto} : {xs : List PyData} → {ds : List D} → {x : PyData} → {d : D} → DlA P S xs ds → Dl P S x d → DlA P S (xs ++ [x]) (ds ++ [d])
  | [], ds, x, d, h, h2 => by cases (h : ds = []); exact ⟨d, [], rfl, h2, rfl⟩
  | y :: xs, ds, x, d, h, h2 => by
    obtain ⟨e, ds', rfl, h3, h4⟩ := h
    exact ⟨e, ds' ++ [d], rfl, h3, h4.app h2⟩
def wkP (w : Wk) : PyData := .tuple [.str w.nm, .tuple [.str w.kd, .list (w.cs.map prd)]]
def waP (w : Int × Int × Rat) : PyData := .tuple [.int w.1, .int w.2.1, qd w.2.2]
def hoP (h : Str × Int × Rat) : PyData := .tuple [.str h.1, .int h.2.1, qd h.2.2]
/-- works that are alike but for their places -/
def Same : List Wk → List Wk → Prop
  | [], [] => True
  | w :: ws, v :: vs => (v.nm = w.nm ∧ v.kd = w.kd ∧ v.cs = w.cs) ∧ Same ws vs
  | _, _ => False
theorem Same.len : {ws vs : List Wk} → Same ws vs → vs.length = ws.length
  | [], [], _ => rfl
  | _ :: _, _ :: _, h => by rw [List.length_cons, List.length_cons, Same.len h.2]
theorem Same.get : {ws vs : List Wk} → Same ws vs → {i : Nat} → {v : Wk} → vs[i]? = some v → ∃ w, ws[i]? = some w ∧ v.nm = w.nm ∧ v.kd = w.kd ∧ v.cs = w.cs
  | [], [], _, i, v, e => by cases e
  | w :: _, _ :: _, h, 0, v, e => by cases e; exact ⟨w, rfl, h.1⟩
  | _ :: ws, _ :: vs, h, i + 1, v, e => Same.get (ws := ws) (vs := vs) h.2 (i := i) e
structure Xw where
  lc : Nat
  nm : Str
  t : Rat
  p : Rat
def xwD (x : Xw) : D := .tup [.str x.nm, .tup [.str "straight", .loc x.lc]]
/-- works with their times told -/
structure XAt (S : Sto) (n lo hi : Nat) (ws : List Wk) (ts : List Rat) (xs : List Xw) : Prop where
  at_ : S[n]? = some (.lst (xs.map xwD))
  len : xs.length = ws.length
  cell : ∀ x ∈ xs, lo < x.lc ∧ x.lc < hi ∧ S[x.lc]? = some (.lst [pr (x.t, x.p)])
  inc : xs.Pairwise fun x y => x.lc < y.lc
  told : ∀ (i : Nat) (x : Xw) (w : Wk) (t : Rat), xs[i]? = some x → ws[i]? = some w → ts[i]? = some t → x.nm = w.nm ∧ x.t = t ∧ Cost w.cs t x.p
section
variable {k : Nat} {S : Sto}
end
/-- lists of a net that may be compared -/
structure Lay (x : PyData) : Prop where
  f : fuel x ≤ 80
  d : PyData.depth x ≤ 6
  l : PyData.canLay0 x = true
  o : okA x = true
  p : plain x = true
theorem Lay.cmp {x : PyData} (h : Lay x) : Cmp x := ⟨Nat.le_trans h.f (by decide), by
  unfold SeqAt.shaped
  rw [Bool.and_eq_true]
  exact ⟨h.l, decide_eq_true (Nat.le_trans h.d (by decide))⟩⟩
theorem XAt.ag {S S' : Sto} {n lo hi : Nat} {ws : List Wk} {ts : List Rat} {xs : List Xw} {P : Nat → Prop} (h : XAt S n lo hi ws ts xs) (k : Ag P S S') (hn : ¬P n) (hc : ∀ x ∈ xs, ¬P x.lc) : XAt S' n lo hi ws ts xs :=
  ⟨k.get h.at_ hn, h.len, fun x m => ⟨(h.cell x m).1, (h.cell x m).2.1, k.get (h.cell x m).2.2 (hc x m)⟩, h.inc, h.told⟩
theorem XAt.names {S : Sto} {n lo hi : Nat} {ws : List Wk} {ts : List Rat} {xs : List Xw} (h : XAt S n lo hi ws ts xs) (hn : ∀ w ∈ ws, PyData.strOk w.nm = true) (hl : ts.length = ws.length) : ∀ x ∈ xs, PyData.strOk x.nm = true := by
  intro x m
  obtain ⟨i, hi⟩ := List.getElem?_of_mem m
  have hil := (List.getElem?_eq_some_iff.1 hi).1
  rw [h.len] at hil
  have gw : ws[i]? = some (ws[i]'hil) := List.getElem?_eq_getElem _
  have gt : ts[i]? = some (ts[i]'(by omega)) := List.getElem?_eq_getElem _
  rw [(h.told i x _ _ hi gw gt).1]
  exact hn _ (List.getElem_mem hil)
end HP
namespace HP
open PySem L2
inductive Arc where
  | start (w : Nat) | fin (w : Nat) | hold (k : Nat) | wait (k : Nat)
/-- from, to, at least so much more -/
abbrev Wt := Nat × Nat × Rat
abbrev Fd := List (Rat × Arc)
def pushS (st : Fd × Option Nat) (k : Nat) (w : Wt) : Fd × Option Nat :=
  match st.1[w.1]?, st.1[w.2.1]? with
  | some a, some b => if b.1 < a.1 + w.2.2 then (st.1.set w.2.1 (a.1 + w.2.2, .wait k), some w.2.1) else st
  | _, _ => st
/-- the first m waits gone through -/
def pushL (W : List Wt) (F : Fd) : Nat → Fd × Option Nat
  | 0 => (F, none)
  | m + 1 => match W[m]? with
    | some w => pushS (pushL W F m) m w
    | none => pushL W F m
def roundsF (W : List Wt) (F : Fd) : Nat → Fd × Option Nat
  | 0 => (F, none)
  | r + 1 => pushL W (roundsF W F r).1 W.length
structure BInv (W : List Wt) (F0 : Fd) (r m : Nat) (F : Fd) (ρ τ : Nat → Nat) (now : Nat) : Prop where
  len : F.length = F0.length
  root : ∀ (v : Nat) (x : Rat) (a : Arc), F[v]? = some (x, a) → (∀ k, a ≠ .wait k) → F0[v]? = some (x, a) ∧ ρ v = 0
  arc : ∀ (v : Nat) (x : Rat) (k : Nat), F[v]? = some (x, .wait k) → ∃ u c y b, W[k]? = some (u, v, c) ∧ F[u]? = some (y, b) ∧ x ≤ y + c ∧ (τ v < τ u → x < y + c) ∧ ρ v ≤ ρ u + 1 ∧ 0 < τ v
  slack : ∀ (k u v : Nat) (c y : Rat) (b : Arc) (x : Rat) (a : Arc), W[k]? = some (u, v, c) → F[u]? = some (y, b) → F[v]? = some (x, a) → y + c ≤ x ∨ (if k < m then r else r - 1) ≤ ρ u
  rle : ∀ v, ρ v ≤ r
  inj : ∀ v w, τ v = τ w → v = w ∨ τ v = 0
  tle : ∀ v, τ v ≤ now
/-- waits between works that are there, no two alike -/
def WOk (W : List Wt) (n : Nat) : Prop := ∀ w ∈ W, w.1 < n ∧ w.2.1 < n ∧ w.1 ≠ w.2.1
theorem BInv.start {W : List Wt} {F0 : Fd} (h : ∀ (v : Nat) (x : Rat) (k : Nat), F0[v]? ≠ some (x, .wait k)) : BInv W F0 0 W.length F0 (fun _ => 0) (fun _ => 0) 0 where
  len := rfl
  root := fun v x a e _ => ⟨e, rfl⟩
  arc := fun v x k e => absurd e (h v x k)
  slack := fun k u v c y b x a _ _ _ => Or.inr (by split <;> exact Nat.zero_le _)
  rle := fun _ => Nat.le_refl _
  inj := fun _ _ _ => Or.inr rfl
  tle := fun _ => Nat.le_refl _
theorem BInv.next {W : List Wt} {F0 F : Fd} {r now : Nat} {ρ τ : Nat → Nat} (h : BInv W F0 r W.length F ρ τ now) : BInv W F0 (r + 1) 0 F ρ τ now where
  len := h.len
  root := h.root
  arc := h.arc
  slack := fun k u v c y b x a e e1 e2 => by
    have hk := (List.getElem?_eq_some_iff.1 e).1
    rcases h.slack k u v c y b x a e e1 e2 with q | q
    · exact Or.inl q
    · rw [if_pos hk] at q
      exact Or.inr (by rw [if_neg (Nat.not_lt_zero _)]; omega)
  rle := fun v => Nat.le_succ_of_le (h.rle v)
  inj := h.inj
  tle := h.tle
theorem get_some {A : Type} {xs : List A} {i : Nat} (h : i < xs.length) : ∃ x, xs[i]? = some x := ⟨_, List.getElem?_eq_getElem h⟩
theorem BInv.step {W : List Wt} {F0 F : Fd} {r m now : Nat} {ρ τ : Nat → Nat} {o : Option Nat} {w : Wt} (h : BInv W F0 r m F ρ τ now) (hr : 1 ≤ r) (hw : W[m]? = some w) (hW : WOk W F0.length) (ho : ∀ v, o = some v → v < F0.length ∧ ρ v = r) :
    ∃ ρ' τ' now', BInv W F0 r (m + 1) (pushS (F, o) m w).1 ρ' τ' now' ∧ ∀ v, (pushS (F, o) m w).2 = some v → v < F0.length ∧ ρ' v = r := by
  obtain ⟨u, v, c⟩ := w
  obtain ⟨hu, hv, huv⟩ := hW _ (List.mem_of_getElem? hw)
  try dsimp only at hu hv huv
  obtain ⟨⟨y, b⟩, gu⟩ := get_some (xs := F) (i := u) (by rw [h.len]; exact hu)
  obtain ⟨⟨x, a⟩, gv⟩ := get_some (xs := F) (i := v) (by rw [h.len]; exact hv)
  unfold pushS
  try dsimp only
  rw [gu, gv]
  try dsimp only
  by_cases hlt : x < y + c
  · rw [if_pos hlt]
    try dsimp only
    have gv' : ∀ z, (F.set v (y + c, Arc.wait m))[v]? = some z ↔ z = (y + c, Arc.wait m) := by
      intro z
      rw [List.getElem?_set_self (by rw [h.len]; exact hv)]
      constructor
      · intro e; exact (Option.some.inj e).symm
      · rintro rfl; rfl
    have gne : ∀ z, z ≠ v → (F.set v (y + c, Arc.wait m))[z]? = F[z]? := fun z hz => List.getElem?_set_ne (fun e => hz e.symm)
    have hsl : r - 1 ≤ ρ u := by
      rcases h.slack m u v c y b x a hw gu gv with q | q
      · exact absurd hlt (Rat.not_lt.2 q)
      · rw [if_neg (Nat.lt_irrefl _)] at q; exact q
    refine ⟨fun z => if z = v then r else ρ z, fun z => if z = v then now + 1 else τ z, now + 1, ⟨?_, ?_, ?_, ?_, ?_, ?_, ?_⟩, ?_⟩
    · rw [List.length_set]; exact h.len
    · intro z x' a' e hn
      by_cases hz : z = v
      · subst hz
        rw [gv'] at e
        cases e
        exact absurd rfl (hn m)
      · rw [gne z hz] at e
        try dsimp only
        rw [if_neg hz]
        exact h.root z x' a' e hn
    · intro z x' k e
      by_cases hz : z = v
      · subst hz
        rw [gv'] at e
        cases e
        refine ⟨u, c, y, b, hw, by rw [gne u huv]; exact gu, Rat.le_refl, ?_, ?_, ?_⟩
        · try dsimp only
          rw [if_pos rfl, if_neg huv]
          intro q
          have := h.tle u
          omega
        · try dsimp only
          rw [if_pos rfl, if_neg huv]
          omega
        · try dsimp only
          rw [if_pos rfl]
          omega
      · rw [gne z hz] at e
        obtain ⟨u2, c2, y2, b2, e1, e2, e3, e4, e5, e6⟩ := h.arc z x' k e
        by_cases hu2 : u2 = v
        · subst hu2
          rw [gv] at e2
          cases e2
          refine ⟨u2, c2, y + c, .wait m, e1, (gv' _).2 rfl, ?_, ?_, ?_, ?_⟩
          · grind
          · intro _; grind
          · try dsimp only
            rw [if_neg hz, if_pos rfl]
            have := h.rle u2
            omega
          · try dsimp only
            rw [if_neg hz]
            exact e6
        · refine ⟨u2, c2, y2, b2, e1, by rw [gne u2 hu2]; exact e2, e3, ?_, ?_, ?_⟩
          · try dsimp only
            rw [if_neg hz, if_neg hu2]
            exact e4
          · try dsimp only
            rw [if_neg hz, if_neg hu2]
            exact e5
          · try dsimp only
            rw [if_neg hz]
            exact e6
    · intro k u2 v2 c2 y2 b2 x2 a2 e1 e2 e3
      try dsimp only
      by_cases hu2 : u2 = v
      · rw [if_pos hu2]
        exact Or.inr (by split <;> omega)
      · rw [if_neg hu2]
        rw [gne u2 hu2] at e2
        by_cases hv2 : v2 = v
        · subst hv2
          rw [gv'] at e3
          cases e3
          by_cases hk : k = m
          · subst hk
            rw [hw] at e1
            cases e1
            rw [gu] at e2
            cases e2
            exact Or.inl Rat.le_refl
          · rcases h.slack k u2 v2 c2 y2 b2 x a e1 e2 gv with q | q
            · exact Or.inl (by grind)
            · refine Or.inr ?_
              by_cases hkm : k < m
              · rw [if_pos hkm] at q; rw [if_pos (by omega)]; exact q
              · rw [if_neg hkm] at q; rw [if_neg (by omega)]; exact q
        · rw [gne v2 hv2] at e3
          rcases h.slack k u2 v2 c2 y2 b2 x2 a2 e1 e2 e3 with q | q
          · exact Or.inl q
          · refine Or.inr ?_
            by_cases hk : k = m
            · subst hk
              rw [hw] at e1
              cases e1
              exact absurd rfl hv2
            · by_cases hkm : k < m
              · rw [if_pos hkm] at q; rw [if_pos (by omega)]; exact q
              · rw [if_neg hkm] at q; rw [if_neg (by omega)]; exact q
    · intro z
      try dsimp only
      split
      · exact Nat.le_refl _
      · exact h.rle z
    · intro z z2 e
      try dsimp only at e
      have t1 := h.tle z
      have t2 := h.tle z2
      by_cases h1 : z = v
      · by_cases h2 : z2 = v
        · exact Or.inl (h1.trans h2.symm)
        · rw [if_pos h1, if_neg h2] at e; omega
      · by_cases h2 : z2 = v
        · rw [if_neg h1, if_pos h2] at e; omega
        · rw [if_neg h1, if_neg h2] at e
          try dsimp only
          rw [if_neg h1]
          exact h.inj z z2 e
    · intro z
      try dsimp only
      split
      · exact Nat.le_refl _
      · exact Nat.le_succ_of_le (h.tle z)
    · intro z e
      cases e
      try dsimp only
      rw [if_pos rfl]
      exact ⟨hv, rfl⟩
  · rw [if_neg hlt]
    refine ⟨ρ, τ, now, ⟨h.len, h.root, h.arc, ?_, h.rle, h.inj, h.tle⟩, ho⟩
    intro k u2 v2 c2 y2 b2 x2 a2 e1 e2 e3
    by_cases hk : k = m
    · subst hk
      rw [hw] at e1
      cases e1
      rw [gu] at e2
      rw [gv] at e3
      cases e2; cases e3
      exact Or.inl (Rat.not_lt.1 hlt)
    · rcases h.slack k u2 v2 c2 y2 b2 x2 a2 e1 e2 e3 with q | q
      · exact Or.inl q
      · refine Or.inr ?_
        by_cases hkm : k < m
        · rw [if_pos hkm] at q; rw [if_pos (by omega)]; exact q
        · rw [if_neg hkm] at q; rw [if_neg (by omega)]; exact q
theorem pigeon : ∀ (n : Nat) (f : Nat → Nat), (∀ i, i ≤ n → f i < n) → ∃ i j, i < j ∧ j ≤ n ∧ f i = f j
  | 0, f, h => absurd (h 0 (Nat.le_refl _)) (Nat.not_lt_zero _)
  | n + 1, f, h => by
    by_cases hx : ∃ i, i ≤ n ∧ f i = f (n + 1)
    · obtain ⟨i, hi, e⟩ := hx
      exact ⟨i, n + 1, by omega, Nat.le_refl _, e⟩
    · have hne : ∀ i, i ≤ n → f i ≠ f (n + 1) := fun i hi e => hx ⟨i, hi, e⟩
      have hm := h (n + 1) (Nat.le_refl _)
      obtain ⟨i, j, hij, hj, e⟩ := pigeon n (fun i => if f i = n then f (n + 1) else f i) (fun i hi => by
        try dsimp only
        have h1 := h i (by omega)
        have h2 := hne i hi
        split
        · rename_i e; omega
        · omega)
      refine ⟨i, j, hij, by omega, ?_⟩
      try dsimp only at e
      have h1 := hne i (by omega)
      have h2 := hne j (by omega)
      by_cases c1 : f i = n
      · by_cases c2 : f j = n
        · rw [c1, c2]
        · rw [if_pos c1, if_neg c2] at e; exact absurd e.symm h2
      · by_cases c2 : f j = n
        · rw [if_neg c1, if_pos c2] at e; exact absurd e h1
        · rw [if_neg c1, if_neg c2] at e; exact e
theorem least {P : Nat → Prop} : ∀ n, P n → ∃ m, m ≤ n ∧ P m ∧ ∀ j, j < m → ¬P j := by
  intro n
  induction n using Nat.strongRecOn with
  | _ n ih =>
    intro h
    by_cases hx : ∃ j, j < n ∧ P j
    · obtain ⟨j, hj, pj⟩ := hx
      obtain ⟨m, h1, h2, h3⟩ := ih j hj pj
      exact ⟨m, by omega, h2, h3⟩
    · exact ⟨n, Nat.le_refl _, h, fun j hj pj => hx ⟨j, hj, pj⟩⟩
/-- the work ahead that tells a work's value -/
def preF (W : List Wt) (F : Fd) (v : Nat) : Nat := match F[v]? with
  | some (_, .wait k) => (match W[k]? with | some w => w.1 | none => v)
  | _ => v
def cstF (W : List Wt) (F : Fd) (v : Nat) : Rat := match F[v]? with
  | some (_, .wait k) => (match W[k]? with | some w => w.2.2 | none => 0)
  | _ => 0
def valF (F : Fd) (v : Nat) : Rat := match F[v]? with
  | some (x, _) => x
  | none => 0
def isW (F : Fd) (v : Nat) : Prop := ∃ x k, F[v]? = some (x, .wait k)
def itrF (W : List Wt) (F : Fd) : Nat → Nat → Nat
  | 0, v => v
  | i + 1, v => preF W F (itrF W F i v)
def sumA (W : List Wt) (F : Fd) (v : Nat) : Nat → Rat
  | 0 => 0
  | i + 1 => sumA W F v i + cstF W F (itrF W F i v)
theorem itr_add {W : List Wt} {F : Fd} {v : Nat} (i : Nat) : ∀ j, itrF W F (j + i) v = itrF W F j (itrF W F i v)
  | 0 => by rw [Nat.zero_add]; rfl
  | j + 1 => by
    rw [show j + 1 + i = (j + i) + 1 by omega]
    show preF W F (itrF W F (j + i) v) = preF W F (itrF W F j (itrF W F i v))
    rw [itr_add i j]
theorem BInv.at {W : List Wt} {F0 F : Fd} {r m now : Nat} {ρ τ : Nat → Nat} (h : BInv W F0 r m F ρ τ now) (hW : WOk W F0.length) {v : Nat} (hv : isW F v) :
    valF F v ≤ valF F (preF W F v) + cstF W F v ∧ (τ v < τ (preF W F v) → valF F v < valF F (preF W F v) + cstF W F v) ∧ ρ v ≤ ρ (preF W F v) + 1 ∧ 0 < τ v ∧ preF W F v < F0.length ∧ preF W F v ≠ v := by
  obtain ⟨x, k, g⟩ := hv
  obtain ⟨u, c, y, b, e1, e2, e3, e4, e5, e6⟩ := h.arc v x k g
  have h1 : preF W F v = u := by unfold preF; rw [g]; dsimp only; rw [e1]
  have h2 : cstF W F v = c := by unfold cstF; rw [g]; dsimp only; rw [e1]
  have h3 : valF F v = x := by unfold valF; rw [g]
  have h4 : valF F u = y := by unfold valF; rw [e2]
  have hw := hW _ (List.mem_of_getElem? e1)
  rw [h1, h2, h3, h4]
  exact ⟨e3, e4, e5, e6, hw.1, hw.2.2⟩
/-- along the arcs -/
theorem BInv.along {W : List Wt} {F0 F : Fd} {r m now : Nat} {ρ τ : Nat → Nat} (h : BInv W F0 r m F ρ τ now) (hW : WOk W F0.length) {v : Nat} : ∀ L, (∀ i, i < L → isW F (itrF W F i v)) →
    valF F v ≤ valF F (itrF W F L v) + sumA W F v L ∧ ((∃ j, j < L ∧ τ (itrF W F j v) < τ (itrF W F (j + 1) v)) → valF F v < valF F (itrF W F L v) + sumA W F v L)
  | 0, _ => ⟨by show _ ≤ valF F v + 0; rw [Rat.add_zero]; exact Rat.le_refl, by rintro ⟨j, hj, _⟩; omega⟩
  | L + 1, hi => by
    obtain ⟨h1, h2⟩ := h.along hW L fun i hl => hi i (by omega)
    obtain ⟨g1, g2, _⟩ := h.at hW (hi L (by omega))
    have e1 : itrF W F (L + 1) v = preF W F (itrF W F L v) := rfl
    have e2 : sumA W F v (L + 1) = sumA W F v L + cstF W F (itrF W F L v) := rfl
    rw [e1, e2]
    refine ⟨by grind, ?_⟩
    rintro ⟨j, hj, ht⟩
    by_cases ej : j = L
    · subst ej
      have := g2 ht
      grind
    · have := h2 ⟨j, by omega, ht⟩
      grind
/-- a ring has a sum above nought -/
theorem BInv.ring {W : List Wt} {F0 F : Fd} {r m now : Nat} {ρ τ : Nat → Nat} (h : BInv W F0 r m F ρ τ now) (hW : WOk W F0.length) {v L : Nat} (hi : ∀ i, i < L → isW F (itrF W F i v)) (hL : 1 ≤ L) (hr : itrF W F L v = v) : 0 < sumA W F v L := by
  obtain ⟨_, h2⟩ := h.along hW L hi
  rw [hr] at h2
  have hx : ∃ j, j < L ∧ τ (itrF W F j v) < τ (itrF W F (j + 1) v) := by
    apply Classical.byContradiction
    intro hn
    have hle : ∀ j, j < L → τ (itrF W F (j + 1) v) ≤ τ (itrF W F j v) := fun j hj => Nat.not_lt.1 fun q => hn ⟨j, hj, q⟩
    have hdn : ∀ j, j + 1 ≤ L → τ (itrF W F L v) ≤ τ (itrF W F (L - j) v) := by
      intro j
      induction j with
      | zero => intro _; exact Nat.le_refl _
      | succ j ih =>
        intro hj
        have h1 := ih (by omega)
        have h3 := hle (L - (j + 1)) (by omega)
        rw [show L - (j + 1) + 1 = L - j by omega] at h3
        omega
    have h1 := hdn (L - 1) (by omega)
    rw [show L - (L - 1) = 1 by omega, hr] at h1
    have h3 := hle 0 (by omega)
    have h0 : itrF W F 0 v = v := rfl
    rw [h0] at h3
    have hw := hi 0 (by omega)
    rw [h0] at hw
    obtain ⟨_, _, _, g4, _, g6⟩ := h.at hW hw
    have e1 : itrF W F (0 + 1) v = preF W F v := rfl
    have e1' : itrF W F 1 v = preF W F v := rfl
    rw [e1] at h3
    rw [e1'] at h1
    rcases h.inj (preF W F v) v (by omega) with q | q
    · exact g6 q
    · omega
  have := h2 hx
  grind
/-- once alike, ever again -/
theorem isW_ever {W : List Wt} {F : Fd} {v L : Nat} (hL : 1 ≤ L) (hr : itrF W F L v = v) (hi : ∀ i, i < L → isW F (itrF W F i v)) : ∀ i, isW F (itrF W F i v) := by
  intro i
  induction i using Nat.strongRecOn with
  | _ i ih =>
    by_cases h : i < L
    · exact hi i h
    · have e : itrF W F i v = itrF W F (i - L) v := by
        have := itr_add (W := W) (F := F) (v := v) L (i - L)
        rw [show i - L + L = i by omega, hr] at this
        exact this
      rw [e]
      exact ih (i - L) (by omega)
/-- the ring behind a work that was pushed in the last round -/
theorem BInv.found {W : List Wt} {F0 F : Fd} {m now : Nat} {ρ τ : Nat → Nat} (h : BInv W F0 F0.length m F ρ τ now) (hW : WOk W F0.length) {v : Nat} (hv : v < F0.length) (hρ : ρ v = F0.length) :
    (∀ i, isW F (itrF W F i v)) ∧ ∃ L, 1 ≤ L ∧ L ≤ F0.length ∧ itrF W F L (itrF W F F0.length v) = itrF W F F0.length v ∧ 0 < sumA W F (itrF W F F0.length v) L ∧ ∀ j, 1 ≤ j → j < L → itrF W F j (itrF W F F0.length v) ≠ itrF W F F0.length v := by
  have key : ∀ i, i ≤ F0.length → itrF W F i v < F0.length ∧ F0.length - i ≤ ρ (itrF W F i v) := by
    intro i
    induction i with
    | zero => intro _; exact ⟨hv, by show F0.length - 0 ≤ ρ v; omega⟩
    | succ i ih =>
      intro hi
      obtain ⟨h1, h2⟩ := ih (by omega)
      have hw : isW F (itrF W F i v) := by
        obtain ⟨⟨x, a⟩, g⟩ := get_some (xs := F) (i := itrF W F i v) (by rw [h.len]; exact h1)
        cases a with
        | wait k => exact ⟨x, k, g⟩
        | start w => have := (h.root _ _ _ g (fun k => by intro e; cases e)).2; omega
        | fin w => have := (h.root _ _ _ g (fun k => by intro e; cases e)).2; omega
        | hold w => have := (h.root _ _ _ g (fun k => by intro e; cases e)).2; omega
      obtain ⟨_, _, g3, _, g5, _⟩ := h.at hW hw
      exact ⟨g5, by show F0.length - (i + 1) ≤ ρ (preF W F (itrF W F i v)); omega⟩
  have hwi : ∀ i, i < F0.length → isW F (itrF W F i v) := by
    intro i hi
    obtain ⟨h1, h2⟩ := key i (by omega)
    obtain ⟨⟨x, a⟩, g⟩ := get_some (xs := F) (i := itrF W F i v) (by rw [h.len]; exact h1)
    cases a with
    | wait k => exact ⟨x, k, g⟩
    | start w => have := (h.root _ _ _ g (fun k => by intro e; cases e)).2; omega
    | fin w => have := (h.root _ _ _ g (fun k => by intro e; cases e)).2; omega
    | hold w => have := (h.root _ _ _ g (fun k => by intro e; cases e)).2; omega
  obtain ⟨i, j, hij, hj, e⟩ := pigeon F0.length (fun i => itrF W F i v) fun i hi => (key i hi).1
  have e : itrF W F i v = itrF W F j v := e
  have hcyc : itrF W F (j - i) (itrF W F i v) = itrF W F i v := by
    rw [← itr_add, show j - i + i = j by omega, e]
  have hcw : ∀ t, t < j - i → isW F (itrF W F t (itrF W F i v)) := by
    intro t ht
    rw [← itr_add]
    exact hwi _ (by omega)
  have hall := isW_ever (by omega) hcyc hcw
  have hallv : ∀ t, isW F (itrF W F t v) := by
    intro t
    by_cases ht : t < F0.length
    · exact hwi t ht
    · rw [show t = (t - i) + i by omega, itr_add]
      exact hall _
  refine ⟨hallv, ?_⟩
  have hper : itrF W F (j - i) (itrF W F F0.length v) = itrF W F F0.length v := by
    rw [← itr_add, show j - i + F0.length = (F0.length - i) + j by omega, itr_add, ← e, ← itr_add, show F0.length - i + i = F0.length by omega]
  obtain ⟨L, hL1, ⟨hL2, hL3⟩, hL4⟩ := least (P := fun L => 1 ≤ L ∧ itrF W F L (itrF W F F0.length v) = itrF W F F0.length v) (j - i) ⟨by omega, hper⟩
  refine ⟨L, hL2, by omega, hL3, h.ring hW (fun t _ => by rw [← itr_add]; exact hallv _) hL2 hL3, fun j' h1 h2 q => hL4 j' h2 ⟨h1, q⟩⟩
/-- all waits are kept -/
def Kept (W : List Wt) (F : Fd) : Prop := ∀ (w : Wt) (a b : Rat × Arc), w ∈ W → F[w.1]? = some a → F[w.2.1]? = some b → a.1 + w.2.2 ≤ b.1
theorem BInv.tight {W : List Wt} {F0 F : Fd} {r m now : Nat} {ρ τ : Nat → Nat} (h : BInv W F0 r m F ρ τ now) (hW : WOk W F0.length) (hk : Kept W F) {v : Nat} (hv : isW F v) : valF F v = valF F (preF W F v) + cstF W F v := by
  obtain ⟨x, k, g⟩ := hv
  obtain ⟨u, c, y, b, e1, e2, e3, e4, e5, e6⟩ := h.arc v x k g
  have h1 : preF W F v = u := by unfold preF; rw [g]; dsimp only; rw [e1]
  have h2 : cstF W F v = c := by unfold cstF; rw [g]; dsimp only; rw [e1]
  have h3 : valF F v = x := by unfold valF; rw [g]
  have h4 : valF F u = y := by unfold valF; rw [e2]
  rw [h1, h2, h3, h4]
  have := hk _ _ _ (List.mem_of_getElem? e1) e2 g
  try dsimp only at this
  grind
/-- the way back to what tells a work's value -/
theorem BInv.way {W : List Wt} {F0 F : Fd} {r m now : Nat} {ρ τ : Nat → Nat} (h : BInv W F0 r m F ρ τ now) (hW : WOk W F0.length) (hk : Kept W F) {v : Nat} (hv : v < F0.length) :
    ∃ M, M ≤ F0.length ∧ (∀ i, i < M → isW F (itrF W F i v)) ∧ ¬isW F (itrF W F M v) ∧ itrF W F M v < F0.length ∧ valF F v = valF F (itrF W F M v) + sumA W F v M ∧ ∀ i j, i < j → j ≤ M → itrF W F i v ≠ itrF W F j v := by
  have hs : ∀ L, (∀ i, i < L → isW F (itrF W F i v)) → valF F v = valF F (itrF W F L v) + sumA W F v L ∧ itrF W F L v < F0.length := by
    intro L
    induction L with
    | zero => intro _; exact ⟨by show _ = valF F v + 0; rw [Rat.add_zero], hv⟩
    | succ L ih =>
      intro hi
      obtain ⟨h1, h2⟩ := ih fun i hl => hi i (by omega)
      have g := h.tight hW hk (hi L (by omega))
      obtain ⟨_, _, _, _, g5, _⟩ := h.at hW (hi L (by omega))
      have e1 : itrF W F (L + 1) v = preF W F (itrF W F L v) := rfl
      have e2 : sumA W F v (L + 1) = sumA W F v L + cstF W F (itrF W F L v) := rfl
      rw [e1, e2]
      exact ⟨by grind, g5⟩
  have hex : ∃ M, M ≤ F0.length ∧ ¬isW F (itrF W F M v) := by
    apply Classical.byContradiction
    intro hn
    have hwi : ∀ i, i ≤ F0.length → isW F (itrF W F i v) := fun i hi => Classical.byContradiction fun q => hn ⟨i, hi, q⟩
    obtain ⟨i, j, hij, hj, e⟩ := pigeon F0.length (fun i => itrF W F i v) fun i hi => (hs i fun t ht => hwi t (by omega)).2
    have e : itrF W F i v = itrF W F j v := e
    have hcyc : itrF W F (j - i) (itrF W F i v) = itrF W F i v := by
      rw [← itr_add, show j - i + i = j by omega, e]
    have hcw : ∀ t, t < j - i → isW F (itrF W F t (itrF W F i v)) := by
      intro t ht
      rw [← itr_add]
      exact hwi _ (by omega)
    have hp := h.ring hW hcw (by omega) hcyc
    have hz : ∀ L, (∀ t, t < L → isW F (itrF W F t (itrF W F i v))) → valF F (itrF W F i v) = valF F (itrF W F L (itrF W F i v)) + sumA W F (itrF W F i v) L := by
      intro L
      induction L with
      | zero => intro _; show _ = valF F _ + 0; rw [Rat.add_zero]; rfl
      | succ L ih =>
        intro hi
        have h1 := ih fun i hl => hi i (by omega)
        have g := h.tight hW hk (hi L (by omega))
        have e1 : itrF W F (L + 1) (itrF W F i v) = preF W F (itrF W F L (itrF W F i v)) := rfl
        have e2 : sumA W F (itrF W F i v) (L + 1) = sumA W F (itrF W F i v) L + cstF W F (itrF W F L (itrF W F i v)) := rfl
        rw [e1, e2]
        grind
    have := hz _ hcw
    rw [hcyc] at this
    grind
  obtain ⟨M0, hM0, hM1⟩ := hex
  obtain ⟨M, h1, h2, h3⟩ := least (P := fun M => ¬isW F (itrF W F M v)) M0 hM1
  have hwi : ∀ i, i < M → isW F (itrF W F i v) := fun i hi => Classical.byContradiction fun q => h3 i hi q
  refine ⟨M, by omega, hwi, h2, (hs M hwi).2, (hs M hwi).1, fun i j hij hj e => ?_⟩
  apply h2
  have : itrF W F M v = itrF W F (M - j + i) v := by
    rw [show M = (M - j) + j by omega, itr_add, ← e, ← itr_add]
    congr 1
    omega
  rw [this]
  exact hwi _ (by omega)
end HP
namespace HP
open PySem L2
def arcD : Arc → D
  | .start w => .tup [.str "start", .int (w : Nat)]
  | .fin w => .tup [.str "end", .int (w : Nat)]
  | .hold k => .tup [.str "hold", .int (k : Nat)]
  | .wait k => .tup [.str "wait", .int (k : Nat)]
abbrev Hd3 := Str × Nat × Rat
def waN (w : Wt) : D := .tup [.int (w.1 : Nat), .int (w.2.1 : Nat), q w.2.2]
def hoN (h : Hd3) : D := .tup [.str h.1, .int (h.2.1 : Nat), q h.2.2]
def tmF (ts : List Rat) (v : Nat) : Rat := (ts[v]?).getD 0
/-- a net's numbers -/
structure NSz (ts : List Rat) (wl : List Wt) (hl : List Hd3) (DD : Nat) : Prop where
  dd0 : DD ≠ 0
  ddb : DD ≤ 2 ^ 3000
  t : ∀ t ∈ ts, t.den ∣ DD ∧ V 95 t
  w : ∀ w ∈ wl, w.2.2.den ∣ DD ∧ V 95 w.2.2
  h : ∀ h ∈ hl, h.2.2.den ∣ DD ∧ V 95 h.2.2
  wok : WOk wl ts.length
  hok : ∀ h ∈ hl, h.2.1 < ts.length ∧ (h.1 = ("from" : Str) ∨ h.1 = ("till" : Str) ∨ h.1 = ("by" : Str))
  pos : 0 < ts.length
  len : ts.length ≤ 10
  wl40 : wl.length ≤ 40
  hl40 : hl.length ≤ 40
def FSz (DD s : Nat) (F : Fd) : Prop := ∀ x ∈ F, x.1.den ∣ DD ∧ V (100 + 2 * s) x.1
def soonS (F : Fd) (k : Nat) (h : Hd3) : Fd := if h.1 = ("from" : Str) then (match F[h.2.1]? with | some a => if a.1 < h.2.2 then F.set h.2.1 (h.2.2, .hold k) else F | none => F) else F
def soonL (hl : List Hd3) (n : Nat) : Nat → Fd
  | 0 => (List.range n).map fun w => (0, Arc.start w)
  | m + 1 => match hl[m]? with
    | some h => soonS (soonL hl n m) m h
    | none => soonL hl n m
section
variable {L : List Fn} {k : Nat} {S : Sto} {ts : List Rat} {wl : List Wt} {hl : List Hd3} {DD : Nat}
def arcsW (ts : List Rat) (wl : List Wt) : List Wt := wl.map fun w => (w.1, w.2.1, tmF ts w.1 + w.2.2)
theorem FSz.mono {s s' : Nat} {F : Fd} (h : FSz DD s F) (e : s ≤ s') : FSz DD s' F := fun x m => ⟨(h x m).1, (h x m).2.mono (by omega)⟩
end
end HP
namespace HP
open PySem L2
def adjF (ts : List Rat) (h : Hd3) : Rat := if h.1 = ("by" : Str) then h.2.2 - tmF ts h.2.1 else h.2.2
abbrev Ld := List (Option (Rat × Arc))
def letS (ts : List Rat) (F : Ld) (k : Nat) (h : Hd3) : Ld :=
  if h.1 = ("from" : Str) then F else (match F[h.2.1]? with
    | some none => F.set h.2.1 (some (adjF ts h, .hold k))
    | some (some a) => if adjF ts h < a.1 then F.set h.2.1 (some (adjF ts h, .hold k)) else F
    | none => F)
def letIni (ts : List Rat) : Option Rat → Ld
  | none => (List.range ts.length).map fun _ => none
  | some w => (List.range ts.length).map fun i => some (w - tmF ts i, .fin i)
def letL (ts : List Rat) (w : Option Rat) (hl : List Hd3) : Nat → Ld
  | 0 => letIni ts w
  | m + 1 => match hl[m]? with
    | some h => letS ts (letL ts w hl m) m h
    | none => letL ts w hl m
/-- what is told of the latest starts -/
structure LetOk (ts : List Rat) (w : Option Rat) (hl : List Hd3) (m v : Nat) (o : Option (Rat × Arc)) : Prop where
  non : o = none → w = none ∧ ∀ (k : Nat) (h : Hd3), k < m → hl[k]? = some h → h.2.1 = v → h.1 = ("from" : Str)
  told : ∀ x a, o = some (x, a) → ((∃ u, w = some u ∧ a = .fin v ∧ x = u - tmF ts v) ∨ ∃ k h, a = .hold k ∧ hl[k]? = some h ∧ h.2.1 = v ∧ h.1 ≠ ("from" : Str) ∧ x = adjF ts h) ∧ (∀ (k : Nat) (h : Hd3), k < m → hl[k]? = some h → h.2.1 = v → h.1 ≠ ("from" : Str) → x ≤ adjF ts h) ∧ ∀ u, w = some u → x ≤ u - tmF ts v
section
variable {L : List Fn} {k : Nat} {S : Sto} {ts : List Rat} {wl : List Wt} {hl : List Hd3} {DD : Nat}
end
end HP
namespace HP
open PySem L2
def arcF (F : Fd) (v : Nat) : Arc := match F[v]? with
  | some x => x.2
  | none => .start 0
def wayL (W : List Wt) (F : Fd) (v M : Nat) : List Arc := (List.range M).map fun i => arcF F (itrF W F i v)
theorem BInv.in {W : List Wt} {F0 F : Fd} {r m now : Nat} {ρ τ : Nat → Nat} (h : BInv W F0 r m F ρ τ now) (hW : WOk W F0.length) {v : Nat} (hv : v < F0.length) : ∀ M, (∀ i, i < M → isW F (itrF W F i v)) → itrF W F M v < F0.length
  | 0, _ => hv
  | M + 1, hi => (h.at hW (hi M (Nat.lt_succ_self _))).2.2.2.2.1
/-- the list of found values -/
structure FAt (ds : List D) (F : Fd) : Prop where
  len : ds.length = F.length
  at_ : ∀ (v : Nat) (x : Rat) (a : Arc), F[v]? = some (x, a) → ∃ y, noExc y = true ∧ ds[v]? = some (.tup [y, arcD a])
section
variable {L : List Fn} {k : Nat} {S : Sto}
end
end HP
namespace HP
open PySem L2
inductive ERes where
  | ring (as : List Arc)
  | starts (xs : List Rat)
def earF (ts : List Rat) (wl : List Wt) (hl : List Hd3) : Fd × Option Nat := roundsF (arcsW ts wl) (soonL hl ts.length hl.length) ts.length
inductive EIs (ts : List Rat) (wl : List Wt) (hl : List Hd3) : ERes → Prop where
  | ring {v R : Nat} (h : (earF ts wl hl).2 = some v) (hR : 1 ≤ R) (hc : itrF (arcsW ts wl) (earF ts wl hl).1 R (itrF (arcsW ts wl) (earF ts wl hl).1 ts.length v) = itrF (arcsW ts wl) (earF ts wl hl).1 ts.length v)
      (hm : ∀ j, 1 ≤ j → j < R → itrF (arcsW ts wl) (earF ts wl hl).1 j (itrF (arcsW ts wl) (earF ts wl hl).1 ts.length v) ≠ itrF (arcsW ts wl) (earF ts wl hl).1 ts.length v) :
      EIs ts wl hl (.ring (wayL (arcsW ts wl) (earF ts wl hl).1 (itrF (arcsW ts wl) (earF ts wl hl).1 ts.length v) R))
  | way {v M : Nat} {x : Rat} {a : Arc} (h : (earF ts wl hl).2 = none) (hv : (letL ts none hl hl.length)[v]? = some (some (x, a))) (hlt : x < valF (earF ts wl hl).1 v)
      (hf : ∀ (u : Nat) (y : Rat) (b : Arc), u < v → (letL ts none hl hl.length)[u]? = some (some (y, b)) → ¬y < valF (earF ts wl hl).1 u)
      (hi : ∀ i, i < M → isW (earF ts wl hl).1 (itrF (arcsW ts wl) (earF ts wl hl).1 i v)) (hn : ¬isW (earF ts wl hl).1 (itrF (arcsW ts wl) (earF ts wl hl).1 M v)) :
      EIs ts wl hl (.ring (wayL (arcsW ts wl) (earF ts wl hl).1 v (M + 1) ++ [a]))
  | starts (h : (earF ts wl hl).2 = none) (hk : ∀ (u : Nat) (y : Rat) (b : Arc), (letL ts none hl hl.length)[u]? = some (some (y, b)) → ¬y < valF (earF ts wl hl).1 u) : EIs ts wl hl (.starts ((earF ts wl hl).1.map (·.1)))
def cwI (w : Wt) : Int × Int × Rat := ((w.1 : Nat), (w.2.1 : Nat), w.2.2)
def chI (h : Hd3) : Str × Int × Rat := (h.1, (h.2.1 : Nat), h.2.2)
section
variable {L : List Fn} {k : Nat} {S : Sto} {ts : List Rat} {wl : List Wt} {hl : List Hd3} {DD : Nat}
end
end HP
namespace HP
open PySem L2
def ind (u x : Nat) : Int := if x = u then 1 else 0
def incF (wl : List Wt) (hl : List Hd3) (u : Nat) : Arc → Int
  | .start w => ind u w
  | .fin _ => 0
  | .wait k => match wl[k]? with
    | some w => ind u w.2.1
    | none => 0
  | .hold k => match hl[k]? with
    | some h => if h.1 = ("by" : Str) then 0 else if h.1 = ("from" : Str) then ind u h.2.1 else -ind u h.2.1
    | none => 0
def ofcF (wl : List Wt) (hl : List Hd3) (u : Nat) : Arc → Int
  | .start _ => 0
  | .fin w => ind u w
  | .wait k => match wl[k]? with
    | some w => ind u w.1
    | none => 0
  | .hold k => match hl[k]? with
    | some h => if h.1 = ("by" : Str) then ind u h.2.1 else 0
    | none => 0
def inW (wl : List Wt) (hl : List Hd3) (P : List Arc) (u : Nat) : Int := (P.map (incF wl hl u)).sum
def ofW (wl : List Wt) (hl : List Hd3) (P : List Arc) (u : Nat) : Int := (P.map (ofcF wl hl u)).sum
def ArcOk (n : Nat) (wl : List Wt) (hl : List Hd3) : Arc → Prop
  | .start w => w < n
  | .fin w => w < n
  | .wait k => k < wl.length
  | .hold k => k < hl.length
theorem isum_app (xs ys : List Int) : (xs ++ ys).sum = xs.sum + ys.sum := by
  induction xs with
  | nil => simp
  | cons x xs ih => rw [List.cons_append, List.sum_cons, List.sum_cons, ih]; omega
/-- what a paper must be -/
structure PapOk (n : Nat) (wl : List Wt) (hl : List Hd3) (P : List Arc) : Prop where
  ok : ∀ a ∈ P, ArcOk n wl hl a
  nd : P.Pairwise (· ≠ ·)
  bal : ∀ u, inW wl hl P u = ofW wl hl P u
section
variable {ts : List Rat} {wl : List Wt} {hl : List Hd3} {F0 F : Fd} {r m now : Nat} {ρ τ : Nat → Nat}
end
/-- starts that keep all -/
structure Keeps (ts : List Rat) (wl : List Wt) (hl : List Hd3) (xs : List Rat) : Prop where
  len : xs.length = ts.length
  nn : ∀ x ∈ xs, 0 ≤ x
  w : ∀ w ∈ wl, tmF xs w.1 + tmF ts w.1 + w.2.2 ≤ tmF xs w.2.1
  fr : ∀ h ∈ hl, h.1 = ("from" : Str) → h.2.2 ≤ tmF xs h.2.1
  ti : ∀ h ∈ hl, h.1 = ("till" : Str) → tmF xs h.2.1 ≤ h.2.2
  by_ : ∀ h ∈ hl, h.1 = ("by" : Str) → tmF xs h.2.1 + tmF ts h.2.1 ≤ h.2.2
end HP
namespace HP
open PySem L2
def ChF (xs ts : List Rat) (wl : List Wt) (hl : List Hd3) : Nat → Nat → Prop
  | 0, v => tmF xs v = 0 ∨ ∃ h ∈ hl, h.1 = ("from" : Str) ∧ h.2.1 = v ∧ tmF xs v = h.2.2
  | i + 1, v => ChF xs ts wl hl i v ∨ ∃ w ∈ wl, w.2.1 = v ∧ ChF xs ts wl hl i w.1 ∧ tmF xs v = tmF xs w.1 + tmF ts w.1 + w.2.2
theorem ChF.mono {xs ts : List Rat} {wl : List Wt} {hl : List Hd3} {i v : Nat} (h : ChF xs ts wl hl i v) : ∀ {j}, i ≤ j → ChF xs ts wl hl j v := by
  intro j hj
  obtain ⟨d, rfl⟩ : ∃ d, j = i + d := ⟨j - i, by omega⟩
  clear hj
  induction d with
  | zero => exact h
  | succ d ih => exact Or.inl ih
end HP
namespace HP
open PySem L2
def arcsR (ts : List Rat) (wl : List Wt) : List Wt := wl.map fun w => (w.2.1, w.1, tmF ts w.1 + w.2.2)
def letN (ts : List Rat) (w : Rat) (hl : List Hd3) : Fd := (letL ts (some w) hl hl.length).map fun o => match o with
  | some x => (-x.1, x.2)
  | none => (0, .start 0)
section
variable {L : List Fn} {k : Nat} {S : Sto} {ts : List Rat} {wl : List Wt} {hl : List Hd3} {DD : Nat}
theorem V.neg {x : Rat} {a : Nat} (h : V a x) : V a (-x) := (sz_den x h).neg.v
end
def latF (ts : List Rat) (wl : List Wt) (hl : List Hd3) (w : Rat) : Fd × Option Nat := roundsF (arcsR ts wl) (letN ts w hl) ts.length
inductive LIs (ts : List Rat) (wl : List Wt) (hl : List Hd3) (w : Rat) : ERes → Prop where
  | ring {v R : Nat} (h : (latF ts wl hl w).2 = some v) (hR : 1 ≤ R) (hc : itrF (arcsR ts wl) (latF ts wl hl w).1 R (itrF (arcsR ts wl) (latF ts wl hl w).1 ts.length v) = itrF (arcsR ts wl) (latF ts wl hl w).1 ts.length v)
      (hm : ∀ j, 1 ≤ j → j < R → itrF (arcsR ts wl) (latF ts wl hl w).1 j (itrF (arcsR ts wl) (latF ts wl hl w).1 ts.length v) ≠ itrF (arcsR ts wl) (latF ts wl hl w).1 ts.length v) :
      LIs ts wl hl w (.ring (wayL (arcsR ts wl) (latF ts wl hl w).1 (itrF (arcsR ts wl) (latF ts wl hl w).1 ts.length v) R))
  | way {v M : Nat} {x : Rat} {a : Arc} (h : (latF ts wl hl w).2 = none) (hv : (soonL hl ts.length hl.length)[v]? = some (x, a)) (hlt : -valF (latF ts wl hl w).1 v < x)
      (hf : ∀ (u : Nat) (y : Rat) (b : Arc), u < v → (soonL hl ts.length hl.length)[u]? = some (y, b) → ¬-valF (latF ts wl hl w).1 u < y)
      (hi : ∀ i, i < M → isW (latF ts wl hl w).1 (itrF (arcsR ts wl) (latF ts wl hl w).1 i v)) (hn : ¬isW (latF ts wl hl w).1 (itrF (arcsR ts wl) (latF ts wl hl w).1 M v)) :
      LIs ts wl hl w (.ring (a :: wayL (arcsR ts wl) (latF ts wl hl w).1 v (M + 1)))
  | starts (h : (latF ts wl hl w).2 = none) (hk : ∀ (u : Nat) (y : Rat) (b : Arc), (soonL hl ts.length hl.length)[u]? = some (y, b) → ¬-valF (latF ts wl hl w).1 u < y) : LIs ts wl hl w (.starts ((latF ts wl hl w).1.map fun x => -x.1))
section
variable {L : List Fn} {k : Nat} {S : Sto} {ts : List Rat} {wl : List Wt} {hl : List Hd3} {DD : Nat}
end
end HP
namespace HP
open PySem L2
section
variable {ts : List Rat} {wl : List Wt} {hl : List Hd3} {F0 F : Fd} {r m now : Nat} {ρ τ : Nat → Nat}
end
def ChL (xs ts : List Rat) (wl : List Wt) (hl : List Hd3) (w : Rat) : Nat → Nat → Prop
  | 0, v => tmF xs v + tmF ts v = w ∨ ∃ h ∈ hl, h.2.1 = v ∧ ((h.1 = ("till" : Str) ∧ tmF xs v = h.2.2) ∨ (h.1 = ("by" : Str) ∧ tmF xs v + tmF ts v = h.2.2))
  | i + 1, v => ChL xs ts wl hl w i v ∨ ∃ y ∈ wl, y.1 = v ∧ ChL xs ts wl hl w i y.2.1 ∧ tmF xs y.2.1 = tmF xs v + tmF ts v + y.2.2
theorem ChL.mono {xs ts : List Rat} {wl : List Wt} {hl : List Hd3} {w : Rat} {i v : Nat} (h : ChL xs ts wl hl w i v) : ∀ {j}, i ≤ j → ChL xs ts wl hl w j v := by
  intro j hj
  obtain ⟨d, rfl⟩ : ∃ d, j = i + d := ⟨j - i, by omega⟩
  clear hj
  induction d with
  | zero => exact h
  | succ d ih => exact Or.inl ih
end HP
namespace HP
open PySem L2
def B_begun : Fn := ⟨2, 3,
 (.cons (.set 2 (.int 0))
 (.cons (.ite (.cmp .ne (.var 0) (.lst .nil)) (.cons (.set 2 (.ix (.var 0) (.bin .mod (.var 1) (.bcall .len (.cons (.var 0) .nil)))))
 .nil) .nil)
 (.cons (.ret (.lst (.cons (.var 2) (.cons (.bin .mod (.bin .add (.bin .add (.bin .mod (.var 2) (.int 2147483587)) (.bin .mul (.bin .mul (.int 104729) (.var 1)) (.var 1))) (.int 7)) (.int 2147483587)) (.cons (.cmp .ge (.var 2) (.bin .pow (.int 10) (.int 18))) .nil)))))
 .nil)))⟩
def B_shape : Fn := ⟨2, 14,
 (.cons (.set 2 (.call 1000 (.cons (.var 0) (.cons (.int 1) .nil))))
 (.cons (.set 3 (.ix (.lst (.cons (.int 1) (.cons (.int 2) (.cons (.int 3) (.cons (.int 4) (.cons (.int 5) (.cons (.int 5) (.cons (.int 7) (.cons (.int 10) .nil))))))))) (.call 1001 (.cons (.var 2) (.cons (.int 8) .nil)))))
 (.cons (.set 4 (.bin .add (.int 1) (.call 1001 (.cons (.var 2) (.cons (.int 8) .nil)))))
 (.cons (.set 5 (.call 1001 (.cons (.var 2) (.cons (.int 8) .nil))))
 (.cons (.set 6 (.bin .mul (.int 40) (.bcall .int (.cons (.cmp .eq (.call 1001 (.cons (.var 2) (.cons (.int 8) .nil))) (.int 5)) .nil))))
 (.cons (.set 7 (.lst .nil))
 (.cons (.for_ (.name 8) (.rng1 (.var 3)) (.cons (.set 9 (.call 1000 (.cons (.var 0) (.cons (.bin .add (.int 2) (.var 8)) .nil))))
 (.cons (.set 10 (.ix (.var 1) (.call 1001 (.cons (.var 9) (.cons (.bcall .len (.cons (.var 1) .nil)) .nil)))))
 (.cons (.expr (.meth .append (.var 7) (.cons (.tup (.cons (.bin .mul (.ix (.str "hcjafdibge") (.var 8)) (.var 4)) (.cons (.call 1008 (.cons (.var 9) (.cons (.var 10) (.cons (.int 5) (.cons (.bl false) .nil))))) .nil))) .nil)))
 .nil))))
 (.cons (.set 11 (.lst .nil))
 (.cons (.set 12 (.lst .nil))
 (.cons (.for_ (.name 8) (.rng2 (.int 7) (.bin .add (.bcall .max (.cons (.bin .add (.int 7) (.var 5)) (.cons (.bcall .min (.cons (.bcall .len (.cons (.var 0) .nil)) (.cons (.int 40) .nil))) .nil))) (.bin .mul (.int 2) (.var 6)))) (.cons (.set 9 (.call 1000 (.cons (.var 0) (.cons (.var 8) .nil))))
 (.cons (.set 13 (.call 1001 (.cons (.var 9) (.cons (.var 3) .nil))))
 (.cons (.ite (.band (.cons (.cmp .gt (.var 3) (.int 1)) (.cons (.cmp .lt (.call 1001 (.cons (.var 9) (.cons (.int 3) .nil))) (.int 2)) (.cons (.cmp .lt (.bcall .len (.cons (.var 11) .nil)) (.int 40)) .nil)))) (.cons (.expr (.meth .append (.var 11) (.cons (.tup (.cons (.var 13) (.cons (.bin .mod (.bin .add (.bin .add (.var 13) (.int 1)) (.call 1001 (.cons (.var 9) (.cons (.bin .sub (.var 3) (.int 1)) .nil)))) (.var 3)) .nil))) .nil)))
 .nil) (.cons (.ite (.cmp .lt (.bcall .len (.cons (.var 12) .nil)) (.int 40)) (.cons (.expr (.meth .append (.var 12) (.cons (.tup (.cons (.ix (.lst (.cons (.str "from") (.cons (.str "till") (.cons (.str "by") .nil)))) (.call 1001 (.cons (.var 9) (.cons (.int 3) .nil)))) (.cons (.var 13) .nil))) .nil)))
 .nil) .nil)
 .nil))
 .nil))))
 (.cons (.ret (.tup (.cons (.var 7) (.cons (.var 11) (.cons (.var 12) .nil)))))
 .nil)))))))))))⟩
/-- the first nine defs of the family -/
structure FB0 (G : Tab) : Prop where
  beg : G 1000 = some B_begun
  tak : G 1001 = some (K_take 39373 17 2147483587)
  low : G 1002 = some K_low
  plus : G 1003 = some (K_plus 1002)
  minus : G 1004 = some (K_minus 1002)
  times : G 1005 = some (K_times 1002)
  under : G 1006 = some K_under
  amount : G 1007 = some (K_amount 1001 1002)
  offer : G 1008 = some (K_offer 1001 1003 1004 1005 1007)
theorem FB0.take {G : Tab} (F : FB0 G) : Takes G 1001 := takes_A F.tak
abbrev WL (T : Sto) (n0 : Nat) (ws : List Wk) : Prop := ∀ w ∈ ws, WkOk w ∧ PyData.strOk w.nm = true ∧ n0 ≤ w.lc ∧ T[w.lc]? = some (.lst (w.cs.map pr))
/-- the works' kinds -/
structure Kinds (kinds : List Str) : Prop where
  one : 0 < kinds.length
  ten : kinds.length ≤ 10
  kd : ∀ x ∈ kinds, x = ("straight" : Str) ∨ x = ("steps" : Str)
section
variable {G : Tab} {k : Nat} {S : Sto}
end 
end HP
namespace HP
open PySem L2
/-- a told list made of another one -/
theorem comp_ok {A : Type} {c : Call} {x : E} {tg : Tg} {cd : Eo} {own : List Nat} {r : Ev} {S : Sto} {xs : List A} {enc : A → D} {f : A → Bool} {g : A → D} {ck : Ck} {Q : D → Sto → Prop} (hlen : xs.length < 1000000)
    (hck : ∀ T, Ag (fun _ => False) S T → Still ck T)
    (hs : ∀ (i : Nat) (a : A), xs[i]? = some a → ∀ T, Ag (fun _ => False) S T → ∃ r1, asgT tg (enc a) (wipeD r own) = some r1 ∧ Wp (evC c cd r1 T) fun b T1 => b = f a ∧ Ag (fun _ => False) T T1 ∧ (f a = true → Wp (evE c x r1 T1) fun d T2 => d = g a ∧ Ag (fun _ => False) T1 T2))
    (q : ∀ T, Ag (fun _ => False) S T → T[S.length]? = some (.lst ((xs.filter f).map g)) → Q (.loc S.length) T) :
    Wp (compE c x tg cd own r S.length (xs.map enc, ck) (S ++ [.lst []])) Q := by
  refine compE_inv (fun j T => Ag (fun _ => False) S T ∧ T[S.length]? = some (.lst (((xs.take j).filter f).map g))) ⟨Ag.app, app_get⟩ (fun j T _ hh => hck T hh.1) ?_ ?_
  · rintro j d T hd ⟨hag, hn⟩
    rw [List.getElem?_map, Option.map_eq_some_iff] at hd
    obtain ⟨a, ha, rfl⟩ := hd
    obtain ⟨r1, h1, h2⟩ := hs j a ha T hag
    refine ⟨r1, h1, wp_mono h2 ?_⟩
    rintro b T1 ⟨rfl, hag1, h3⟩
    have hn1 := hag1.get hn id
    have hB1 := hag.trans hag1
    refine ⟨fun e => ?_, fun e => ?_⟩
    · refine wp_mono (h3 e) ?_
      rintro d T2 ⟨rfl, hag2⟩
      have hn2 := hag2.get hn1 id
      refine ⟨_, hn2, ?_, (hB1.trans hag2).new (Ag.set (Or.inl (Or.inr (Nat.le_refl _)))), ?_⟩
      · rw [List.length_map]
        have := List.length_filter_le f (xs.take j)
        rw [List.length_take] at this
        show _ < 16777216
        omega
      · rw [set_get hn2, take_succ_get ha, List.filter_append, List.map_append, List.filter_cons_of_pos e]
        rfl
    · refine ⟨hB1, ?_⟩
      rw [take_succ_get ha, List.filter_append, List.map_append, List.filter_cons_of_neg (by rw [e]; exact Bool.false_ne_true)]
      simpa using hn1
  · rintro T ⟨hag, hn⟩
    rw [List.length_map, List.take_length] at hn
    exact q T hag hn
/-- .. of all of it -/
theorem comp_all {A : Type} {c : Call} {x : E} {tg : Tg} {own : List Nat} {r : Ev} {S : Sto} {xs : List A} {enc : A → D} {g : A → D} {ck : Ck} {Q : D → Sto → Prop} (hlen : xs.length < 1000000)
    (hck : ∀ T, Ag (fun _ => False) S T → Still ck T)
    (hs : ∀ (i : Nat) (a : A), xs[i]? = some a → ∀ T, Ag (fun _ => False) S T → ∃ r1, asgT tg (enc a) (wipeD r own) = some r1 ∧ Wp (evE c x r1 T) fun d T2 => d = g a ∧ Ag (fun _ => False) T T2)
    (q : ∀ T, Ag (fun _ => False) S T → T[S.length]? = some (.lst (xs.map g)) → Q (.loc S.length) T) :
    Wp (compE c x tg .none own r S.length (xs.map enc, ck) (S ++ [.lst []])) Q := by
  refine comp_ok (f := fun _ => true) (g := g) hlen hck (fun i a ha T hT => ?_) (fun T hT hn => q T hT ?_)
  · obtain ⟨r1, h1, h2⟩ := hs i a ha T hT
    exact ⟨r1, h1, wpc_none ⟨rfl, Ag.rfl, fun _ => h2⟩⟩
  · rw [hn, List.filter_eq_self.2 fun _ _ => rfl]
/-- numbers from nought on -/
def nD (k : Nat) : D := .int (k : Nat)
def w2N (w : Nat × Nat) : D := .tup [.int (w.1 : Nat), .int (w.2 : Nat)]
def h2N (h : Str × Nat) : D := .tup [.str h.1, .int (h.2 : Nat)]
abbrev HKind (s : Str) : Prop := s = ("from" : Str) ∨ s = ("till" : Str) ∨ s = ("by" : Str)
/-- a drawn shape in the store -/
structure ShpAt (S : Sto) (n0 : Nat) (d : D) (ws : List Wk) (wz : List (Nat × Nat)) (hz : List (Str × Nat)) : Prop where
  form : ∃ a b c, d = .tup [.loc a, .loc b, .loc c] ∧ n0 ≤ a ∧ n0 ≤ b ∧ n0 ≤ c ∧ S[a]? = some (.lst (ws.map wkD)) ∧ S[b]? = some (.lst (wz.map w2N)) ∧ S[c]? = some (.lst (hz.map h2N))
  wk : WL S n0 ws
structure ShpOk (n : Nat) (wz : List (Nat × Nat)) (hz : List (Str × Nat)) : Prop where
  one : 0 < n
  ten : n ≤ 10
  w40 : wz.length ≤ 40
  h40 : hz.length ≤ 40
  wok : ∀ w ∈ wz, w.1 < n ∧ w.2 < n ∧ w.1 ≠ w.2
  hok : ∀ h ∈ hz, HKind h.1 ∧ h.2 < n
theorem ShpAt.ag {P : Nat → Prop} {S S' : Sto} {n0 : Nat} {d : D} {ws : List Wk} {wz : List (Nat × Nat)} {hz : List (Str × Nat)} (h : ShpAt S n0 d ws wz hz) (k : Ag P S S') (hp : ∀ i, P i → i < n0) : ShpAt S' n0 d ws wz hz := by
  obtain ⟨⟨a, b, c, e, h1, h2, h3, g1, g2, g3⟩, h4⟩ := h
  have q : ∀ {i : Nat}, n0 ≤ i → ¬P i := fun hi h => by have := hp _ h; omega
  exact ⟨⟨a, b, c, e, h1, h2, h3, k.get g1 (q h1), k.get g2 (q h2), k.get g3 (q h3)⟩, fun w m => ⟨(h4 w m).1, (h4 w m).2.1, (h4 w m).2.2.1, k.get (h4 w m).2.2.2 (q (h4 w m).2.2.1)⟩⟩
end HP
namespace HP
open PySem L2
def incE (wz : List (Nat × Nat)) (hz : List (Str × Nat)) (u : Nat) : Arc → Int
  | .start w => ind u w
  | .fin _ => 0
  | .wait k => match wz[k]? with
    | some w => ind u w.2
    | none => 0
  | .hold k => match hz[k]? with
    | some h => if h.1 = ("by" : Str) then 0 else if h.1 = ("from" : Str) then ind u h.2 else -ind u h.2
    | none => 0
def ofcE (wz : List (Nat × Nat)) (hz : List (Str × Nat)) (u : Nat) : Arc → Int
  | .start _ => 0
  | .fin w => ind u w
  | .wait k => match wz[k]? with
    | some w => ind u w.1
    | none => 0
  | .hold k => match hz[k]? with
    | some h => if h.1 = ("by" : Str) then ind u h.2 else 0
    | none => 0
def ArcE (n : Nat) (wz : List (Nat × Nat)) (hz : List (Str × Nat)) : Arc → Prop
  | .start w => w < n
  | .fin w => w < n
  | .wait k => k < wz.length
  | .hold k => k < hz.length
structure WalkOk (n : Nat) (wz : List (Nat × Nat)) (hz : List (Str × Nat)) (as : List Arc) : Prop where
  ok : ∀ a ∈ as, ArcE n wz hz a
  nd : as.Pairwise (· ≠ ·)
  bal : ∀ u, (as.map (incE wz hz u)).sum = (as.map (ofcE wz hz u)).sum
  len : as.length ≤ 12
/-- a path along waits -/
def PathL (wz : List (Nat × Nat)) : Nat → List Nat → Nat → Prop
  | a, [], b => a = b
  | a, k :: ks, b => ∃ w, wz[k]? = some w ∧ w.1 = a ∧ PathL wz w.2 ks b
theorem PathL.snoc {wz : List (Nat × Nat)} {k : Nat} {w : Nat × Nat} (h : wz[k]? = some w) : ∀ {ks : List Nat} {a : Nat}, PathL wz a ks w.1 → PathL wz a (ks ++ [k]) w.2
  | [], a, p => ⟨w, h, (show a = w.1 from p).symm, rfl⟩
  | j :: ks, a, ⟨x, h1, h2, h3⟩ => ⟨x, h1, h2, PathL.snoc h h3⟩
theorem PathL.bal {wz : List (Nat × Nat)} {hz : List (Str × Nat)} {u : Nat} : ∀ {ks : List Nat} {a b : Nat}, PathL wz a ks b → ((ks.map Arc.wait).map (incE wz hz u)).sum - ((ks.map Arc.wait).map (ofcE wz hz u)).sum = ind u b - ind u a
  | [], a, b, h => by cases (h : a = b); show (0 : Int) - 0 = _; omega
  | k :: ks, a, b, ⟨w, h1, h2, h3⟩ => by
    have ih := PathL.bal (hz := hz) (u := u) h3
    rw [List.map_cons, List.map_cons, List.map_cons, List.sum_cons, List.sum_cons]
    have e1 : incE wz hz u (.wait k) = ind u w.2 := by unfold incE; dsimp only; rw [h1]
    have e2 : ofcE wz hz u (.wait k) = ind u w.1 := by unfold ofcE; dsimp only; rw [h1]
    rw [e1, e2, h2]
    omega
theorem PathL.lt {wz : List (Nat × Nat)} : ∀ {ks : List Nat} {a b : Nat}, PathL wz a ks b → ∀ k ∈ ks, k < wz.length
  | [], _, _, _ => fun k m => nomatch m
  | j :: ks, a, b, ⟨w, h1, h2, h3⟩ => fun k m => by
    rcases List.mem_cons.1 m with rfl | m
    · exact (List.getElem?_eq_some_iff.1 h1).1
    · exact PathL.lt h3 k m
/-- a walk so far: the works seen, the waits gone along -/
structure Trav (n : Nat) (wz : List (Nat × Nat)) (us ks : List Nat) (cur : Nat) : Prop where
  len : us.length = ks.length + 1
  nd : us.Nodup
  lt : ∀ u ∈ us, u < n
  at_ : us[ks.length]? = some cur
  path : ∀ (j x : Nat), us[j]? = some x → PathL wz x (ks.drop j) cur
  kn : ks.Pairwise (· ≠ ·)
  src : ∀ k ∈ ks, ∃ w, wz[k]? = some w ∧ w.1 ∈ us ∧ w.1 ≠ cur
theorem Trav.ten {n : Nat} {wz : List (Nat × Nat)} {us ks : List Nat} {cur : Nat} (h : Trav n wz us ks cur) : us.length ≤ n := by
  by_cases c : us.length ≤ n
  · exact c
  · exfalso
    obtain ⟨i, j, h1, h2, h3⟩ := pigeon n (fun i => us[i]?.getD 0) (fun i hi => by
      obtain ⟨x, hx⟩ := get_some (xs := us) (i := i) (by omega)
      show us[i]?.getD 0 < n
      rw [hx]
      exact h.lt x (List.mem_of_getElem? hx))
    obtain ⟨x, hx⟩ := get_some (xs := us) (i := i) (by omega)
    obtain ⟨y, hy⟩ := get_some (xs := us) (i := j) (by omega)
    have h3 : us[i]?.getD 0 = us[j]?.getD 0 := h3
    rw [hx, hy] at h3
    have h3 : x = y := h3
    subst h3
    have q := List.pairwise_iff_getElem.1 h.nd i j (by omega) (by omega) h1
    obtain ⟨a1, a2⟩ := List.getElem?_eq_some_iff.1 hx
    obtain ⟨b1, b2⟩ := List.getElem?_eq_some_iff.1 hy
    exact q (by rw [a2, b2])
theorem Trav.start {n : Nat} {wz : List (Nat × Nat)} {v : Nat} (h : v < n) : Trav n wz [v] [] v where
  len := rfl
  nd := by simp
  lt := fun u m => by rw [List.mem_singleton.1 m]; exact h
  at_ := rfl
  path := fun j x e => by
    cases j with
    | zero => cases e; exact rfl
    | succ j => cases e
  kn := List.Pairwise.nil
  src := fun k m => nomatch m
/-- one wait more -/
theorem Trav.kn2 {n : Nat} {wz : List (Nat × Nat)} {us ks : List Nat} {k : Nat} {w : Nat × Nat} (h : Trav n wz us ks w.1) (hk : wz[k]? = some w) : (ks ++ [k]).Pairwise (· ≠ ·) := by
  rw [List.pairwise_append]
  refine ⟨h.kn, List.pairwise_singleton _ _, fun a ma b mb => ?_⟩
  rw [List.mem_singleton.1 mb]
  rintro rfl
  obtain ⟨x, hx, _, h2⟩ := h.src a ma
  rw [hk] at hx
  cases hx
  exact h2 rfl
theorem Trav.path2 {n : Nat} {wz : List (Nat × Nat)} {us ks : List Nat} {k : Nat} {w : Nat × Nat} (h : Trav n wz us ks w.1) (hk : wz[k]? = some w) {j x : Nat} (e : us[j]? = some x) : PathL wz x ((ks ++ [k]).drop j) w.2 := by
  have hj := (List.getElem?_eq_some_iff.1 e).1
  have hl := h.len
  rw [List.drop_append_of_le_length (by omega)]
  exact PathL.snoc hk (h.path j x e)
theorem Trav.more {n : Nat} {wz : List (Nat × Nat)} {us ks : List Nat} {k : Nat} {w : Nat × Nat} (h : Trav n wz us ks w.1) (hk : wz[k]? = some w) (hw : w.2 < n) (hn : w.2 ∉ us) : Trav n wz (us ++ [w.2]) (ks ++ [k]) w.2 where
  len := by rw [List.length_append, List.length_append, h.len]; rfl
  nd := by
    rw [List.nodup_append]
    refine ⟨h.nd, by simp, fun a ma b mb => ?_⟩
    rw [List.mem_singleton.1 mb]
    rintro rfl
    exact hn ma
  lt := fun u m => by
    rcases List.mem_append.1 m with m | m
    · exact h.lt u m
    · rw [List.mem_singleton.1 m]; exact hw
  at_ := by
    have := h.len
    rw [List.length_append, List.getElem?_append_right (by show us.length ≤ ks.length + 1; omega)]
    rw [show (ks.length + [k].length - us.length) = 0 by show ks.length + 1 - us.length = 0; omega]
    rfl
  path := fun j x e => by
    rcases app1_get e with e | ⟨rfl, rfl⟩
    · exact h.path2 hk e
    · rw [List.drop_eq_nil_of_le (by rw [List.length_append, h.len]; show ks.length + 1 ≤ _; omega)]
      exact rfl
  kn := h.kn2 hk
  src := fun a m => by
    rcases List.mem_append.1 m with m | m
    · obtain ⟨x, hx, h1, _⟩ := h.src a m
      exact ⟨x, hx, List.mem_append_left _ h1, fun e => hn (by rw [← e]; exact h1)⟩
    · rw [List.mem_singleton.1 m]
      refine ⟨w, hk, List.mem_append_left _ (List.mem_of_getElem? h.at_), fun e => hn (by rw [← e]; exact List.mem_of_getElem? h.at_)⟩
theorem pw_wait {ks : List Nat} (h : ks.Pairwise (· ≠ ·)) : (ks.map Arc.wait).Pairwise (· ≠ ·) := by
  rw [List.pairwise_map]
  exact h.imp fun hne e => hne (by cases e; rfl)
/-- a way from a start to an end -/
theorem Trav.way {n : Nat} {wz : List (Nat × Nat)} {hz : List (Str × Nat)} {us ks : List Nat} {cur v : Nat} {a b : Arc} (h : Trav n wz us ks cur) (hn : n ≤ 10) (hv : us[0]? = some v) (ha : a = .start v ∨ ∃ k, a = .hold k ∧ hz[k]? = some (("from" : Str), v)) (hb : b = .fin cur ∨ ∃ k, b = .hold k ∧ (hz[k]? = some (("till" : Str), cur) ∨ hz[k]? = some (("by" : Str), cur))) :
    WalkOk n wz hz ([a] ++ ks.map Arc.wait ++ [b]) := by
  have hp := h.path 0 v hv
  rw [List.drop_zero] at hp
  have h10 := h.ten
  have hl := h.len
  have nft : ("from" : Str) ≠ "till" := by decide
  have nfb : ("from" : Str) ≠ "by" := by decide
  have ntb : ("till" : Str) ≠ "by" := by decide
  have ntf : ("till" : Str) ≠ "from" := by decide
  have fa : ArcE n wz hz a ∧ (∀ u, incE wz hz u a = ind u v ∧ ofcE wz hz u a = 0) ∧ ∀ k, a ≠ .wait k := by
    rcases ha with rfl | ⟨k, rfl, g⟩
    · exact ⟨h.lt v (List.mem_of_getElem? hv), fun u => ⟨rfl, rfl⟩, (fun k e => by cases e)⟩
    · refine ⟨(List.getElem?_eq_some_iff.1 g).1, fun u => ⟨?_, ?_⟩, (fun k e => by cases e)⟩
      · unfold incE; dsimp only; rw [g]; dsimp only; rw [if_neg nfb, if_pos rfl]
      · unfold ofcE; dsimp only; rw [g]; dsimp only; rw [if_neg nfb]
  have fb : ArcE n wz hz b ∧ (∀ u, incE wz hz u b - ofcE wz hz u b = -ind u cur) ∧ (∀ k, b ≠ .wait k) ∧ a ≠ b := by
    rcases hb with rfl | ⟨k, rfl, g⟩
    · refine ⟨h.lt cur (List.mem_of_getElem? h.at_), fun u => by show (0 : Int) - ind u cur = _; omega, (fun k e => by cases e), fun e => ?_⟩
      rcases ha with rfl | ⟨k, rfl, g⟩ <;> cases e
    · have hk : k < hz.length := by rcases g with g | g <;> exact (List.getElem?_eq_some_iff.1 g).1
      refine ⟨hk, fun u => ?_, (fun k e => by cases e), fun e => ?_⟩
      · rcases g with g | g
        · unfold incE ofcE; dsimp only; rw [g]; dsimp only; rw [if_neg ntb, if_neg ntf, if_neg ntb]; omega
        · unfold incE ofcE; dsimp only; rw [g]; dsimp only; rw [if_pos rfl, if_pos rfl]; omega
      · rcases ha with rfl | ⟨k', rfl, g'⟩
        · cases e
        · cases e
          rcases g with g | g
          · rw [g'] at g; exact nft (by cases g)
          · rw [g'] at g; exact nfb (by cases g)
  refine ⟨fun c m => ?_, ?_, fun u => ?_, ?_⟩
  · rcases List.mem_append.1 m with m | m
    · rcases List.mem_append.1 m with m | m
      · rw [List.mem_singleton.1 m]; exact fa.1
      · obtain ⟨i, mi, rfl⟩ := List.mem_map.1 m
        exact hp.lt i mi
    · rw [List.mem_singleton.1 m]; exact fb.1
  · rw [List.pairwise_append]
    refine ⟨?_, List.pairwise_singleton _ _, fun c mc d md => ?_⟩
    · rw [List.pairwise_append]
      refine ⟨List.pairwise_singleton _ _, pw_wait h.kn, fun c mc d md => ?_⟩
      obtain ⟨i, _, rfl⟩ := List.mem_map.1 md
      rw [List.mem_singleton.1 mc]
      exact fa.2.2 i
    · rw [List.mem_singleton.1 md]
      rcases List.mem_append.1 mc with mc | mc
      · rw [List.mem_singleton.1 mc]; exact fb.2.2.2
      · obtain ⟨i, _, rfl⟩ := List.mem_map.1 mc
        exact fun e => fb.2.2.1 i e.symm
  · have q1 := hp.bal (hz := hz) (u := u)
    have q2 := fa.2.1 u
    have q3 := fb.2.1 u
    simp only [List.map_append, List.map_cons, List.map_nil, isum_app, List.sum_cons, List.sum_nil] at *
    omega
  · rw [List.length_append, List.length_append, List.length_map]
    show 1 + ks.length + 1 ≤ 12
    omega
def B_walk : Fn := ⟨2, 13,
 (.cons (.asg (.tup (.cons (.name 2) (.cons (.name 3) (.cons (.name 4) .nil)))) (.var 0))
 (.cons (.set 5 (.call 1001 (.cons (.var 1) (.cons (.bcall .len (.cons (.var 2) .nil)) .nil))))
 (.cons (.set 6 (.lst (.cons (.var 5) .nil)))
 (.cons (.set 7 (.lst .nil))
 (.cons (.set 8 (.bl true))
 (.cons (.whl (.var 8) (.cons (.set 9 (.lc (.var 12) (.name 12) (.rng1 (.bcall .len (.cons (.var 3) .nil))) (.some (.cmp .eq (.ix (.ix (.var 3) (.var 12)) (.int 0)) (.var 5))) [12]))
 (.cons (.set 8 (.band (.cons (.cmp .ne (.var 9) (.lst .nil)) (.cons (.cmp .gt (.call 1001 (.cons (.var 1) (.cons (.int 4) .nil))) (.int 0)) .nil))))
 (.cons (.ite (.var 8) (.cons (.expr (.meth .append (.var 7) (.cons (.tup (.cons (.str "wait") (.cons (.ix (.var 9) (.call 1001 (.cons (.var 1) (.cons (.bcall .len (.cons (.var 9) .nil)) .nil)))) .nil))) .nil)))
 (.cons (.set 5 (.ix (.ix (.var 3) (.ix (.ix (.var 7) (.neg (.int 1))) (.int 1))) (.int 1)))
 (.cons (.ite (.cmp .inn (.var 5) (.var 6)) (.cons (.ret (.sl (.var 7) (.some (.meth .index (.var 6) (.cons (.var 5) .nil))) .none))
 .nil) .nil)
 (.cons (.expr (.meth .append (.var 6) (.cons (.var 5) .nil)))
 .nil)))) .nil)
 .nil))))
 (.cons (.set 10 (.bin .add (.lst (.cons (.tup (.cons (.str "start") (.cons (.ix (.var 6) (.int 0)) .nil))) .nil)) (.lc (.tup (.cons (.str "hold") (.cons (.var 12) .nil))) (.name 12) (.rng1 (.bcall .len (.cons (.var 4) .nil))) (.some (.cmp .eq (.ix (.var 4) (.var 12)) (.tup (.cons (.str "from") (.cons (.ix (.var 6) (.int 0)) .nil))))) [12])))
 (.cons (.set 11 (.bin .add (.lst (.cons (.tup (.cons (.str "end") (.cons (.var 5) .nil))) .nil)) (.lc (.tup (.cons (.str "hold") (.cons (.var 12) .nil))) (.name 12) (.rng1 (.bcall .len (.cons (.var 4) .nil))) (.some (.cmp .inn (.ix (.var 4) (.var 12)) (.lst (.cons (.tup (.cons (.str "till") (.cons (.var 5) .nil))) (.cons (.tup (.cons (.str "by") (.cons (.var 5) .nil))) .nil))))) [12])))
 (.cons (.ret (.bin .add (.bin .add (.lst (.cons (.ix (.var 10) (.call 1001 (.cons (.var 1) (.cons (.bcall .len (.cons (.var 10) .nil)) .nil)))) .nil)) (.var 7)) (.lst (.cons (.ix (.var 11) (.call 1001 (.cons (.var 1) (.cons (.bcall .len (.cons (.var 11) .nil)) .nil)))) .nil))))
 .nil)))))))))⟩
section
variable {G : Tab} {k : Nat} {S : Sto}
end 
end HP
namespace HP
open PySem L2
def B_rate : Fn := ⟨2, 8,
 (.cons (.asg (.tup (.cons (.name 2) (.cons (.name 3) .nil))) (.ix (.ix (.ix (.var 0) (.int 0)) (.call 1001 (.cons (.var 1) (.cons (.bcall .len (.cons (.ix (.var 0) (.int 0)) .nil)) .nil)))) (.int 1)))
 (.cons (.set 4 (.call 1007 (.cons (.var 1) (.cons (.bl false) (.cons (.int 1) .nil)))))
 (.cons (.ite (.band (.cons (.cmp .eq (.var 2) (.str "straight")) (.cons (.cmp .gt (.bcall .len (.cons (.var 3) .nil)) (.int 1)) (.cons (.cmp .gt (.call 1001 (.cons (.var 1) (.cons (.int 3) .nil))) (.int 0)) .nil)))) (.cons (.set 5 (.bin .add (.int 1) (.call 1001 (.cons (.var 1) (.cons (.bin .sub (.bcall .len (.cons (.var 3) .nil)) (.int 1)) .nil)))))
 (.cons (.set 6 (.call 1004 (.cons (.ix (.ix (.var 3) (.var 5)) (.int 1)) (.cons (.ix (.ix (.var 3) (.bin .sub (.var 5) (.int 1))) (.int 1)) .nil))))
 (.cons (.set 7 (.call 1004 (.cons (.ix (.ix (.var 3) (.bin .sub (.var 5) (.int 1))) (.int 0)) (.cons (.ix (.ix (.var 3) (.var 5)) (.int 0)) .nil))))
 (.cons (.set 4 (.call 1002 (.cons (.bin .mul (.ix (.var 6) (.int 0)) (.ix (.var 7) (.int 1))) (.cons (.bin .mul (.ix (.var 6) (.int 1)) (.ix (.var 7) (.int 0))) .nil))))
 .nil)))) .nil)
 (.cons (.ret (.var 4))
 .nil))))⟩
def B_paper : Fn := ⟨3, 12,
 (.cons (.set 3 (.call 1000 (.cons (.var 1) (.cons (.var 2) .nil))))
 (.cons (.expr (.call 1001 (.cons (.var 3) (.cons (.int 7919) .nil))))
 (.cons (.set 4 (.lst .nil))
 (.cons (.set 5 (.lst .nil))
 (.cons (.for_ (.name 6) (.rng1 (.ix (.lst (.cons (.int 0) (.cons (.int 1) (.cons (.int 1) (.cons (.int 2) (.cons (.int 3) (.cons (.int 4) .nil))))))) (.call 1001 (.cons (.var 3) (.cons (.int 6) .nil))))) (.cons (.set 7 (.call 1011 (.cons (.var 0) (.cons (.var 3) .nil))))
 (.cons (.for_ (.name 8) (.seq (.call 1010 (.cons (.var 0) (.cons (.var 3) .nil)))) (.cons (.ite (.cmp .inn (.var 8) (.var 4)) (.cons (.setIx (.var 5) (.meth .index (.var 4) (.cons (.var 8) .nil)) (.call 1003 (.cons (.ix (.var 5) (.meth .index (.var 4) (.cons (.var 8) .nil))) (.cons (.var 7) .nil))))
 .nil) (.cons (.expr (.meth .append (.var 4) (.cons (.var 8) .nil)))
 (.cons (.expr (.meth .append (.var 5) (.cons (.var 7) .nil)))
 .nil)))
 .nil))
 .nil)))
 (.cons (.set 9 (.lc (.tup (.cons (.ix (.var 4) (.var 11)) (.cons (.ix (.var 5) (.var 11)) .nil))) (.name 11) (.rng1 (.bcall .len (.cons (.var 4) .nil))) .none [11]))
 (.cons (.set 10 (.call 1001 (.cons (.var 3) (.cons (.bin .add (.bcall .len (.cons (.var 9) .nil)) (.int 1)) .nil))))
 (.cons (.ret (.bin .add (.sl (.var 9) (.some (.var 10)) .none) (.sl (.var 9) .none (.some (.var 10)))))
 .nil))))))))⟩
def B_flows : Fn := ⟨2, 11,
 (.cons (.asg (.tup (.cons (.name 2) (.cons (.name 3) (.cons (.name 4) .nil)))) (.sl (.var 0) .none (.some (.int 3))))
 (.cons (.set 5 (.lc (.tup (.cons (.int 0) (.cons (.int 1) .nil))) (.name 10) (.seq (.var 2)) .none [10]))
 (.cons (.set 6 (.lc (.tup (.cons (.int 0) (.cons (.int 1) .nil))) (.name 10) (.seq (.var 2)) .none [10]))
 (.cons (.for_ (.tup (.cons (.tup (.cons (.name 7) (.cons (.name 8) .nil))) (.cons (.name 9) .nil))) (.seq (.var 1)) (.cons (.ite (.cmp .eq (.var 7) (.str "start")) (.cons (.setIx (.var 5) (.var 8) (.call 1003 (.cons (.ix (.var 5) (.var 8)) (.cons (.var 9) .nil))))
 .nil) (.cons (.ite (.cmp .eq (.var 7) (.str "end")) (.cons (.setIx (.var 6) (.var 8) (.call 1003 (.cons (.ix (.var 6) (.var 8)) (.cons (.var 9) .nil))))
 .nil) (.cons (.ite (.cmp .eq (.var 7) (.str "wait")) (.cons (.setIx (.var 6) (.ix (.ix (.var 3) (.var 8)) (.int 0)) (.call 1003 (.cons (.ix (.var 6) (.ix (.ix (.var 3) (.var 8)) (.int 0))) (.cons (.var 9) .nil))))
 (.cons (.setIx (.var 5) (.ix (.ix (.var 3) (.var 8)) (.int 1)) (.call 1003 (.cons (.ix (.var 5) (.ix (.ix (.var 3) (.var 8)) (.int 1))) (.cons (.var 9) .nil))))
 .nil)) (.cons (.ite (.cmp .eq (.ix (.ix (.var 4) (.var 8)) (.int 0)) (.str "by")) (.cons (.setIx (.var 6) (.ix (.ix (.var 4) (.var 8)) (.int 1)) (.call 1003 (.cons (.ix (.var 6) (.ix (.ix (.var 4) (.var 8)) (.int 1))) (.cons (.var 9) .nil))))
 .nil) (.cons (.ite (.cmp .eq (.ix (.ix (.var 4) (.var 8)) (.int 0)) (.str "from")) (.cons (.setIx (.var 5) (.ix (.ix (.var 4) (.var 8)) (.int 1)) (.call 1003 (.cons (.ix (.var 5) (.ix (.ix (.var 4) (.var 8)) (.int 1))) (.cons (.var 9) .nil))))
 .nil) (.cons (.setIx (.var 5) (.ix (.ix (.var 4) (.var 8)) (.int 1)) (.call 1004 (.cons (.ix (.var 5) (.ix (.ix (.var 4) (.var 8)) (.int 1))) (.cons (.var 9) .nil))))
 .nil))
 .nil))
 .nil))
 .nil))
 .nil))
 .nil))
 (.cons (.ret (.tup (.cons (.var 5) (.cons (.var 6) .nil))))
 .nil)))))⟩
def B_least : Fn := ⟨2, 6,
 (.cons (.set 2 .non)
 (.cons (.for_ (.tup (.cons (.name 3) (.cons (.name 4) .nil))) (.seq (.ix (.var 0) (.int 1))) (.cons (.set 5 (.call 1003 (.cons (.var 4) (.cons (.call 1005 (.cons (.var 1) (.cons (.var 3) .nil))) .nil))))
 (.cons (.ite (.bor (.cons (.cmp .is (.var 2) .non) (.cons (.call 1006 (.cons (.var 5) (.cons (.var 2) .nil))) .nil))) (.cons (.set 2 (.var 5))
 .nil) .nil)
 .nil)))
 (.cons (.ret (.var 2))
 .nil)))⟩
def B_time : Fn := ⟨3, 12,
 (.cons (.asg (.tup (.cons (.name 3) (.cons (.name 4) .nil))) (.var 0))
 (.cons (.set 5 (.call 1014 (.cons (.var 0) (.cons (.var 1) .nil))))
 (.cons (.set 6 (.lc (.var 10) (.tup (.cons (.name 10) (.cons (.name 11) .nil))) (.seq (.var 4)) (.some (.cmp .eq (.call 1003 (.cons (.var 11) (.cons (.call 1005 (.cons (.var 1) (.cons (.var 10) .nil))) .nil))) (.var 5))) [10, 11]))
 (.cons (.set 7 (.call 1001 (.cons (.var 2) (.cons (.int 5) .nil))))
 (.cons (.set 8 (.call 1001 (.cons (.var 2) (.cons (.bcall .len (.cons (.var 4) .nil)) .nil))))
 (.cons (.ite (.cmp .gt (.var 7) (.int 1)) (.cons (.ret (.ix (.var 6) (.call 1001 (.cons (.var 2) (.cons (.bcall .len (.cons (.var 6) .nil)) .nil)))))
 .nil) .nil)
 (.cons (.ite (.bor (.cons (.cmp .eq (.var 7) (.int 1)) (.cons (.cmp .eq (.var 3) (.str "steps")) (.cons (.cmp .eq (.var 8) (.int 0)) .nil)))) (.cons (.ret (.ix (.ix (.var 4) (.var 8)) (.int 0)))
 .nil) .nil)
 (.cons (.set 9 (.call 1004 (.cons (.ix (.ix (.var 4) (.bin .sub (.var 8) (.int 1))) (.int 0)) (.cons (.ix (.ix (.var 4) (.var 8)) (.int 0)) .nil))))
 (.cons (.ret (.call 1003 (.cons (.ix (.ix (.var 4) (.var 8)) (.int 0)) (.cons (.call 1005 (.cons (.var 9) (.cons (.call 1002 (.cons (.bin .add (.int 1) (.call 1001 (.cons (.var 2) (.cons (.int 3) .nil)))) (.cons (.int 4) .nil))) .nil))) .nil))))
 .nil)))))))))⟩
def B_planned : Fn := ⟨3, 20,
 (.cons (.asg (.tup (.cons (.name 3) (.cons (.name 4) (.cons (.name 5) .nil)))) (.var 0))
 (.cons (.set 6 (.ix (.call 1013 (.cons (.var 0) (.cons (.var 2) .nil))) (.int 0)))
 (.cons (.set 7 (.lst .nil))
 (.cons (.for_ (.name 8) (.rng1 (.bcall .len (.cons (.var 3) .nil))) (.cons (.set 9 (.call 1000 (.cons (.var 1) (.cons (.bin .add (.int 67) (.var 8)) .nil))))
 (.cons (.expr (.call 1001 (.cons (.var 9) (.cons (.int 7919) .nil))))
 (.cons (.set 10 (.call 1015 (.cons (.ix (.ix (.var 3) (.var 8)) (.int 1)) (.cons (.ix (.var 6) (.var 8)) (.cons (.var 9) .nil)))))
 (.cons (.set 11 (.call 1007 (.cons (.var 9) (.cons (.bl false) (.cons (.int 0) .nil)))))
 (.cons (.ite (.cmp .gt (.call 1001 (.cons (.var 9) (.cons (.int 4) .nil))) (.int 1)) (.cons (.set 11 (.tup (.cons (.int 0) (.cons (.int 1) .nil))))
 .nil) .nil)
 (.cons (.expr (.meth .append (.var 7) (.cons (.tup (.cons (.var 11) (.cons (.var 10) .nil))) .nil)))
 .nil)))))))
 (.cons (.set 12 (.lc (.call 1003 (.cons (.var 11) (.cons (.var 10) .nil))) (.tup (.cons (.name 11) (.cons (.name 10) .nil))) (.seq (.var 7)) .none [11, 10]))
 (.cons (.set 13 (.lst .nil))
 (.cons (.for_ (.name 14) (.rng1 (.bcall .len (.cons (.var 4) .nil))) (.cons (.asg (.tup (.cons (.name 15) (.cons (.name 16) .nil))) (.ix (.var 4) (.var 14)))
 (.cons (.expr (.meth .append (.var 13) (.cons (.tup (.cons (.var 15) (.cons (.var 16) (.cons (.call 1004 (.cons (.call 1004 (.cons (.ix (.ix (.var 7) (.var 16)) (.int 0)) (.cons (.ix (.var 12) (.var 15)) .nil))) (.cons (.call 1017 (.cons (.var 1) (.cons (.var 14) .nil))) .nil))) .nil)))) .nil)))
 .nil)))
 (.cons (.set 17 (.lst .nil))
 (.cons (.for_ (.name 14) (.rng1 (.bcall .len (.cons (.var 5) .nil))) (.cons (.asg (.tup (.cons (.name 18) (.cons (.name 8) .nil))) (.ix (.var 5) (.var 14)))
 (.cons (.set 19 (.call 1017 (.cons (.var 1) (.cons (.bin .add (.int 40) (.var 14)) .nil))))
 (.cons (.ite (.cmp .eq (.var 18) (.str "from")) (.cons (.expr (.meth .append (.var 17) (.cons (.tup (.cons (.var 18) (.cons (.var 8) (.cons (.call 1004 (.cons (.ix (.ix (.var 7) (.var 8)) (.int 0)) (.cons (.var 19) .nil))) .nil)))) .nil)))
 .nil) (.cons (.expr (.meth .append (.var 17) (.cons (.tup (.cons (.var 18) (.cons (.var 8) (.cons (.call 1003 (.cons (.ix (.lst (.cons (.ix (.ix (.var 7) (.var 8)) (.int 0)) (.cons (.ix (.var 12) (.var 8)) .nil))) (.bcall .int (.cons (.cmp .eq (.var 18) (.str "by")) .nil))) (.cons (.var 19) .nil))) .nil)))) .nil)))
 .nil))
 .nil))))
 (.cons (.ret (.tup (.cons (.tup (.cons (.var 3) (.cons (.var 13) (.cons (.var 17) (.cons (.lst .nil) .nil))))) (.cons (.var 7) .nil))))
 .nil))))))))))⟩
def B_slack : Fn := ⟨2, 4,
 (.cons (.set 2 (.call 1000 (.cons (.var 0) (.cons (.bin .add (.int 83) (.var 1)) .nil))))
 (.cons (.expr (.call 1001 (.cons (.var 2) (.cons (.int 7907) .nil))))
 (.cons (.set 3 (.call 1007 (.cons (.var 2) (.cons (.bl false) (.cons (.int 1) .nil)))))
 (.cons (.ite (.cmp .gt (.call 1001 (.cons (.var 2) (.cons (.int 3) .nil))) (.int 0)) (.cons (.set 3 (.tup (.cons (.int 0) (.cons (.int 1) .nil))))
 .nil) .nil)
 (.cons (.ret (.var 3))
 .nil)))))⟩
/-- all defs of the family but the last one -/
structure FBq (G : Tab) : Prop extends FB0 G where
  wlk : G 1010 = some B_walk
  rat : G 1011 = some B_rate
  pap : G 1012 = some B_paper
structure FBp (G : Tab) : Prop extends FBq G where
  flo : G 1013 = some B_flows
  lea : G 1014 = some B_least
  tim : G 1015 = some B_time
  pla : G 1016 = some B_planned
  sla : G 1017 = some B_slack
structure FB1 (G : Tab) : Prop extends FBp G where
  shp : G 1009 = some B_shape
section
variable {G : Tab} {k : Nat} {S : Sto}
end
end HP
namespace HP
open PySem L2
/-- a paper's row -/
def saD (z : Arc × Rat) : D := .tup [arcD z.1, q z.2]
structure PapZ (n : Nat) (wz : List (Nat × Nat)) (hz : List (Str × Nat)) (DP : Nat) (Z : List (Arc × Rat)) : Prop where
  len : Z.length ≤ 48
  ok : ∀ z ∈ Z, ArcE n wz hz z.1 ∧ z.2.den ∣ DP ∧ V 220 z.2
  d0 : DP ≠ 0
  db : DP ≤ 2 ^ 3000
  pos : ∀ z ∈ Z, 0 < z.2
  nd : (Z.map (·.1)).Nodup
  bal : ∀ u, (Z.map fun z => z.2 * ((incE wz hz u z.1 - ofcE wz hz u z.1 : Int) : Rat)).sum = 0
  db2 : DP ≤ 2 ^ 1680
structure ColZ (n DP b : Nat) (xs : List Rat) : Prop where
  len : xs.length = n
  z : ∀ x ∈ xs, x.den ∣ DP ∧ V b x
theorem ColZ.mono {n DP b b' : Nat} {xs : List Rat} (h : ColZ n DP b xs) (k : b ≤ b') : ColZ n DP b' xs := ⟨h.len, fun x m => ⟨(h.z x m).1, (h.z x m).2.mono k⟩⟩
theorem ColZ.put {n DP b b' j : Nat} {xs : List Rat} {y : Rat} (h : ColZ n DP b xs) (k : b ≤ b') (hy : y.den ∣ DP ∧ V b' y) : ColZ n DP b' (xs.set j y) := by
  refine ⟨by rw [List.length_set]; exact h.len, fun x m => ?_⟩
  rcases List.mem_or_eq_of_mem_set m with m | rfl
  · exact (h.mono k).z x m
  · exact hy
theorem ColZ.at_ {n DP b j : Nat} {xs : List Rat} (h : ColZ n DP b xs) (hj : j < n) : ∃ x, xs[j]? = some x ∧ atI (xs.map q) (j : Nat) = some (q x) ∧ x.den ∣ DP ∧ V b x := by
  obtain ⟨x, gx⟩ := get_some (xs := xs) (i := j) (by have := h.len; omega)
  exact ⟨x, gx, atI_get (by rw [List.getElem?_map, gx]; rfl), h.z x (List.mem_of_getElem? gx)⟩
section
variable {G : Tab} {k : Nat} {S : Sto}
end
end HP
namespace HP
open PySem L2
/-- a paper in the making -/
def dE (wz : List (Nat × Nat)) (hz : List (Str × Nat)) (u : Nat) (a : Arc) : Int := incE wz hz u a - ofcE wz hz u a
structure BalL (wz : List (Nat × Nat)) (hz : List (Str × Nat)) (as : List Arc) (xs : List Rat) (f : Nat → Rat) : Prop where
  nd : as.Nodup
  pos : ∀ x ∈ xs, 0 < x
  bal : ∀ u, ((as.zip xs).map fun z => z.2 * ((dE wz hz u z.1 : Int) : Rat)).sum = f u
theorem BalL.congr {wz : List (Nat × Nat)} {hz : List (Str × Nat)} {as : List Arc} {xs : List Rat} {f g : Nat → Rat} (h : BalL wz hz as xs f) (e : ∀ u, f u = g u) : BalL wz hz as xs g := ⟨h.nd, h.pos, fun u => (h.bal u).trans (e u)⟩
theorem BalL.app {wz : List (Nat × Nat)} {hz : List (Str × Nat)} {as : List Arc} {xs : List Rat} {f : Nat → Rat} {a : Arc} {x : Rat} (h : BalL wz hz as xs f) (hl : xs.length = as.length) (ha : a ∉ as) (hx : 0 < x) : BalL wz hz (as ++ [a]) (xs ++ [x]) fun u => f u + x * ((dE wz hz u a : Int) : Rat) := by
  refine ⟨?_, fun y m => ?_, fun u => ?_⟩
  · rw [List.nodup_append]
    exact ⟨h.nd, List.pairwise_singleton _ a, fun b hb c hc => by rw [List.mem_singleton.1 hc]; rintro rfl; exact ha hb⟩
  · rcases List.mem_append.1 m with m | m
    · exact h.pos y m
    · rw [List.mem_singleton.1 m]; exact hx
  · rw [List.zip_append hl.symm, List.map_append, sum_app, h.bal u]
    show f u + ([x * ((dE wz hz u a : Int) : Rat)]).sum = _
    rw [sum_one]
theorem zip_set_sum {wz : List (Nat × Nat)} {hz : List (Str × Nat)} {u : Nat} {a : Arc} {x y : Rat} : (as : List Arc) → (xs : List Rat) → (j : Nat) → as[j]? = some a → xs[j]? = some y →
    ((as.zip (xs.set j (y + x))).map fun z => z.2 * ((dE wz hz u z.1 : Int) : Rat)).sum = ((as.zip xs).map fun z => z.2 * ((dE wz hz u z.1 : Int) : Rat)).sum + x * ((dE wz hz u a : Int) : Rat)
  | [], _, _, h, _ => by cases h
  | _ :: _, [], _, _, h => by cases h
  | b :: as, z :: xs, 0, h1, h2 => by
    cases h1
    cases h2
    rw [List.set_cons_zero, List.zip_cons_cons, List.zip_cons_cons, List.map_cons, List.map_cons, List.sum_cons, List.sum_cons]
    dsimp only
    grind
  | b :: as, z :: xs, j + 1, h1, h2 => by
    rw [List.set_cons_succ, List.zip_cons_cons, List.zip_cons_cons, List.map_cons, List.map_cons, List.sum_cons, List.sum_cons, zip_set_sum as xs j h1 h2]
    grind
theorem BalL.put {wz : List (Nat × Nat)} {hz : List (Str × Nat)} {as : List Arc} {xs : List Rat} {f : Nat → Rat} {a : Arc} {x y : Rat} {j1 j2 : Nat} (h : BalL wz hz as xs f) (h1 : as[j1]? = some a) (hy : xs[j1]? = some y) (h2 : as[j2]? = some a) (hx : 0 < x) : BalL wz hz as (xs.set j2 (y + x)) fun u => f u + x * ((dE wz hz u a : Int) : Rat) := by
  have e : j1 = j2 := by
    have l1 := (List.getElem?_eq_some_iff.1 h1)
    have l2 := (List.getElem?_eq_some_iff.1 h2)
    obtain ⟨l1, e1⟩ := l1
    obtain ⟨l2, e2⟩ := l2
    have nd := List.pairwise_iff_getElem.1 h.nd
    rcases Nat.lt_trichotomy j1 j2 with c | c | c
    · exact absurd (e1.trans e2.symm) (nd j1 j2 l1 l2 c)
    · exact c
    · exact absurd (e2.trans e1.symm) (nd j2 j1 l2 l1 c)
  subst e
  refine ⟨h.nd, fun z m => ?_, fun u => ?_⟩
  · rcases List.mem_or_eq_of_mem_set m with m | rfl
    · exact h.pos z m
    · have := h.pos y (List.mem_of_getElem? hy)
      grind
  · rw [zip_set_sum as xs j1 h1 hy, h.bal u]
section
variable {G : Tab} {k : Nat} {S : Sto}
end
end HP
namespace HP
open PySem L2
def stF (pl : List (Rat × Rat)) (i : Nat) : Rat := ((pl[i]?).getD (0, 0)).1
def enF (pl : List (Rat × Rat)) (i : Nat) : Rat := ((pl[i]?).getD (0, 0)).1 + ((pl[i]?).getD (0, 0)).2
def moF (pl : List (Rat × Rat)) (x : Str × Nat) (s : Rat) : Rat := if x.1 = ("from" : Str) then stF pl x.2 - s else if x.1 = ("by" : Str) then enF pl x.2 + s else stF pl x.2 + s
structure Drawn (ws : List Wk) (wz : List (Nat × Nat)) (hz : List (Str × Nat)) (wl : List Wt) (hl : List Hd3) (pl : List (Rat × Rat)) (sl ml : List Rat) : Prop where
  ln : pl.length = ws.length
  pk : ∀ (i : Nat) (w : Wk) (p : Rat × Rat), ws[i]? = some w → pl[i]? = some p → TOk w p.2 ∧ 0 ≤ p.1 ∧ Sz 40 6 p.1
  wn : wl.length = wz.length
  sn : sl.length = wl.length
  wk : ∀ (k : Nat) (w : Wt) (s : Rat), wl[k]? = some w → sl[k]? = some s → ∃ x, wz[k]? = some x ∧ w = (x.1, x.2, stF pl x.2 - enF pl x.1 - s) ∧ 0 ≤ s ∧ Sz 40 6 s
  hn : hl.length = hz.length
  mn : ml.length = hl.length
  hk : ∀ (k : Nat) (h : Hd3) (s : Rat), hl[k]? = some h → ml[k]? = some s → ∃ x, hz[k]? = some x ∧ h = (x.1, x.2, moF pl x s) ∧ 0 ≤ s ∧ Sz 40 6 s
theorem st_get {pl : List (Rat × Rat)} {i : Nat} {p : Rat × Rat} (h : pl[i]? = some p) : stF pl i = p.1 := by unfold stF; rw [h]; rfl
theorem en_get {pl : List (Rat × Rat)} {i : Nat} {p : Rat × Rat} (h : pl[i]? = some p) : enF pl i = p.1 + p.2 := by unfold enF; rw [h]; rfl
section
variable {G : Tab} {k : Nat} {S : Sto}
end
end HP
namespace HP
open PySem L2
end HP
namespace HP
open PySem L2
/-- a net in the store -/
structure NOk (S : Sto) (a b c e : Nat) (ws : List Wk) (wn : List Wt) (hn : List Hd3) (E : List PyData) : Prop where
  w : S[a]? = some (.lst (ws.map wkD))
  wk : ∀ w ∈ ws, WkOk w ∧ PyData.strOk w.nm = true ∧ S[w.lc]? = some (.lst (w.cs.map pr))
  b : S[b]? = some (.lst (wn.map waN))
  c : S[c]? = some (.lst (hn.map hoN))
  e : Dt (fun _ => True) S (.list E) (.loc e)
section
variable {a b c e : Nat} {ws : List Wk} {wn : List Wt} {hn : List Hd3} {E : List PyData}
theorem NOk.ag {S S' : Sto} (h : NOk S a b c e ws wn hn E) (k : Ag (fun _ => False) S S') : NOk S' a b c e ws wn hn E :=
  ⟨k.get h.w id, fun w m => ⟨(h.wk w m).1, (h.wk w m).2.1, k.get (h.wk w m).2.2 id⟩, k.get h.b id, k.get h.c id, h.e.ag k fun _ _ => id⟩
end
theorem ty_loc {S : Sto} {l : Nat} {ds : List D} (h : S[l]? = some (.lst ds)) : tyD S (.loc l) = some .list := by unfold tyD; dsimp only; rw [h]
section
variable {G : Tab} {k f fr : Nat} {S : Sto}
end
end HP
namespace HP
open PySem L2
section
variable {G : Tab} {k f : Nat} {S : Sto} {ts : List Rat} {wl : List Wt} {hl : List Hd3} {DD : Nat}
end
end HP
namespace HP
open PySem L2
theorem NSz.times {ts : List Rat} {wl : List Wt} {hl : List Hd3} {DD m : Nat} (N : NSz ts wl hl DD) (h0 : m ≠ 0) (hb : DD * m ≤ 2 ^ 3000) : NSz ts wl hl (DD * m) :=
  ⟨Nat.mul_ne_zero N.dd0 h0, hb, fun t m => ⟨Nat.dvd_trans (N.t t m).1 (Nat.dvd_mul_right _ _), (N.t t m).2⟩, fun t m => ⟨Nat.dvd_trans (N.w t m).1 (Nat.dvd_mul_right _ _), (N.w t m).2⟩, fun t m => ⟨Nat.dvd_trans (N.h t m).1 (Nat.dvd_mul_right _ _), (N.h t m).2⟩, N.wok, N.hok, N.pos, N.len, N.wl40, N.hl40⟩
section
variable {ws : List Wk} {wz : List (Nat × Nat)} {hz : List (Str × Nat)} {wl : List Wt} {hl : List Hd3} {pl : List (Rat × Rat)} {sl ml : List Rat}
theorem Drawn.p (h : Drawn ws wz hz wl hl pl sl ml) {i : Nat} {p : Rat × Rat} (g : pl[i]? = some p) : ∃ w, ws[i]? = some w ∧ TOk w p.2 ∧ 0 ≤ p.1 ∧ Sz 40 6 p.1 := by
  have hi := (List.getElem?_eq_some_iff.1 g).1
  obtain ⟨w, gw⟩ := get_some (xs := ws) (i := i) (by have := h.ln; omega)
  exact ⟨w, gw, h.pk i w p gw g⟩
theorem Drawn.w (h : Drawn ws wz hz wl hl pl sl ml) {w : Wt} (m : w ∈ wl) : ∃ s x, s ∈ sl ∧ x ∈ wz ∧ w = (x.1, x.2, stF pl x.2 - enF pl x.1 - s) ∧ 0 ≤ s ∧ Sz 40 6 s := by
  obtain ⟨k, hk⟩ := List.getElem?_of_mem m
  have hi := (List.getElem?_eq_some_iff.1 hk).1
  obtain ⟨s, gs⟩ := get_some (xs := sl) (i := k) (by have := h.sn; omega)
  obtain ⟨x, gx, e, h0, hs⟩ := h.wk k w s hk gs
  exact ⟨s, x, List.mem_of_getElem? gs, List.mem_of_getElem? gx, e, h0, hs⟩
theorem Drawn.h (h : Drawn ws wz hz wl hl pl sl ml) {w : Hd3} (m : w ∈ hl) : ∃ s x, s ∈ ml ∧ x ∈ hz ∧ w = (x.1, x.2, moF pl x s) ∧ 0 ≤ s ∧ Sz 40 6 s := by
  obtain ⟨k, hk⟩ := List.getElem?_of_mem m
  have hi := (List.getElem?_eq_some_iff.1 hk).1
  obtain ⟨s, gs⟩ := get_some (xs := ml) (i := k) (by have := h.mn; omega)
  obtain ⟨x, gx, e, h0, hs⟩ := h.hk k w s hk gs
  exact ⟨s, x, List.mem_of_getElem? gs, List.mem_of_getElem? gx, e, h0, hs⟩
theorem Drawn.s (h : Drawn ws wz hz wl hl pl sl ml) {s : Rat} (m : s ∈ sl) : Sz 40 6 s := by
  obtain ⟨k, hk⟩ := List.getElem?_of_mem m
  have hi := (List.getElem?_eq_some_iff.1 hk).1
  obtain ⟨w, gw⟩ := get_some (xs := wl) (i := k) (by have := h.sn; omega)
  obtain ⟨_, _, _, _, hs⟩ := h.wk k w s gw hk
  exact hs
theorem Drawn.m (h : Drawn ws wz hz wl hl pl sl ml) {s : Rat} (m : s ∈ ml) : Sz 40 6 s := by
  obtain ⟨k, hk⟩ := List.getElem?_of_mem m
  have hi := (List.getElem?_eq_some_iff.1 hk).1
  obtain ⟨w, gw⟩ := get_some (xs := hl) (i := k) (by have := h.mn; omega)
  obtain ⟨_, _, _, _, hs⟩ := h.hk k w s gw hk
  exact hs
end
section
variable {G : Tab} {k f : Nat} {S : Sto}
end
end HP
namespace HP
open PySem L2
structure NLay (ws : List Wk) (wl : List Wt) (hl : List Hd3) (E : List PyData) : Prop where
  w : Lay (.list (ws.map wkP))
  b : Lay (.list ((wl.map cwI).map waP))
  c : Lay (.list ((hl.map chI).map hoP))
  e : Lay (.list E)
section
variable {G : Tab} {k f self : Nat} {S : Sto}
end
end HP
namespace HP
open PySem L2
/-- how much later a start may be: all that holds it -/
inductive Room (ts xs : List Rat) (wl : List Wt) (hl : List Hd3) (w : Rat) (i : Nat) : Rat → Prop where
  | whole : Room ts xs wl hl w i (w - (tmF xs i + tmF ts i))
  | wait {a : Wt} (m : a ∈ wl) (e : a.1 = i) : Room ts xs wl hl w i (tmF xs a.2.1 - (tmF xs i + tmF ts i) - a.2.2)
  | till {h : Hd3} (m : h ∈ hl) (e : h.2.1 = i) (k : h.1 = ("till" : Str)) : Room ts xs wl hl w i (h.2.2 - tmF xs i)
  | by_ {h : Hd3} (m : h ∈ hl) (e : h.2.1 = i) (k : h.1 = ("by" : Str)) : Room ts xs wl hl w i (h.2.2 - (tmF xs i + tmF ts i))
structure Alone (ts xs : List Rat) (wl : List Wt) (hl : List Hd3) (w : Rat) (i : Nat) (m : Rat) : Prop where
  at_ : Room ts xs wl hl w i m
  le : ∀ r, Room ts xs wl hl w i r → m ≤ r
/-- the rooms seen so far -/
structure RmUp (ts xs : List Rat) (wl : List Wt) (hl : List Hd3) (w : Rat) (i j k : Nat) (m : Rat) : Prop where
  at_ : Room ts xs wl hl w i m
  w : m ≤ w - (tmF xs i + tmF ts i)
  a : ∀ n a, n < j → wl[n]? = some a → a.1 = i → m ≤ tmF xs a.2.1 - (tmF xs i + tmF ts i) - a.2.2
  h : ∀ n h, n < k → hl[n]? = some h → h.2.1 = i → (h.1 = ("till" : Str) → m ≤ h.2.2 - tmF xs i) ∧ (h.1 = ("by" : Str) → m ≤ h.2.2 - (tmF xs i + tmF ts i))
theorem RmUp.all {ts xs : List Rat} {wl : List Wt} {hl : List Hd3} {w : Rat} {i : Nat} {m : Rat} (h : RmUp ts xs wl hl w i wl.length hl.length m) : Alone ts xs wl hl w i m := by
  refine ⟨h.at_, fun r hr => ?_⟩
  cases hr with
  | whole => exact h.w
  | wait m e =>
    obtain ⟨n, hn⟩ := List.getElem?_of_mem m
    exact h.a n _ (List.getElem?_eq_some_iff.1 hn).1 hn e
  | till m e k =>
    obtain ⟨n, hn⟩ := List.getElem?_of_mem m
    exact (h.h n _ (List.getElem?_eq_some_iff.1 hn).1 hn e).1 k
  | by_ m e k =>
    obtain ⟨n, hn⟩ := List.getElem?_of_mem m
    exact (h.h n _ (List.getElem?_eq_some_iff.1 hn).1 hn e).2 k
theorem min_le (r m : Rat) : (if r < m then r else m) ≤ m ∧ (if r < m then r else m) ≤ r := by
  by_cases h : r < m
  · rw [if_pos h]; exact ⟨Rat.le_of_lt h, Rat.le_refl⟩
  · rw [if_neg h]; exact ⟨Rat.le_refl, Rat.not_lt.1 h⟩
section
variable {ts xs : List Rat} {wl : List Wt} {hl : List Hd3} {w : Rat} {i j k : Nat} {m : Rat}
theorem RmUp.wait {a : Wt} (h : RmUp ts xs wl hl w i j k m) (g : wl[j]? = some a) (e : a.1 = i) : RmUp ts xs wl hl w i (j + 1) k (if tmF xs a.2.1 - (tmF xs i + tmF ts i) - a.2.2 < m then tmF xs a.2.1 - (tmF xs i + tmF ts i) - a.2.2 else m) := by
  have q := min_le (tmF xs a.2.1 - (tmF xs i + tmF ts i) - a.2.2) m
  refine ⟨?_, Rat.le_trans q.1 h.w, fun n b hn gb eb => ?_, fun n b hn gb eb => ⟨fun z => Rat.le_trans q.1 ((h.h n b hn gb eb).1 z), fun z => Rat.le_trans q.1 ((h.h n b hn gb eb).2 z)⟩⟩
  · split
    · exact .wait (List.mem_of_getElem? g) e
    · exact h.at_
  · by_cases c : n = j
    · subst c
      rw [g] at gb
      cases gb
      exact q.2
    · exact Rat.le_trans q.1 (h.a n b (by omega) gb eb)
theorem RmUp.hold {b : Hd3} {r : Rat} (h : RmUp ts xs wl hl w i j k m) (g : hl[k]? = some b) (hr : Room ts xs wl hl w i r) (t : b.2.1 = i → b.1 = ("till" : Str) → r = b.2.2 - tmF xs i) (y : b.2.1 = i → b.1 = ("by" : Str) → r = b.2.2 - (tmF xs i + tmF ts i)) : RmUp ts xs wl hl w i j (k + 1) (if r < m then r else m) := by
  have q := min_le r m
  refine ⟨?_, Rat.le_trans q.1 h.w, fun n b hn gb eb => Rat.le_trans q.1 (h.a n b hn gb eb), fun n b hn gb eb => ?_⟩
  · split
    · exact hr
    · exact h.at_
  · by_cases c : n = k
    · subst c
      rw [g] at gb
      cases gb
      exact ⟨fun z => by rw [← t eb z]; exact q.2, fun z => by rw [← y eb z]; exact q.2⟩
    · have := h.h n b (by omega) gb eb
      exact ⟨fun z => Rat.le_trans q.1 (this.1 z), fun z => Rat.le_trans q.1 (this.2 z)⟩
end
section
variable {L : List Fn} {k : Nat} {S : Sto} {ts xs : List Rat} {wl : List Wt} {hl : List Hd3} {w : Rat} {DD : Nat}
end
end HP
namespace HP
open PySem L2
section
variable {ts xs : List Rat} {wl : List Wt} {hl : List Hd3} {w : Rat} {i : Nat} {m : Rat}
end
section
variable {G : Tab} {k f : Nat} {S : Sto}
end
end HP
namespace HP
open PySem L2
def inZ (wl : List Wt) (hl : List Hd3) (Z : List (Arc × Rat)) (u : Nat) : Rat := (Z.map fun z => z.2 * ((incF wl hl u z.1 : Int) : Rat)).sum
def ofZ (wl : List Wt) (hl : List Hd3) (Z : List (Arc × Rat)) (u : Nat) : Rat := (Z.map fun z => z.2 * ((ofcF wl hl u z.1 : Int) : Rat)).sum
structure PapG (n : Nat) (wl : List Wt) (hl : List Hd3) (DP : Nat) (Z : List (Arc × Rat)) : Prop where
  len : Z.length ≤ 60
  ok : ∀ z ∈ Z, ArcOk n wl hl z.1 ∧ z.2.den ∣ DP ∧ V 220 z.2 ∧ 0 < z.2
  nd : (Z.map (·.1)).Pairwise (· ≠ ·)
  bal : ∀ u, inZ wl hl Z u = ofZ wl hl Z u
  d0 : DP ≠ 0
  db : DP ≤ 2 ^ 1700
/-- .. balanced or not -/
structure PapW (n : Nat) (wl : List Wt) (hl : List Hd3) (DP : Nat) (Z : List (Arc × Rat)) : Prop where
  len : Z.length ≤ 60
  ok : ∀ z ∈ Z, ArcOk n wl hl z.1 ∧ z.2.den ∣ DP ∧ V 220 z.2 ∧ 0 < z.2
  d0 : DP ≠ 0
  db : DP ≤ 2 ^ 1700
theorem PapG.w {n : Nat} {wl : List Wt} {hl : List Hd3} {DP : Nat} {Z : List (Arc × Rat)} (h : PapG n wl hl DP Z) : PapW n wl hl DP Z := ⟨h.len, h.ok, h.d0, h.db⟩
section
variable {L : List Fn} {k : Nat} {S : Sto} {n DP : Nat} {wl : List Wt} {hl : List Hd3} {Z : List (Arc × Rat)}
end
end HP
namespace HP
open PySem L2
section
variable {L : List Fn} {k : Nat} {S : Sto} {n DP : Nat} {wl : List Wt} {hl : List Hd3} {Z : List (Arc × Rat)}
theorem ratio_q (x : Rat) : callN (Gof L) (k + 2) 88 [q x] S = .ok (.bl true) S := by
  have hx := x.den_pos
  have hg : (x.num.gcd (x.den : Int) : Nat) = 1 := x.reduced
  unfold q
  refine wp_eq (wp_def (fn := F_is_ratio) rfl rfl ?_)
  unfold F_is_ratio
  walk_at "hp0"
  walk_at "hys"
  refine wps_ite ?_
  walk_at "hy"
  refine wp_val (is_whole_ok rfl rfl) ?_
  walk_at "hy"
  refine wp_val (is_whole_ok rfl rfl) ?_
  walk_at "hy"
  refine wq_dec (fun c => ?_) (fun c => absurd (by show (0 : Int) < (x.den : Int); omega) c)
  walk_at "hy"
  refine wp_val (divG_ok rfl) ?_
  walk_at "hy"
  rw [hg]
  exact ⟨rfl, rfl⟩
end
end HP
namespace HP
open PySem L2
section
variable {L : List Fn} {k : Nat} {S : Sto} {n DP DD B : Nat} {wl : List Wt} {hl : List Hd3} {Z : List (Arc × Rat)} {ts : List Rat}
end
end HP
namespace HP
open PySem L2
section
variable {L : List Fn} {k : Nat} {S : Sto} {n DP DD : Nat} {wl : List Wt} {hl : List Hd3} {Z : List (Arc × Rat)} {ts : List Rat}
structure ClOk (ws : List Wk) (DP DD : Nat) (P R Ln : Rat) : Prop where
  p : ∃ E, E ≠ 0 ∧ DP * DD ∣ E ∧ E ≤ 2 ^ 5300 ∧ P.den ∣ E
  pv : V 3000 P
  r : R.den ∣ DP ∧ V 290 R
  l : ∃ E, E ≠ 0 ∧ DP * DD ∣ E ∧ E ≤ 2 ^ 3900 ∧ Ln.den ∣ E
  lv : V 3000 Ln
end
end HP
namespace HP
open PySem L2
section
variable {ts xs : List Rat} {wl : List Wt} {hl : List Hd3} {Z : List (Arc × Rat)} {DP n : Nat} {W : Rat}
end
end HP
namespace HP
open PySem L2
section
variable {L : List Fn} {k : Nat} {S : Sto} {n DP DD : Nat} {wl : List Wt} {hl : List Hd3} {Z : List (Arc × Rat)} {ts : List Rat}
end
section
variable {G : Tab} {k f : Nat} {S : Sto}
end
end HP
namespace HP
open PySem L2
section
variable {ws : List Wk} {wz : List (Nat × Nat)} {hz : List (Str × Nat)} {wl : List Wt} {hl : List Hd3} {pl : List (Rat × Rat)} {sl ml : List Rat}
end
section
variable {G : Tab} {k f : Nat} {S : Sto}
end
end HP
namespace HP
open PySem L2
section
variable {G : Tab} {k : Nat} {S : Sto}
end
end HP
namespace HP
open PySem L2
section
variable {G : Tab} {k f : Nat} {S : Sto}
end
end HP
namespace HP
open PySem L2
/-- a plan's numbers are small -/
structure PlSz (pl : List (Rat × Rat)) : Prop where
  z : ∀ p ∈ pl, Sz 2000 3000 p.1 ∧ Sz 1000 1000 p.2
theorem PlSz.at_ {pl : List (Rat × Rat)} (h : PlSz pl) {i : Nat} {p : Rat × Rat} (g : pl[i]? = some p) : Sz 2000 3000 (stF pl i) ∧ Sz 2001 4000 (enF pl i) ∧ stF pl i = p.1 ∧ enF pl i = p.1 + p.2 := by
  have := h.z p (List.mem_of_getElem? g)
  rw [st_get g, en_get g]
  exact ⟨this.1, (this.1.add this.2).mono (by decide) (by decide), rfl, rfl⟩
section
variable {L : List Fn} {k : Nat} {S : Sto} {ws : List Wk} {wl : List Wt} {hl : List Hd3} {pl : List (Rat × Rat)} {a b c e np : Nat}
end
end HP
namespace HP
open PySem L2
structure ClG (M DP DD : Nat) (P R Ln : Rat) : Prop where
  p : ∃ E, E ≠ 0 ∧ DP * DD ∣ E ∧ E ≤ 2 ^ M ∧ P.den ∣ E
  pv : V 3000 P
  r : R.den ∣ DP ∧ V 290 R
  l : ∃ E, E ≠ 0 ∧ DP * DD ∣ E ∧ E ≤ 2 ^ M ∧ Ln.den ∣ E
  lv : V 3000 Ln
section
variable {L : List Fn} {k : Nat} {S : Sto} {n DP DD : Nat} {wl : List Wt} {hl : List Hd3} {Z : List (Arc × Rat)} {ts : List Rat}
end
section
variable {ts xs : List Rat} {wl : List Wt} {hl : List Hd3} {P : List Arc} {n : Nat}
end
end HP
namespace HP
open PySem L2
section
variable {G : Tab} {k f : Nat} {S : Sto} {DD : Nat}
end
section
variable {L : List Fn} {k : Nat} {S : Sto}
end
end HP
namespace HP
open PySem L2
def mkS (cs : List Nat) : Str := ⟨cs.toArray⟩
/-- small letters, one to eight -/
structure LetL (cs : List Nat) : Prop where
  one : 1 ≤ cs.length
  eight : cs.length ≤ 8
  ab : ∀ c ∈ cs, 97 ≤ c ∧ c < 123
/-- names, no two alike -/
def Names (xs : List Str) : Prop := ∃ css : List (List Nat), xs = css.map mkS ∧ css.Nodup ∧ ∀ cs ∈ css, LetL cs
section
variable {G : Tab} {k f l : Nat} {S : Sto} {take : Nat}
end
end HP
namespace HP
open PySem L2
/-- what drawing names comes to -/
def NamesSpec (G : Tab) (f : Nat) : Prop := ∀ (k l many : Nat) (S : Sto), StAt l S → many ≤ 10 → Wp (callN G (k + 2) f [.loc l, .int many] S) fun d S' => StAt l S' ∧ Ag (· = l) S S' ∧ ∃ (n : Nat) (xs : List Str), d = .loc n ∧ S.length ≤ n ∧ S'[n]? = some (.lst (xs.map D.str)) ∧ xs.length = many ∧ Names xs
def WkLc (w : Wk) : Prop := ∀ p ∈ w.cs, p.1.den ∣ LC ∧ p.2.den ∣ LC * LC
/-- a group of works by steps with as many corners -/
structure GrOk (ws : List Wk) (g : List Int) : Prop where
  two : 2 ≤ g.length
  three : g.length ≤ 3
  nd : g.Nodup
  at_ : ∀ x ∈ g, (0 ≤ x ∧ x < ws.length) ∧ ∀ w, ws[x.toNat]? = some w → w.kd = ("steps" : Str) ∧ ∀ y w', y ∈ g → ws[y.toNat]? = some w' → w'.cs.length = w.cs.length
structure NetOk3 (ws : List Wk) (wa : List (Int × Int × Rat)) (ho : List (Str × Int × Rat)) (gr : List (Nat × List Int)) : Prop where
  one : 0 < ws.length
  ten : ws.length ≤ 10
  wk : ∀ w ∈ ws, WkOk w
  lc : ∀ w ∈ ws, WkLc w
  wal : wa.length ≤ 40
  was : ∀ w ∈ wa, 0 ≤ w.1 ∧ w.1 < ws.length ∧ 0 ≤ w.2.1 ∧ w.2.1 < ws.length ∧ w.1 ≠ w.2.1 ∧ V 60 w.2.2 ∧ w.2.2.den ∣ LC
  hol : ho.length ≤ 4
  hos : ∀ h ∈ ho, (h.1 = ("from" : Str) ∨ h.1 = ("till" : Str) ∨ h.1 = ("by" : Str)) ∧ 0 ≤ h.2.1 ∧ h.2.1 < ws.length ∧ V 110 h.2.2 ∧ h.2.2.den ∣ LC
  grl : gr.length ≤ 4
  grs : ∀ g ∈ gr, GrOk ws g.2
  grp : gr.Pairwise (fun g h => ∀ x ∈ g.2, x ∉ h.2)
  nms : Names (ws.map Wk.nm)
section
variable {G : Tab} {k f l : Nat} {S : Sto} {begun take low plus minus times amount offer names waits holds groups order lag : Nat}
end
end HP
namespace HP
open PySem L2
structure FN (G : Tab) : Prop where
  beg : G 1000 = some (K_begun 2147483587 104729 7)
  tak : G 1001 = some (K_take 39373 17 2147483587)
  low : G 1002 = some K_low
  plus : G 1003 = some (K_plus 1002)
  minus : G 1004 = some (K_minus 1002)
  times : G 1005 = some (K_times 1002)
  under : G 1006 = some K_under
  amount : G 1007 = some (K_amount 1001 1002)
  offer : G 1008 = some (K_offer 1001 1003 1004 1005 1007)
  nam : NamesSpec G 1009
  ord : G 1010 = some (K_order 1001)
  lag : G 1011 = some (K_lag 1001 1004 1007)
  wai : G 1012 = some (K_waits 1001 1003 1004 1007 1010 1011)
  hol : G 1013 = some (K_holds 1001 1003 1011)
  gro : G 1014 = some (K_groups 1001 1010)
  net : G 1015 = some (K_net 1000 1001 1003 1008 1009 1012 1013 1014)
theorem FN.take {G : Tab} (F : FN G) : Takes G 1001 := takes_A F.tak
structure NAtB (S : Sto) (n0 a b c e : Nat) (ws : List Wk) (wl : List Wt) (hl : List Hd3) (gr : List (Nat × List Nat)) : Prop where
  lo : n0 ≤ a ∧ n0 ≤ b ∧ n0 ≤ c ∧ n0 ≤ e
  a : S[a]? = some (.lst (ws.map wkD))
  b : S[b]? = some (.lst (wl.map waN))
  c : S[c]? = some (.lst (hl.map hoN))
  e : S[e]? = some (.lst (gr.map fun g => D.loc g.1))
  wk : ∀ w ∈ ws, n0 ≤ w.lc ∧ S[w.lc]? = some (.lst (w.cs.map pr))
  g : ∀ g ∈ gr, n0 ≤ g.1 ∧ S[g.1]? = some (.lst (g.2.map nD))
theorem NAtB.ag {P : Nat → Prop} {S S' : Sto} {n0 a b c e : Nat} {ws : List Wk} {wl : List Wt} {hl : List Hd3} {gr : List (Nat × List Nat)} (h : NAtB S n0 a b c e ws wl hl gr) (k : Ag P S S') (hp : ∀ i, P i → i < n0) : NAtB S' n0 a b c e ws wl hl gr := by
  have q : ∀ {i : Nat} {o : O}, n0 ≤ i → S[i]? = some o → S'[i]? = some o := fun hi ho => k.get ho (fun z => by have := hp _ z; omega)
  exact ⟨h.lo, q h.lo.1 h.a, q h.lo.2.1 h.b, q h.lo.2.2.1 h.c, q h.lo.2.2.2 h.e, fun w m => ⟨(h.wk w m).1, q (h.wk w m).1 (h.wk w m).2⟩, fun w m => ⟨(h.g w m).1, q (h.g w m).1 (h.g w m).2⟩⟩
structure GrN (ws : List Wk) (g : List Nat) : Prop where
  two : 2 ≤ g.length
  three : g.length ≤ 3
  nd : g.Nodup
  at_ : ∀ x ∈ g, x < ws.length ∧ ∀ w, ws[x]? = some w → w.kd = ("steps" : Str) ∧ ∀ y w', y ∈ g → ws[y]? = some w' → w'.cs.length = w.cs.length
structure NetB (ws : List Wk) (wl : List Wt) (hl : List Hd3) (gr : List (Nat × List Nat)) : Prop where
  one : 0 < ws.length
  ten : ws.length ≤ 10
  wk : ∀ w ∈ ws, WkOk w
  lc : ∀ w ∈ ws, WkLc w
  wal : wl.length ≤ 40
  wok : WOk wl ws.length
  was : ∀ w ∈ wl, V 60 w.2.2 ∧ w.2.2.den ∣ LC
  hol : hl.length ≤ 40
  hok : ∀ h ∈ hl, h.2.1 < ws.length ∧ (h.1 = ("from" : Str) ∨ h.1 = ("till" : Str) ∨ h.1 = ("by" : Str))
  hos : ∀ h ∈ hl, V 110 h.2.2 ∧ h.2.2.den ∣ LC
  grl : gr.length ≤ 4
  grs : ∀ g ∈ gr, GrN ws g.2
  grp : gr.Pairwise (fun g h => ∀ x ∈ g.2, x ∉ h.2)
  nms : Names (ws.map Wk.nm)
section
variable {G : Tab} {k f l : Nat} {S : Sto}
theorem Same.app : {ws vs : List Wk} → {w v : Wk} → Same ws vs → v.nm = w.nm ∧ v.kd = w.kd ∧ v.cs = w.cs → Same (ws ++ [w]) (vs ++ [v])
  | [], [], _, _, _, h => ⟨h, trivial⟩
  | w :: ws, v :: vs, _, _, h, k => ⟨h.1, Same.app (ws := ws) (vs := vs) h.2 k⟩
end
end HP
namespace HP
open PySem L2
section
variable {L : List Fn} {k : Nat} {S : Sto} {ws : List Wk} {pl : List (Rat × Rat)} {a b c e np : Nat} {gr : List (Nat × List Nat)}
end
end HP
namespace HP
open PySem L2
theorem mkS_inj {a b : List Nat} (h : mkS a = mkS b) : a = b := by
  have h2 := congrArg (fun s : Str => s.cps.toList) h
  exact h2
section
variable {L : List Fn} {k : Nat} {S : Sto}
theorem let_ok {cs : List Nat} (h : LetL cs) : PyData.strOk (mkS cs) = true := by
  have key : ∀ n : Fin 26, PyData.strOk ⟨#[97 + n.val]⟩ = true := by decide +kernel
  unfold PyData.strOk at *
  rw [← Array.all_toList, List.all_eq_true]
  intro c m
  have hc := h.ab c m
  have h1 := key ⟨c - 97, by omega⟩
  rw [show 97 + (⟨c - 97, by omega⟩ : Fin 26).val = c by show 97 + (c - 97) = c; omega] at h1
  rw [← Array.all_toList, List.all_eq_true] at h1
  exact h1 c List.mem_cons_self
theorem Names.ok {xs : List Str} (h : Names xs) : ∀ x ∈ xs, PyData.strOk x = true := by
  obtain ⟨css, rfl, _, hl⟩ := h
  intro x m
  obtain ⟨cs, mc, rfl⟩ := List.mem_map.1 m
  exact let_ok (hl cs mc)
theorem Names.nodup {xs : List Str} (h : Names xs) : xs.Nodup := by
  obtain ⟨css, rfl, hn, _⟩ := h
  unfold List.Nodup at *
  rw [List.pairwise_map]
  exact hn.imp fun k e => k (mkS_inj e)
theorem look_at_list_ok {w : Str} {n : Nat} {ds : List D} {lo hi : Int} (h : S[n]? = some (.lst ds)) (h1 : lo ≤ ds.length) (h2 : (ds.length : Int) ≤ hi) : callN (Gof L) (k + 1) 116 [.str w, .loc n, .int lo, .int hi] S = .ok .non S := by
  refine wp_eq (wp_def (fn := F_look_at_list) rfl rfl ?_)
  unfold F_look_at_list
  walk_at "hp0"
  have hty := ty_loc h
  walk_at "hys"
  refine wps_ite ?_
  walk_at "hy"
  refine wq_et (decide_eq_true h1) ?_
  walk_at "hy"
  refine wq_ef (by rw [decide_eq_true h2]; rfl) ?_
  walk_at "hy"
  exact ⟨rfl, rfl⟩
abbrev OkC (p : Rat × Rat) : Prop := Sz 200 200 p.1 ∧ Sz 600 1300 p.2
/-- a work of a net that look_at_net lets by -/
structure WkL (S : Sto) (w : Wk) : Prop where
  kd : w.kd = ("straight" : Str) ∨ w.kd = ("steps" : Str)
  good : Good (decide (w.kd = ("straight" : Str))) w.cs
  len : w.cs.length ≤ 5
  sz : ∀ p ∈ w.cs, OkC p
  at_ : S[w.lc]? = some (.lst (w.cs.map pr))
theorem WkL.ag {S T : Sto} {w : Wk} (h : WkL S w) (a : Ag (fun _ => False) S T) : WkL T w := ⟨h.kd, h.good, h.len, h.sz, a.get h.at_ id⟩
theorem inD_hkinds {x : Str} (h : x = ("from" : Str) ∨ x = ("till" : Str) ∨ x = ("by" : Str)) : inD S (.str x) (.tup [(.str "from"), (.str "till"), (.str "by")]) = some true := by
  have e : ∀ x : Str, inD S (.str x) (.tup [(.str "from"), (.str "till"), (.str "by")]) = inD [] (.str x) (.tup [(.str "from"), (.str "till"), (.str "by")]) := fun _ => rfl
  rw [e]
  rcases h with rfl | rfl | rfl <;> decide +kernel
end
end HP
namespace HP
open PySem L2
section
variable {L : List Fn} {k : Nat} {S : Sto}
theorem is_number_of_ok {i m : Nat} (h : i < m) : callN (Gof L) (k + 2) 80 [.int (i : Nat), .int (m : Nat)] S = .ok (.bl true) S := by
  refine wp_eq (wp_def (fn := F_is_number_of) rfl rfl ?_)
  unfold F_is_number_of
  walk_at "hp0"
  walk_at "hy"
  refine wp_val (is_whole_ok rfl rfl) ?_
  walk_at "hy"
  rw [decide_eq_true (show ((i : Nat) : Int) < ((m : Nat) : Int) by omega)]
  exact ⟨rfl, rfl⟩
theorem look_at_holds_ok {n m : Nat} {hl : List Hd3} (h : S[n]? = some (.lst (hl.map hoN))) (h2 : hl.length ≤ 40) (hh : ∀ h ∈ hl, h.2.1 < m ∧ (h.1 = ("from" : Str) ∨ h.1 = ("till" : Str) ∨ h.1 = ("by" : Str))) :
    callN (Gof L) (k + 3) 115 [.loc n, .int (m : Nat)] S = .ok .non S := by
  refine wp_eq (wp_def (fn := F_look_at_holds) rfl rfl ?_)
  unfold F_look_at_holds
  walk_at "hp0"
  walk_at "hys"
  refine wp_val (look_at_list_ok h (by rw [List.length_map]; omega) (by rw [List.length_map]; omega)) ?_
  walk_at "hys"
  refine ⟨_, itLst_loc h, ?_⟩
  refine forE_inv (fun i r T => T = S ∧ ∃ z2 z3, r = [some (.loc n), some (.int (m : Nat)), z2, z3]) ⟨rfl, none, none, rfl⟩ (fun i r T _ hh => by rw [hh.1]; exact still1 h) ?_ ?_
  · rintro i d r T hd ⟨rfl, z2, z3, rfl⟩
    obtain ⟨ed, hd2, rfl⟩ := enmL_get hd
    rw [List.getElem?_map, Option.map_eq_some_iff] at hd2
    obtain ⟨w, gw, rfl⟩ := hd2
    obtain ⟨w1, w2⟩ := hh w (List.mem_of_getElem? gw)
    unfold hoN
    refine ⟨_, rfl, ?_⟩
    walk_at "hys"
    refine wps_ite ?_
    walk_at "hy"
    refine wc_nin (inD_hkinds w2) ?_
    walk_at "hy"
    refine wp_val (is_number_of_ok w1) ?_
    walk_at "hy"
    refine wp_val (ratio_q _) ?_
    walk_at "hys"
    exact ⟨rfl, _, _, rfl⟩
  · rintro r T ⟨rfl, z2, z3, rfl⟩
    walk_at "hys"
    exact ⟨rfl, rfl⟩
/-- a group that look_at_net lets by, with none of the taken -/
structure GrL (ws : List Wk) (ys g : List Nat) : Prop where
  two : 2 ≤ g.length
  most : g.length ≤ 30
  nd : g.Nodup
  new : ∀ x ∈ g, x ∉ ys
  at_ : ∀ x ∈ g, x < ws.length ∧ ∀ w, ws[x]? = some w → w.kd = ("steps" : Str) ∧ ∀ y w', y ∈ g → ws[y]? = some w' → w'.cs.length = w.cs.length
/-- groups that look_at_net lets by -/
structure GrsL (ws : List Wk) (gr : List (Nat × List Nat)) : Prop where
  four : gr.length ≤ 4
  g : ∀ g ∈ gr, GrL ws [] g.2
  dis : gr.Pairwise fun g h => ∀ x ∈ g.2, x ∉ h.2
/-- a net that look_at_net lets by -/
structure NetL (S : Sto) (a b c e : Nat) (ws : List Wk) (wl : List Wt) (hl : List Hd3) (gr : List (Nat × List Nat)) : Prop where
  a : S[a]? = some (.lst (ws.map wkD))
  b : S[b]? = some (.lst (wl.map waN))
  c : S[c]? = some (.lst (hl.map hoN))
  e : S[e]? = some (.lst (gr.map fun g => D.loc g.1))
  one : 1 ≤ ws.length
  ten : ws.length ≤ 10
  nms : Names (ws.map Wk.nm)
  wk : ∀ w ∈ ws, WkL S w
  wal : wl.length ≤ 40
  wok : WOk wl ws.length
  hol : hl.length ≤ 40
  hok : ∀ h ∈ hl, h.2.1 < ws.length ∧ (h.1 = ("from" : Str) ∨ h.1 = ("till" : Str) ∨ h.1 = ("by" : Str))
  g : ∀ g ∈ gr, S[g.1]? = some (.lst (g.2.map nD))
  grs : GrsL ws gr
end
end HP
namespace HP
open PySem L2
/-- the stack, its top first -/
def popS : List (Rat × Rat) → Rat × Rat → List (Rat × Rat)
  | b :: a :: r, c => if rateB a b < rateB b c then b :: a :: r else popS (a :: r) c
  | s, _ => s
def smR (cs : List (Rat × Rat)) : List (Rat × Rat) := cs.foldl (fun s c => c :: popS s c) []
def smF (cs : List (Rat × Rat)) : List (Rat × Rat) := (smR cs).reverse
def CvxS : List (Rat × Rat) → Prop
  | c :: b :: a :: r => rateB a b < rateB b c ∧ CvxS (b :: a :: r)
  | _ => True
def AbvS : List (Rat × Rat) → List (Rat × Rat) → Prop
  | b :: a :: r, pts => (∀ p ∈ pts, b.1 ≤ p.1 → p.1 ≤ a.1 → a.2 + rateB a b * (a.1 - p.1) ≤ p.2) ∧ AbvS (a :: r) pts
  | _, _ => True
/-- what the stack is -/
structure Sm (pts s : List (Rat × Rat)) : Prop where
  sub : s.Sublist pts.reverse
  top : s.head? = pts.getLast?
  bot : s.getLast? = pts.head?
  cvx : CvxS s
  abv : AbvS s pts
/-- what is told of smoothed corners -/
structure Smo (cs left : List (Rat × Rat)) : Prop where
  sub : left.Sublist cs
  fst : left.head? = cs.head?
  lst : left.getLast? = cs.getLast?
  hol : ∀ (i : Nat) (a b c : Rat × Rat), left[i]? = some a → left[i + 1]? = some b → left[i + 2]? = some c → rateB a b < rateB b c
  abv : ∀ (i : Nat) (a b : Rat × Rat), left[i]? = some a → left[i + 1]? = some b → ∀ p ∈ cs, b.1 ≤ p.1 → p.1 ≤ a.1 → a.2 + rateB a b * (a.1 - p.1) ≤ p.2
section
variable {L : List Fn} {k : Nat} {S : Sto} {l : Nat}
/-- a work smoothed, its corners anew -/
def SmW (w v : Wk) : Prop := v.nm = w.nm ∧ v.kd = ("straight" : Str) ∧ v.cs = smF w.cs
end
end HP
namespace HP
open PySem L2
structure WkP (w : Wk) : Prop where
  kd : w.kd = ("straight" : Str) ∨ w.kd = ("steps" : Str)
  good : Good (decide (w.kd = ("straight" : Str))) w.cs
  len : w.cs.length ≤ 5
  sz : ∀ p ∈ w.cs, OkC p
theorem WkP.at_ {S : Sto} {w : Wk} (h : WkP w) (a : S[w.lc]? = some (.lst (w.cs.map pr))) : WkL S w := ⟨h.kd, h.good, h.len, h.sz, a⟩
structure NetP (ws : List Wk) (wl : List Wt) (hl : List Hd3) (gr : List (Nat × List Nat)) : Prop where
  one : 1 ≤ ws.length
  ten : ws.length ≤ 10
  nms : Names (ws.map Wk.nm)
  wk : ∀ w ∈ ws, WkP w
  wal : wl.length ≤ 40
  wok : WOk wl ws.length
  hol : hl.length ≤ 40
  hok : ∀ h ∈ hl, h.2.1 < ws.length ∧ (h.1 = ("from" : Str) ∨ h.1 = ("till" : Str) ∨ h.1 = ("by" : Str))
  grs : GrsL ws gr
theorem Same.nms : {ws vs : List Wk} → Same ws vs → vs.map Wk.nm = ws.map Wk.nm
  | [], [], _ => rfl
  | w :: ws, v :: vs, h => by rw [List.map_cons, List.map_cons, h.1.1, Same.nms (ws := ws) (vs := vs) h.2]
/-- a net smoothed, its lists -/
structure SmAt (S : Sto) (a b c e : Nat) (ws vs : List Wk) (wl : List Wt) (hl : List Hd3) : Prop where
  a : S[a]? = some (.lst (vs.map wkD))
  b : S[b]? = some (.lst (wl.map waN))
  c : S[c]? = some (.lst (hl.map hoN))
  e : S[e]? = some (.lst [])
  len : vs.length = ws.length
  sm : ∀ (i : Nat) (w v : Wk), ws[i]? = some w → vs[i]? = some v → SmW w v
  wk : ∀ v ∈ vs, S[v.lc]? = some (.lst (v.cs.map pr))
theorem SmAt.ag {S T : Sto} {a b c e : Nat} {ws vs : List Wk} {wl : List Wt} {hl : List Hd3} (h : SmAt S a b c e ws vs wl hl) (k : Ag (fun _ => False) S T) : SmAt T a b c e ws vs wl hl :=
  ⟨k.get h.a id, k.get h.b id, k.get h.c id, k.get h.e id, h.len, h.sm, fun v m => k.get (h.wk v m) id⟩
end HP
namespace HP
open PySem L2
/-- at most m on either side -/
def Bd (m : Nat) (x : Rat) : Prop := x.num.natAbs ≤ m * x.den
theorem Bd_iff {m : Nat} {x : Rat} : Bd m x ↔ -(m : Rat) ≤ x ∧ x ≤ m := by
  rw [Rat.le_iff, Rat.le_iff]
  simp only [Rat.num_natCast, Rat.den_natCast, Rat.neg_num, Rat.neg_den]
  unfold Bd
  have e : (m : Int) * (x.den : Int) = ((m * x.den : Nat) : Int) := (Int.natCast_mul _ _).symm
  rw [Int.neg_mul, e]
  omega
theorem Bd.add {m n : Nat} {x y : Rat} (h : Bd m x) (k : Bd n y) : Bd (m + n) (x + y) := by
  rw [Bd_iff] at *
  rw [Rat.natCast_add]
  constructor <;> grind
theorem Bd.mono {m n : Nat} {x : Rat} (h : Bd m x) (k : m ≤ n) : Bd n x := Nat.le_trans h (Nat.mul_le_mul_right _ k)
theorem Bd.of {a : Nat} {x : Rat} (h : V a x) : Bd (2 ^ a) x := h
def Bc (c : Nat) : Nat := 2 ^ 111 + c * 2 ^ 105
/-- starts: all so many, bounded, with such bottoms -/
structure StL (DD : Nat) (ts xs : List Rat) (c : Nat) : Prop where
  len : xs.length = ts.length
  z : ∀ x ∈ xs, Bd (Bc c) x ∧ x.den ∣ DD
theorem StL.set {DD : Nat} {ts xs : List Rat} {c i : Nat} {y : Rat} (h : StL DD ts xs c) (h1 : Bd (Bc c) y) (h2 : y.den ∣ DD) : StL DD ts (xs.set i y) c := ⟨by rw [List.length_set]; exact h.len, fun x m => (List.mem_or_eq_of_mem_set m).elim (h.z x) fun e => e ▸ ⟨h1, h2⟩⟩
theorem StL.more {DD : Nat} {ts xs : List Rat} {c c' : Nat} (h : StL DD ts xs c) (k : c ≤ c') : StL DD ts xs c' := ⟨h.len, fun x m => ⟨(h.z x m).1.mono (Nat.add_le_add_left (Nat.mul_le_mul_right _ k) _), (h.z x m).2⟩⟩
section
variable {G : Tab} {k f : Nat} {S : Sto}
end
end HP
namespace HP
open PySem L2
/-- a net that first_broken reads -/
structure NB (ws : List Wk) (wl : List Wt) (hl : List Hd3) : Prop where
  len : ws.length ≤ 100
  wk : ∀ w ∈ ws, w.cs ≠ [] ∧ w.cs.length < 100 ∧ ∀ p ∈ w.cs, Ok2 p
  wz : ∀ z ∈ wl, Sz 2000 3000 z.2.2
  wok : WOk wl ws.length
  wn : wl.length ≤ 100
  hz : ∀ h ∈ hl, Sz 2000 3000 h.2.2
  hok : ∀ h ∈ hl, h.2.1 < ws.length
  hn : hl.length ≤ 100
section
variable {L : List Fn} {k : Nat} {S : Sto} {a b c e np : Nat} {ws : List Wk} {wl : List Wt} {hl : List Hd3} {pl : List (Rat × Rat)} {u : Rat} {n0 : Nat} {gr : List (Nat × List Nat)}
end
end HP
namespace HP
open PySem L2
section
variable {G : Tab} {k f l : Nat} {S : Sto} {begun take low plus minus times amount offer names waits holds groups order lag : Nat}
end
end HP
namespace HP
open PySem L2
inductive Chg
  | offer (i : Nat) (kd : Str) (n : Nat) (cs : List (Rat × Rat))
  | lag (i : Nat) (x : Rat)
  | moment (i : Nat) (x : Rat)
  | work (w : Wk)
  | wait (w : Wt)
  | hold (h : Hd3)
  | group (n : Nat) (g : List Nat)
  | unwait (i : Nat)
  | unhold (i : Nat)
  | ungroup (i : Nat)
  | gone (i : Nat)
/-- its number is one of the net's -/
def ChIn (nw nb nh ng : Nat) : Chg → Prop
  | .offer i _ _ _ => i < nw
  | .lag i _ => i < nb
  | .moment i _ => i < nh
  | .unwait i => i < nb
  | .unhold i => i < nh
  | .ungroup i => i < ng
  | .gone i => i < nw
  | _ => True
/-- its lists -/
def ChAt (S : Sto) : Chg → Prop
  | .offer _ _ n cs => S[n]? = some (.lst (cs.map pr))
  | .work w => S[w.lc]? = some (.lst (w.cs.map pr))
  | .group n g => S[n]? = some (.lst (g.map nD))
  | _ => True
theorem ChAt.ag {S T : Sto} {ch : Chg} (h : ChAt S ch) (k : Ag (fun _ => False) S T) : ChAt T ch := by
  cases ch <;> first | exact k.get h id | trivial
def lowN (x g : Nat) : Nat := if g < x then x - 1 else x
def lowG (g : Nat) (xs : List Nat) : List Nat := (xs.filter fun x => decide (x ≠ g)).map fun x => lowN x g
/-- a net's lists -/
structure NetS (S : Sto) (a b c e : Nat) (ws : List Wk) (wl : List Wt) (hl : List Hd3) (gr : List (Nat × List Nat)) : Prop where
  a : S[a]? = some (.lst (ws.map wkD))
  b : S[b]? = some (.lst (wl.map waN))
  c : S[c]? = some (.lst (hl.map hoN))
  e : S[e]? = some (.lst (gr.map fun g => D.loc g.1))
  wk : ∀ w ∈ ws, S[w.lc]? = some (.lst (w.cs.map pr))
  g : ∀ g ∈ gr, S[g.1]? = some (.lst (g.2.map nD))
theorem NetS.ag {S T : Sto} {a b c e : Nat} {ws : List Wk} {wl : List Wt} {hl : List Hd3} {gr : List (Nat × List Nat)} (h : NetS S a b c e ws wl hl gr) (k : Ag (fun _ => False) S T) : NetS T a b c e ws wl hl gr :=
  ⟨k.get h.a id, k.get h.b id, k.get h.c id, k.get h.e id, fun w m => k.get (h.wk w m) id, fun g m => k.get (h.g g m) id⟩
section
variable {L : List Fn} {k : Nat} {S : Sto}
end 
end HP
namespace HP
open PySem L2
theorem erase_low {A : Type} {xs : List A} {i x : Nat} (h : x ≠ i) : (xs.eraseIdx i)[lowN x i]? = xs[x]? := by
  unfold lowN
  by_cases c : i < x
  · rw [if_pos c, List.getElem?_eraseIdx, if_neg (by omega)]
    congr 1
    omega
  · rw [if_neg c, List.getElem?_eraseIdx, if_pos (by omega)]
theorem low_lt {x i n : Nat} (h : x ≠ i) (hx : x < n) (hi : i < n) : lowN x i < n - 1 := by
  unfold lowN
  split <;> omega
theorem low_inj {x y i : Nat} (hx : x ≠ i) (hy : y ≠ i) (e : lowN x i = lowN y i) : x = y := by
  unfold lowN at e
  split at e <;> split at e <;> omega
theorem Names.sub {xs ys : List Str} (h : Names xs) (k : ys.Sublist xs) : Names ys := by
  obtain ⟨css, rfl, nd, hc⟩ := h
  obtain ⟨zs, hz, rfl⟩ := List.sublist_map_iff.1 k
  exact ⟨zs, rfl, hz.nodup nd, fun c m => hc c (hz.subset m)⟩
theorem mem_lowG {g y : Nat} {xs : List Nat} : y ∈ lowG g xs ↔ ∃ x ∈ xs, x ≠ g ∧ lowN x g = y := by
  unfold lowG
  simp only [List.mem_map, List.mem_filter, decide_eq_true_eq]
  constructor
  · rintro ⟨x, ⟨h1, h2⟩, h3⟩; exact ⟨x, h1, h2, h3⟩
  · rintro ⟨x, h1, h2, h3⟩; exact ⟨x, ⟨h1, h2⟩, h3⟩
theorem lowG_nd {g : Nat} {xs : List Nat} (h : xs.Nodup) : (lowG g xs).Nodup := by
  unfold lowG
  unfold List.Nodup
  rw [List.pairwise_map]
  refine List.Pairwise.imp_of_mem (fun {x y} hx hy hne e => hne ?_) (h.filter _)
  exact low_inj (of_decide_eq_true (List.mem_filter.1 hx).2) (of_decide_eq_true (List.mem_filter.1 hy).2) e
/-- a change that leaves a net -/
def ChOk (ws : List Wk) (wl : List Wt) (hl : List Hd3) (gr : List (Nat × List Nat)) : Chg → Prop
  | .offer i kd n cs => i < ws.length ∧ WkP ⟨default, kd, n, cs⟩ ∧ ∀ g ∈ gr, i ∉ g.2
  | .lag i _ => i < wl.length
  | .moment i _ => i < hl.length
  | .work w => WkP w ∧ ws.length < 10 ∧ Names (ws.map Wk.nm ++ [w.nm])
  | .wait w => w.1 < ws.length ∧ w.2.1 < ws.length ∧ w.1 ≠ w.2.1 ∧ wl.length < 40
  | .hold h => h.2.1 < ws.length ∧ (h.1 = ("from" : Str) ∨ h.1 = ("till" : Str) ∨ h.1 = ("by" : Str)) ∧ hl.length < 40
  | .group _ g => gr.length < 4 ∧ GrL ws [] g ∧ ∀ h ∈ gr, ∀ x ∈ h.2, x ∉ g
  | .unwait i => i < wl.length
  | .unhold i => i < hl.length
  | .ungroup i => i < gr.length
  | .gone i => i < ws.length ∧ 1 < ws.length
theorem ChOk.inn {ws : List Wk} {wl : List Wt} {hl : List Hd3} {gr : List (Nat × List Nat)} {ch : Chg} (h : ChOk ws wl hl gr ch) : ChIn ws.length wl.length hl.length gr.length ch := by
  cases ch <;> first | exact h | exact h.1 | trivial
section
variable {ws : List Wk} {wl : List Wt} {hl : List Hd3} {gr gs : List (Nat × List Nat)}
theorem GrL.ext {vs : List Wk} {ys g : List Nat} (k : GrL ws ys g) (h : ∀ x ∈ g, vs[x]? = ws[x]? ∧ x < vs.length) : GrL vs ys g :=
  ⟨k.two, k.most, k.nd, k.new, fun x m => ⟨(h x m).2, fun w gw => by
    rw [(h x m).1] at gw
    obtain ⟨q1, q2⟩ := (k.at_ x m).2 w gw
    exact ⟨q1, fun y w' my gw' => q2 y w' my (by rw [← (h y my).1]; exact gw')⟩⟩⟩
theorem GrL.low {i : Nat} {g : List Nat} (k : GrL ws [] g) (hi : i < ws.length) (h2 : 1 < (lowG i g).length) : GrL (ws.eraseIdx i) [] (lowG i g) := by
  refine ⟨by omega, ?_, lowG_nd k.nd, (fun _ _ m => nomatch m), fun y m => ?_⟩
  · have := List.length_filter_le (fun x => decide (x ≠ i)) g
    have := k.most
    unfold lowG
    rw [List.length_map]
    omega
  · obtain ⟨x, mx, hx, rfl⟩ := mem_lowG.1 m
    obtain ⟨q0, q1⟩ := k.at_ x mx
    refine ⟨by rw [List.length_eraseIdx, if_pos hi]; exact low_lt hx q0 hi, fun w gw => ?_⟩
    rw [erase_low hx] at gw
    obtain ⟨q2, q3⟩ := q1 w gw
    refine ⟨q2, fun y w' my gw' => ?_⟩
    obtain ⟨x', mx', hx', rfl⟩ := mem_lowG.1 my
    rw [erase_low hx'] at gw'
    exact q3 x' w' mx' gw'
end
end HP
namespace HP
open PySem L2
section
variable {L : List Fn} {k : Nat} {S : Sto}
end
end HP
namespace HP
open PySem L2
section
variable {L : List Fn} {k : Nat} {S : Sto}
end
end HP
namespace HP
open PySem L2
section
variable {L : List Fn} {k : Nat} {S : Sto}
end
end HP
namespace HP
open PySem L2
section
variable {L : List Fn} {k : Nat} {S : Sto}
end
end HP
namespace HP
open PySem L2
def ltr (i : Nat) : Nat := ("hcjafdibge" : Str).cps.toList.getD i 0
def NmS (m : Nat) (ws : List Wk) : Prop := ∀ (j : Nat) (w : Wk), ws[j]? = some w → w.nm = mkS (List.replicate m (ltr j))
theorem NmS.app {m : Nat} {ws : List Wk} {nm kind : Str} {nc : Nat} {cs : List (Rat × Rat)} (h : NmS m ws) (e : nm = mkS (List.replicate m (ltr ws.length))) : NmS m (ws ++ [⟨nm, kind, nc, cs⟩]) := fun j w hw => by
  rcases app1_get hw with hw | ⟨ej, rfl⟩
  · exact h j w hw
  · rw [ej]; exact e
section
variable {G : Tab} {k : Nat} {S : Sto}
end
section
variable {G : Tab} {k f : Nat} {S : Sto}
end
end HP
namespace HP
open PySem L2
section
variable {G : Tab} {k : Nat} {S : Sto} {n DP : Nat} {wl : List Wt} {hl : List Hd3} {Z : List (Arc × Rat)}
end
end HP
namespace HP
open PySem L2
/-- a thing that is no share, i a work -/
inductive OddD (S : Sto) (n : Nat) : D → Prop
  | non : OddD S n .non
  | zero (i : Nat) : i < n → OddD S n (.tup [.tup [.str "end", .int (i : Nat)], q 0])
  | neg : OddD S n (.tup [.tup [.str "end", .int (-1)], q 1])
  | far : OddD S n (.tup [.tup [.str "wait", .int 40], q 1])
  | arc (i : Nat) : OddD S n (.tup [.str "end", .int (i : Nat)])
  | lst (l : Nat) (ds : List D) : S[l]? = some (.lst ds) → OddD S n (.loc l)
theorem OddD.ag {S T : Sto} {n : Nat} {d : D} (h : OddD S n d) (g : Ag (fun _ => False) S T) : OddD T n d := by
  cases h with
  | non => exact .non
  | zero i h => exact .zero i h
  | neg => exact .neg
  | far => exact .far
  | arc i => exact .arc i
  | lst l ds h => exact .lst l ds (g.get h id)
section
variable {L : List Fn} {k : Nat} {S : Sto} {n DP : Nat} {wl : List Wt} {hl : List Hd3} {Z : List (Arc × Rat)}
end
end HP
namespace HP
open PySem L2
section
variable {L : List Fn} {k : Nat} {S : Sto} {n DP : Nat} {wl : List Wt} {hl : List Hd3} {Z : List (Arc × Rat)}
end
end HP
namespace HP
open PySem L2
/-- a thing that is no paper, and what is due -/
inductive BadT (S : Sto) (n : Nat) (Z : List (Arc × Rat)) : D → D → Prop
  | no (d : D) : (tyD S d = some .non ∨ tyD S d = some .int ∨ tyD S d = some .tuple ∨ tyD S d = some .dict) → noExc d = true → BadT S n Z d (.tup [.str "paper", .non])
  | thing (np j : Nat) (ts : List D) (od : D) : S[np]? = some (.lst ts) → (∀ i, i < j → ts[i]? = (Z[i]?).map saD) → j ≤ Z.length → ts[j]? = some od → (OddD S n od ∨ ∃ z ∈ Z.take j, od = saD z) → BadT S n Z (.loc np) (.tup [.str "paper", .int (j : Nat)])
  | work (np i : Nat) (am : Rat) : S[np]? = some (.lst ((Z ++ [(Arc.start i, am)]).map saD)) → i < n → (∀ z ∈ Z, z.1 ≠ Arc.start i) → 0 < am → Sz 40 6 am → BadT S n Z (.loc np) (.tup [.str "work", .int (i : Nat)])
section
variable {G : Tab} {k : Nat} {S : Sto} {n : Nat} {Z : List (Arc × Rat)}
end
end HP
namespace HP
open PySem L2
section
variable {c : Call} {r : Ev} {S : Sto} {Q : D → Sto → Prop}
variable {nx : Ev → Sto → Prop} {rt : D → Sto → Prop} {bk ct : Ev → Sto → Prop} {ex : Xn → Ev → Sto → Prop}
end
/-- what is due of a refusal: its word and its number, work or nothing -/
inductive DueD : Xn → D → Prop
  | non : DueD ⟨4, [("number", .non)]⟩ (.tup [.str "paper", .non])
  | num (j : Nat) : DueD ⟨4, [("number", .int (j : Nat))]⟩ (.tup [.str "paper", .int (j : Nat)])
  | work (j : Nat) : DueD ⟨5, [("work", .int (j : Nat))]⟩ (.tup [.str "work", .int (j : Nat)])
section
variable {G : Tab} {k : Nat} {S : Sto}
end
end HP
namespace HP
open PySem L2
theorem BadT.ne {S : Sto} {n : Nat} {Z : List (Arc × Rat)} {th due : D} (B : BadT S n Z th due) : noExc th = true := by
  cases B with
  | no d h1 h2 => exact h2
  | thing => rfl
  | work => rfl
section
variable {L : List Fn} {k n DP : Nat} {S : Sto} {wl : List Wt} {hl : List Hd3} {Z : List (Arc × Rat)}
end
section
variable {G : Tab} {k self : Nat} {S : Sto}
end
end HP
namespace HP
open PySem L2
section
variable {G : Tab} {k f : Nat} {S : Sto}
end
end HP
namespace HP
open PySem L2
section
variable {c : Call} {r : Ev} {S : Sto}
variable {nx : Ev → Sto → Prop} {rt : D → Sto → Prop} {bk ct : Ev → Sto → Prop} {ex : Xn → Ev → Sto → Prop}
end
section
variable {G : Tab} {k : Nat} {S : Sto}
end
section
variable {L : List Fn} {k n DP : Nat} {S : Sto} {wl : List Wt} {hl : List Hd3} {Z : List (Arc × Rat)}
end
section
variable {G : Tab} {k f self : Nat} {S : Sto}
end
end HP
namespace HP
open PySem L2
section
variable {ts xs : List Rat} {wl : List Wt} {hl : List Hd3} {Z : List (Arc × Rat)} {DP n : Nat} {W : Rat}
end
section
variable {wl : List Wt} {hl : List Hd3} {Z : List (Arc × Rat)} {DP n : Nat} {W : Rat} {ws : List Wk} {pl : List (Rat × Rat)}
end
end HP
namespace HP
open PySem L2
section
variable {c : Call} {r : Ev} {S : Sto}
end
end HP
namespace HP
open PySem L2
section
end
section
variable {ws : List Wk} {wl : List Wt} {hl : List Hd3} {gr : List (Nat × List Nat)} {ch : Chg} {n DP : Nat} {Z : List (Arc × Rat)}
end
end HP
namespace HP
open PySem L2
def ltr5 (i : Nat) : Nat := ("dbeca" : Str).cps.toList.getD i 0
def NmS5 (m : Nat) (ws : List Wk) : Prop := ∀ (j : Nat) (w : Wk), ws[j]? = some w → w.nm = mkS (List.replicate m (ltr5 j))
theorem NmS5.app {m : Nat} {ws : List Wk} {nm kind : Str} {nc : Nat} {cs : List (Rat × Rat)} (h : NmS5 m ws) (e : nm = mkS (List.replicate m (ltr5 ws.length))) : NmS5 m (ws ++ [⟨nm, kind, nc, cs⟩]) := fun j w hw => by
  rcases app1_get hw with hw | ⟨ej, rfl⟩
  · exact h j w hw
  · rw [ej]; exact e
section
variable {G : Tab} {k : Nat} {S : Sto}
end
section
variable {G : Tab} {k f : Nat} {S : Sto}
end
end HP
namespace HP
open PySem L2
/-- a group's numbers -/
structure GrI (n : Nat) (g : List Nat) : Prop where
  two : 2 ≤ g.length
  most : g.length ≤ 30
  nd : g.Nodup
  lt : ∀ x ∈ g, x < n
/-- what a change makes, perhaps no net -/
structure NetQ (ws : List Wk) (wl : List Wt) (hl : List Hd3) (gs : List (List Nat)) : Prop where
  ten : ws.length ≤ 11
  nms : Names (ws.map Wk.nm)
  wk : ∀ w ∈ ws, WkP w
  wal : wl.length ≤ 41
  wok : WOk wl ws.length
  hol : hl.length ≤ 41
  hok : ∀ h ∈ hl, h.2.1 < ws.length ∧ (h.1 = ("from" : Str) ∨ h.1 = ("till" : Str) ∨ h.1 = ("by" : Str))
  grl : gs.length ≤ 5
  grs : ∀ g ∈ gs, GrI ws.length g
section
variable {L : List Fn} {k : Nat} {S : Sto}
end
section
variable {L : List Fn} {k : Nat} {S : Sto} {ws : List Wk} {wl : List Wt} {hl : List Hd3} {gr : List (Nat × List Nat)}
end
end HP
namespace HP
open PySem L2
section
variable {c : Call} {r : Ev} {S : Sto}
end
section
variable {L : List Fn} {k : Nat} {S : Sto} {ws : List Wk} {wl : List Wt} {hl : List Hd3} {gr : List (Nat × List Nat)} {ch : Chg}
end
end HP
namespace HP
open PySem L2
section
variable {L : List Fn} {k : Nat} {S : Sto}
end
end HP
namespace HP
open PySem L2
open PyData in
/-- what may be shown: no dict, depth, length -/
def Shn (k B : Nat) (x : PyData) : Prop := x.showable = true ∧ x.hasDict = false ∧ x.depth ≤ k ∧ x.shown.length ≤ B
theorem Shn.mono {k k' B B' : Nat} {x : PyData} (h : Shn k B x) (h1 : k ≤ k') (h2 : B ≤ B') : Shn k' B' x := ⟨h.1, h.2.1, Nat.le_trans h.2.2.1 h1, Nat.le_trans h.2.2.2 h2⟩
theorem shn_int {i : Int} (h : i.natAbs < 2 ^ 1920) : Shn 0 1921 (.int i) := by
  have e : i.natAbs.log2 < 1920 := by
    by_cases z : i.natAbs = 0
    · rw [z]; exact Nat.lt_of_lt_of_eq (show Nat.log2 0 < 1920 by decide) rfl
    · exact (Nat.log2_lt z).mpr h
  refine ⟨by simp only [PyData.showable, decide_eq_true_eq]; exact e, by simp only [PyData.hasDict], by simp only [PyData.depth]; exact Nat.le_refl _, ?_⟩
  have e2 := int_text_length_le (k := 1920) (by decide) e
  show (Str.ofString (toString i)).length ≤ _
  rw [ofString_length]
  exact e2
theorem shnAll {k B n : Nat} : {xs : List PyData} → (∀ x ∈ xs, Shn k B x) → PyData.showableAll xs = true ∧ PyData.hasDictAll xs = false ∧ PyData.depthAll xs ≤ k ∧ ((PyData.shownAll xs).map (·.length)).sum ≤ xs.length * B ∧ (PyData.shownAll xs).length = xs.length
  | [], _ => ⟨by simp only [PyData.showableAll], by simp only [PyData.hasDictAll], by simp only [PyData.depthAll]; exact Nat.zero_le _, by simp [PyData.shownAll], by simp [PyData.shownAll]⟩
  | x :: xs, h => by
    obtain ⟨a1, a2, a3, a4⟩ := h x (List.mem_cons_self ..)
    obtain ⟨b1, b2, b3, b4, b5⟩ := shnAll (n := n) (xs := xs) fun y hy => h y (List.mem_cons_of_mem _ hy)
    refine ⟨by simp only [PyData.showableAll, a1, b1, Bool.and_self], by simp only [PyData.hasDictAll, a2, b2, Bool.or_self], by simp only [PyData.depthAll]; exact Nat.max_le.mpr ⟨a3, b3⟩, ?_, by simp only [PyData.shownAll, List.length_cons, b5]⟩
    simp only [PyData.shownAll, List.map_cons, List.sum_cons, List.length_cons]
    rw [Nat.add_mul, Nat.one_mul]
    omega
theorem shn_list {k B n : Nat} {xs : List PyData} (h : ∀ x ∈ xs, Shn k B x) (hn : xs.length ≤ n) : Shn (k + 1) (n * (B + 2) + 3) (.list xs) := by
  obtain ⟨b1, b2, b3, b4, b5⟩ := shnAll (n := n) h
  refine ⟨by simp only [PyData.showable, b1], by simp only [PyData.hasDict, b2], by simp only [PyData.depth]; omega, ?_⟩
  have e := listText_len_le (PyData.shownAll xs)
  rw [b5] at e
  have e2 : xs.length * (B + 2) ≤ n * (B + 2) := Nat.mul_le_mul_right _ hn
  rw [Nat.mul_add] at e2
  show (listText (PyData.shownAll xs)).length ≤ _
  omega
theorem shn_tuple {k B n : Nat} {xs : List PyData} (h : ∀ x ∈ xs, Shn k B x) (hn : xs.length ≤ n) : Shn (k + 1) (n * (B + 2) + 3) (.tuple xs) := by
  obtain ⟨b1, b2, b3, b4, b5⟩ := shnAll (n := n) h
  refine ⟨by simp only [PyData.showable, b1], by simp only [PyData.hasDict, b2], by simp only [PyData.depth]; omega, ?_⟩
  have e := tupleText_len_le (PyData.shownAll xs)
  rw [b5] at e
  have e2 : xs.length * (B + 2) ≤ n * (B + 2) := Nat.mul_le_mul_right _ hn
  rw [Nat.mul_add] at e2
  show (tupleText (PyData.shownAll xs)).length ≤ _
  omega
/-- a list shown -/
theorem shwD_list {P : Nat → Prop} {S : Sto} {k B : Nat} {xs : List PyData} {d : D} (h : Dt P S (.list xs) d) (hf : fuel (.list xs) ≤ 200) (hs : Shn k B (.list xs)) (hk : k ≤ 60) (hB : B ≤ szL) : shwD S d = .ok (.str (PyData.list xs).shown) S := by
  unfold shwD
  rw [h.rd hf]
  exact if_pos ⟨hs.1, hs.2.1, Nat.le_trans hs.2.2.1 hk, Nat.le_trans hs.2.2.2 hB⟩
theorem shn_q {x : Rat} (h1 : x.num.natAbs < 2 ^ 1920) (h2 : x.den < 2 ^ 1920) : Shn 1 3849 (qd x) :=
  shn_tuple (n := 2) (B := 1921) (fun y hy => by
    rcases List.mem_cons.mp hy with rfl | hy
    · exact shn_int h1
    · rcases List.mem_cons.mp hy with rfl | hy
      · exact shn_int (by simpa using h2)
      · cases hy) (Nat.le_refl 2)
end HP
namespace HP
open PySem L2
structure FinS (bs : List (Rat × Rat)) : Prop where
  pt : ∀ p ∈ bs, V 81 p.1 ∧ p.1.den ∣ LC ∧ V 161 p.2 ∧ p.2.den ∣ LC * LC
  rt : ∀ (i : Nat) (a b : Rat × Rat), bs[i]? = some a → bs[i + 1]? = some b → V 80 (rateB a b) ∧ (rateB a b).den ∣ LC
theorem shape_okF {G : Tab} {k f take low plus minus times amount l : Nat} {most : Int} {pl : Bool} {S : Sto} (hG : G f = some (K_shape take plus minus times amount)) (hT : Takes G take) (hL : G low = some K_low) (hP : G plus = some (K_plus low))
    (hM : G minus = some (K_minus low)) (hX : G times = some (K_times low)) (hA : G amount = some (K_amount take low)) (hst : StAt l S) (hm0 : 0 ≤ most) (hm : most ≤ 40) :
    Wp (callN G (k + 3) f [.loc l, .int most, .bl pl] S) fun d S' => StAt l S' ∧ Ag (· = l) S S' ∧ ∃ (n : Nat) (bs : List (Rat × Rat)), d = .loc n ∧ S.length ≤ n ∧ S'[n]? = some (.lst (bs.map pr)) ∧ (bs.length : Int) ≤ most + 1 ∧
      Shp bs ∧ (∀ p ∈ bs, Ok2 p) ∧ FinS bs := by
  have hlS := stAt_lt hst
  refine wp_def hG rfl ?_
  unfold K_shape
  walk_at "hp0"
  walk_at "hys"
  refine wp_mono (hT _ _ _ _ hst (by omega) (Nat.le_trans (m := 64) (by omega) (by decide))) ?_
  rintro _ S1 ⟨hst1, hag1, v, rfl, hv0, hv1⟩
  have hl1 := stAt_lt hst1
  obtain ⟨N, rfl⟩ : ∃ N : Nat, v = N := ⟨v.toNat, by omega⟩
  walk_at "hys"
  refine ⟨by unfold okRng; simp; omega, ?_⟩
  rw [Int.toNat_natCast]
  refine compE_inv (fun i S' => StAt l S' ∧ Ag (· = l) S1 S' ∧ ∃ gs : List Rat, gs.length = i ∧ S'[S1.length]? = some (.lst (gs.map q)) ∧ ∀ g ∈ gs, 0 < g ∧ Sz 40 6 g)
    ⟨hst1.ag (P := fun _ => False) Ag.app id, Ag.app, [], rfl, app_get, by intro g h; cases h⟩ (fun _ _ _ _ => still0) ?_ ?_
  · rintro i d S' hd ⟨hst', hag', gs, hgl, hgs, hgo⟩
    obtain ⟨hi, rfl⟩ := rng0_get hd
    refine ⟨_, rfl, ?_⟩
    walk_at "hys"
    refine wp_mono (amount_ok hA hT hL hst' (by decide) (by decide)) ?_
    rintro _ S4 ⟨hst4, hag4, g, rfl, hg0, hg1, hgz, _⟩
    have hgs := hag4.get hgs (by omega)
    refine ⟨_, hgs, by rw [List.length_map]; show gs.length < 16777216; omega, hst4.ag (P := (· = S1.length)) (Ag.set (Or.inl rfl)) (by omega), ?_, gs ++ [g], by rw [List.length_append, hgl]; rfl, ?_, ?_⟩
    · exact (hag'.trans hag4).new (Ag.set (Or.inl (Or.inr (Nat.le_refl _))))
    · rw [set_get hgs, List.map_append]; rfl
    · intro x hx
      rcases List.mem_append.1 hx with hx | hx
      · exact hgo x hx
      · rw [List.mem_singleton.1 hx]; exact ⟨hg1 rfl, hgz⟩
  rintro S2 ⟨hst2, hag2, gs, hgl, hgs, hgo⟩
  rw [rngi_len] at hgl
  have hgl4 : gs.length ≤ 40 := by omega
  have hgz : ∀ g ∈ gs, Sz 40 6 g := fun g m => (hgo g m).2
  have hg0 : ∀ g ∈ gs, 0 < g := fun g m => (hgo g m).1
  have hgL : ∀ g ∈ gs, g.den ∣ LC := fun g m => sz_LC (hgz g m)
  have hag12 := hag1.trans hag2
  walk_at "hys"
  refine wp_mono (amount_ok hA hT hL hst2 (by decide) (by decide)) ?_
  rintro _ S3 ⟨hst3, hag3, w0, rfl, hw0, _, hwz, _⟩
  have hgs := hag3.get hgs (by omega)
  walk_at "hys"
  refine wp_mono (amount_ok hA hT hL hst3 (by decide) (by decide)) ?_
  rintro _ S4 ⟨hst4, hag4, p0, rfl, hp0, _, hpz, _⟩
  have hgs := hag4.get hgs (by omega)
  have hag14 := hag12.trans (hag3.trans hag4)
  have hle14 := hag14.1
  have hle1 := hag1.1
  generalize hn7 : S1.length = n7 at *
  walk_at "hys"
  have h7 : (S4 ++ [.lst []])[S4.length]? = some (.lst (([] : List Rat).map q)) := app_get
  have hst5 := hst4.ag (P := fun _ => False) (Ag.app (T := [.lst []])) id
  have hgs5 := (Ag.app (P := fun _ => False) (T := [.lst []])).get hgs id
  have hag5 := hag14.trans (Ag.app (T := [.lst []]))
  have h79 := get_lt hgs
  generalize S4 ++ [.lst []] = S5 at *
  generalize hn9 : S4.length = n9 at *
  refine wi_loc hgs5 ?_
  refine forE_inv (fun i r S' => StAt l S' ∧ Ag (· = l) S S' ∧ S'[n7]? = some (.lst (gs.map q)) ∧ ∃ (fs hs : List Rat) (F P : Rat) (z8 : Option D),
      r = [some (.loc l), some (.int most), some (.bl pl), some (.loc n7), some (q w0), some (q P), some (q F), some (.loc n9), z8, none, none] ∧
      S'[n9]? = some (.lst (fs.map q)) ∧ fs.length = i ∧ hs.length = i ∧ (∀ (j : Nat) (f g : Rat), fs[j]? = some f → gs[j]? = some g → hs[j]? = some (f * g)) ∧ (∀ h ∈ hs, 0 < h ∧ V 120 h ∧ h.den ∣ LC * LC) ∧
      (∀ f ∈ fs, 0 < f ∧ V 80 f ∧ f.den ∣ LC) ∧ 0 ≤ F ∧ V (40 + i) F ∧ F.den ∣ LC ∧ (∀ f ∈ fs, f ≤ F) ∧ (∀ (j : Nat) (f f' : Rat), fs[j]? = some f → fs[j + 1]? = some f' → f < f') ∧ P = p0 + hs.sum) ?_ (fun i r S' _ h => still1 h.2.2.1) ?_ ?_
  · refine ⟨hst5, hag5, hgs5, [], [], 0, p0, none, rfl, h7, rfl, rfl, ?_, ?_, ?_, Rat.le_refl, V.mono (a := 0) sz0.v (by omega), Nat.one_dvd _, ?_, ?_, by rw [List.sum_nil, Rat.add_zero]⟩
    · intro j f g h; cases h
    · intro h m; cases m
    · intro h m; cases m
    · intro h m; cases m
    · intro j f f' h; cases h
  · rintro i d r T hd ⟨hstT, hagT, hgsT, fs, hs, F, P, z8, rfl, hfs, hfl, hhl, hfg, hh, hf, hF0, hFv, hFd, hfF, hfm, rfl⟩
    rw [List.getElem?_map, Option.map_eq_some_iff] at hd
    obtain ⟨g, hg, rfl⟩ := hd
    have hi : i < gs.length := (List.getElem?_eq_some_iff.1 hg).1
    have hgm := List.mem_of_getElem? hg
    have hgz1 := hgz g hgm
    refine ⟨_, rfl, ?_⟩
    walk_at "hys"
    refine wp_mono (amount_ok hA hT hL hstT (by decide) (by decide)) ?_
    rintro _ T1 ⟨hstT1, hagT1, s, rfl, _, hs1, hsz, _⟩
    have hs1 := hs1 rfl
    have hgsT := hagT1.get hgsT (by omega)
    have hfs := hagT1.get hfs (by omega)
    walk_at "hys"
    refine wp_val (plusL_ok hP hL (hFv.sz1 hFd) hsz (by decide) (by omega)) ?_
    have hF2 : V (40 + (i + 1)) (F + s) := (V.add hFv hsz.v).mono (by omega)
    have hF2d : (F + s).den ∣ LC := dvd_add LC0 hFd (sz_LC hsz)
    have hF20 : 0 < F + s := by grind
    have hlt : F < F + s := by grind
    generalize F + s = F2 at *
    walk_at "hys"
    refine ⟨isL_loc hfs, ?_⟩
    walk_at "hys"
    refine wm_append hfs (by rw [List.length_map]; show fs.length < 16777216; omega) ?_
    have hA2 := Ag.set (P := (· = n9)) (S := T1) (o := .lst (fs.map q ++ [q F2])) (Or.inl rfl)
    have hfs2 : (T1.set n9 (.lst (fs.map q ++ [q F2])))[n9]? = some (.lst ((fs ++ [F2]).map q)) := by rw [set_get hfs, List.map_append]; rfl
    have hstT2 := hstT1.ag hA2 (by omega)
    have hgsT := hA2.get hgsT (by omega)
    have hagT2 : Ag (· = l) S (T1.set n9 (.lst (fs.map q ++ [q F2]))) := (hagT.trans hagT1).new (hA2.mono (by rintro j rfl; exact Or.inr (by omega)))
    generalize T1.set n9 (.lst (fs.map q ++ [q F2])) = T2 at *
    walk_at "hys"
    refine wp_val (timesL_ok hX hL (hF2.sz1 hF2d) hgz1 (by decide) (by omega)) ?_
    have hPv : V (120 + i + 41) (p0 + hs.sum) := (V.mono hpz.v (a' := 120 + i) (by omega)).add (V.mono (a' := 120 + i) (V_sum fun x m => (hh x m).2.1) (by omega)) |>.mono (by omega)
    have hPd : (p0 + hs.sum).den ∣ LC * LC := dvd_add LC2 (LC12 (sz_LC hpz)) (dvd_sum LC2 fun x m => (hh x m).2.2)
    have hm1 : V 120 (F2 * g) := (hF2.mul hgz1.v).mono (by omega)
    have hm2 : (F2 * g).den ∣ LC * LC := dvd_mul LC0 LC0 hF2d (hgL g hgm)
    walk_at "hys"
    refine wp_val (plusL_ok hP hL (hPv.sz2 hPd) (hm1.sz2 hm2) (by decide) (by omega)) ?_
    walk_at "hys"
    refine ⟨hstT2, hagT2, hgsT, fs ++ [F2], hs ++ [F2 * g], F2, _, some (q g), rfl, hfs2, by rw [List.length_append, hfl]; rfl, by rw [List.length_append, hhl]; rfl, ?_, ?_, ?_, Rat.le_of_lt hF20, hF2, hF2d, ?_, ?_, by rw [sum_app, sum_one, Rat.add_assoc]⟩
    · intro j f g' h1 h2
      rcases app1_get h1 with h1 | ⟨e, rfl⟩
      · have := (List.getElem?_eq_some_iff.1 h1).1
        rw [List.getElem?_append_left (by omega)]
        exact hfg j f g' h1 h2
      · rw [e, hfl, hg] at h2
        cases h2
        rw [List.getElem?_append_right (by omega), e, hfl, hhl, Nat.sub_self]
        rfl
    · intro x hx
      rcases List.mem_append.1 hx with hx | hx
      · exact hh x hx
      · rw [List.mem_singleton.1 hx]
        exact ⟨Rat.mul_pos hF20 (hg0 g hgm), hm1, hm2⟩
    · intro x hx
      rcases List.mem_append.1 hx with hx | hx
      · exact hf x hx
      · rw [List.mem_singleton.1 hx]
        exact ⟨hF20, hF2.mono (by omega), hF2d⟩
    · intro x hx
      rcases List.mem_append.1 hx with hx | hx
      · have := hfF x hx; grind
      · rw [List.mem_singleton.1 hx]; exact Rat.le_refl
    · intro j f f' h1 h2
      rcases app1_get h2 with h2 | ⟨e, rfl⟩
      · have := (List.getElem?_eq_some_iff.1 h2).1
        rw [List.getElem?_append_left (by omega)] at h1
        exact hfm j f f' h1 h2
      · rw [List.getElem?_append_left (by omega)] at h1
        have := hfF f (List.mem_of_getElem? h1)
        grind
  rintro r T ⟨hstT, hagT, hgsT, fs, hs, F, P, z8, rfl, hfs, hfl, hhl, hfg, hh, hf, hF0, hFv, hFd, hfF, hfm, rfl⟩
  rw [List.length_map] at hfl hhl
  have htk : ∀ n, V 161 (p0 + (hs.take n).sum) ∧ (p0 + (hs.take n).sum).den ∣ LC * LC ∧ 0 ≤ p0 + (hs.take n).sum := fun n => by
    have hln : (hs.take n).length ≤ 40 := by rw [List.length_take]; omega
    exact ⟨(V.mono hpz.v (a' := 160) (by omega)).add ((V_sum fun x m => (hh x (List.mem_of_mem_take m)).2.1).mono (a' := 160) (by omega)),
      dvd_add LC2 (LC12 (sz_LC hpz)) (dvd_sum LC2 fun x m => (hh x (List.mem_of_mem_take m)).2.2), Rat.add_nonneg hp0 (sum_nonneg fun x m => (hh x (List.mem_of_mem_take m)).1)⟩
  have hdr : ∀ n, V 81 (w0 + (gs.drop n).sum) ∧ (w0 + (gs.drop n).sum).den ∣ LC ∧ 0 ≤ w0 + (gs.drop n).sum := fun n => by
    have hln : (gs.drop n).length ≤ 40 := by rw [List.length_drop]; omega
    exact ⟨(V.mono hwz.v (a' := 80) (by omega)).add ((V_sum fun x m => (hgz x (List.mem_of_mem_drop m)).v).mono (a' := 80) (by omega)),
      dvd_add LC0 (sz_LC hwz) (dvd_sum LC0 fun x m => hgL x (List.mem_of_mem_drop m)), Rat.add_nonneg hw0 (sum_nonneg fun x m => hg0 x (List.mem_of_mem_drop m))⟩
  have hok : ∀ n m, Ok2 (w0 + (gs.drop n).sum, p0 + (hs.take m).sum) := fun n m => ⟨((hdr n).1.sz1 (hdr n).2.1).mono (by decide) (by decide), ((htk m).1.sz2 (htk m).2.1).mono (by decide) (by decide)⟩
  have hfin : ∀ n m, V 81 (w0 + (gs.drop n).sum) ∧ (w0 + (gs.drop n).sum).den ∣ LC ∧ V 161 (p0 + (hs.take m).sum) ∧ (p0 + (hs.take m).sum).den ∣ LC * LC := fun n m => ⟨(hdr n).1, (hdr n).2.1, (htk m).1, (htk m).2.1⟩
  have e0 : w0 + (gs.drop gs.length).sum = w0 := by rw [List.drop_length, List.sum_nil, Rat.add_zero]
  have e1 : p0 + (hs.take gs.length).sum = p0 + hs.sum := by rw [← hfl, hfl, ← hhl, List.take_length]
  walk_at "hys"
  have h9 : (T ++ [.lst [.tup [q w0, q (p0 + hs.sum)]]])[T.length]? = some (.lst ([(w0, p0 + hs.sum)].map pr)) := app_get
  have hA3 : Ag (fun _ => False) T (T ++ [.lst [.tup [q w0, q (p0 + hs.sum)]]]) := Ag.app
  have hst6 := hstT.ag hA3 id
  have hgs6 := hA3.get hgsT id
  have hfs6 := hA3.get hfs id
  have hag6 := hagT.trans (Ag.app (T := [.lst [.tup [q w0, q (p0 + hs.sum)]]]))
  have hl9 := get_lt hfs
  have hlT := hagT.1
  generalize T ++ [.lst [.tup [q w0, q (p0 + hs.sum)]]] = S6 at *
  generalize hnb : T.length = nb at *
  refine wf_len (seq_loc hgs6) ?_
  walk_at "hys"
  refine ⟨_, _, _, gs.length, rfl, rfl, rfl, ?_, ?_⟩
  · have := RgC.neg (i := (gs.length : Int) - 1) (j := -1) (by omega) (by omega) (by omega) (by omega)
    have e : ((gs.length : Int) - 1 - -1).toNat = gs.length := by omega
    rw [e] at this
    rw [List.length_map]
    exact this
  rw [List.length_map]
  refine forE_inv (fun i r S' => StAt l S' ∧ Ag (· = l) S S' ∧ S'[n7]? = some (.lst (gs.map q)) ∧ S'[n9]? = some (.lst (fs.map q)) ∧ ∃ (bs : List (Rat × Rat)) (z10 : Option D),
      r = [some (.loc l), some (.int most), some (.bl pl), some (.loc n7), some (q (w0 + (gs.drop (gs.length - i)).sum)), some (q (p0 + (hs.take (gs.length - i)).sum)), some (q F), some (.loc n9), z8, some (.loc nb), z10] ∧
      S'[nb]? = some (.lst (bs.map pr)) ∧ bs.length = i + 1 ∧ bs[i]? = some (w0 + (gs.drop (gs.length - i)).sum, p0 + (hs.take (gs.length - i)).sum) ∧ Shp bs ∧ ((∀ p ∈ bs, Ok2 p) ∧ FinS bs) ∧
      (∀ a b, 1 ≤ i → bs[i - 1]? = some a → bs[i]? = some b → ∃ f, fs[gs.length - i]? = some f ∧ rateB a b = f)) ?_ (fun _ _ _ _ _ => still0) ?_ ?_
  · refine ⟨hst6, hag6, hgs6, hfs6, [(w0, p0 + hs.sum)], none, ?_, h9, rfl, ?_, ?_, ?_, ?_⟩
    · rw [Nat.sub_zero, e0, e1]; rfl
    · rw [Nat.sub_zero, e0, e1]; rfl
    · refine ⟨by simp, ?_, ?_, ?_⟩
      · intro i a b _ hb; simp at hb
      · intro i a b c _ hb; simp at hb
      · intro x hx
        rw [List.mem_singleton.1 hx]
        have := (htk gs.length).2.2
        rw [e1] at this
        exact ⟨hw0, this⟩
    · refine ⟨fun x hx => ?_, fun x hx => ?_, fun i a b _ hb => by simp at hb⟩
      · rw [List.mem_singleton.1 hx]
        have := hok gs.length gs.length
        rw [e0, e1] at this
        exact this
      · rw [List.mem_singleton.1 hx]
        have := hfin gs.length gs.length
        rw [e0, e1] at this
        exact this
    · intro a b h; omega
  · rintro i d r U hd ⟨hstU, hagU, hgsU, hfsU, bs, z10, rfl, hbs, hbl, hbi, hshp, hbz, hrate⟩
    obtain ⟨hi, rfl⟩ := rngC_get hd
    have ek : (gs.length : Int) - 1 + (i : Nat) * -1 = ((gs.length - (i + 1) : Nat) : Int) := by omega
    rw [ek]
    generalize hkk : gs.length - (i + 1) = kk at *
    have hki : gs.length - i = kk + 1 := by omega
    have hklt : kk < gs.length := by omega
    have gg : gs[kk]? = some (gs[kk]'hklt) := List.getElem?_eq_getElem _
    have gf : fs[kk]? = some (fs[kk]'(by omega)) := List.getElem?_eq_getElem _
    have edr : gs.drop kk = gs[kk]'hklt :: gs.drop (kk + 1) := List.drop_eq_getElem_cons hklt
    generalize gs[kk]'hklt = g at gg edr
    generalize fs[kk]'(by omega) = f at gf
    have gh := hfg kk f g gf gg
    have etk := take_succ_get gh
    have gg2 : (gs.map q)[kk]? = some (q g) := by rw [List.getElem?_map, gg]; rfl
    have gf2 : (fs.map q)[kk]? = some (q f) := by rw [List.getElem?_map, gf]; rfl
    have hgm := List.mem_of_getElem? gg
    have hfm1 := hf f (List.mem_of_getElem? gf)
    have hgp := hg0 g hgm
    rw [hki] at hbi
    rw [hki]
    have ew : w0 + (gs.drop (kk + 1)).sum + g = w0 + (gs.drop kk).sum := by rw [edr, List.sum_cons]; grind
    have ep : p0 + (hs.take (kk + 1)).sum = p0 + (hs.take kk).sum + f * g := by rw [etk, sum_app, sum_one]; grind
    refine ⟨_, rfl, ?_⟩
    walk_at "hys"
    refine wx_ix (seq_loc hgsU) (atI_get gg2) ?_
    walk_at "hys"
    refine wp_val (plusL_ok hP hL ((hdr (kk + 1)).1.sz1 (hdr (kk + 1)).2.1) (hgz g hgm) (by decide) (by decide)) ?_
    rw [ew]
    walk_at "hys"
    refine wx_ix (seq_loc hfsU) (atI_get gf2) ?_
    walk_at "hys"
    refine wx_ix (seq_loc hgsU) (atI_get gg2) ?_
    walk_at "hys"
    refine wp_val (timesL_ok hX hL (hfm1.2.1.sz1 hfm1.2.2) (hgz g hgm) (by decide) (by decide)) ?_
    walk_at "hys"
    refine wp_val (minusL_ok hM hL ((htk (kk + 1)).1.sz2 (htk (kk + 1)).2.1) ((hfm1.2.1.mul (hgz g hgm).v).sz2 (dvd_mul LC0 LC0 hfm1.2.2 (hgL g hgm))) (by decide) (by decide)) ?_
    have ep2 : p0 + (hs.take (kk + 1)).sum - f * g = p0 + (hs.take kk).sum := by rw [ep]; grind
    rw [ep2]
    walk_at "hys"
    refine ⟨isL_loc hbs, ?_⟩
    walk_at "hys"
    refine wm_append hbs (by rw [List.length_map]; show bs.length < 16777216; omega) ?_
    have hA2 := Ag.set (P := (· = nb)) (S := U) (o := .lst (bs.map pr ++ [.tup [q (w0 + (gs.drop kk).sum), q (p0 + (hs.take kk).sum)]])) (Or.inl rfl)
    have hbl1 : bs.length - 1 = i := by omega
    have hlast : rateB (w0 + (gs.drop (kk + 1)).sum, p0 + (hs.take (kk + 1)).sum) (w0 + (gs.drop kk).sum, p0 + (hs.take kk).sum) = f := by
      rw [ep, ← ew]
      exact rate_of_fall hgp
    walk_at "hys"
    refine ⟨hstU.ag hA2 (by omega), hagU.new (hA2.mono (by rintro j rfl; exact Or.inr (by omega))), hA2.get hgsU (by omega), hA2.get hfsU (by omega), bs ++ [(w0 + (gs.drop kk).sum, p0 + (hs.take kk).sum)], _, rfl, by rw [set_get hbs, List.map_append]; rfl, by rw [List.length_append, hbl]; rfl, ?_, ?_, ?_, ?_⟩
    · rw [List.getElem?_append_right (by omega), hbl, Nat.sub_self]; rfl
    · refine hshp.more ⟨(hdr kk).2.2, (htk kk).2.2⟩ ?_ ?_
      · intro a ha
        rw [hbl1, hbi] at ha
        cases ha
        refine ⟨?_, ?_⟩
        · show w0 + (gs.drop (kk + 1)).sum < w0 + (gs.drop kk).sum
          rw [← ew]; grind
        · show p0 + (hs.take kk).sum < p0 + (hs.take (kk + 1)).sum
          rw [ep]
          have := Rat.mul_pos hfm1.1 hgp
          grind
      · intro a b h2 ha hb
        rw [hbl1] at hb
        have e2 : bs.length - 2 = i - 1 := by omega
        rw [e2] at ha
        obtain ⟨f', hf', er⟩ := hrate a b (by omega) ha hb
        rw [hki] at hf'
        rw [hbi] at hb
        cases hb
        rw [er, hlast]
        exact hfm kk f f' gf hf'
    · refine ⟨fun x hx => ?_, fun x hx => ?_, fun j a b ha hb => ?_⟩
      · rcases List.mem_append.1 hx with hx | hx
        · exact hbz.1 x hx
        · rw [List.mem_singleton.1 hx]; exact hok kk kk
      · rcases List.mem_append.1 hx with hx | hx
        · exact hbz.2.pt x hx
        · rw [List.mem_singleton.1 hx]; exact hfin kk kk
      · by_cases hj : j + 1 < bs.length
        · rw [List.getElem?_append_left (by omega)] at ha
          rw [List.getElem?_append_left hj] at hb
          exact hbz.2.rt j a b ha hb
        · have hj2 := (List.getElem?_eq_some_iff.1 hb).1
          rw [List.length_append, List.length_singleton] at hj2
          have ej : j = i := by omega
          subst ej
          rw [List.getElem?_append_left (by omega), hbi] at ha
          rw [List.getElem?_append_right (by omega), hbl, Nat.sub_self] at hb
          cases ha
          cases hb
          rw [hlast]
          exact hfm1.2
    · intro a b _ ha hb
      rw [Nat.add_sub_cancel, List.getElem?_append_left (by omega), hbi] at ha
      rw [List.getElem?_append_right (by omega), hbl, Nat.sub_self] at hb
      cases ha
      cases hb
      exact ⟨f, gf, hlast⟩
  · rintro r U ⟨hstU, hagU, hgsU, hfsU, bs, z10, rfl, hbs, hbl, hbi, hshp, hbz, hrate⟩
    rw [rngC_len] at hbl
    walk_at "hys"
    exact ⟨hstU, hagU, nb, bs, rfl, by omega, hbs, by omega, hshp, hbz⟩
end HP
namespace HP
open PySem L2
section
variable {L : List Fn} {k n : Nat} {S : Sto}
theorem price_atP_ok {bs : List (Rat × Rat)} {w : Rat} (h : S[n]? = some (.lst (bs.map pr))) (hs : Shp bs) (hz : ∀ c ∈ bs, Ok2 c) (hw : Sz 2000 3000 w) (hl : bs.length < 100) :
    Wp (callN (Gof L) (k + 5) 165 [.loc n, q w] S) fun d S' => Ag (fun _ => False) S S' ∧ ((d = .non ∧ ∀ a, bs[0]? = some a → w < a.1) ∨ ∃ p, d = q p ∧ AtP bs w p) := by
  have hpos : 0 < bs.length := List.length_pos_iff.2 hs.one
  have gz : bs[bs.length - 1]? = some (bs[bs.length - 1]'(by omega)) := List.getElem?_eq_getElem _
  generalize bs[bs.length - 1]'(by omega) = z at gz
  have gz2 : (bs.map pr)[(bs.map pr).length - 1]? = some (pr z) := by rw [List.length_map, List.getElem?_map, gz]; rfl
  have g0 : bs[0]? = some (bs[0]'hpos) := List.getElem?_eq_getElem _
  generalize bs[0]'hpos = a0 at g0
  have g02 : (bs.map pr)[0]? = some (pr a0) := by rw [List.getElem?_map, g0]; rfl
  have ha0 := hz a0 (List.mem_of_getElem? g0)
  refine wp_def (fn := F_price_at) rfl rfl ?_
  unfold F_price_at
  walk_at "hp0"
  walk_at "hys"
  refine wps_ite ?_
  walk_at "hy"
  refine wx_ix (seq_loc h) (atI_get g02) ?_
  walk_at "hy"
  refine wp_val (is_less_ok hw ha0.1 (by decide) (by decide)) ?_
  walk_at "hys"
  refine wq_dec (fun h1 => ?_) (fun h1 => ?_)
  · walk_at "hy"
    exact ⟨Ag.rfl, Or.inl ⟨rfl, fun a e => by rw [g0] at e; cases e; exact h1⟩⟩
  have h1 : a0.1 ≤ w := Rat.not_lt.1 h1
  walk_at "hys"
  refine ws_lst (lst_loc h) ?_
  rw [show cutL (bs.map pr) (some 1) none = (bs.map pr).drop 1 from cut_end (j := 1) (by rw [List.length_map]; omega)]
  have hA : Ag (fun _ => False) S (S ++ [.lst ((bs.map pr).drop 1)]) := Ag.app
  have hd : (S ++ [.lst ((bs.map pr).drop 1)])[S.length]? = some (.lst ((bs.map pr).drop 1)) := app_get
  have hn := hA.get h id
  generalize S ++ [.lst ((bs.map pr).drop 1)] = S1 at *
  refine wp_zipL (itLst_loc hn) (itLst_loc hd) ?_
  refine forE_inv (fun i r S' => S' = S1 ∧ (∀ (c : Rat × Rat), bs[i]? = some c → c.1 ≤ w) ∧ ∃ z2 z3, r = [some (.loc n), some (q w), z2, z3]) ⟨rfl, fun c e => by rw [g0] at e; cases e; exact h1, none, none, rfl⟩
    (fun i r S' _ hh => by
      rw [hh.1]
      intro p hp
      rcases List.mem_cons.1 hp with rfl | hp
      · exact still1 hn _ List.mem_cons_self
      · exact still1 hd _ hp) ?_ ?_
  · rintro i d r S' hd' ⟨rfl, hno, z2, z3, rfl⟩
    obtain ⟨a, b, ga, gb, rfl⟩ := pairs_get hd'
    have ha := hz a (List.mem_of_getElem? ga)
    have hb := hz b (List.mem_of_getElem? gb)
    have hm := hs.mono i a b ga gb
    refine ⟨_, rfl, ?_⟩
    walk_at "hys"
    refine wps_ite ?_
    walk_at "hy"
    refine wp_val (is_less_ok hw hb.1 (by decide) (by decide)) ?_
    walk_at "hys"
    refine wq_dec (fun c1 => ?_) (fun c1 => ?_)
    · walk_at "hy"
      refine wp_val (fall_of_ok ha hb hm.1) ?_
      walk_at "hy"
      refine wp_val (minus_ok hw ha.1 (by decide) (by decide)) ?_
      walk_at "hy"
      refine wp_val (product_ok (fall_sz ha hb hm.1) (hw.sub ha.1) (by decide) (by decide)) ?_
      walk_at "hy"
      refine wp_val (minus_ok ha.2 ((fall_sz ha hb hm.1).mul (hw.sub ha.1)) (by decide) (by decide)) ?_
      exact ⟨hA, Or.inr ⟨_, rfl, .way ga gb (hno a ga) c1⟩⟩
    · walk_at "hy"
      exact ⟨rfl, fun c e => by rw [gb] at e; cases e; exact Rat.not_lt.1 c1, _, _, rfl⟩
  · rintro r S' ⟨rfl, hno, z2, z3, rfl⟩
    rw [pairs_len] at hno
    walk_at "hy"
    refine wx_ix (seq_loc hn) (atI_last gz2) ?_
    walk_at "hy"
    exact ⟨hA, Or.inr ⟨z.2, rfl, .last gz (hno z gz)⟩⟩
end
end HP
namespace HP
open PySem L2
/-- the price at a whole, the shape given -/
def pv : List (Rat × Rat) → Rat → Rat
  | [], _ => 0
  | [a], _ => a.2
  | a :: b :: r, w => if w < b.1 then a.2 - rateB a b * (w - a.1) else pv (b :: r) w
/-- its fall right of a whole -/
def sv : List (Rat × Rat) → Rat → Rat
  | [], _ => 0
  | [_], _ => 0
  | a :: b :: r, w => if w < b.1 then rateB a b else sv (b :: r) w
theorem Shp.tl {a b : Rat × Rat} {r : List (Rat × Rat)} (h : Shp (a :: b :: r)) : Shp (b :: r) :=
  ⟨by simp, fun i x y hx hy => h.mono (i + 1) x y hx hy, fun i x y z hx hy hz => h.conv (i + 1) x y z hx hy hz, fun p hp => h.pos p (List.mem_cons_of_mem _ hp)⟩
theorem Shp.lt {a b : Rat × Rat} {r : List (Rat × Rat)} (h : Shp (a :: b :: r)) : a.1 < b.1 ∧ b.2 < a.2 := h.mono 0 a b rfl rfl
/-- the first whole is the least -/
theorem Shp.fst {a : Rat × Rat} : {r : List (Rat × Rat)} → Shp (a :: r) → ∀ c ∈ a :: r, a.1 ≤ c.1
  | [], _, c, hc => by rw [List.mem_singleton.1 hc]; exact Rat.le_refl
  | b :: r, h, c, hc => by
    rcases List.mem_cons.1 hc with rfl | hc
    · exact Rat.le_refl
    · have h1 := Shp.fst h.tl c hc
      have h2 := h.lt.1
      grind
theorem pv_at {w p : Rat} : {bs : List (Rat × Rat)} → Shp bs → AtP bs w p → p = pv bs w
  | [], _, h => by
    cases h with
    | way ha => cases ha
    | last ha => cases ha
  | [a], _, h => by
    cases h with
    | @way i a' b' ha hb =>
      cases i with
      | zero => cases hb
      | succ i => cases hb
    | last ha _ => cases (show some a = some _ from ha); rfl
  | a :: b :: r, hs, h => by
    unfold pv
    cases h with
    | @way i a' b' ha hb h1 h2 =>
      cases i with
      | zero =>
        cases (show some a = some a' from ha)
        cases (show some b = some b' from hb)
        rw [if_pos h2]
      | succ i =>
        have hm : a' ∈ b :: r := List.mem_of_getElem? (show (b :: r)[i]? = some a' from ha)
        have := Shp.fst hs.tl a' hm
        rw [if_neg (by grind)]
        exact pv_at hs.tl (.way (i := i) ha hb h1 h2)
    | last ha h1 =>
      have ha : (b :: r)[(b :: r).length - 1]? = some _ := ha
      have := Shp.fst hs.tl _ (List.mem_of_getElem? ha)
      rw [if_neg (by grind)]
      exact pv_at hs.tl (.last ha h1)
theorem at_pv {a : Rat × Rat} {w : Rat} : {r : List (Rat × Rat)} → Shp (a :: r) → a.1 ≤ w → AtP (a :: r) w (pv (a :: r) w)
  | [], _, h => .last rfl h
  | b :: r, hs, h => by
    unfold pv
    by_cases c : w < b.1
    · rw [if_pos c]
      exact .way (i := 0) rfl rfl h c
    · rw [if_neg c]
      have := at_pv hs.tl (Rat.not_lt.1 c)
      generalize pv (b :: r) w = p at this ⊢
      cases this with
      | @way i a' b' ha hb h1 h2 => exact .way (i := i + 1) ha hb h1 h2
      | last ha h1 => exact .last (by exact ha) h1
theorem sv_nn {w : Rat} : {bs : List (Rat × Rat)} → Shp bs → 0 ≤ sv bs w
  | [], _ => Rat.le_refl
  | [_], _ => Rat.le_refl
  | a :: b :: r, h => by
    unfold sv
    split
    · exact Rat.le_of_lt (fall_pos h.lt.1 h.lt.2)
    · exact sv_nn h.tl
/-- the falls go down -/
theorem sv_le {u w : Rat} : {bs : List (Rat × Rat)} → Shp bs → u ≤ w → sv bs w ≤ sv bs u
  | [], _, _ => Rat.le_refl
  | [_], _, _ => Rat.le_refl
  | a :: b :: r, h, huw => by
    unfold sv
    by_cases c1 : u < b.1
    · rw [if_pos c1]
      by_cases c2 : w < b.1
      · rw [if_pos c2]; exact Rat.le_refl
      · rw [if_neg c2]
        cases r with
        | nil => exact Rat.le_of_lt (fall_pos h.lt.1 h.lt.2)
        | cons c r =>
          have hc := h.conv 0 a b c rfl rfl rfl
          have h2 := sv_le (u := b.1) (w := w) h.tl (Rat.not_lt.1 c2)
          have e : sv (b :: c :: r) b.1 = rateB b c := by
            unfold sv
            rw [if_pos h.tl.lt.1]
          rw [e] at h2
          grind
    · rw [if_neg c1, if_neg (by grind)]
      exact sv_le h.tl huw
/-- .. and strictly where a bend lies between -/
theorem sv_lt {u w : Rat} : {bs : List (Rat × Rat)} → Shp bs → {c : Rat × Rat} → c ∈ bs.tail → u < c.1 → c.1 ≤ w → sv bs w < sv bs u
  | [], _, _, hc, _, _ => by cases hc
  | [_], _, _, hc, _, _ => by cases hc
  | a :: b :: r, h, c, hc, h1, h2 => by
    have hc : c ∈ b :: r := hc
    unfold sv
    have hw : ¬ w < b.1 := by
      have := Shp.fst h.tl c hc
      grind
    rw [if_neg hw]
    by_cases c1 : u < b.1
    · rw [if_pos c1]
      cases r with
      | nil => exact fall_pos h.lt.1 h.lt.2
      | cons d r =>
        have hcv := h.conv 0 a b d rfl rfl rfl
        have h3 := sv_le (u := b.1) (w := w) h.tl (Rat.not_lt.1 hw)
        have e : sv (b :: d :: r) b.1 = rateB b d := by
          unfold sv
          rw [if_pos h.tl.lt.1]
        rw [e] at h3
        grind
    · rw [if_neg c1]
      have hcr : c ∈ r := by
        rcases List.mem_cons.1 hc with rfl | hc
        · exact absurd h1 c1
        · exact hc
      exact sv_lt h.tl (c := c) hcr h1 h2
/-- between bends the price falls evenly -/
theorem pv_lin {u w : Rat} : {bs : List (Rat × Rat)} → Shp bs → u ≤ w → (∀ c ∈ bs.tail, u < c.1 → w ≤ c.1) → pv bs w = pv bs u - sv bs u * (w - u)
  | [], _, _, _ => by unfold pv sv; grind
  | [_], _, _, _ => by unfold pv sv; grind
  | a :: b :: r, h, huw, hn => by
    have hb := hn b (by simp)
    have hfm := fall_mul h.lt.1
    by_cases c1 : u < b.1
    · have hwb := hb c1
      by_cases c2 : w < b.1
      · have e1 : pv (a :: b :: r) w = a.2 - rateB a b * (w - a.1) := by rw [pv, if_pos c2]
        have e2 : pv (a :: b :: r) u = a.2 - rateB a b * (u - a.1) := by rw [pv, if_pos c1]
        have e3 : sv (a :: b :: r) u = rateB a b := by rw [sv, if_pos c1]
        rw [e1, e2, e3]
        grind
      · have ew : w = b.1 := Rat.le_antisymm hwb (Rat.not_lt.1 c2)
        have e1 : pv (a :: b :: r) w = b.2 := by
          rw [pv, if_neg c2, ew]
          cases r with
          | nil => rfl
          | cons d r => rw [pv, if_pos h.tl.lt.1]; grind
        have e2 : pv (a :: b :: r) u = a.2 - rateB a b * (u - a.1) := by rw [pv, if_pos c1]
        have e3 : sv (a :: b :: r) u = rateB a b := by rw [sv, if_pos c1]
        rw [e1, e2, e3, ew]
        grind
    · have c2 : ¬ w < b.1 := by grind
      have e1 : pv (a :: b :: r) w = pv (b :: r) w := by rw [pv, if_neg c2]
      have e2 : pv (a :: b :: r) u = pv (b :: r) u := by rw [pv, if_neg c1]
      have e3 : sv (a :: b :: r) u = sv (b :: r) u := by rw [sv, if_neg c1]
      rw [e1, e2, e3]
      exact pv_lin h.tl huw fun c hc h1 => hn c (List.mem_cons_of_mem _ hc) h1
end HP
namespace HP
open PySem L2
/-- h falls evenly by s between these wholes, ever less, and rests behind the last -/
def LinS (h s : Rat → Rat) : List Rat → Prop
  | [] => True
  | [u] => ∀ w, u ≤ w → h w = h u
  | u :: v :: r => u < v ∧ (∀ w, u ≤ w → w ≤ v → h w = h u - s u * (w - u)) ∧ 0 < s u ∧ s v < s u ∧ LinS h s (v :: r)
def ptS (h : Rat → Rat) (w : Rat) : Rat × Rat := (w, h w)
theorem lin_rate {h s : Rat → Rat} {u v : Rat} (h1 : u < v) (h2 : ∀ w, u ≤ w → w ≤ v → h w = h u - s u * (w - u)) : rateB (ptS h u) (ptS h v) = s u := by
  have e := h2 v (Rat.le_of_lt h1) Rat.le_refl
  have e2 := fall_mul (a := ptS h u) (b := ptS h v) h1
  have e3 : (ptS h u).2 - (ptS h v).2 = s u * (v - u) := by show h u - h v = _; rw [e]; grind
  rw [e3] at e2
  have e2 : rateB (ptS h u) (ptS h v) * (v - u) = s u * (v - u) := e2
  have hn : v - u ≠ 0 := sub_nz h1
  generalize rateB (ptS h u) (ptS h v) = x at e2
  generalize s u = y at e2
  generalize v - u = z at e2 hn
  grind
theorem lin_shp {h s : Rat → Rat} : {ws : List Rat} → LinS h s ws → ws ≠ [] → (∀ w ∈ ws, 0 ≤ w ∧ 0 ≤ h w) → Shp (ws.map (ptS h))
  | [], _, hn, _ => absurd rfl hn
  | [u], _, _, hp => ⟨by simp, fun i a b ha hb => by simp at hb, fun i a b c ha hb => by simp at hb, fun p m => by
      obtain ⟨w, hw, rfl⟩ := List.mem_map.1 m
      exact hp w hw⟩
  | u :: v :: r, hl, _, hp => by
    obtain ⟨h1, h2, h3, h4, h5⟩ := hl
    have ih := lin_shp h5 (by simp) fun w hw => hp w (List.mem_cons_of_mem _ hw)
    refine ⟨by simp, fun i a b ha hb => ?_, fun i a b c ha hb hc => ?_, fun p m => ?_⟩
    · cases i with
      | zero =>
        cases (show some (ptS h u) = some a from ha)
        cases (show some (ptS h v) = some b from hb)
        refine ⟨h1, ?_⟩
        show h v < h u
        have e := h2 v (Rat.le_of_lt h1) Rat.le_refl
        have := Rat.mul_pos h3 (show 0 < v - u by grind)
        grind
      | succ i => exact ih.mono i a b ha hb
    · cases i with
      | zero =>
        cases (show some (ptS h u) = some a from ha)
        cases (show some (ptS h v) = some b from hb)
        rw [lin_rate h1 h2]
        cases r with
        | nil => cases hc
        | cons x r =>
          cases (show some (ptS h x) = some c from hc)
          rw [lin_rate h5.1 h5.2.1]
          exact h4
      | succ i => exact ih.conv i a b c ha hb hc
    · obtain ⟨w, hw, rfl⟩ := List.mem_map.1 m
      exact hp w hw
theorem lin_pv {h s : Rat → Rat} {w : Rat} : {u : Rat} → {ws : List Rat} → LinS h s (u :: ws) → u ≤ w → pv ((u :: ws).map (ptS h)) w = h w
  | u, [], hl, hw => (hl w hw).symm
  | u, v :: r, hl, hw => by
    obtain ⟨h1, h2, h3, h4, h5⟩ := hl
    show pv (ptS h u :: ptS h v :: r.map (ptS h)) w = h w
    by_cases c : w < v
    · rw [pv, if_pos (show w < (ptS h v).1 from c), lin_rate h1 h2, h2 w hw (Rat.le_of_lt c)]
      rfl
    · rw [pv, if_neg (show ¬ w < (ptS h v).1 from c)]
      exact lin_pv h5 (Rat.not_lt.1 c)
theorem sv_zero {u : Rat} : {bs : List (Rat × Rat)} → (∀ c ∈ bs.tail, ¬ u < c.1) → sv bs u = 0
  | [], _ => rfl
  | [_], _ => rfl
  | a :: b :: r, h => by
    rw [sv, if_neg (h b (by simp))]
    exact sv_zero fun c hc => h c (List.mem_cons_of_mem _ hc)
theorem pv_nn {w : Rat} {a : Rat × Rat} {r : List (Rat × Rat)} (hs : Shp (a :: r)) (h : a.1 ≤ w) : 0 ≤ pv (a :: r) w := by
  have := at_pv hs h
  generalize pv (a :: r) w = p at this ⊢
  cases this with
  | @way i a' b' ha hb h1 h2 =>
    have hb0 := (hs.pos b' (List.mem_of_getElem? hb)).2
    have hm := hs.mono i a' b' ha hb
    have e := fall_mul hm.1
    have hf := fall_pos hm.1 hm.2
    have h3 : rateB a' b' * (w - a'.1) ≤ rateB a' b' * (b'.1 - a'.1) := Rat.mul_le_mul_of_nonneg_left (by grind) (Rat.le_of_lt hf)
    grind
  | last ha h1 => exact (hs.pos _ (List.mem_of_getElem? ha)).2
/-- strictly rising -/
def RisS : List Rat → Prop
  | [] => True
  | [_] => True
  | u :: v :: r => u < v ∧ RisS (v :: r)
theorem RisS.fst : {u : Rat} → {r : List Rat} → RisS (u :: r) → ∀ c ∈ r, u < c
  | _, [], _, _, hc => by cases hc
  | u, v :: r, h, c, hc => by
    rcases List.mem_cons.1 hc with rfl | hc
    · exact h.1
    · have := RisS.fst h.2 c hc
      have := h.1
      grind
theorem lin_sum {f g : List (Rat × Rat)} (hf : Shp f) (hg : Shp g) : {u : Rat} → {r : List Rat} → RisS (u :: r) → (∀ c ∈ f.tail ++ g.tail, u < c.1 → c.1 ∈ r) → (∀ v ∈ r, ∃ c ∈ f.tail ++ g.tail, c.1 = v) →
    LinS (fun w => pv f w + pv g w) (fun w => sv f w + sv g w) (u :: r)
  | u, [], _, h1, _ => fun w hw => by
    have a1 : ∀ c ∈ f.tail, ¬ u < c.1 := fun c hc h => by cases h1 c (List.mem_append_left _ hc) h
    have a2 : ∀ c ∈ g.tail, ¬ u < c.1 := fun c hc h => by cases h1 c (List.mem_append_right _ hc) h
    have e1 := pv_lin hf hw fun c hc h => absurd h (a1 c hc)
    have e2 := pv_lin hg hw fun c hc h => absurd h (a2 c hc)
    rw [sv_zero a1] at e1
    rw [sv_zero a2] at e2
    show pv f w + pv g w = pv f u + pv g u
    grind
  | u, v :: r, hr, h1, h2 => by
    have hlt := hr.1
    have hge : ∀ c ∈ f.tail ++ g.tail, u < c.1 → v ≤ c.1 := fun c hc h => by
      rcases List.mem_cons.1 (h1 c hc h) with e | e
      · rw [e]; exact Rat.le_refl
      · exact Rat.le_of_lt (RisS.fst hr.2 _ e)
    have hsl : sv f v + sv g v < sv f u + sv g u := by
      have k1 := sv_le hf (Rat.le_of_lt hlt)
      have k2 := sv_le hg (Rat.le_of_lt hlt)
      obtain ⟨c, hc, rfl⟩ := h2 v (by simp)
      rcases List.mem_append.1 hc with hc | hc
      · have := sv_lt hf hc hlt Rat.le_refl
        grind
      · have := sv_lt hg hc hlt Rat.le_refl
        grind
    refine ⟨hlt, fun w w1 w2 => ?_, ?_, hsl, lin_sum hf hg hr.2 (fun c hc h => ?_) fun x hx => h2 x (List.mem_cons_of_mem _ hx)⟩
    · have e1 := pv_lin hf w1 fun c hc h => Rat.le_trans w2 (hge c (List.mem_append_left _ hc) h)
      have e2 := pv_lin hg w1 fun c hc h => Rat.le_trans w2 (hge c (List.mem_append_right _ hc) h)
      show pv f w + pv g w = pv f u + pv g u - (sv f u + sv g u) * (w - u)
      rw [e1, e2]
      grind
    · have := sv_nn (w := v) hf
      have := sv_nn (w := v) hg
      show 0 < sv f u + sv g u
      grind
    · rcases List.mem_cons.1 (h1 c hc (by grind)) with e | e
      · rw [e] at h; exact absurd h Rat.lt_irrefl
      · exact e
end HP
namespace HP
open PySem L2
/-- two rising lists put together, up to these places -/
structure Mg (xs ys : List Rat) (i j : Nat) (ts : List Rat) : Prop where
  ris : ts.Pairwise (· < ·)
  mem : ∀ x, x ∈ ts ↔ x ∈ xs.take j ∨ x ∈ ys.take i
  ltx : ∀ x ∈ ts, ∀ z ∈ xs.drop j, x < z
  lty : ∀ x ∈ ts, ∀ z ∈ ys.drop i, x < z
  len : ts.length ≤ i + j
theorem Mg.one {xs ys : List Rat} (hx : xs.Pairwise (· < ·)) (hy : ys.Pairwise (· < ·)) {i j : Nat} {ts : List Rat} {a b : Rat} (m : Mg xs ys i j ts) (ha : xs[j]? = some a) (hb : ys[i]? = some b) (h : a < b) : Mg xs ys i (j + 1) (ts ++ [a]) := by
  have ex := drop_get ha
  have ey := drop_get hb
  have px : (xs.drop j).Pairwise (· < ·) := hx.sublist (List.drop_sublist _ _)
  have py : (ys.drop i).Pairwise (· < ·) := hy.sublist (List.drop_sublist _ _)
  rw [ex] at px
  rw [ey] at py
  refine ⟨List.pairwise_append.2 ⟨m.ris, List.pairwise_singleton _ _, fun x hx z hz => ?_⟩, fun x => ?_, fun x hx z hz => ?_, fun x hx z hz => ?_, by rw [List.length_append, List.length_singleton]; have := m.len; omega⟩
  · rw [List.mem_singleton.1 hz]
    exact m.ltx x hx a (by rw [ex]; simp)
  · rw [take_succ_get ha, List.mem_append, List.mem_append, m.mem x]
    constructor
    · rintro ((h | h) | h)
      · exact Or.inl (Or.inl h)
      · exact Or.inr h
      · exact Or.inl (Or.inr h)
    · rintro ((h | h) | h)
      · exact Or.inl (Or.inl h)
      · exact Or.inr h
      · exact Or.inl (Or.inr h)
  · rcases List.mem_append.1 hx with hx | hx
    · exact m.ltx x hx z (by rw [ex]; exact List.mem_cons_of_mem _ hz)
    · rw [List.mem_singleton.1 hx]
      exact (List.pairwise_cons.1 px).1 z hz
  · rcases List.mem_append.1 hx with hx | hx
    · exact m.lty x hx z hz
    · rw [List.mem_singleton.1 hx]
      rw [ey] at hz
      rcases List.mem_cons.1 hz with rfl | hz
      · exact h
      · have := (List.pairwise_cons.1 py).1 z hz
        grind
theorem Mg.two {xs ys : List Rat} (hx : xs.Pairwise (· < ·)) (hy : ys.Pairwise (· < ·)) {i j : Nat} {ts : List Rat} {b : Rat} (m : Mg xs ys i j ts) (hb : ys[i]? = some b) (h : ∀ a, xs[j]? = some a → b < a) : Mg xs ys (i + 1) j (ts ++ [b]) := by
  have ey := drop_get hb
  have px : (xs.drop j).Pairwise (· < ·) := hx.sublist (List.drop_sublist _ _)
  have py : (ys.drop i).Pairwise (· < ·) := hy.sublist (List.drop_sublist _ _)
  rw [ey] at py
  refine ⟨List.pairwise_append.2 ⟨m.ris, List.pairwise_singleton _ _, fun x hx z hz => ?_⟩, fun x => ?_, fun x hx z hz => ?_, fun x hx z hz => ?_, by rw [List.length_append, List.length_singleton]; have := m.len; omega⟩
  · rw [List.mem_singleton.1 hz]
    exact m.lty x hx b (by rw [ey]; simp)
  · rw [take_succ_get hb, List.mem_append, List.mem_append, m.mem x, or_assoc]
  · rcases List.mem_append.1 hx with hx | hx
    · exact m.ltx x hx z hz
    · rw [List.mem_singleton.1 hx]
      cases e : xs[j]? with
      | none =>
        rw [List.drop_eq_nil_of_le (List.getElem?_eq_none_iff.1 e)] at hz
        cases hz
      | some a =>
        have hba := h a e
        rw [drop_get e] at hz px
        rcases List.mem_cons.1 hz with rfl | hz
        · exact hba
        · have := (List.pairwise_cons.1 px).1 z hz
          grind
  · rcases List.mem_append.1 hx with hx | hx
    · exact m.lty x hx z (by rw [ey]; exact List.mem_cons_of_mem _ hz)
    · rw [List.mem_singleton.1 hx]
      exact (List.pairwise_cons.1 py).1 z hz
theorem Mg.both {xs ys : List Rat} (hx : xs.Pairwise (· < ·)) (hy : ys.Pairwise (· < ·)) {i j : Nat} {ts : List Rat} {b : Rat} (m : Mg xs ys i j ts) (ha : xs[j]? = some b) (hb : ys[i]? = some b) : Mg xs ys (i + 1) (j + 1) (ts ++ [b]) := by
  have ex := drop_get ha
  have ey := drop_get hb
  have px : (xs.drop j).Pairwise (· < ·) := hx.sublist (List.drop_sublist _ _)
  have py : (ys.drop i).Pairwise (· < ·) := hy.sublist (List.drop_sublist _ _)
  rw [ex] at px
  rw [ey] at py
  refine ⟨List.pairwise_append.2 ⟨m.ris, List.pairwise_singleton _ _, fun x hx z hz => ?_⟩, fun x => ?_, fun x hx z hz => ?_, fun x hx z hz => ?_, by rw [List.length_append, List.length_singleton]; have := m.len; omega⟩
  · rw [List.mem_singleton.1 hz]
    exact m.lty x hx b (by rw [ey]; simp)
  · rw [take_succ_get hb, take_succ_get ha, List.mem_append, List.mem_append, List.mem_append, m.mem x]
    constructor
    · rintro ((h | h) | h)
      · exact Or.inl (Or.inl h)
      · exact Or.inr (Or.inl h)
      · exact Or.inr (Or.inr h)
    · rintro ((h | h) | (h | h))
      · exact Or.inl (Or.inl h)
      · exact Or.inr h
      · exact Or.inl (Or.inr h)
      · exact Or.inr h
  · rcases List.mem_append.1 hx with hx | hx
    · exact m.ltx x hx z (by rw [ex]; exact List.mem_cons_of_mem _ hz)
    · rw [List.mem_singleton.1 hx]
      exact (List.pairwise_cons.1 px).1 z hz
  · rcases List.mem_append.1 hx with hx | hx
    · exact m.lty x hx z (by rw [ey]; exact List.mem_cons_of_mem _ hz)
    · rw [List.mem_singleton.1 hx]
      exact (List.pairwise_cons.1 py).1 z hz
theorem Mg.fin {xs ys : List Rat} (hx : xs.Pairwise (· < ·)) {j : Nat} {ts : List Rat} (m : Mg xs ys ys.length j ts) : (ts ++ xs.drop j).Pairwise (· < ·) ∧ (∀ x, x ∈ ts ++ xs.drop j ↔ x ∈ xs ∨ x ∈ ys) := by
  refine ⟨List.pairwise_append.2 ⟨m.ris, hx.sublist (List.drop_sublist _ _), fun x hx z hz => m.ltx x hx z hz⟩, fun x => ?_⟩
  rw [List.mem_append, m.mem x, List.take_length]
  have e : x ∈ xs ↔ x ∈ xs.take j ∨ x ∈ xs.drop j := by rw [← List.mem_append, List.take_append_drop]
  rw [e]
  constructor
  · rintro ((h | h) | h)
    · exact Or.inl (Or.inl h)
    · exact Or.inr h
    · exact Or.inl (Or.inr h)
  · rintro ((h | h) | h)
    · exact Or.inl (Or.inl h)
    · exact Or.inr h
    · exact Or.inl (Or.inr h)
theorem Mg.nil {xs ys : List Rat} : Mg xs ys 0 0 [] := ⟨List.Pairwise.nil, fun x => by simp, fun x hx => (by cases hx), fun x hx => (by cases hx), Nat.le_refl _⟩
theorem ris_of : {r : List Rat} → r.Pairwise (· < ·) → RisS r
  | [], _ => trivial
  | [_], _ => trivial
  | u :: v :: r, h => ⟨(List.pairwise_cons.1 h).1 v (by simp), ris_of (List.pairwise_cons.1 h).2⟩
section
variable {L : List Fn} {k n m : Nat} {S : Sto}
theorem risen_tail {xs ys : List Rat} {n0 i j : Nat} {ts : List Rat} {b : Rat} {T : Sto} {nx bk ct : Ev → Sto → Prop} {rt : D → Sto → Prop} {ex : Xn → Ev → Sto → Prop} (h1 : S[n]? = some (.lst (xs.map q))) (hx : xs.Pairwise (· < ·)) (hy : ys.Pairwise (· < ·)) (zx : ∀ x ∈ xs, Sz 2000 3000 x) (l1 : xs.length ≤ 1000) (l2 : ys.length ≤ 1000) (hn0 : S.length = n0)
    (gb : ys[i]? = some b) (hag : Ag (fun _ => False) S T) (hts : T[n0]? = some (.lst (ts.map q))) (hj : j ≤ xs.length) (hM : Mg xs ys i j ts) (hno : ∀ a, xs[j]? = some a → ¬ a < b)
    (K : ∀ (j' : Nat) (ts' : List Rat) (T' : Sto), Ag (fun _ => False) S T' → T'[n0]? = some (.lst (ts'.map q)) → j' ≤ xs.length → Mg xs ys (i + 1) j' ts' → nx [some (.loc n), some (.loc m), some (.loc n0), some (.int j'), some (q b)] T') :
    WpS (evSs (callN (Gof L) k)
      (Ss.cons
        (St.ite
          (E.band
            (Es.cons (E.cmp Cop.lt (E.var 3) (E.bcall Bf.len (Es.cons (E.var 0) Es.nil)))
              (Es.cons (E.cmp Cop.eq ((E.var 0).ix (E.var 3)) (E.var 4)) Es.nil)))
          (Ss.cons (St.set 3 (E.bin Bop.add (E.var 3) (E.int 1))) Ss.nil) Ss.nil)
        (Ss.cons (St.expr (E.meth Mt.append (E.var 2) (Es.cons (E.var 4) Es.nil))) Ss.nil))
      [some (D.loc n), some (D.loc m), some (D.loc n0), some (D.int j), some (q b)] T) ⟨nx, rt, bk, ct, ex⟩ := by
  have hx1 := hag.get h1 id
  have hi := (List.getElem?_eq_some_iff.1 gb).1
  have push : Ag (fun _ => False) S (T.set n0 (.lst (ts.map q ++ [q b]))) ∧ (T.set n0 (.lst (ts.map q ++ [q b])))[n0]? = some (.lst ((ts ++ [b]).map q)) :=
    ⟨hag.new (Ag.set (Or.inl (Or.inr (by omega)))), by rw [set_get hts, List.map_append]; rfl⟩
  have hlen : (ts.map q).length < 16777216 := by rw [List.length_map]; have := hM.len; omega
  refine wps_cons (wps_ite ?_)
  walk_at "hy"
  rw [List.length_map]
  refine wq_dec (fun c1 => ?_) (fun c1 => ?_)
  · have hj1 : j < xs.length := by omega
    have ga : xs[j]? = some (xs[j]'hj1) := List.getElem?_eq_getElem _
    generalize xs[j]'hj1 = a at ga
    have ga2 : (xs.map q)[j]? = some (q a) := by rw [List.getElem?_map, ga]; rfl
    walk_at "hy"
    refine wx_ix (seq_loc hx1) (atI_get ga2) ?_
    walk_at "hy"
    refine wc_eq (eqD_q _ _) ?_
    walk_at "hy"
    refine wq_dec (fun c2 => ?_) (fun c2 => ?_)
    · subst c2
      walk_at "hys"
      refine ⟨isL_loc hts, ?_⟩
      walk_at "hys"
      refine wm_append hts hlen ?_
      walk_at "hys"
      exact K (j + 1) _ _ push.1 push.2 hj1 (hM.both hx hy ga gb)
    · walk_at "hys"
      refine ⟨isL_loc hts, ?_⟩
      walk_at "hys"
      refine wm_append hts hlen ?_
      walk_at "hys"
      refine K j _ _ push.1 push.2 hj (hM.two hx hy gb fun a' e => ?_)
      rw [ga] at e
      cases e
      have := hno a ga
      grind
  · walk_at "hys"
    refine ⟨isL_loc hts, ?_⟩
    walk_at "hys"
    refine wm_append hts hlen ?_
    walk_at "hys"
    refine K j _ _ push.1 push.2 hj (hM.two hx hy gb fun a' e => ?_)
    have := (List.getElem?_eq_some_iff.1 e).1
    omega
theorem risen_ok {xs ys : List Rat} (h1 : S[n]? = some (.lst (xs.map q))) (h2 : S[m]? = some (.lst (ys.map q))) (hx : xs.Pairwise (· < ·)) (hy : ys.Pairwise (· < ·)) (zx : ∀ x ∈ xs, Sz 2000 3000 x) (zy : ∀ x ∈ ys, Sz 2000 3000 x) (l1 : xs.length ≤ 1000) (l2 : ys.length ≤ 1000) :
    Wp (callN (Gof L) (k + 2) 188 [.loc n, .loc m] S) fun d S' => Ag (fun _ => False) S S' ∧ ∃ (l : Nat) (rs : List Rat), d = .loc l ∧ S.length ≤ l ∧ S'[l]? = some (.lst (rs.map q)) ∧ rs.Pairwise (· < ·) ∧ (∀ x, x ∈ rs ↔ x ∈ xs ∨ x ∈ ys) ∧ rs.length ≤ xs.length + ys.length := by
  refine wp_def (fn := F_risen) rfl rfl ?_
  unfold F_risen
  walk_at "hp0"
  walk_at "hys"
  have hA : Ag (fun _ => False) S (S ++ [.lst []]) := Ag.app
  have ht : (S ++ [.lst []])[S.length]? = some (.lst (([] : List Rat).map q)) := app_get
  have h2' := hA.get h2 id
  have hn1 := get_lt h1
  have hm1 := get_lt h2
  generalize S ++ [.lst []] = S1 at *
  generalize hn0 : S.length = n0 at *
  refine wi_loc h2' ?_
  refine forE_inv (fun i r S' => Ag (fun _ => False) S S' ∧ ∃ (j : Nat) (ts : List Rat) (z4 : Option D), r = [some (.loc n), some (.loc m), some (.loc n0), some (.int j), z4] ∧ S'[n0]? = some (.lst (ts.map q)) ∧ j ≤ xs.length ∧ i ≤ ys.length ∧ Mg xs ys i j ts)
    ⟨hA, 0, [], none, rfl, ht, Nat.zero_le _, Nat.zero_le _, .nil⟩ (fun i r S' _ hh => still1 (hh.1.get h2 id)) ?_ ?_
  · rintro i d r S' hd ⟨hag, j, ts, z4, rfl, hts, hj, hi, hM⟩
    rw [List.getElem?_map, Option.map_eq_some_iff] at hd
    obtain ⟨b, gb, rfl⟩ := hd
    have hbz := zy b (List.mem_of_getElem? gb)
    refine ⟨_, rfl, ?_⟩
    walk_at "hys"
    refine wps_whl (n := xs.length - j) (fun w r T => Ag (fun _ => False) S T ∧ ∃ (j : Nat) (ts : List Rat), w = xs.length - j ∧ r = [some (.loc n), some (.loc m), some (.loc n0), some (.int j), some (q b)] ∧ T[n0]? = some (.lst (ts.map q)) ∧ j ≤ xs.length ∧ Mg xs ys i j ts)
      ⟨hag, j, ts, rfl, rfl, hts, hj, hM⟩ ?_
    rintro w r T ⟨hag, j, ts, rfl, rfl, hts, hj, hM⟩
    have hx1 := hag.get h1 id
    walk_at "hy"
    rw [List.length_map]
    refine wq_dec (fun c1 => ?_) (fun c1 => ?_)
    · have hj1 : j < xs.length := by omega
      have ga : xs[j]? = some (xs[j]'hj1) := List.getElem?_eq_getElem _
      generalize xs[j]'hj1 = a at ga
      have haz := zx a (List.mem_of_getElem? ga)
      have ga2 : (xs.map q)[j]? = some (q a) := by rw [List.getElem?_map, ga]; rfl
      walk_at "hy"
      refine wx_ix (seq_loc hx1) (atI_get ga2) ?_
      walk_at "hy"
      refine wp_val (is_less_ok haz hbz (by decide) (by decide)) ?_
      walk_at "hy"
      refine wq_dec (fun c2 => ?_) (fun c2 => ?_)
      · walk_at "hys"
        refine ⟨isL_loc hts, ?_⟩
        walk_at "hys"
        refine wx_ix (seq_loc hx1) (atI_get ga2) ?_
        walk_at "hys"
        refine wm_append hts (by rw [List.length_map]; have := hM.len; show ts.length < 16777216; omega) ?_
        walk_at "hys"
        have hA2 := Ag.set (P := (· = n0)) (S := T) (o := .lst (ts.map q ++ [q a])) (Or.inl rfl)
        exact ⟨xs.length - (j + 1), by omega, hag.new (Ag.set (Or.inl (Or.inr (by omega)))), j + 1, ts ++ [a], rfl, rfl, by rw [set_get hts, List.map_append]; rfl, hj1, hM.one hx hy ga gb c2⟩
      · exact risen_tail h1 hx hy zx l1 l2 hn0 gb hag hts hj hM (fun a' e => by rw [ga] at e; cases e; exact c2) fun j' ts' T' g1 g2 g3 g4 => ⟨g1, j', ts', _, rfl, g2, g3, (List.getElem?_eq_some_iff.1 gb).1, g4⟩
    · exact ⟨fun h => (by cases h), fun _ => risen_tail h1 hx hy zx l1 l2 hn0 gb hag hts hj hM (fun a' e => by have := (List.getElem?_eq_some_iff.1 e).1; omega) fun j' ts' T' g1 g2 g3 g4 => ⟨g1, j', ts', _, rfl, g2, g3, (List.getElem?_eq_some_iff.1 gb).1, g4⟩⟩
  · rintro r T ⟨hag, j, ts, z4, rfl, hts, hj, hi, hM⟩
    rw [List.length_map] at hM
    have hx1 := hag.get h1 id
    walk_at "hys"
    refine ws_lst (lst_loc hx1) ?_
    rw [show cutL (xs.map q) (some (j : Int)) none = (xs.map q).drop j from cut_end (by rw [List.length_map]; exact hj)]
    have hA3 : Ag (fun _ => False) T (T ++ [.lst ((xs.map q).drop j)]) := Ag.app
    have hts3 := hA3.get hts id
    have hd3 : (T ++ [.lst ((xs.map q).drop j)])[T.length]? = some (.lst ((xs.map q).drop j)) := app_get
    refine wb_addl hts3 hd3 (by rw [List.length_drop, List.length_map, List.length_map]; have := hM.len; show _ ≤ 16777216; omega) ?_
    have hlT := get_lt hts
    have hF := hM.fin hx
    refine ⟨(hag.trans hA3).trans Ag.app, _, ts ++ xs.drop j, rfl, by rw [List.length_append]; omega, by rw [app_get, List.map_append, List.map_drop], hF.1, hF.2, ?_⟩
    rw [List.length_append, List.length_drop]
    have := hM.len
    omega
end
end HP
namespace HP
open PySem L2
/-- the wholes of two shapes put beside one another -/
structure Bes (f g : List (Rat × Rat)) (u : Rat) (r : List Rat) : Prop where
  ris : RisS (u :: r)
  up : ∀ c ∈ f.tail ++ g.tail, u < c.1 → c.1 ∈ r
  br : ∀ v ∈ r, ∃ c ∈ f.tail ++ g.tail, c.1 = v
def sumH (f g : List (Rat × Rat)) (w : Rat) : Rat := pv f w + pv g w
theorem pv_sz {a : Rat × Rat} {f : List (Rat × Rat)} {w : Rat} (hs : Shp (a :: f)) (hz : ∀ c ∈ a :: f, Ok2 c) (hw : Sz 200 200 w) (h : a.1 ≤ w) : Sz 1500 2000 (pv (a :: f) w) := by
  have := at_pv hs h
  generalize pv (a :: f) w = p at this ⊢
  cases this with
  | @way i a' b' ha hb h1 h2 =>
    have ha' := hz _ (List.mem_of_getElem? ha)
    have hb' := hz _ (List.mem_of_getElem? hb)
    exact (ha'.2.sub ((fall_sz ha' hb' (hs.mono i a' b' ha hb).1).mul (hw.sub ha'.1))).mono (by decide) (by decide)
  | last ha h1 => exact (hz _ (List.mem_of_getElem? ha)).2.mono (by decide) (by decide)
theorem shp_pw : {f : List (Rat × Rat)} → Shp f → (f.map (·.1)).Pairwise (· < ·)
  | [], _ => List.Pairwise.nil
  | [_], _ => List.pairwise_singleton _ _
  | a :: b :: f, h => by
    refine List.pairwise_cons.2 ⟨fun x hx => ?_, shp_pw h.tl⟩
    obtain ⟨c, hc, rfl⟩ := List.mem_map.1 hx
    have := Shp.fst h.tl c hc
    have := h.lt.1
    grind
section
variable {L : List Fn} {k n m : Nat} {S : Sto}
theorem shapes_beside_ok {a b : Rat × Rat} {f g : List (Rat × Rat)} (h1 : S[n]? = some (.lst ((a :: f).map pr))) (h2 : S[m]? = some (.lst ((b :: g).map pr))) (hf : Shp (a :: f)) (hg : Shp (b :: g)) (zf : ∀ c ∈ a :: f, Ok2 c) (zg : ∀ c ∈ b :: g, Ok2 c) (l1 : (a :: f).length < 100) (l2 : (b :: g).length < 100) :
    Wp (callN (Gof L) (k + 6) 196 [.loc n, .loc m] S) fun d S' => Ag (fun _ => False) S S' ∧ ∃ (l : Nat) (r : List Rat), d = .loc l ∧ S.length ≤ l ∧ S'[l]? = some (.lst (((((if a.1 < b.1 then b.1 else a.1) :: r).map (ptS (sumH (a :: f) (b :: g))))).map pr)) ∧
      Bes (a :: f) (b :: g) (if a.1 < b.1 then b.1 else a.1) r ∧ r.length ≤ 200 := by
  have haz := zf a (by simp)
  have hbz := zg b (by simp)
  have hua : a.1 ≤ (if a.1 < b.1 then b.1 else a.1) := by split <;> grind
  have hub : b.1 ≤ (if a.1 < b.1 then b.1 else a.1) := by split <;> grind
  have huz : Sz 200 200 (if a.1 < b.1 then b.1 else a.1) := by
    split
    · exact hbz.1
    · exact haz.1
  have hLa := larger_ok (L := L) (k := k + 3) (S := S) haz.1 hbz.1 (by decide) (by decide)
  generalize (if a.1 < b.1 then b.1 else a.1) = u at *
  have ga2 : ((a :: f).map pr)[0]? = some (pr a) := rfl
  have gb2 : ((b :: g).map pr)[0]? = some (pr b) := rfl
  refine wp_def (fn := F_shapes_beside) rfl rfl ?_
  unfold F_shapes_beside
  walk_at "hp0"
  walk_at "hys"
  refine wx_ix (seq_loc h1) (atI_get (i := 0) ga2) ?_
  walk_at "hy"
  refine wx_ix (seq_loc h2) (atI_get (i := 0) gb2) ?_
  walk_at "hy"
  refine wp_val hLa ?_
  walk_at "hys"
  have hA : Ag (fun _ => False) S (S ++ [.lst [q u]]) := Ag.app
  have h3 : (S ++ [.lst [q u]])[S.length]? = some (.lst (([u] : List Rat).map q)) := app_get
  generalize S ++ [.lst [q u]] = S1 at *
  generalize hn3 : S.length = n3 at *
  refine wi_loc (hA.get h1 id) ?_
  refine comp_all (g := fun c => q c.1) (by omega) (fun U hU => still1 (hU.get (hA.get h1 id) id)) (fun i c gc U hU => ?_) (fun S2 hag2 hx => ?_)
  · refine ⟨_, rfl, ?_⟩
    unfold pr
    walk_at "hy"
    exact ⟨rfl, Ag.rfl⟩
  have hB := hA.trans hag2
  walk_at "hys"
  refine wi_loc (hB.get h2 id) ?_
  refine comp_all (g := fun c => q c.1) (by omega) (fun U hU => still1 (hU.get (hB.get h2 id) id)) (fun i c gc U hU => ?_) (fun S3 hag3 hy => ?_)
  · refine ⟨_, rfl, ?_⟩
    unfold pr
    walk_at "hy"
    exact ⟨rfl, Ag.rfl⟩
  have hC := hB.trans hag3
  have hx3 := hag3.get hx id
  have e1 : (a :: f).map (fun c => q c.1) = ((a :: f).map (·.1)).map q := by rw [List.map_map]; rfl
  have e2 : (b :: g).map (fun c => q c.1) = ((b :: g).map (·.1)).map q := by rw [List.map_map]; rfl
  rw [e1] at hx3
  rw [e2] at hy
  walk_at "hys"
  have zx : ∀ x ∈ (a :: f).map (·.1), Sz 200 200 x := fun x hx => by
    obtain ⟨c, hc, rfl⟩ := List.mem_map.1 hx
    exact (zf c hc).1
  have zy : ∀ x ∈ (b :: g).map (·.1), Sz 200 200 x := fun x hx => by
    obtain ⟨c, hc, rfl⟩ := List.mem_map.1 hx
    exact (zg c hc).1
  refine wp_mono (risen_ok hx3 hy (shp_pw hf) (shp_pw hg) (fun x hx => (zx x hx).mono (by decide) (by decide)) (fun x hx => (zy x hx).mono (by decide) (by decide)) (by rw [List.length_map]; omega) (by rw [List.length_map]; omega)) ?_
  rintro _ S4 ⟨hag4, l4, rs, rfl, hl4, hrs, hris, hmem, hlen⟩
  have hD := hC.trans hag4
  have h34 := (hag2.trans (hag3.trans hag4)).get h3 id
  have rsz : ∀ x ∈ rs, Sz 200 200 x := fun x hx => ((hmem x).1 hx).elim (zx x) (zy x)
  have hS4 := hD.1
  have hl34 : n3 ≠ l4 := by
    have := get_lt h3
    have := hag2.1
    have := hag3.1
    omega
  have hlr : rs.length ≤ 198 := by rw [List.length_map, List.length_map] at hlen; omega
  walk_at "hys"
  refine wi_loc hrs ?_
  have hrs4 := hrs
  refine forE_inv (fun i r T => Ag (fun _ => False) S T ∧ (∃ z4, r = [some (.loc n), some (.loc m), some (q u), some (.loc n3), z4, none]) ∧ T[l4]? = some (.lst (rs.map q)) ∧ T[n3]? = some (.lst ((u :: (rs.take i).filter fun x => decide (u < x)).map q)))
    ⟨hD, ⟨none, rfl⟩, hrs, h34⟩ (fun i r T _ hh => still1 hh.2.2.1) ?_ ?_
  · rintro i d r T hd ⟨hag, ⟨z4, rfl⟩, hrT, hT⟩
    rw [List.getElem?_map, Option.map_eq_some_iff] at hd
    obtain ⟨w, gw, rfl⟩ := hd
    have hwz := rsz w (List.mem_of_getElem? gw)
    refine ⟨_, rfl, ?_⟩
    walk_at "hys"
    refine wps_ite ?_
    walk_at "hy"
    refine wp_val (is_less_ok huz hwz (by decide) (by decide)) ?_
    walk_at "hys"
    refine wq_dec (fun c1 => ?_) (fun c1 => ?_)
    · walk_at "hys"
      refine ⟨isL_loc hT, ?_⟩
      walk_at "hys"
      have hfl := List.length_filter_le (fun x => decide (u < x)) (rs.take i)
      have htl : (rs.take i).length ≤ rs.length := by rw [List.length_take]; omega
      refine wm_append hT (by rw [List.length_map, List.length_cons]; show _ < 16777216; omega) ?_
      walk_at "hys"
      refine ⟨hag.new (Ag.set (Or.inl (Or.inr (by omega)))), ⟨_, rfl⟩, ?_, ?_⟩
      · exact (Ag.set (P := (· = n3)) (S := T) (Or.inl rfl)).get hrT (by omega)
      · rw [set_get hT, take_succ_get gw, List.filter_append, List.filter_cons_of_pos (by rw [decide_eq_true c1]), List.filter_nil, ← List.cons_append, List.map_append]
        rfl
    · walk_at "hys"
      refine ⟨hag, ⟨_, rfl⟩, hrT, ?_⟩
      rw [take_succ_get gw, List.filter_append, List.filter_cons_of_neg (by rw [decide_eq_false c1]; exact Bool.false_ne_true), List.filter_nil, List.append_nil]
      exact hT
  · rintro r T ⟨hag, ⟨z4, rfl⟩, hrT, hT⟩
    rw [List.length_map, List.take_length] at hT
    have hfl := List.length_filter_le (fun x => decide (u < x)) rs
    have hB : Bes (a :: f) (b :: g) u (rs.filter fun x => decide (u < x)) := by
      refine ⟨ris_of (List.pairwise_cons.2 ⟨fun x hx => ?_, hris.sublist List.filter_sublist⟩), fun c hc h => ?_, fun v hv => ?_⟩
      · exact of_decide_eq_true (List.mem_filter.1 hx).2
      · refine List.mem_filter.2 ⟨(hmem c.1).2 ?_, decide_eq_true h⟩
        rcases List.mem_append.1 hc with hc | hc
        · exact Or.inl (List.mem_map_of_mem (f := (·.1)) (List.mem_cons_of_mem _ hc))
        · exact Or.inr (List.mem_map_of_mem (f := (·.1)) (List.mem_cons_of_mem _ hc))
      · obtain ⟨hv1, hv2⟩ := List.mem_filter.1 hv
        have hv2 := of_decide_eq_true hv2
        rcases (hmem v).1 hv1 with h | h
        · obtain ⟨c, hc, rfl⟩ := List.mem_map.1 h
          rcases List.mem_cons.1 hc with rfl | hc
          · exact absurd hv2 (Rat.not_lt.2 hua)
          · exact ⟨c, List.mem_append_left _ hc, rfl⟩
        · obtain ⟨c, hc, rfl⟩ := List.mem_map.1 h
          rcases List.mem_cons.1 hc with rfl | hc
          · exact absurd hv2 (Rat.not_lt.2 hub)
          · exact ⟨c, List.mem_append_right _ hc, rfl⟩
    have rz : ∀ x ∈ u :: rs.filter fun x => decide (u < x), u ≤ x ∧ Sz 200 200 x := fun x hx => by
      rcases List.mem_cons.1 hx with rfl | hx
      · exact ⟨Rat.le_refl, huz⟩
      · exact ⟨Rat.le_of_lt (of_decide_eq_true (List.mem_filter.1 hx).2), rsz x (List.mem_filter.1 hx).1⟩
    generalize (rs.filter fun x => decide (u < x)) = r at *
    walk_at "hys"
    refine wi_loc hT ?_
    refine comp_all (g := fun w => pr (ptS (sumH (a :: f) (b :: g)) w)) (by rw [List.length_cons]; omega) (fun U hU => still1 (hU.get hT id)) (fun i w gw U hU => ?_) (fun U hU hr => ?_)
    · obtain ⟨huw, hwz⟩ := rz w (List.mem_of_getElem? gw)
      refine ⟨_, rfl, ?_⟩
      walk_at "hy"
      refine wp_mono (price_atP_ok (k := k) ((hag.trans hU).get h1 id) hf zf (hwz.mono (by decide) (by decide)) l1) ?_
      rintro _ U1 ⟨hu1, hp1⟩
      rcases hp1 with ⟨rfl, hno⟩ | ⟨p1, rfl, hp1⟩
      · exact absurd (Rat.le_trans hua huw) (Rat.not_le.2 (hno a rfl))
      walk_at "hy"
      refine wp_mono (price_atP_ok (k := k) (((hag.trans hU).trans hu1).get h2 id) hg zg (hwz.mono (by decide) (by decide)) l2) ?_
      rintro _ U2 ⟨hu2, hp2⟩
      rcases hp2 with ⟨rfl, hno⟩ | ⟨p2, rfl, hp2⟩
      · exact absurd (Rat.le_trans hub huw) (Rat.not_le.2 (hno b rfl))
      rw [pv_at hf hp1, pv_at hg hp2]
      walk_at "hy"
      refine wp_val (plus_ok (pv_sz hf zf hwz (Rat.le_trans hua huw)) (pv_sz hg zg hwz (Rat.le_trans hub huw)) (by decide) (by decide)) ?_
      walk_at "hy"
      exact ⟨rfl, hu1.trans hu2⟩
    · refine ⟨hag.trans hU, T.length, r, rfl, ?_, ?_, hB, by omega⟩
      · have := hag.1
        omega
      · rw [hr]
        show _ = some (O.lst (List.map pr (List.map (ptS (sumH (a :: f) (b :: g))) (u :: r))))
        rw [List.map_map]
        rfl
end
end HP
namespace HP
open PySem L2
theorem bes_shp {a b : Rat × Rat} {f g : List (Rat × Rat)} {u : Rat} {r : List Rat} (hf : Shp (a :: f)) (hg : Shp (b :: g)) (h : Bes (a :: f) (b :: g) u r) (h1 : a.1 ≤ u) (h2 : b.1 ≤ u) :
    Shp ((u :: r).map (ptS (sumH (a :: f) (b :: g)))) ∧ ∀ w, u ≤ w → pv ((u :: r).map (ptS (sumH (a :: f) (b :: g)))) w = sumH (a :: f) (b :: g) w := by
  have hl : LinS (sumH (a :: f) (b :: g)) (fun w => sv (a :: f) w + sv (b :: g) w) (u :: r) := lin_sum hf hg h.ris h.up h.br
  refine ⟨lin_shp hl (by simp) fun w hw => ?_, fun w hw => lin_pv hl hw⟩
  have huw : u ≤ w := by
    rcases List.mem_cons.1 hw with rfl | hw
    · exact Rat.le_refl
    · exact Rat.le_of_lt (RisS.fst h.ris w hw)
  have ha := (hf.pos a (by simp)).1
  refine ⟨by grind, ?_⟩
  have := pv_nn hf (Rat.le_trans h1 huw)
  have := pv_nn hg (Rat.le_trans h2 huw)
  show 0 ≤ pv (a :: f) w + pv (b :: g) w
  grind
def scS (s c : Rat) (p : Rat × Rat) : Rat × Rat := (s * p.1, c * p.2)
def pcs : List (Rat × Rat) → List (Rat × Rat)
  | a :: b :: r => (rateB a b, b.1 - a.1) :: pcs (b :: r)
  | _ => []
theorem pcs_len : {bs : List (Rat × Rat)} → (pcs bs).length = bs.length - 1
  | [] => rfl
  | [_] => rfl
  | a :: b :: r => by
    have := pcs_len (bs := b :: r)
    show (pcs (b :: r)).length + 1 = _
    rw [this]
    rfl
theorem pcs_zip : (bs : List (Rat × Rat)) → pcs bs = (bs.zip (bs.drop 1)).map fun p => (rateB p.1 p.2, p.2.1 - p.1.1)
  | [] => rfl
  | [_] => rfl
  | a :: b :: r => by
    show (rateB a b, b.1 - a.1) :: pcs (b :: r) = _
    rw [pcs_zip (b :: r)]
    rfl
theorem zipL_map {A B : Type} {f : A → D} {g : B → D} : (xs : List A) → (ys : List B) → zipL (xs.map f) (ys.map g) = (xs.zip ys).map fun p => .tup [f p.1, g p.2]
  | [], _ => by simp [zipL]
  | _ :: _, [] => by simp [zipL]
  | x :: xs, y :: ys => by
    have := zipL_map (f := f) (g := g) xs ys
    simp only [List.map_cons, List.zip_cons_cons, zipL] at this ⊢
    simp [this]
theorem zip_mem {bs : List (Rat × Rat)} {i : Nat} {p : (Rat × Rat) × (Rat × Rat)} (h : (bs.zip (bs.drop 1))[i]? = some p) : bs[i]? = some p.1 ∧ bs[i + 1]? = some p.2 := by
  rw [List.getElem?_zip_eq_some] at h
  refine ⟨h.1, ?_⟩
  rw [← h.2, List.getElem?_drop, Nat.add_comm]
section
variable {L : List Fn} {k n m : Nat} {S : Sto}
theorem shape_scaled_ok {bs : List (Rat × Rat)} {s c : Rat} (h1 : S[n]? = some (.lst (bs.map pr))) (hz : ∀ p ∈ bs, Ok2 p) (l1 : bs.length < 100) (hs : Sz 500 500 s) (hc : Sz 500 500 c) :
    Wp (callN (Gof L) (k + 4) 194 [.loc n, q s, q c] S) fun d S' => Ag (fun _ => False) S S' ∧ d = .loc S.length ∧ S'[S.length]? = some (.lst ((bs.map (scS s c)).map pr)) := by
  refine wp_def (fn := F_shape_scaled) rfl rfl ?_
  unfold F_shape_scaled
  walk_at "hp0"
  walk_at "hys"
  refine wi_loc h1 ?_
  refine comp_all (g := fun p => pr (scS s c p)) (by omega) (fun U hU => still1 (hU.get h1 id)) (fun i p gp U hU => ?_) (fun S1 hag1 h2 => ?_)
  · have hpz := hz p (List.mem_of_getElem? gp)
    unfold pr
    refine ⟨_, rfl, ?_⟩
    walk_at "hy"
    refine wp_val (product_ok hs hpz.1 (by decide) (by decide)) ?_
    walk_at "hy"
    refine wp_val (product_ok hc hpz.2 (by decide) (by decide)) ?_
    walk_at "hy"
    exact ⟨rfl, Ag.rfl⟩
  exact ⟨hag1, rfl, by rw [h2, List.map_map]; rfl⟩
theorem pieces_of_ok {bs : List (Rat × Rat)} (h1 : S[n]? = some (.lst (bs.map pr))) (hs : Shp bs) (hz : ∀ p ∈ bs, Ok2 p) (l1 : bs.length < 100) :
    Wp (callN (Gof L) (k + 5) 154 [.loc n] S) fun d S' => Ag (fun _ => False) S S' ∧ ∃ l, d = .loc l ∧ S.length ≤ l ∧ S'[l]? = some (.lst ((pcs bs).map pr)) := by
  have hpos : 0 < bs.length := List.length_pos_iff.2 hs.one
  refine wp_def (fn := F_pieces_of) rfl rfl ?_
  unfold F_pieces_of
  walk_at "hp0"
  walk_at "hys"
  refine ws_lst (lst_loc h1) ?_
  rw [show cutL (bs.map pr) (some 1) none = (bs.map pr).drop 1 from cut_end (j := 1) (by rw [List.length_map]; omega)]
  have hA : Ag (fun _ => False) S (S ++ [.lst ((bs.map pr).drop 1)]) := Ag.app
  have hd : (S ++ [.lst ((bs.map pr).drop 1)])[S.length]? = some (.lst ((bs.map pr).drop 1)) := app_get
  have hn := hA.get h1 id
  generalize S ++ [.lst ((bs.map pr).drop 1)] = S1 at *
  refine wp_zipL (itLst_loc hn) (itLst_loc hd) ?_
  dsimp only
  rw [← List.map_drop, zipL_map]
  refine comp_all (xs := bs.zip (bs.drop 1)) (g := fun p => pr (rateB p.1 p.2, p.2.1 - p.1.1)) (by rw [List.length_zip]; omega) (fun U hU => ?_) (fun i p gp U hU => ?_) (fun S2 hag2 h2 => ?_)
  · intro p hp
    rcases List.mem_cons.1 hp with rfl | hp
    · exact still1 (hU.get hn id) _ List.mem_cons_self
    · rw [← List.map_drop] at hd
      exact still1 (hU.get hd id) _ hp
  · obtain ⟨ga, gb⟩ := zip_mem gp
    obtain ⟨a, b⟩ := p
    have ha := hz a (List.mem_of_getElem? ga)
    have hb := hz b (List.mem_of_getElem? gb)
    have hm := hs.mono i a b ga gb
    refine ⟨_, rfl, ?_⟩
    walk_at "hy"
    refine wp_val (fall_of_ok ha hb hm.1) ?_
    walk_at "hy"
    refine wp_val (minus_ok hb.1 ha.1 (by decide) (by decide)) ?_
    walk_at "hy"
    exact ⟨rfl, Ag.rfl⟩
  · refine ⟨hA.trans hag2, _, rfl, hA.1, ?_⟩
    rw [h2, pcs_zip, List.map_map]
    rfl
end
end HP
namespace HP
open PySem L2
def mrg : List (Rat × Rat) → List (Rat × Rat) → List (Rat × Rat)
  | [], ys => ys
  | x :: xs, [] => x :: xs
  | x :: xs, y :: ys => if y.1 < x.1 then x :: mrg xs (y :: ys) else if x.1 = y.1 then (y.1, y.2 + x.2) :: mrg xs ys else y :: mrg (x :: xs) ys
termination_by xs ys => xs.length + ys.length
theorem mrg_nil (xs : List (Rat × Rat)) : mrg xs [] = xs := by
  cases xs with
  | nil => rw [mrg]
  | cons x xs => rw [mrg]
theorem mrg_one {x y : Rat × Rat} {xs ys : List (Rat × Rat)} (h : y.1 < x.1) : mrg (x :: xs) (y :: ys) = x :: mrg xs (y :: ys) := by rw [mrg, if_pos h]
theorem mrg_both {x y : Rat × Rat} {xs ys : List (Rat × Rat)} (h : x.1 = y.1) : mrg (x :: xs) (y :: ys) = (y.1, y.2 + x.2) :: mrg xs ys := by
  rw [mrg, if_neg (by rw [h]; exact Rat.lt_irrefl), if_pos h]
theorem mrg_two {y : Rat × Rat} {xs ys : List (Rat × Rat)} (h : ∀ x, xs[0]? = some x → ¬ y.1 < x.1 ∧ x.1 ≠ y.1) : mrg xs (y :: ys) = y :: mrg xs ys := by
  cases xs with
  | nil => rw [mrg, mrg]
  | cons x xs =>
    obtain ⟨h1, h2⟩ := h x rfl
    rw [mrg, if_neg h1, if_neg h2]
section
variable {L : List Fn} {k n m : Nat} {S : Sto}
theorem falls_tail {xs ys : List (Rat × Rat)} {n0 i j : Nat} {ts : List (Rat × Rat)} {y : Rat × Rat} {T : Sto} {nx bk ct : Ev → Sto → Prop} {rt : D → Sto → Prop} {ex : Xn → Ev → Sto → Prop} (h1 : S[n]? = some (.lst (xs.map pr))) (zx : ∀ x ∈ xs, Sz 700 1100 x.1 ∧ Sz 500 500 x.2) (zy : ∀ x ∈ ys, Sz 700 1100 x.1 ∧ Sz 500 500 x.2) (l1 : xs.length ≤ 1000) (l2 : ys.length ≤ 1000) (hn0 : S.length = n0)
    (gy : ys[i]? = some y) (hag : Ag (fun _ => False) S T) (hts : T[n0]? = some (.lst (ts.map pr))) (hj : j ≤ xs.length) (hl : ts.length ≤ i + j) (hM : ts ++ mrg (xs.drop j) (ys.drop i) = mrg xs ys) (hno : ∀ a, xs[j]? = some a → ¬ y.1 < a.1)
    (K : ∀ (j' : Nat) (ts' : List (Rat × Rat)) (T' : Sto) (z : D), Ag (fun _ => False) S T' → T'[n0]? = some (.lst (ts'.map pr)) → j' ≤ xs.length → ts'.length ≤ i + 1 + j' → ts' ++ mrg (xs.drop j') (ys.drop (i + 1)) = mrg xs ys → nx [some (.loc n), some (.loc m), some (.loc n0), some (.int j'), some (q y.1), some z] T') :
    WpS (evSs (callN (Gof L) (k + 3))
      (.cons (.ite (.band (.cons (.cmp .lt (.var 3) (.bcall .len (.cons (.var 0) .nil))) (.cons (.cmp .eq (.ix (.ix (.var 0) (.var 3)) (.int 0)) (.var 4)) .nil))) (.cons (.set 5 (.call 164 (.cons (.var 5) (.cons (.ix (.ix (.var 0) (.var 3)) (.int 1)) .nil))))
 (.cons (.set 3 (.bin .add (.var 3) (.int 1)))
 .nil)) .nil)
 (.cons (.expr (.meth .append (.var 2) (.cons (.tup (.cons (.var 4) (.cons (.var 5) .nil))) .nil)))
 .nil))
      [some (D.loc n), some (D.loc m), some (D.loc n0), some (D.int j), some (q y.1), some (q y.2)] T) ⟨nx, rt, bk, ct, ex⟩ := by
  have hx1 := hag.get h1 id
  have hi := (List.getElem?_eq_some_iff.1 gy).1
  have ey := drop_get gy
  have push : ∀ p : Rat × Rat, Ag (fun _ => False) S (T.set n0 (.lst (ts.map pr ++ [.tup [q p.1, q p.2]]))) ∧ (T.set n0 (.lst (ts.map pr ++ [.tup [q p.1, q p.2]])))[n0]? = some (.lst ((ts ++ [p]).map pr)) := fun p =>
    ⟨hag.new (Ag.set (Or.inl (Or.inr (by omega)))), by rw [set_get hts, List.map_append]; rfl⟩
  have hlen : (ts.map pr).length < 16777216 := by rw [List.length_map]; omega
  refine wps_cons (wps_ite ?_)
  walk_at "hy"
  rw [List.length_map]
  refine wq_dec (fun c1 => ?_) (fun c1 => ?_)
  · have hj1 : j < xs.length := by omega
    have ga : xs[j]? = some (xs[j]'hj1) := List.getElem?_eq_getElem _
    generalize xs[j]'hj1 = a at ga
    have haz := zx a (List.mem_of_getElem? ga)
    have hyz := zy y (List.mem_of_getElem? gy)
    have ga2 : (xs.map pr)[j]? = some (pr a) := by rw [List.getElem?_map, ga]; rfl
    have ex := drop_get ga
    walk_at "hy"
    refine wx_ix (seq_loc hx1) (atI_get ga2) ?_
    walk_at "hy"
    refine wc_eq (eqD_q _ _) ?_
    walk_at "hy"
    refine wq_dec (fun c2 => ?_) (fun c2 => ?_)
    · walk_at "hys"
      refine wx_ix (seq_loc hx1) (atI_get ga2) ?_
      walk_at "hys"
      refine wp_val (plus_ok hyz.2 haz.2 (by decide) (by decide)) ?_
      walk_at "hys"
      refine ⟨isL_loc hts, ?_⟩
      walk_at "hys"
      refine wm_append hts hlen ?_
      walk_at "hys"
      exact K (j + 1) _ _ _ (push (y.1, y.2 + a.2)).1 (push (y.1, y.2 + a.2)).2 hj1 (by rw [List.length_append, List.length_singleton]; omega) (by rw [← hM, ex, ey, mrg_both c2, List.append_assoc]; rfl)
    · walk_at "hys"
      refine ⟨isL_loc hts, ?_⟩
      walk_at "hys"
      refine wm_append hts hlen ?_
      walk_at "hys"
      have hm2 := mrg_two (y := y) (xs := xs.drop j) (ys := ys.drop (i + 1)) fun x e => by
        rw [ex] at e
        cases (show some a = some x from e)
        exact ⟨hno a ga, c2⟩
      exact K j _ _ _ (push y).1 (push y).2 hj (by rw [List.length_append, List.length_singleton]; omega) (by rw [← hM, ey, hm2, List.append_assoc]; rfl)
  · walk_at "hys"
    refine ⟨isL_loc hts, ?_⟩
    walk_at "hys"
    refine wm_append hts hlen ?_
    walk_at "hys"
    have hm2 := mrg_two (y := y) (xs := xs.drop j) (ys := ys.drop (i + 1)) fun x e => by
      rw [List.drop_eq_nil_of_le (by omega)] at e
      cases e
    exact K j _ _ _ (push y).1 (push y).2 hj (by rw [List.length_append, List.length_singleton]; omega) (by rw [← hM, ey, hm2, List.append_assoc]; rfl)
theorem by_falls_ok {xs ys : List (Rat × Rat)} (h1 : S[n]? = some (.lst (xs.map pr))) (h2 : S[m]? = some (.lst (ys.map pr))) (zx : ∀ x ∈ xs, Sz 700 1100 x.1 ∧ Sz 500 500 x.2) (zy : ∀ x ∈ ys, Sz 700 1100 x.1 ∧ Sz 500 500 x.2) (l1 : xs.length ≤ 1000) (l2 : ys.length ≤ 1000) :
    Wp (callN (Gof L) (k + 4) 23 [.loc n, .loc m] S) fun d S' => Ag (fun _ => False) S S' ∧ ∃ l, d = .loc l ∧ S.length ≤ l ∧ S'[l]? = some (.lst ((mrg xs ys).map pr)) := by
  refine wp_def (fn := F_by_falls) rfl rfl ?_
  unfold F_by_falls
  walk_at "hp0"
  walk_at "hys"
  have hA : Ag (fun _ => False) S (S ++ [.lst []]) := Ag.app
  have ht : (S ++ [.lst []])[S.length]? = some (.lst (([] : List (Rat × Rat)).map pr)) := app_get
  have h2' := hA.get h2 id
  have hn1 := get_lt h1
  have hm1 := get_lt h2
  generalize S ++ [.lst []] = S1 at *
  generalize hn0 : S.length = n0 at *
  refine wi_loc h2' ?_
  refine forE_inv (fun i r S' => Ag (fun _ => False) S S' ∧ ∃ (j : Nat) (ts : List (Rat × Rat)) (z4 z5 : Option D), r = [some (.loc n), some (.loc m), some (.loc n0), some (.int j), z4, z5] ∧ S'[n0]? = some (.lst (ts.map pr)) ∧ j ≤ xs.length ∧ i ≤ ys.length ∧ ts.length ≤ i + j ∧ ts ++ mrg (xs.drop j) (ys.drop i) = mrg xs ys)
    ⟨hA, 0, [], none, none, rfl, ht, Nat.zero_le _, Nat.zero_le _, Nat.le_refl _, rfl⟩ (fun i r S' _ hh => still1 (hh.1.get h2 id)) ?_ ?_
  · rintro i d r S' hd ⟨hag, j, ts, z4, z5, rfl, hts, hj, hi, hl, hM⟩
    rw [List.getElem?_map, Option.map_eq_some_iff] at hd
    obtain ⟨y, gy, rfl⟩ := hd
    have hyz := zy y (List.mem_of_getElem? gy)
    have ey := drop_get gy
    refine ⟨_, rfl, ?_⟩
    walk_at "hys"
    refine wps_whl (n := xs.length - j) (fun w r T => Ag (fun _ => False) S T ∧ ∃ (j : Nat) (ts : List (Rat × Rat)), w = xs.length - j ∧ r = [some (.loc n), some (.loc m), some (.loc n0), some (.int j), some (q y.1), some (q y.2)] ∧ T[n0]? = some (.lst (ts.map pr)) ∧ j ≤ xs.length ∧ ts.length ≤ i + j ∧ ts ++ mrg (xs.drop j) (ys.drop i) = mrg xs ys)
      ⟨hag, j, ts, rfl, rfl, hts, hj, hl, hM⟩ ?_
    rintro w r T ⟨hag, j, ts, rfl, rfl, hts, hj, hl, hM⟩
    have hx1 := hag.get h1 id
    walk_at "hy"
    rw [List.length_map]
    refine wq_dec (fun c1 => ?_) (fun c1 => ?_)
    · have hj1 : j < xs.length := by omega
      have ga : xs[j]? = some (xs[j]'hj1) := List.getElem?_eq_getElem _
      generalize xs[j]'hj1 = a at ga
      have haz := zx a (List.mem_of_getElem? ga)
      have ga2 : (xs.map pr)[j]? = some (pr a) := by rw [List.getElem?_map, ga]; rfl
      walk_at "hy"
      refine wx_ix (seq_loc hx1) (atI_get ga2) ?_
      walk_at "hy"
      refine wp_val (is_less_ok hyz.1 haz.1 (by decide) (by decide)) ?_
      walk_at "hy"
      refine wq_dec (fun c2 => ?_) (fun c2 => ?_)
      · walk_at "hys"
        refine ⟨isL_loc hts, ?_⟩
        walk_at "hys"
        refine wx_ix (seq_loc hx1) (atI_get ga2) ?_
        walk_at "hys"
        refine wm_append hts (by rw [List.length_map]; have := (List.getElem?_eq_some_iff.1 gy).1; show ts.length < 16777216; omega) ?_
        walk_at "hys"
        exact ⟨xs.length - (j + 1), by omega, hag.new (Ag.set (Or.inl (Or.inr (by omega)))), j + 1, ts ++ [a], rfl, rfl, by rw [set_get hts, List.map_append]; rfl, hj1, by rw [List.length_append, List.length_singleton]; omega, by rw [← hM, drop_get ga, ey, mrg_one c2, List.append_assoc]; rfl⟩
      · exact falls_tail h1 zx zy l1 l2 hn0 gy hag hts hj hl hM (fun a' e => by rw [ga] at e; cases e; exact c2) fun j' ts' T' z g1 g2 g3 g4 g5 => ⟨g1, j', ts', _, _, rfl, g2, g3, (List.getElem?_eq_some_iff.1 gy).1, g4, g5⟩
    · exact ⟨fun h => (by cases h), fun _ => falls_tail h1 zx zy l1 l2 hn0 gy hag hts hj hl hM (fun a' e => by have := (List.getElem?_eq_some_iff.1 e).1; omega) fun j' ts' T' z g1 g2 g3 g4 g5 => ⟨g1, j', ts', _, _, rfl, g2, g3, (List.getElem?_eq_some_iff.1 gy).1, g4, g5⟩⟩
  · rintro r T ⟨hag, j, ts, z4, z5, rfl, hts, hj, hi, hl, hM⟩
    rw [List.length_map] at hM hl
    rw [List.drop_length, mrg_nil] at hM
    have hx1 := hag.get h1 id
    walk_at "hys"
    refine ws_lst (lst_loc hx1) ?_
    rw [show cutL (xs.map pr) (some (j : Int)) none = (xs.map pr).drop j from cut_end (by rw [List.length_map]; exact hj)]
    have hA3 : Ag (fun _ => False) T (T ++ [.lst ((xs.map pr).drop j)]) := Ag.app
    have hts3 := hA3.get hts id
    have hd3 : (T ++ [.lst ((xs.map pr).drop j)])[T.length]? = some (.lst ((xs.map pr).drop j)) := app_get
    refine wb_addl hts3 hd3 (by rw [List.length_drop, List.length_map, List.length_map]; show _ ≤ 16777216; omega) ?_
    have hlT := get_lt hts
    exact ⟨(hag.trans hA3).trans Ag.app, _, rfl, by rw [List.length_append]; omega, by rw [app_get, ← hM, List.map_append, List.map_drop]⟩
end
end HP
namespace HP
open PySem L2
/-- bends set one behind the other, by pieces -/
def bnd : Rat × Rat → List (Rat × Rat) → List (Rat × Rat)
  | p, [] => [p]
  | p, c :: r => p :: bnd (p.1 + c.2, p.2 - c.1 * c.2) r
/-- the last of them -/
def bndE : Rat × Rat → List (Rat × Rat) → Rat × Rat
  | p, [] => p
  | p, c :: r => bndE (p.1 + c.2, p.2 - c.1 * c.2) r
theorem bnd_snoc : {p : Rat × Rat} → {cs : List (Rat × Rat)} → {c : Rat × Rat} → bnd p (cs ++ [c]) = bnd p cs ++ [((bndE p cs).1 + c.2, (bndE p cs).2 - c.1 * c.2)] ∧ bndE p (cs ++ [c]) = ((bndE p cs).1 + c.2, (bndE p cs).2 - c.1 * c.2)
  | p, [], c => ⟨rfl, rfl⟩
  | p, d :: cs, c => by
    have := bnd_snoc (p := (p.1 + d.2, p.2 - d.1 * d.2)) (cs := cs) (c := c)
    refine ⟨?_, this.2⟩
    show p :: bnd _ (cs ++ [c]) = _
    rw [this.1]
    rfl
theorem bnd_len : {p : Rat × Rat} → {cs : List (Rat × Rat)} → (bnd p cs).length = cs.length + 1
  | _, [] => rfl
  | p, c :: r => by
    show (bnd _ r).length + 1 = _
    rw [bnd_len]
    rfl
/-- the wholes and prices along the pieces stay small -/
def BndZ (p : Rat × Rat) (cs : List (Rat × Rat)) : Prop := ∀ i, i ≤ cs.length → Sz 1000 1500 (bndE p (cs.take i)).1 ∧ Sz 1000 1500 (bndE p (cs.take i)).2
section
variable {L : List Fn} {k n m : Nat} {S : Sto}
theorem shapes_behind_ok {a b : Rat × Rat} {f g : List (Rat × Rat)} {w : Rat} (h1 : S[n]? = some (.lst ((a :: f).map pr))) (h2 : S[m]? = some (.lst ((b :: g).map pr))) (hf : Shp (a :: f)) (hg : Shp (b :: g)) (zf : ∀ c ∈ a :: f, Ok2 c) (zg : ∀ c ∈ b :: g, Ok2 c) (l1 : (a :: f).length < 100) (l2 : (b :: g).length < 100) (hw : Sz 200 200 w)
    (lm : (mrg (pcs (a :: f)) (pcs (b :: g))).length ≤ 1000) (zm : ∀ c ∈ mrg (pcs (a :: f)) (pcs (b :: g)), Sz 700 1100 c.1 ∧ Sz 501 1000 c.2) (zb : BndZ (a.1 + b.1 + w, a.2 + b.2) (mrg (pcs (a :: f)) (pcs (b :: g)))) (zp1 : ∀ c ∈ pcs (a :: f), Sz 700 1100 c.1 ∧ Sz 500 500 c.2) (zp2 : ∀ c ∈ pcs (b :: g), Sz 700 1100 c.1 ∧ Sz 500 500 c.2) :
    Wp (callN (Gof L) (k + 6) 195 [.loc n, .loc m, q w] S) fun d S' => Ag (fun _ => False) S S' ∧ ∃ l, d = .loc l ∧ S.length ≤ l ∧ S'[l]? = some (.lst ((bnd (a.1 + b.1 + w, a.2 + b.2) (mrg (pcs (a :: f)) (pcs (b :: g)))).map pr)) := by
  have haz := zf a (by simp)
  have hbz := zg b (by simp)
  have ga2 : ((a :: f).map pr)[0]? = some (pr a) := rfl
  have gb2 : ((b :: g).map pr)[0]? = some (pr b) := rfl
  refine wp_def (fn := F_shapes_behind) rfl rfl ?_
  unfold F_shapes_behind
  walk_at "hp0"
  walk_at "hys"
  refine wx_ix (seq_loc h1) (atI_get (i := 0) ga2) ?_
  walk_at "hy"
  refine wx_ix (seq_loc h2) (atI_get (i := 0) gb2) ?_
  walk_at "hy"
  refine wp_val (plus_ok haz.1 hbz.1 (by decide) (by decide)) ?_
  walk_at "hy"
  refine wp_val (plus_ok (haz.1.add hbz.1) hw (by decide) (by decide)) ?_
  walk_at "hys"
  refine wx_ix (seq_loc h1) (atI_get (i := 0) ga2) ?_
  walk_at "hys"
  refine wx_ix (seq_loc h2) (atI_get (i := 0) gb2) ?_
  walk_at "hys"
  refine wp_val (plus_ok haz.2 hbz.2 (by decide) (by decide)) ?_
  walk_at "hys"
  generalize hp : (a.1 + b.1 + w, a.2 + b.2) = p at *
  have hp1 : a.1 + b.1 + w = p.1 := by rw [← hp]
  have hp2 : a.2 + b.2 = p.2 := by rw [← hp]
  rw [hp1, hp2]
  have hA : Ag (fun _ => False) S (S ++ [.lst [.tup [q p.1, q p.2]]]) := Ag.app
  have h3 : (S ++ [.lst [.tup [q p.1, q p.2]]])[S.length]? = some (.lst ((bnd p []).map pr)) := app_get
  generalize S ++ [.lst [.tup [q p.1, q p.2]]] = S1 at *
  generalize hn3 : S.length = n3 at *
  refine wp_mono (pieces_of_ok (hA.get h1 id) hf zf l1) ?_
  rintro _ S2 ⟨hag2, la, rfl, hla, h4⟩
  walk_at "hys"
  refine wp_mono (pieces_of_ok ((hA.trans hag2).get h2 id) hg zg l2) ?_
  rintro _ S3 ⟨hag3, lb, rfl, hlb, h5⟩
  walk_at "hys"
  refine wp_mono (by_falls_ok (hag3.get h4 id) h5 zp1 zp2 (by rw [pcs_len]; omega) (by rw [pcs_len]; omega)) ?_
  rintro _ S4 ⟨hag4, lc, rfl, hlc, h6⟩
  have hD := ((hA.trans hag2).trans hag3).trans hag4
  have h34 := (hag2.trans (hag3.trans hag4)).get h3 id
  generalize mrg (pcs (a :: f)) (pcs (b :: g)) = cs at *
  have hl34 : n3 ≠ lc := by
    have := get_lt h3
    have := hag2.1
    have := hag3.1
    omega
  walk_at "hys"
  refine wi_loc h6 ?_
  refine forE_inv (fun i r T => Ag (fun _ => False) S T ∧ i ≤ cs.length ∧ (∃ z6 z7, r = [some (.loc n), some (.loc m), some (q w), some (q (bndE p (cs.take i)).1), some (q (bndE p (cs.take i)).2), some (.loc n3), z6, z7]) ∧ T[lc]? = some (.lst (cs.map pr)) ∧ T[n3]? = some (.lst ((bnd p (cs.take i)).map pr)))
    ⟨hD, Nat.zero_le _, ⟨none, none, rfl⟩, h6, h34⟩ (fun i r T _ hh => still1 hh.2.2.2.1) ?_ ?_
  · rintro i d r T hd ⟨hag, hi, ⟨z6, z7, rfl⟩, hcT, hT⟩
    rw [List.getElem?_map, Option.map_eq_some_iff] at hd
    obtain ⟨c, gc, rfl⟩ := hd
    have hcz := zm c (List.mem_of_getElem? gc)
    obtain ⟨hz1, hz2⟩ := zb i hi
    have hi1 := (List.getElem?_eq_some_iff.1 gc).1
    have hsn := bnd_snoc (p := p) (cs := cs.take i) (c := c)
    have hbl := bnd_len (p := p) (cs := cs.take i)
    rw [← take_succ_get gc] at hsn
    refine ⟨_, rfl, ?_⟩
    walk_at "hys"
    refine wp_val (plus_ok hz1 hcz.2 (by decide) (by decide)) ?_
    walk_at "hys"
    refine wp_val (product_ok hcz.1 hcz.2 (by decide) (by decide)) ?_
    walk_at "hys"
    refine wp_val (minus_ok hz2 (hcz.1.mul hcz.2) (by decide) (by decide)) ?_
    walk_at "hys"
    refine ⟨isL_loc hT, ?_⟩
    walk_at "hys"
    refine wm_append hT (by rw [List.length_map, hbl, List.length_take]; show _ < 16777216; omega) ?_
    walk_at "hys"
    refine ⟨hag.new (Ag.set (Or.inl (Or.inr (by omega)))), hi1, ⟨_, _, by rw [hsn.2]; rfl⟩, ?_, ?_⟩
    · exact (Ag.set (P := (· = n3)) (S := T) (Or.inl rfl)).get hcT (by omega)
    · rw [set_get hT, hsn.1, List.map_append]
      rfl
  · rintro r T ⟨hag, hi, ⟨z6, z7, rfl⟩, hcT, hT⟩
    rw [List.length_map, List.take_length] at hT
    walk_at "hys"
    exact ⟨hag, n3, rfl, Nat.le_refl _, hT⟩
end
end HP
namespace HP
open PySem L2
/-- the corner of two bends -/
def crn (t : Rat) (x y : Rat × Rat) : Rat × Rat := (x.1 + y.1 + t, x.2 + y.2)
def bhd (t : Rat) (x y : Rat × Rat) (xr yr : List (Rat × Rat)) : List (Rat × Rat) := bnd (crn t x y) (mrg (pcs (x :: xr)) (pcs (y :: yr)))
theorem crn_x {t : Rat} {x y x2 : Rat × Rat} (h : x.1 < x2.1) : ((crn t x y).1 + (x2.1 - x.1), (crn t x y).2 - rateB x x2 * (x2.1 - x.1)) = crn t x2 y := by
  have e := fall_mul h
  rw [e]
  unfold crn
  refine Prod.ext ?_ ?_
  · show x.1 + y.1 + t + (x2.1 - x.1) = x2.1 + y.1 + t
    grind
  · show x.2 + y.2 - (x.2 - x2.2) = x2.2 + y.2
    grind
theorem crn_y {t : Rat} {x y y2 : Rat × Rat} (h : y.1 < y2.1) : ((crn t x y).1 + (y2.1 - y.1), (crn t x y).2 - rateB y y2 * (y2.1 - y.1)) = crn t x y2 := by
  have e := fall_mul h
  rw [e]
  unfold crn
  refine Prod.ext ?_ ?_
  · show x.1 + y.1 + t + (y2.1 - y.1) = x.1 + y2.1 + t
    grind
  · show x.2 + y.2 - (y.2 - y2.2) = x.2 + y2.2
    grind
theorem crn_b {t : Rat} {x y x2 y2 : Rat × Rat} (h : x.1 < x2.1) (h2 : y.1 < y2.1) (he : rateB x x2 = rateB y y2) : ((crn t x y).1 + (y2.1 - y.1 + (x2.1 - x.1)), (crn t x y).2 - rateB y y2 * (y2.1 - y.1 + (x2.1 - x.1))) = crn t x2 y2 := by
  have e := fall_mul h
  have e2 := fall_mul h2
  rw [he] at e
  rw [Rat.mul_add, e, e2]
  unfold crn
  refine Prod.ext ?_ ?_
  · show x.1 + y.1 + t + (y2.1 - y.1 + (x2.1 - x.1)) = x2.1 + y2.1 + t
    grind
  · show x.2 + y.2 - (y.2 - y2.2 + (x.2 - x2.2)) = x2.2 + y2.2
    grind
/-- the ways one corner leads to the next -/
theorem bhd_end (t : Rat) (x y : Rat × Rat) : bhd t x y [] [] = [crn t x y] := by
  unfold bhd
  show bnd _ (mrg [] []) = _
  rw [mrg]
  rfl
theorem bhd_x {t : Rat} {x y x2 : Rat × Rat} {xr yr : List (Rat × Rat)} (h : x.1 < x2.1) (hy : ∀ y2, yr[0]? = some y2 → rateB y y2 < rateB x x2) : bhd t x y (x2 :: xr) yr = crn t x y :: bhd t x2 y xr yr := by
  unfold bhd
  have e : mrg (pcs (x :: x2 :: xr)) (pcs (y :: yr)) = (rateB x x2, x2.1 - x.1) :: mrg (pcs (x2 :: xr)) (pcs (y :: yr)) := by
    cases yr with
    | nil =>
      show mrg (_ :: _) [] = _ :: mrg _ []
      rw [mrg_nil, mrg_nil]
    | cons y2 yr => exact mrg_one (hy y2 rfl)
  rw [e]
  show crn t x y :: bnd _ _ = _
  rw [show ((crn t x y).1 + (rateB x x2, x2.1 - x.1).2, (crn t x y).2 - (rateB x x2, x2.1 - x.1).1 * (rateB x x2, x2.1 - x.1).2) = crn t x2 y from crn_x h]
theorem bhd_y {t : Rat} {x y y2 : Rat × Rat} {xr yr : List (Rat × Rat)} (h : y.1 < y2.1) (hx : ∀ x2, xr[0]? = some x2 → rateB x x2 < rateB y y2) : bhd t x y xr (y2 :: yr) = crn t x y :: bhd t x y2 xr yr := by
  unfold bhd
  have e : mrg (pcs (x :: xr)) (pcs (y :: y2 :: yr)) = (rateB y y2, y2.1 - y.1) :: mrg (pcs (x :: xr)) (pcs (y2 :: yr)) := by
    refine mrg_two fun z hz => ?_
    cases xr with
    | nil => cases hz
    | cons x2 xr =>
      cases (show some (rateB x x2, x2.1 - x.1) = some z from hz)
      have := hx x2 rfl
      exact ⟨by show ¬ rateB y y2 < rateB x x2; grind, by show rateB x x2 ≠ rateB y y2; grind⟩
  rw [e]
  show crn t x y :: bnd _ _ = _
  rw [show ((crn t x y).1 + (rateB y y2, y2.1 - y.1).2, (crn t x y).2 - (rateB y y2, y2.1 - y.1).1 * (rateB y y2, y2.1 - y.1).2) = crn t x y2 from crn_y h]
theorem bhd_b {t : Rat} {x y x2 y2 : Rat × Rat} {xr yr : List (Rat × Rat)} (h : x.1 < x2.1) (h2 : y.1 < y2.1) (he : rateB x x2 = rateB y y2) : bhd t x y (x2 :: xr) (y2 :: yr) = crn t x y :: bhd t x2 y2 xr yr := by
  unfold bhd
  have e : mrg (pcs (x :: x2 :: xr)) (pcs (y :: y2 :: yr)) = (rateB y y2, y2.1 - y.1 + (x2.1 - x.1)) :: mrg (pcs (x2 :: xr)) (pcs (y2 :: yr)) := mrg_both he
  rw [e]
  show crn t x y :: bnd _ _ = _
  rw [show ((crn t x y).1 + (rateB y y2, y2.1 - y.1 + (x2.1 - x.1)).2, (crn t x y).2 - (rateB y y2, y2.1 - y.1 + (x2.1 - x.1)).1 * (rateB y y2, y2.1 - y.1 + (x2.1 - x.1)).2) = crn t x2 y2 from crn_b h h2 he]
/-- an induction over two shapes, by their falls -/
theorem bhd_ind {M : (x y : Rat × Rat) → (xr yr : List (Rat × Rat)) → Prop} (h0 : ∀ x y, M x y [] [])
    (hx : ∀ x y x2 xr yr, Shp (x :: x2 :: xr) → Shp (y :: yr) → (∀ y2, yr[0]? = some y2 → rateB y y2 < rateB x x2) → M x2 y xr yr → M x y (x2 :: xr) yr)
    (hy : ∀ x y y2 xr yr, Shp (x :: xr) → Shp (y :: y2 :: yr) → (∀ x2, xr[0]? = some x2 → rateB x x2 < rateB y y2) → M x y2 xr yr → M x y xr (y2 :: yr))
    (hb : ∀ x y x2 y2 xr yr, Shp (x :: x2 :: xr) → Shp (y :: y2 :: yr) → rateB x x2 = rateB y y2 → M x2 y2 xr yr → M x y (x2 :: xr) (y2 :: yr)) :
    ∀ (n : Nat) (x y : Rat × Rat) (xr yr : List (Rat × Rat)), xr.length + yr.length ≤ n → Shp (x :: xr) → Shp (y :: yr) → M x y xr yr := by
  intro n
  induction n with
  | zero =>
    intro x y xr yr h _ _
    cases List.length_eq_zero_iff.1 (show xr.length = 0 by omega)
    cases List.length_eq_zero_iff.1 (show yr.length = 0 by omega)
    exact h0 x y
  | succ n ih =>
    intro x y xr yr h sx sy
    cases xr with
    | nil =>
      cases yr with
      | nil => exact h0 x y
      | cons y2 yr => exact hy x y y2 [] yr sx sy (fun _ e => by cases e) (ih x y2 [] yr (by simp at h ⊢; omega) sx sy.tl)
    | cons x2 xr =>
      cases yr with
      | nil => exact hx x y x2 xr [] sx sy (fun _ e => by cases e) (ih x2 y xr [] (by simp at h ⊢; omega) sx.tl sy)
      | cons y2 yr =>
        simp only [List.length_cons] at h
        by_cases c1 : rateB y y2 < rateB x x2
        · exact hx x y x2 xr (y2 :: yr) sx sy (fun z e => by cases (show some y2 = some z from e); exact c1) (ih x2 y xr (y2 :: yr) (by simp only [List.length_cons]; omega) sx.tl sy)
        · by_cases c2 : rateB x x2 = rateB y y2
          · exact hb x y x2 y2 xr yr sx sy c2 (ih x2 y2 xr yr (by omega) sx.tl sy.tl)
          · exact hy x y y2 (x2 :: xr) yr sx sy (fun z e => by cases (show some x2 = some z from e); grind) (ih x y2 (x2 :: xr) yr (by simp only [List.length_cons]; omega) sx sy.tl)
/-- every corner is one of two bends -/
theorem bhd_mem (t : Rat) : ∀ (n : Nat) (x y : Rat × Rat) (xr yr : List (Rat × Rat)), xr.length + yr.length ≤ n → Shp (x :: xr) → Shp (y :: yr) → ∀ p ∈ bhd t x y xr yr, ∃ x' ∈ x :: xr, ∃ y' ∈ y :: yr, p = crn t x' y' := by
  refine bhd_ind (fun x y p hp => ?_) (fun x y x2 xr yr sx sy h ih p hp => ?_) (fun x y y2 xr yr sx sy h ih p hp => ?_) (fun x y x2 y2 xr yr sx sy h ih p hp => ?_)
  · rw [bhd_end] at hp
    exact ⟨x, by simp, y, by simp, List.mem_singleton.1 hp⟩
  · rw [bhd_x sx.lt.1 h] at hp
    rcases List.mem_cons.1 hp with e | hp
    · exact ⟨x, by simp, y, by simp, e⟩
    · obtain ⟨a, ha, b, hb, e⟩ := ih p hp
      exact ⟨a, List.mem_cons_of_mem _ ha, b, hb, e⟩
  · rw [bhd_y sy.lt.1 h] at hp
    rcases List.mem_cons.1 hp with e | hp
    · exact ⟨x, by simp, y, by simp, e⟩
    · obtain ⟨a, ha, b, hb, e⟩ := ih p hp
      exact ⟨a, ha, b, List.mem_cons_of_mem _ hb, e⟩
  · rw [bhd_b sx.lt.1 sy.lt.1 h] at hp
    rcases List.mem_cons.1 hp with e | hp
    · exact ⟨x, by simp, y, by simp, e⟩
    · obtain ⟨a, ha, b, hb, e⟩ := ih p hp
      exact ⟨a, List.mem_cons_of_mem _ ha, b, List.mem_cons_of_mem _ hb, e⟩
end HP
namespace HP
open PySem L2
theorem pv_fst {a : Rat × Rat} : {r : List (Rat × Rat)} → Shp (a :: r) → pv (a :: r) a.1 = a.2
  | [], _ => rfl
  | b :: r, h => by rw [pv, if_pos h.lt.1]; grind
theorem sv_fst {a b : Rat × Rat} {r : List (Rat × Rat)} (h : Shp (a :: b :: r)) : sv (a :: b :: r) a.1 = rateB a b := by rw [sv, if_pos h.lt.1]
theorem sv_fall {a b : Rat × Rat} {r : List (Rat × Rat)} (h : Shp (a :: b :: r)) : sv (b :: r) b.1 < rateB a b := by
  cases r with
  | nil => exact fall_pos h.lt.1 h.lt.2
  | cons c r => rw [sv_fst h.tl]; exact h.conv 0 a b c rfl rfl rfl
/-- a shape lies above each of its lines -/
theorem pv_ge {u w : Rat} : {bs : List (Rat × Rat)} → Shp bs → u ≤ w → pv bs u - sv bs u * (w - u) ≤ pv bs w
  | [], _, _ => by unfold pv sv; grind
  | [_], _, _ => by unfold pv sv; grind
  | a :: b :: r, h, huw => by
    by_cases c1 : u < b.1
    · have e2 : pv (a :: b :: r) u = a.2 - rateB a b * (u - a.1) := by rw [pv, if_pos c1]
      have e3 : sv (a :: b :: r) u = rateB a b := by rw [sv, if_pos c1]
      rw [e2, e3]
      by_cases c2 : w < b.1
      · have e1 : pv (a :: b :: r) w = a.2 - rateB a b * (w - a.1) := by rw [pv, if_pos c2]
        rw [e1]
        grind
      · have e1 : pv (a :: b :: r) w = pv (b :: r) w := by rw [pv, if_neg c2]
        have ih := pv_ge (u := b.1) (w := w) h.tl (Rat.not_lt.1 c2)
        rw [pv_fst h.tl] at ih
        have hf := sv_fall h
        have hm := fall_mul h.lt.1
        have hp : sv (b :: r) b.1 * (w - b.1) ≤ rateB a b * (w - b.1) := Rat.mul_le_mul_of_nonneg_right (Rat.le_of_lt hf) (by grind)
        rw [e1]
        grind
    · have e1 : pv (a :: b :: r) w = pv (b :: r) w := by rw [pv, if_neg (by grind)]
      have e2 : pv (a :: b :: r) u = pv (b :: r) u := by rw [pv, if_neg c1]
      have e3 : sv (a :: b :: r) u = sv (b :: r) u := by rw [sv, if_neg c1]
      rw [e1, e2, e3]
      exact pv_ge h.tl huw
/-- .. seen from its first bend, by any steeper line -/
theorem pv_ge0 {a : Rat × Rat} {r : List (Rat × Rat)} {R w : Rat} (h : Shp (a :: r)) (hR : sv (a :: r) a.1 ≤ R) (hw : a.1 ≤ w) : a.2 - R * (w - a.1) ≤ pv (a :: r) w := by
  have e := pv_ge h hw
  rw [pv_fst h] at e
  have hp : sv (a :: r) a.1 * (w - a.1) ≤ R * (w - a.1) := Rat.mul_le_mul_of_nonneg_right hR (by grind)
  grind
theorem bhd_hd {t : Rat} {x y : Rat × Rat} {xr yr : List (Rat × Rat)} : ∃ tl, bhd t x y xr yr = crn t x y :: tl := by
  unfold bhd
  cases mrg (pcs (x :: xr)) (pcs (y :: yr)) with
  | nil => exact ⟨_, rfl⟩
  | cons c cs => exact ⟨_, rfl⟩
theorem rate_crn_x {t : Rat} {x y x2 : Rat × Rat} : rateB (crn t x y) (crn t x2 y) = rateB x x2 := by
  unfold rateB crn
  have e1 : (x2.2 + y.2) - (x.2 + y.2) = x2.2 - x.2 := by grind
  have e2 : (x.1 + y.1 + t) - (x2.1 + y.1 + t) = x.1 - x2.1 := by grind
  show ((x2.2 + y.2) - (x.2 + y.2)) / ((x.1 + y.1 + t) - (x2.1 + y.1 + t)) = _
  rw [e1, e2]
theorem rate_crn_y {t : Rat} {x y y2 : Rat × Rat} : rateB (crn t x y) (crn t x y2) = rateB y y2 := by
  unfold rateB crn
  have e1 : (x.2 + y2.2) - (x.2 + y.2) = y2.2 - y.2 := by grind
  have e2 : (x.1 + y.1 + t) - (x.1 + y2.1 + t) = y.1 - y2.1 := by grind
  show ((x.2 + y2.2) - (x.2 + y.2)) / ((x.1 + y.1 + t) - (x.1 + y2.1 + t)) = _
  rw [e1, e2]
theorem rate_crn_b {t : Rat} {x y x2 y2 : Rat × Rat} (h : x.1 < x2.1) (h2 : y.1 < y2.1) (he : rateB x x2 = rateB y y2) : rateB (crn t x y) (crn t x2 y2) = rateB x x2 := by
  have hl : (crn t x y).1 < (crn t x2 y2).1 := by show x.1 + y.1 + t < x2.1 + y2.1 + t; grind
  have e := fall_mul hl
  have e1 := fall_mul h
  have e2 := fall_mul h2
  rw [← he] at e2
  have e3 : (crn t x y).2 - (crn t x2 y2).2 = rateB x x2 * ((crn t x2 y2).1 - (crn t x y).1) := by
    show x.2 + y.2 - (x2.2 + y2.2) = rateB x x2 * (x2.1 + y2.1 + t - (x.1 + y.1 + t))
    have : x2.1 + y2.1 + t - (x.1 + y.1 + t) = (x2.1 - x.1) + (y2.1 - y.1) := by grind
    rw [this, Rat.mul_add, e1, e2]
    grind
  rw [e3] at e
  have hn := sub_nz hl
  generalize rateB (crn t x y) (crn t x2 y2) = a at e ⊢
  generalize rateB x x2 = b at e ⊢
  generalize (crn t x2 y2).1 - (crn t x y).1 = c at e hn
  grind
/-- a whole parted so that no other parting is cheaper -/
structure Spl (t w : Rat) (x y : Rat × Rat) (xr yr : List (Rat × Rat)) (u v r : Rat) : Prop where
  eq : u + v + t = w
  xu : x.1 ≤ u
  yv : y.1 ≤ v
  nd : (∃ c ∈ x :: xr, c.1 = u) ∨ ∃ c ∈ y :: yr, c.1 = v
  pr : pv (bhd t x y xr yr) w = pv (x :: xr) u + pv (y :: yr) v
  sx : ∀ u', x.1 ≤ u' → pv (x :: xr) u - r * (u' - u) ≤ pv (x :: xr) u'
  sy : ∀ v', y.1 ≤ v' → pv (y :: yr) v - r * (v' - v) ≤ pv (y :: yr) v'
  up : ∀ R, sv (x :: xr) x.1 ≤ R → sv (y :: yr) y.1 ≤ R → r ≤ R
/-- what the structure is for -/
theorem Spl.least {t w : Rat} {x y : Rat × Rat} {xr yr : List (Rat × Rat)} {u v r : Rat} (h : Spl t w x y xr yr u v r) {u' v' : Rat} (e : u' + v' + t = w) (h1 : x.1 ≤ u') (h2 : y.1 ≤ v') : pv (bhd t x y xr yr) w ≤ pv (x :: xr) u' + pv (y :: yr) v' := by
  have a1 := h.sx u' h1
  have a2 := h.sy v' h2
  have a3 := h.eq
  have : v' - v = -(u' - u) := by grind
  rw [this] at a2
  rw [h.pr]
  grind
end HP
namespace HP
open PySem L2
theorem pv_seg {a b : Rat × Rat} {r : List (Rat × Rat)} {u : Rat} (h : Shp (a :: b :: r)) (h1 : a.1 ≤ u) (h2 : u ≤ b.1) : pv (a :: b :: r) u = a.2 - rateB a b * (u - a.1) := by
  have e := pv_lin h h1 fun c hc _ => Rat.le_trans h2 (Shp.fst h.tl c hc)
  rw [pv_fst h, sv_fst h] at e
  exact e
theorem sv_below {y x x2 : Rat × Rat} {yr : List (Rat × Rat)} {R : Rat} (sy : Shp (y :: yr)) (h0 : 0 ≤ R) (h : ∀ y2, yr[0]? = some y2 → rateB y y2 ≤ R) : sv (y :: yr) y.1 ≤ R := by
  cases yr with
  | nil => exact h0
  | cons y2 yr => rw [sv_fst sy]; exact h y2 rfl
/-- a line through the rest of a shape is one through it all, when it is no steeper than the first piece -/
theorem ext_line {a b : Rat × Rat} {r : List (Rat × Rat)} {u s : Rat} (h : Shp (a :: b :: r)) (hs : s ≤ rateB a b) (hu : b.1 ≤ u) (k : ∀ u', b.1 ≤ u' → pv (b :: r) u - s * (u' - u) ≤ pv (b :: r) u') :
    pv (a :: b :: r) u = pv (b :: r) u ∧ ∀ u', a.1 ≤ u' → pv (a :: b :: r) u - s * (u' - u) ≤ pv (a :: b :: r) u' := by
  have e : pv (a :: b :: r) u = pv (b :: r) u := by rw [pv, if_neg (Rat.not_lt.2 hu)]
  refine ⟨e, fun u' hu' => ?_⟩
  rw [e]
  by_cases c : u' < b.1
  · have k1 := k b.1 Rat.le_refl
    rw [pv_fst h.tl] at k1
    rw [pv_seg h hu' (Rat.le_of_lt c)]
    have hm := fall_mul h.lt.1
    have hp : s * (b.1 - u') ≤ rateB a b * (b.1 - u') := Rat.mul_le_mul_of_nonneg_right hs (by grind)
    grind
  · rw [show pv (a :: b :: r) u' = pv (b :: r) u' by rw [pv, if_neg c]]
    exact k u' (Rat.not_lt.1 c)
/-- a line along the first piece -/
theorem seg_line {a b : Rat × Rat} {r : List (Rat × Rat)} {u : Rat} (h : Shp (a :: b :: r)) (h1 : a.1 ≤ u) (h2 : u ≤ b.1) : ∀ u', a.1 ≤ u' → pv (a :: b :: r) u - rateB a b * (u' - u) ≤ pv (a :: b :: r) u' := fun u' hu' => by
  have e := pv_ge0 (R := rateB a b) h (by rw [sv_fst h]; exact Rat.le_refl) hu'
  rw [pv_seg h h1 h2]
  grind
/-- a line through the first bend -/
theorem fst_line {a : Rat × Rat} {r : List (Rat × Rat)} {R : Rat} (h : Shp (a :: r)) (hR : sv (a :: r) a.1 ≤ R) : ∀ u', a.1 ≤ u' → pv (a :: r) a.1 - R * (u' - a.1) ≤ pv (a :: r) u' := fun u' hu' => by
  rw [pv_fst h]
  exact pv_ge0 h hR hu'
theorem spl_ex (t w : Rat) : ∀ (n : Nat) (x y : Rat × Rat) (xr yr : List (Rat × Rat)), xr.length + yr.length ≤ n → Shp (x :: xr) → Shp (y :: yr) → (x.1 + y.1 + t ≤ w → ∃ u v r, Spl t w x y xr yr u v r) := by
  refine bhd_ind (M := fun x y xr yr => x.1 + y.1 + t ≤ w → ∃ u v r, Spl t w x y xr yr u v r) (fun x y hw => ?_) (fun x y x2 xr yr sx sy h ih hw => ?_) (fun x y y2 xr yr sx sy h ih hw => ?_) (fun x y x2 y2 xr yr sx sy h ih hw => ?_)
  · refine ⟨w - t - y.1, y.1, 0, by grind, by grind, Rat.le_refl, Or.inr ⟨y, by simp, rfl⟩, by rw [bhd_end]; rfl, fun u' _ => ?_, fun v' _ => ?_, fun R h1 _ => h1⟩
    · show x.2 - 0 * _ ≤ x.2
      grind
    · show y.2 - 0 * _ ≤ y.2
      grind
  · have hp := fall_pos sx.lt.1 sx.lt.2
    have hsy : sv (y :: yr) y.1 ≤ rateB x x2 := sv_below (x := x) (x2 := x2) sy (Rat.le_of_lt hp) fun y2 e => Rat.le_of_lt (h y2 e)
    have hlt := sx.lt.1
    obtain ⟨tl, etl⟩ := bhd_hd (t := t) (x := x2) (y := y) (xr := xr) (yr := yr)
    by_cases c : w < x2.1 + y.1 + t
    · have hu1 : x.1 ≤ w - t - y.1 := by grind
      have hu2 : w - t - y.1 ≤ x2.1 := by grind
      refine ⟨w - t - y.1, y.1, rateB x x2, by grind, hu1, Rat.le_refl, Or.inr ⟨y, by simp, rfl⟩, ?_, seg_line sx hu1 hu2, fst_line sy hsy, fun R h1 _ => by rw [sv_fst sx] at h1; exact h1⟩
      rw [bhd_x hlt h, etl, pv, if_pos (show w < (crn t x2 y).1 from c), rate_crn_x, pv_seg sx hu1 hu2, pv_fst sy]
      show x.2 + y.2 - rateB x x2 * (w - (x.1 + y.1 + t)) = x.2 - rateB x x2 * (w - t - y.1 - x.1) + y.2
      grind
    · obtain ⟨u, v, r, s⟩ := ih (Rat.not_lt.1 c)
      have hr := s.up _ (Rat.le_of_lt (sv_fall sx)) hsy
      obtain ⟨e, k⟩ := ext_line sx hr s.xu s.sx
      refine ⟨u, v, r, s.eq, Rat.le_trans (Rat.le_of_lt hlt) s.xu, s.yv, ?_, ?_, k, s.sy, fun R h1 _ => by rw [sv_fst sx] at h1; exact Rat.le_trans hr h1⟩
      · rcases s.nd with ⟨z, hz, e⟩ | e
        · exact Or.inl ⟨z, List.mem_cons_of_mem _ hz, e⟩
        · exact Or.inr e
      · rw [bhd_x hlt h, etl, pv, if_neg (show ¬ w < (crn t x2 y).1 from c), ← etl, s.pr, e]
  · have hp := fall_pos sy.lt.1 sy.lt.2
    have hsx : sv (x :: xr) x.1 ≤ rateB y y2 := sv_below (x := y) (x2 := y2) sx (Rat.le_of_lt hp) fun x2 e => Rat.le_of_lt (h x2 e)
    have hlt := sy.lt.1
    obtain ⟨tl, etl⟩ := bhd_hd (t := t) (x := x) (y := y2) (xr := xr) (yr := yr)
    by_cases c : w < x.1 + y2.1 + t
    · have hu1 : y.1 ≤ w - t - x.1 := by grind
      have hu2 : w - t - x.1 ≤ y2.1 := by grind
      refine ⟨x.1, w - t - x.1, rateB y y2, by grind, Rat.le_refl, hu1, Or.inl ⟨x, by simp, rfl⟩, ?_, fst_line sx hsx, seg_line sy hu1 hu2, fun R _ h1 => by rw [sv_fst sy] at h1; exact h1⟩
      rw [bhd_y hlt h, etl, pv, if_pos (show w < (crn t x y2).1 from c), rate_crn_y, pv_seg sy hu1 hu2, pv_fst sx]
      show x.2 + y.2 - rateB y y2 * (w - (x.1 + y.1 + t)) = x.2 + (y.2 - rateB y y2 * (w - t - x.1 - y.1))
      grind
    · obtain ⟨u, v, r, s⟩ := ih (Rat.not_lt.1 c)
      have hr := s.up _ hsx (Rat.le_of_lt (sv_fall sy))
      obtain ⟨e, k⟩ := ext_line sy hr s.yv s.sy
      refine ⟨u, v, r, s.eq, s.xu, Rat.le_trans (Rat.le_of_lt hlt) s.yv, ?_, ?_, s.sx, k, fun R _ h1 => by rw [sv_fst sy] at h1; exact Rat.le_trans hr h1⟩
      · rcases s.nd with e | ⟨z, hz, e⟩
        · exact Or.inl e
        · exact Or.inr ⟨z, List.mem_cons_of_mem _ hz, e⟩
      · rw [bhd_y hlt h, etl, pv, if_neg (show ¬ w < (crn t x y2).1 from c), ← etl, s.pr, e]
  · have hlx := sx.lt.1
    have hly := sy.lt.1
    obtain ⟨tl, etl⟩ := bhd_hd (t := t) (x := x2) (y := y2) (xr := xr) (yr := yr)
    by_cases c : w < x2.1 + y2.1 + t
    · have e0 : pv (bhd t x y (x2 :: xr) (y2 :: yr)) w = x.2 + y.2 - rateB x x2 * (w - (x.1 + y.1 + t)) := by
        rw [bhd_b hlx hly h, etl, pv, if_pos (show w < (crn t x2 y2).1 from c), rate_crn_b hlx hly h]
        rfl
      by_cases c2 : w - t - y.1 ≤ x2.1
      · have hu1 : x.1 ≤ w - t - y.1 := by grind
        refine ⟨w - t - y.1, y.1, rateB x x2, by grind, hu1, Rat.le_refl, Or.inr ⟨y, by simp, rfl⟩, ?_, seg_line sx hu1 c2, fst_line sy (by rw [sv_fst sy, h]; exact Rat.le_refl), fun R h1 _ => by rw [sv_fst sx] at h1; exact h1⟩
        rw [e0, pv_seg sx hu1 c2, pv_fst sy]
        grind
      · have c2 := Rat.not_le.1 c2
        have hv1 : y.1 ≤ w - t - x2.1 := by grind
        have hv2 : w - t - x2.1 ≤ y2.1 := by grind
        refine ⟨x2.1, w - t - x2.1, rateB x x2, by grind, Rat.le_of_lt hlx, hv1, Or.inl ⟨x2, by simp, rfl⟩, ?_, seg_line sx (Rat.le_of_lt hlx) Rat.le_refl, by rw [h]; exact seg_line sy hv1 hv2, fun R h1 _ => by rw [sv_fst sx] at h1; exact h1⟩
        rw [e0, pv_seg sx (Rat.le_of_lt hlx) Rat.le_refl, pv_seg sy hv1 hv2, ← h]
        grind
    · obtain ⟨u, v, r, s⟩ := ih (Rat.not_lt.1 c)
      have f1 := Rat.le_of_lt (sv_fall sx)
      have f2 := Rat.le_of_lt (sv_fall sy)
      have hr := s.up _ f1 (by rw [h]; exact f2)
      obtain ⟨e1, k1⟩ := ext_line sx hr s.xu s.sx
      obtain ⟨e2, k2⟩ := ext_line sy (by rw [← h]; exact hr) s.yv s.sy
      refine ⟨u, v, r, s.eq, Rat.le_trans (Rat.le_of_lt hlx) s.xu, Rat.le_trans (Rat.le_of_lt hly) s.yv, ?_, ?_, k1, k2, fun R h1 _ => by rw [sv_fst sx] at h1; exact Rat.le_trans hr h1⟩
      · rcases s.nd with ⟨z, hz, e⟩ | ⟨z, hz, e⟩
        · exact Or.inl ⟨z, List.mem_cons_of_mem _ hz, e⟩
        · exact Or.inr ⟨z, List.mem_cons_of_mem _ hz, e⟩
      · rw [bhd_b hlx hly h, etl, pv, if_neg (show ¬ w < (crn t x2 y2).1 from c), ← etl, s.pr, e1, e2]
end HP
namespace HP
open PySem L2
theorem shp_cons {a b : Rat × Rat} {r : List (Rat × Rat)} (h : Shp (b :: r)) (h1 : a.1 < b.1) (h2 : b.2 < a.2) (h3 : sv (b :: r) b.1 < rateB a b) (h4 : 0 ≤ a.1 ∧ 0 ≤ a.2) : Shp (a :: b :: r) := by
  refine ⟨by simp, fun i x y hx hy => ?_, fun i x y z hx hy hz => ?_, fun p hp => ?_⟩
  · cases i with
    | zero =>
      cases (show some a = some x from hx)
      cases (show some b = some y from hy)
      exact ⟨h1, h2⟩
    | succ i => exact h.mono i x y hx hy
  · cases i with
    | zero =>
      cases (show some a = some x from hx)
      cases (show some b = some y from hy)
      cases r with
      | nil => cases hz
      | cons c r =>
        cases (show some c = some z from hz)
        rw [sv_fst h] at h3
        exact h3
    | succ i => exact h.conv i x y z hx hy hz
  · rcases List.mem_cons.1 hp with rfl | hp
    · exact h4
    · exact h.pos p hp
theorem bhd_shp {t : Rat} (ht : 0 ≤ t) : ∀ (n : Nat) (x y : Rat × Rat) (xr yr : List (Rat × Rat)), xr.length + yr.length ≤ n → Shp (x :: xr) → Shp (y :: yr) → (Shp (x :: xr) → Shp (y :: yr) → Shp (bhd t x y xr yr) ∧ ∀ R, sv (x :: xr) x.1 < R → sv (y :: yr) y.1 < R → sv (bhd t x y xr yr) (crn t x y).1 < R) := by
  have pos : ∀ {x y : Rat × Rat} {xr yr : List (Rat × Rat)}, Shp (x :: xr) → Shp (y :: yr) → 0 ≤ (crn t x y).1 ∧ 0 ≤ (crn t x y).2 := fun {x y xr yr} sx sy => by
    have h1 := sx.pos x (by simp)
    have h2 := sy.pos y (by simp)
    refine ⟨?_, ?_⟩
    · show 0 ≤ x.1 + y.1 + t
      grind
    · show 0 ≤ x.2 + y.2
      grind
  refine bhd_ind (M := fun x y xr yr => Shp (x :: xr) → Shp (y :: yr) → Shp (bhd t x y xr yr) ∧ ∀ R, sv (x :: xr) x.1 < R → sv (y :: yr) y.1 < R → sv (bhd t x y xr yr) (crn t x y).1 < R) (fun x y sx sy => ?_) (fun x y x2 xr yr sx sy h ih _ _ => ?_) (fun x y y2 xr yr sx sy h ih _ _ => ?_) (fun x y x2 y2 xr yr sx sy h ih _ _ => ?_)
  · rw [bhd_end]
    refine ⟨⟨by simp, fun i a b ha hb => by simp at hb, fun i a b c ha hb => by simp at hb, fun p hp => ?_⟩, fun R h1 _ => h1⟩
    rw [List.mem_singleton.1 hp]
    exact pos sx sy
  · have hp := fall_pos sx.lt.1 sx.lt.2
    obtain ⟨s, k⟩ := ih sx.tl sy
    obtain ⟨tl, etl⟩ := bhd_hd (t := t) (x := x2) (y := y) (xr := xr) (yr := yr)
    have h1 : (crn t x y).1 < (crn t x2 y).1 := by show x.1 + y.1 + t < x2.1 + y.1 + t; have := sx.lt.1; grind
    have h2 : (crn t x2 y).2 < (crn t x y).2 := by show x2.2 + y.2 < x.2 + y.2; have := sx.lt.2; grind
    have k2 := k (rateB x x2) (sv_fall sx) (by
      cases yr with
      | nil => exact hp
      | cons y2 yr => rw [sv_fst sy]; exact h y2 rfl)
    rw [bhd_x sx.lt.1 h]
    rw [etl] at s k2 ⊢
    have S := shp_cons s h1 h2 (by rw [rate_crn_x]; exact k2) (pos sx sy)
    refine ⟨S, fun R g1 _ => ?_⟩
    rw [sv_fst S, rate_crn_x]
    rw [sv_fst sx] at g1
    exact g1
  · have hp := fall_pos sy.lt.1 sy.lt.2
    obtain ⟨s, k⟩ := ih sx sy.tl
    obtain ⟨tl, etl⟩ := bhd_hd (t := t) (x := x) (y := y2) (xr := xr) (yr := yr)
    have h1 : (crn t x y).1 < (crn t x y2).1 := by show x.1 + y.1 + t < x.1 + y2.1 + t; have := sy.lt.1; grind
    have h2 : (crn t x y2).2 < (crn t x y).2 := by show x.2 + y2.2 < x.2 + y.2; have := sy.lt.2; grind
    have k2 := k (rateB y y2) (by
      cases xr with
      | nil => exact hp
      | cons x2 xr => rw [sv_fst sx]; exact h x2 rfl) (sv_fall sy)
    rw [bhd_y sy.lt.1 h]
    rw [etl] at s k2 ⊢
    have S := shp_cons s h1 h2 (by rw [rate_crn_y]; exact k2) (pos sx sy)
    refine ⟨S, fun R _ g1 => ?_⟩
    rw [sv_fst S, rate_crn_y]
    rw [sv_fst sy] at g1
    exact g1
  · obtain ⟨s, k⟩ := ih sx.tl sy.tl
    obtain ⟨tl, etl⟩ := bhd_hd (t := t) (x := x2) (y := y2) (xr := xr) (yr := yr)
    have h1 : (crn t x y).1 < (crn t x2 y2).1 := by show x.1 + y.1 + t < x2.1 + y2.1 + t; have := sx.lt.1; have := sy.lt.1; grind
    have h2 : (crn t x2 y2).2 < (crn t x y).2 := by show x2.2 + y2.2 < x.2 + y.2; have := sx.lt.2; have := sy.lt.2; grind
    have k2 := k (rateB x x2) (sv_fall sx) (by rw [h]; exact sv_fall sy)
    rw [bhd_b sx.lt.1 sy.lt.1 h]
    rw [etl] at s k2 ⊢
    have S := shp_cons s h1 h2 (by rw [rate_crn_b sx.lt.1 sy.lt.1 h]; exact k2) (pos sx sy)
    refine ⟨S, fun R g1 _ => ?_⟩
    rw [sv_fst S, rate_crn_b sx.lt.1 sy.lt.1 h]
    rw [sv_fst sx] at g1
    exact g1
end HP
namespace HP
open PySem L2
theorem mrg_mem : ∀ (n : Nat) (xs ys : List (Rat × Rat)), xs.length + ys.length ≤ n → (mrg xs ys).length ≤ n ∧ ∀ c ∈ mrg xs ys, c ∈ xs ∨ c ∈ ys ∨ ∃ x ∈ xs, ∃ y ∈ ys, c = (y.1, y.2 + x.2) := by
  intro n
  induction n with
  | zero =>
    intro xs ys h
    cases List.length_eq_zero_iff.1 (show xs.length = 0 by omega)
    cases List.length_eq_zero_iff.1 (show ys.length = 0 by omega)
    rw [mrg]
    exact ⟨Nat.le_refl _, fun c hc => by cases hc⟩
  | succ n ih =>
    intro xs ys h
    cases xs with
    | nil => rw [mrg]; exact ⟨by simpa using h, fun c hc => Or.inr (Or.inl hc)⟩
    | cons x xs =>
      cases ys with
      | nil => rw [mrg]; exact ⟨by simpa using h, fun c hc => Or.inl hc⟩
      | cons y ys =>
        simp only [List.length_cons] at h
        rw [mrg]
        split
        · obtain ⟨h1, h2⟩ := ih xs (y :: ys) (by simp only [List.length_cons]; omega)
          refine ⟨by rw [List.length_cons]; omega, fun c hc => ?_⟩
          rcases List.mem_cons.1 hc with rfl | hc
          · exact Or.inl (by simp)
          · rcases h2 c hc with e | e | ⟨a, ha, b, hb, e⟩
            · exact Or.inl (List.mem_cons_of_mem _ e)
            · exact Or.inr (Or.inl e)
            · exact Or.inr (Or.inr ⟨a, List.mem_cons_of_mem _ ha, b, hb, e⟩)
        · split
          · obtain ⟨h1, h2⟩ := ih xs ys (by omega)
            refine ⟨by rw [List.length_cons]; omega, fun c hc => ?_⟩
            rcases List.mem_cons.1 hc with rfl | hc
            · exact Or.inr (Or.inr ⟨x, by simp, y, by simp, rfl⟩)
            · rcases h2 c hc with e | e | ⟨a, ha, b, hb, e⟩
              · exact Or.inl (List.mem_cons_of_mem _ e)
              · exact Or.inr (Or.inl (List.mem_cons_of_mem _ e))
              · exact Or.inr (Or.inr ⟨a, List.mem_cons_of_mem _ ha, b, List.mem_cons_of_mem _ hb, e⟩)
          · obtain ⟨h1, h2⟩ := ih (x :: xs) ys (by simp only [List.length_cons]; omega)
            refine ⟨by rw [List.length_cons]; omega, fun c hc => ?_⟩
            rcases List.mem_cons.1 hc with rfl | hc
            · exact Or.inr (Or.inl (by simp))
            · rcases h2 c hc with e | e | ⟨a, ha, b, hb, e⟩
              · exact Or.inl e
              · exact Or.inr (Or.inl (List.mem_cons_of_mem _ e))
              · exact Or.inr (Or.inr ⟨a, ha, b, List.mem_cons_of_mem _ hb, e⟩)
theorem bnd_get : {p : Rat × Rat} → {cs : List (Rat × Rat)} → {i : Nat} → i ≤ cs.length → (bnd p cs)[i]? = some (bndE p (cs.take i))
  | p, [], 0, _ => rfl
  | p, c :: cs, 0, _ => rfl
  | p, c :: cs, i + 1, h => by
    show (bnd _ cs)[i]? = _
    rw [bnd_get (by simpa using h)]
    rfl
theorem pcs_sz {bs : List (Rat × Rat)} (hs : Shp bs) (hz : ∀ c ∈ bs, Ok2 c) : ∀ c ∈ pcs bs, Sz 700 1100 c.1 ∧ Sz 500 500 c.2 := fun c hc => by
  rw [pcs_zip] at hc
  obtain ⟨⟨a, b⟩, hp, rfl⟩ := List.mem_map.1 hc
  obtain ⟨i, hi⟩ := List.getElem?_of_mem hp
  obtain ⟨ga, gb⟩ := zip_mem hi
  have ha := hz a (List.mem_of_getElem? ga)
  have hb := hz b (List.mem_of_getElem? gb)
  exact ⟨fall_sz ha hb (hs.mono i a b ga gb).1, (hb.1.sub ha.1).mono (by decide) (by decide)⟩
section
variable {L : List Fn} {k n m : Nat} {S : Sto}
theorem behind_ok {a b : Rat × Rat} {f g : List (Rat × Rat)} {w : Rat} (h1 : S[n]? = some (.lst ((a :: f).map pr))) (h2 : S[m]? = some (.lst ((b :: g).map pr))) (hf : Shp (a :: f)) (hg : Shp (b :: g)) (zf : ∀ c ∈ a :: f, Ok2 c) (zg : ∀ c ∈ b :: g, Ok2 c) (l1 : (a :: f).length < 100) (l2 : (b :: g).length < 100) (hw : Sz 200 200 w) :
    Wp (callN (Gof L) (k + 6) 195 [.loc n, .loc m, q w] S) fun d S' => Ag (fun _ => False) S S' ∧ ∃ l, d = .loc l ∧ S.length ≤ l ∧ S'[l]? = some (.lst ((bhd w a b f g).map pr)) := by
  have p1 := pcs_sz hf zf
  have p2 := pcs_sz hg zg
  have hm := mrg_mem _ (pcs (a :: f)) (pcs (b :: g)) (Nat.le_refl _)
  refine shapes_behind_ok h1 h2 hf hg zf zg l1 l2 hw (by have := hm.1; rw [pcs_len, pcs_len] at this; omega) (fun c hc => ?_) (fun i hi => ?_) p1 p2
  · rcases hm.2 c hc with e | e | ⟨x, hx, y, hy, rfl⟩
    · exact ⟨(p1 c e).1, (p1 c e).2.mono (by decide) (by decide)⟩
    · exact ⟨(p2 c e).1, (p2 c e).2.mono (by decide) (by decide)⟩
    · exact ⟨(p2 y hy).1, ((p2 y hy).2.add (p1 x hx).2).mono (by decide) (by decide)⟩
  · have e := bnd_get (p := (a.1 + b.1 + w, a.2 + b.2)) hi
    have hmem : bndE (a.1 + b.1 + w, a.2 + b.2) ((mrg (pcs (a :: f)) (pcs (b :: g))).take i) ∈ bhd w a b f g := List.mem_of_getElem? e
    obtain ⟨x, hx, y, hy, ec⟩ := bhd_mem w _ a b f g (Nat.le_refl _) hf hg _ hmem
    rw [ec]
    exact ⟨((((zf x hx).1.add (zg y hy).1).add hw)).mono (by decide) (by decide), ((zf x hx).2.add (zg y hy).2).mono (by decide) (by decide)⟩
end
end HP
namespace HP
open PySem L2
theorem pv_fin {a : Rat × Rat} {f : List (Rat × Rat)} {w : Rat} (hs : Shp (a :: f)) (hF : FinS (a :: f)) (hv : V 83 w) (hd : w.den ∣ LC) (h : a.1 ≤ w) : V 170 (pv (a :: f) w) ∧ (pv (a :: f) w).den ∣ LC * LC := by
  have := at_pv hs h
  generalize pv (a :: f) w = p at this ⊢
  cases this with
  | @way i a' b' ha hb h1 h2 =>
    obtain ⟨p1, p2, p3, p4⟩ := hF.pt _ (List.mem_of_getElem? ha)
    obtain ⟨r1, r2⟩ := hF.rt i a' b' ha hb
    have d1 : (w - a'.1).den ∣ LC := dvd_sub LC0 hd p2
    have d2 : (rateB a' b' * (w - a'.1)).den ∣ LC * LC := dvd_mul LC0 LC0 r2 d1
    have v1 : V 84 (w - a'.1) := hv.sub (p1.mono (a' := 83) (by decide))
    have v2 : V 164 (rateB a' b' * (w - a'.1)) := r1.mul v1
    exact ⟨((p3.mono (a' := 164) (by decide)).sub v2).mono (by decide), dvd_sub LC2 p4 d2⟩
  | last ha h1 =>
    obtain ⟨p1, p2, p3, p4⟩ := hF.pt _ (List.mem_of_getElem? ha)
    exact ⟨p3.mono (by decide), p4⟩
theorem ok2_fin {p : Rat × Rat} (h1 : V 200 p.1) (h2 : p.1.den ∣ LC) (h3 : V 200 p.2) (h4 : p.2.den ∣ LC * LC) : Ok2 p := ⟨(h1.sz1 h2).mono (by decide) (by decide), h3.sz2 h4⟩
theorem bes_fin {a b : Rat × Rat} {f g : List (Rat × Rat)} {u : Rat} {r : List Rat} (hf : Shp (a :: f)) (hg : Shp (b :: g)) (zf : FinS (a :: f)) (zg : FinS (b :: g)) (h : Bes (a :: f) (b :: g) u r) (h1 : a.1 ≤ u) (h2 : b.1 ≤ u) (hu : u = a.1 ∨ u = b.1) :
    ∀ p ∈ (u :: r).map (ptS (sumH (a :: f) (b :: g))), Ok2 p := fun p hp => by
  obtain ⟨w, hw, rfl⟩ := List.mem_map.1 hp
  have hz : V 81 w ∧ w.den ∣ LC := by
    rcases List.mem_cons.1 hw with rfl | hw
    · rcases hu with e | e
      · rw [e]; exact ⟨(zf.pt a (by simp)).1, (zf.pt a (by simp)).2.1⟩
      · rw [e]; exact ⟨(zg.pt b (by simp)).1, (zg.pt b (by simp)).2.1⟩
    · obtain ⟨c, hc, rfl⟩ := h.br w hw
      rcases List.mem_append.1 hc with hc | hc
      · exact ⟨(zf.pt c (List.mem_cons_of_mem _ hc)).1, (zf.pt c (List.mem_cons_of_mem _ hc)).2.1⟩
      · exact ⟨(zg.pt c (List.mem_cons_of_mem _ hc)).1, (zg.pt c (List.mem_cons_of_mem _ hc)).2.1⟩
  have huw : u ≤ w := by
    rcases List.mem_cons.1 hw with rfl | hw
    · exact Rat.le_refl
    · exact Rat.le_of_lt (RisS.fst h.ris w hw)
  obtain ⟨v1, d1⟩ := pv_fin hf zf (hz.1.mono (by decide)) hz.2 (Rat.le_trans h1 huw)
  obtain ⟨v2, d2⟩ := pv_fin hg zg (hz.1.mono (by decide)) hz.2 (Rat.le_trans h2 huw)
  exact ok2_fin (hz.1.mono (by decide)) hz.2 ((v1.add v2).mono (by decide)) (dvd_add LC2 d1 d2)
theorem bhd_fin {t : Rat} {a b : Rat × Rat} {f g : List (Rat × Rat)} (hf : Shp (a :: f)) (hg : Shp (b :: g)) (zf : FinS (a :: f)) (zg : FinS (b :: g)) (ht : Sz 40 6 t) : ∀ p ∈ bhd t a b f g, Ok2 p := fun p hp => by
  obtain ⟨x, hx, y, hy, rfl⟩ := bhd_mem t _ a b f g (Nat.le_refl _) hf hg p hp
  obtain ⟨p1, p2, p3, p4⟩ := zf.pt x hx
  obtain ⟨q1, q2, q3, q4⟩ := zg.pt y hy
  have tv : V 40 t := ht.v
  have v1 : V 83 (x.1 + y.1 + t) := (V.add (p1.add q1) tv).mono (by decide)
  exact ok2_fin (V.mono v1 (by decide)) (dvd_add LC0 (dvd_add LC0 p2 q2) (sz_LC ht)) (V.mono (p3.add q3) (by decide)) (dvd_add LC2 p4 q4)
end HP
namespace HP
namespace K55
open PySem L2 PySem.Spec PyProof.Rows
def topS (i : Nat) : Stmt := PySem.Challenge.pw_hurryprice_k55_shapes_joined.main.body.getD i (.Pass ⟨0, 0, 0, 0⟩)
def L_law_begun : Fn := ⟨2, 3,
 (.cons (.set 2 (.int 0))
 (.cons (.ite (.cmp .lt (.var 1) (.bcall .len (.cons (.var 0) .nil))) (.cons (.set 2 (.ix (.var 0) (.var 1)))
 .nil) .nil)
 (.cons (.ret (.lst (.cons (.var 2) (.cons (.bin .mod (.bin .add (.bin .add (.bin .mod (.var 2) (.int 2147483587)) (.bin .mul (.bin .mul (.int 104729) (.var 1)) (.var 1))) (.int 7)) (.int 2147483587)) (.cons (.cmp .ge (.var 2) (.bin .pow (.int 10) (.int 18))) .nil)))))
 .nil)))⟩
def L_law_take : Fn := ⟨2, 5,
 (.cons (.ite (.ix (.var 0) (.int 2)) (.cons (.set 2 (.bin .mod (.ix (.var 0) (.int 0)) (.var 1)))
 (.cons (.setIx (.var 0) (.int 0) (.bin .fdiv (.ix (.var 0) (.int 0)) (.var 1)))
 (.cons (.setIx (.var 0) (.int 2) (.cmp .gt (.ix (.var 0) (.int 0)) (.int 0)))
 (.cons (.ret (.var 2))
 .nil)))) .nil)
 (.cons (.set 3 (.int 0))
 (.cons (.for_ (.name 4) (.rng1 (.bin .add (.int 1) (.bin .mul (.int 8) (.bcall .int (.cons (.cmp .gt (.var 1) (.bin .pow (.int 10) (.int 6))) .nil))))) (.cons (.setIx (.var 0) (.int 1) (.bin .mod (.bin .add (.bin .mul (.ix (.var 0) (.int 1)) (.int 39373)) (.int 17)) (.int 2147483647)))
 (.cons (.set 3 (.bin .add (.bin .mul (.var 3) (.int 2147483587)) (.bin .mod (.bin .mul (.ix (.var 0) (.int 1)) (.ix (.var 0) (.int 1))) (.int 2147483587))))
 .nil)))
 (.cons (.ret (.bin .mod (.bin .fdiv (.var 3) (.int 64)) (.var 1)))
 .nil))))⟩
def L_law_low : Fn := ⟨2, 4,
 (.cons (.set 2 (.var 0))
 (.cons (.set 3 (.var 1))
 (.cons (.whl (.cmp .ne (.var 3) (.int 0)) (.cons (.par 2 3 (.var 3) (.bin .mod (.var 2) (.var 3)))
 .nil))
 (.cons (.ret (.tup (.cons (.bin .fdiv (.var 0) (.var 2)) (.cons (.bin .fdiv (.var 1) (.var 2)) .nil))))
 .nil))))⟩
def L_law_plus : Fn := ⟨2, 2,
 (.cons (.ret (.call 1002 (.cons (.bin .add (.bin .mul (.ix (.var 0) (.int 0)) (.ix (.var 1) (.int 1))) (.bin .mul (.ix (.var 1) (.int 0)) (.ix (.var 0) (.int 1)))) (.cons (.bin .mul (.ix (.var 0) (.int 1)) (.ix (.var 1) (.int 1))) .nil))))
 .nil)⟩
def L_law_minus : Fn := ⟨2, 2,
 (.cons (.ret (.call 1002 (.cons (.bin .sub (.bin .mul (.ix (.var 0) (.int 0)) (.ix (.var 1) (.int 1))) (.bin .mul (.ix (.var 1) (.int 0)) (.ix (.var 0) (.int 1)))) (.cons (.bin .mul (.ix (.var 0) (.int 1)) (.ix (.var 1) (.int 1))) .nil))))
 .nil)⟩
def L_law_times : Fn := ⟨2, 2,
 (.cons (.ret (.call 1002 (.cons (.bin .mul (.ix (.var 0) (.int 0)) (.ix (.var 1) (.int 0))) (.cons (.bin .mul (.ix (.var 0) (.int 1)) (.ix (.var 1) (.int 1))) .nil))))
 .nil)⟩
def L_law_under : Fn := ⟨2, 2,
 (.cons (.ret (.cmp .lt (.bin .mul (.ix (.var 0) (.int 0)) (.ix (.var 1) (.int 1))) (.bin .mul (.ix (.var 1) (.int 0)) (.ix (.var 0) (.int 1)))))
 .nil)⟩
def L_law_amount : Fn := ⟨3, 5,
 (.cons (.set 3 (.call 1001 (.cons (.var 0) (.cons (.int 6) .nil))))
 (.cons (.ite (.var 1) (.cons (.ret (.tup (.cons (.bin .add (.var 2) (.call 1001 (.cons (.var 0) (.cons (.ix (.lst (.cons (.int 2) (.cons (.int 3) (.cons (.int 3) (.cons (.int 4) (.cons (.int 5) (.cons (.int 6) .nil))))))) (.var 3)) .nil)))) (.cons (.int 1) .nil))))
 .nil) .nil)
 (.cons (.set 4 (.bin .add (.int 1) (.call 1001 (.cons (.var 0) (.cons (.ix (.lst (.cons (.int 1) (.cons (.int 1) (.cons (.int 2) (.cons (.int 4) (.cons (.int 12) (.cons (.int 60) .nil))))))) (.var 3)) .nil)))))
 (.cons (.ret (.call 1002 (.cons (.bin .add (.var 2) (.call 1001 (.cons (.var 0) (.cons (.ix (.lst (.cons (.int 3) (.cons (.int 9) (.cons (.int 12) (.cons (.int 30) (.cons (.bin .pow (.int 10) (.int 12)) (.cons (.int 90) .nil))))))) (.var 3)) .nil)))) (.cons (.var 4) .nil))))
 .nil))))⟩
def L_law_shape : Fn := ⟨3, 11,
 (.cons (.set 3 (.lc (.call 1007 (.cons (.var 0) (.cons (.var 2) (.cons (.int 1) .nil)))) (.name 10) (.rng1 (.call 1001 (.cons (.var 0) (.cons (.bin .add (.var 1) (.int 1)) .nil)))) .none [10]))
 (.cons (.set 4 (.call 1007 (.cons (.var 0) (.cons (.var 2) (.cons (.int 0) .nil)))))
 (.cons (.set 5 (.call 1007 (.cons (.var 0) (.cons (.var 2) (.cons (.int 0) .nil)))))
 (.cons (.set 6 (.tup (.cons (.int 0) (.cons (.int 1) .nil))))
 (.cons (.set 7 (.lst .nil))
 (.cons (.for_ (.name 8) (.seq (.var 3)) (.cons (.set 6 (.call 1003 (.cons (.var 6) (.cons (.call 1007 (.cons (.var 0) (.cons (.var 2) (.cons (.int 1) .nil)))) .nil))))
 (.cons (.expr (.meth .append (.var 7) (.cons (.var 6) .nil)))
 (.cons (.set 5 (.call 1003 (.cons (.var 5) (.cons (.call 1005 (.cons (.var 6) (.cons (.var 8) .nil))) .nil))))
 .nil))))
 (.cons (.set 9 (.lst (.cons (.tup (.cons (.var 4) (.cons (.var 5) .nil))) .nil)))
 (.cons (.for_ (.name 10) (.rng3 (.bin .sub (.bcall .len (.cons (.var 3) .nil)) (.int 1)) (.neg (.int 1)) (.neg (.int 1))) (.cons (.set 4 (.call 1003 (.cons (.var 4) (.cons (.ix (.var 3) (.var 10)) .nil))))
 (.cons (.set 5 (.call 1004 (.cons (.var 5) (.cons (.call 1005 (.cons (.ix (.var 7) (.var 10)) (.cons (.ix (.var 3) (.var 10)) .nil))) .nil))))
 (.cons (.expr (.meth .append (.var 9) (.cons (.tup (.cons (.var 4) (.cons (.var 5) .nil))) .nil)))
 .nil))))
 (.cons (.ret (.var 9))
 .nil)))))))))⟩
def L_law_parted : Fn := ⟨2, 2,
 (.cons (.ret (.call 1002 (.cons (.bin .mul (.ix (.var 0) (.int 0)) (.ix (.var 1) (.int 1))) (.cons (.bin .mul (.ix (.var 0) (.int 1)) (.ix (.var 1) (.int 0))) .nil))))
 .nil)⟩
def L_law_fall : Fn := ⟨2, 2,
 (.cons (.ret (.call 1009 (.cons (.call 1004 (.cons (.ix (.var 0) (.int 1)) (.cons (.ix (.var 1) (.int 1)) .nil))) (.cons (.call 1004 (.cons (.ix (.var 1) (.int 0)) (.cons (.ix (.var 0) (.int 0)) .nil))) .nil))))
 .nil)⟩
def L_law_price : Fn := ⟨2, 5,
 (.cons (.set 2 .non)
 (.cons (.for_ (.name 3) (.rng1 (.bcall .len (.cons (.var 0) .nil))) (.cons (.ite (.bnot (.call 1006 (.cons (.var 1) (.cons (.ix (.ix (.var 0) (.var 3)) (.int 0)) .nil)))) (.cons (.set 2 (.ix (.ix (.var 0) (.var 3)) (.int 1)))
 (.cons (.ite (.band (.cons (.cmp .lt (.bin .add (.var 3) (.int 1)) (.bcall .len (.cons (.var 0) .nil))) (.cons (.call 1006 (.cons (.var 1) (.cons (.ix (.ix (.var 0) (.bin .add (.var 3) (.int 1))) (.int 0)) .nil))) .nil))) (.cons (.set 4 (.call 1005 (.cons (.call 1010 (.cons (.ix (.var 0) (.var 3)) (.cons (.ix (.var 0) (.bin .add (.var 3) (.int 1))) .nil))) (.cons (.call 1004 (.cons (.var 1) (.cons (.ix (.ix (.var 0) (.var 3)) (.int 0)) .nil))) .nil))))
 (.cons (.set 2 (.call 1004 (.cons (.ix (.ix (.var 0) (.var 3)) (.int 1)) (.cons (.var 4) .nil))))
 .nil)) .nil)
 .nil)) .nil)
 .nil))
 (.cons (.ret (.var 2))
 .nil)))⟩
def L_law_is_shape : Fn := ⟨1, 5,
 (.cons (.ite (.bor (.cons (.bnot (.bcall .isin (.cons (.var 0) (.cons (.con (.ty .list)) .nil)))) (.cons (.cmp .eq (.var 0) (.lst .nil)) .nil))) (.cons (.ret (.bl false))
 .nil) .nil)
 (.cons (.set 1 .non)
 (.cons (.for_ (.name 2) (.rng1 (.bcall .len (.cons (.var 0) .nil))) (.cons (.ite (.bor (.cons (.bnot (.bcall .isin (.cons (.ix (.var 0) (.var 2)) (.cons (.con (.ty .tuple)) .nil)))) (.cons (.cmp .ne (.bcall .len (.cons (.ix (.var 0) (.var 2)) .nil)) (.int 2)) (.cons (.cmp .lt (.ix (.ix (.ix (.var 0) (.var 2)) (.int 0)) (.int 0)) (.int 0)) (.cons (.cmp .lt (.ix (.ix (.ix (.var 0) (.var 2)) (.int 1)) (.int 0)) (.int 0)) .nil))))) (.cons (.ret (.bl false))
 .nil) .nil)
 (.cons (.ite (.cmp .inn (.bl true) (.lc (.bcall .isin (.cons (.var 4) (.cons (.con (.ty .bool)) .nil))) (.name 4) (.seq (.bin .add (.ix (.ix (.var 0) (.var 2)) (.int 0)) (.ix (.ix (.var 0) (.var 2)) (.int 1)))) .none [4])) (.cons (.ret (.bl false))
 .nil) .nil)
 (.cons (.ite (.cmp .gt (.var 2) (.int 0)) (.cons (.ite (.bor (.cons (.bnot (.call 1006 (.cons (.ix (.ix (.var 0) (.bin .sub (.var 2) (.int 1))) (.int 0)) (.cons (.ix (.ix (.var 0) (.var 2)) (.int 0)) .nil)))) (.cons (.bnot (.call 1006 (.cons (.ix (.ix (.var 0) (.var 2)) (.int 1)) (.cons (.ix (.ix (.var 0) (.bin .sub (.var 2) (.int 1))) (.int 1)) .nil)))) .nil))) (.cons (.ret (.bl false))
 .nil) .nil)
 (.cons (.set 3 (.call 1010 (.cons (.ix (.var 0) (.bin .sub (.var 2) (.int 1))) (.cons (.ix (.var 0) (.var 2)) .nil))))
 (.cons (.ite (.band (.cons (.cmp .isn (.var 1) .non) (.cons (.bnot (.call 1006 (.cons (.var 3) (.cons (.var 1) .nil)))) .nil))) (.cons (.ret (.bl false))
 .nil) .nil)
 (.cons (.set 1 (.var 3))
 .nil)))) .nil)
 .nil))))
 (.cons (.ret (.bl true))
 .nil))))⟩
def L_law_spots : Fn := ⟨1, 3,
 (.cons (.set 1 (.lst .nil))
 (.cons (.for_ (.name 2) (.rng1 (.bcall .len (.cons (.var 0) .nil))) (.cons (.set 1 (.bin .add (.var 1) (.lst (.cons (.ix (.var 0) (.var 2)) (.cons (.call 1003 (.cons (.ix (.var 0) (.var 2)) (.cons (.tup (.cons (.int 1) (.cons (.int 3) .nil))) .nil))) .nil)))))
 (.cons (.expr (.meth .append (.var 1) (.cons (.call 1005 (.cons (.call 1003 (.cons (.ix (.var 0) (.var 2)) (.cons (.ix (.var 0) (.bin .sub (.var 2) (.int 1))) .nil))) (.cons (.tup (.cons (.int 1) (.cons (.int 2) .nil))) .nil))) .nil)))
 .nil)))
 (.cons (.ret (.var 1))
 .nil)))⟩
def L_law_beside_right : Fn := ⟨3, 6,
 (.cons (.set 3 (.ix (.ix (.var 0) (.int 0)) (.int 0)))
 (.cons (.ite (.call 1006 (.cons (.var 3) (.cons (.ix (.ix (.var 1) (.int 0)) (.int 0)) .nil))) (.cons (.set 3 (.ix (.ix (.var 1) (.int 0)) (.int 0)))
 .nil) .nil)
 (.cons (.ite (.bor (.cons (.bnot (.call 1012 (.cons (.var 2) .nil))) (.cons (.cmp .ne (.ix (.ix (.var 2) (.int 0)) (.int 0)) (.var 3)) .nil))) (.cons (.ret (.bl false))
 .nil) .nil)
 (.cons (.for_ (.name 4) (.seq (.call 1013 (.cons (.lc (.ix (.var 5) (.int 0)) (.name 5) (.seq (.bin .add (.bin .add (.var 0) (.var 1)) (.var 2))) .none [5]) .nil))) (.cons (.ite (.bnot (.call 1006 (.cons (.var 4) (.cons (.var 3) .nil)))) (.cons (.ite (.cmp .ne (.call 1011 (.cons (.var 2) (.cons (.var 4) .nil))) (.call 1003 (.cons (.call 1011 (.cons (.var 0) (.cons (.var 4) .nil))) (.cons (.call 1011 (.cons (.var 1) (.cons (.var 4) .nil))) .nil)))) (.cons (.ret (.bl false))
 .nil) .nil)
 .nil) .nil)
 .nil))
 (.cons (.ret (.bl true))
 .nil)))))⟩
def L_law_parted_price : Fn := ⟨3, 8,
 (.cons (.set 3 .non)
 (.cons (.for_ (.name 4) (.seq (.bin .add (.lc (.ix (.var 7) (.int 0)) (.name 7) (.seq (.var 0)) .none [7]) (.lc (.call 1004 (.cons (.var 2) (.cons (.ix (.var 7) (.int 0)) .nil))) (.name 7) (.seq (.var 1)) .none [7]))) (.cons (.set 5 (.call 1004 (.cons (.var 2) (.cons (.var 4) .nil))))
 (.cons (.ite (.band (.cons (.bnot (.call 1006 (.cons (.var 4) (.cons (.ix (.ix (.var 0) (.int 0)) (.int 0)) .nil)))) (.cons (.bnot (.call 1006 (.cons (.var 5) (.cons (.ix (.ix (.var 1) (.int 0)) (.int 0)) .nil)))) .nil))) (.cons (.set 6 (.call 1003 (.cons (.call 1011 (.cons (.var 0) (.cons (.var 4) .nil))) (.cons (.call 1011 (.cons (.var 1) (.cons (.var 5) .nil))) .nil))))
 (.cons (.ite (.bor (.cons (.cmp .is (.var 3) .non) (.cons (.call 1006 (.cons (.var 6) (.cons (.var 3) .nil))) .nil))) (.cons (.set 3 (.var 6))
 .nil) .nil)
 .nil)) .nil)
 .nil)))
 (.cons (.ret (.var 3))
 .nil)))⟩
def L_law_behind_right : Fn := ⟨4, 7,
 (.cons (.set 4 (.call 1003 (.cons (.call 1003 (.cons (.ix (.ix (.var 0) (.int 0)) (.int 0)) (.cons (.ix (.ix (.var 1) (.int 0)) (.int 0)) .nil))) (.cons (.var 2) .nil))))
 (.cons (.ite (.bor (.cons (.bnot (.call 1012 (.cons (.var 3) .nil))) (.cons (.cmp .ne (.ix (.ix (.var 3) (.int 0)) (.int 0)) (.var 4)) .nil))) (.cons (.ret (.bl false))
 .nil) .nil)
 (.cons (.for_ (.name 5) (.seq (.call 1013 (.cons (.lc (.ix (.var 6) (.int 0)) (.name 6) (.seq (.var 3)) .none [6]) .nil))) (.cons (.ite (.bnot (.call 1006 (.cons (.var 5) (.cons (.var 4) .nil)))) (.cons (.ite (.cmp .ne (.call 1011 (.cons (.var 3) (.cons (.var 5) .nil))) (.call 1015 (.cons (.var 0) (.cons (.var 1) (.cons (.call 1004 (.cons (.var 5) (.cons (.var 2) .nil))) .nil))))) (.cons (.ret (.bl false))
 .nil) .nil)
 .nil) .nil)
 .nil))
 (.cons (.ret (.bl true))
 .nil))))⟩
def L_law_all_told : Fn := ⟨5, 5,
 (.cons (.ret (.lst (.cons (.call 196 (.cons (.var 0) (.cons (.var 1) .nil))) (.cons (.call 195 (.cons (.var 0) (.cons (.var 1) (.cons (.var 2) .nil)))) (.cons (.call 194 (.cons (.var 0) (.cons (.var 3) (.cons (.var 4) .nil)))) .nil)))))
 .nil)⟩
def L_law : Fn := ⟨1, 16,
 (.cons (.for_ (.name 1) (.rng3 (.int 0) (.bcall .max (.cons (.int 2) (.cons (.bcall .min (.cons (.bcall .len (.cons (.var 0) .nil)) (.cons (.int 6) .nil))) .nil))) (.int 2)) (.cons (.set 2 (.call 1000 (.cons (.var 0) (.cons (.var 1) .nil))))
 (.cons (.set 3 (.band (.cons (.cmp .eq (.var 1) (.int 0)) (.cons (.cmp .eq (.call 1001 (.cons (.var 2) (.cons (.int 4) .nil))) (.int 3)) .nil))))
 (.cons (.set 4 (.bor (.cons (.var 3) (.cons (.cmp .eq (.call 1001 (.cons (.var 2) (.cons (.int 2) .nil))) (.int 0)) .nil))))
 (.cons (.set 5 (.call 1008 (.cons (.var 2) (.cons (.ix (.lst (.cons (.int 4) (.cons (.int 12) .nil))) (.bcall .int (.cons (.var 3) .nil))) (.cons (.var 4) .nil)))))
 (.cons (.set 6 (.call 1008 (.cons (.call 1000 (.cons (.var 0) (.cons (.bin .add (.var 1) (.int 1)) .nil))) (.cons (.ix (.lst (.cons (.int 4) (.cons (.int 12) .nil))) (.bcall .int (.cons (.var 3) .nil))) (.cons (.var 4) .nil)))))
 (.cons (.ite (.cmp .eq (.call 1001 (.cons (.var 2) (.cons (.int 3) .nil))) (.int 0)) (.cons (.set 6 (.sl (.var 5) (.some (.call 1001 (.cons (.var 2) (.cons (.bcall .len (.cons (.var 5) .nil)) .nil)))) .none))
 .nil) .nil)
 (.cons (.set 7 (.ix (.lst (.cons (.tup (.cons (.int 0) (.cons (.int 1) .nil))) (.cons (.call 1007 (.cons (.var 2) (.cons (.var 4) (.cons (.int 0) .nil)))) .nil))) (.call 1001 (.cons (.var 2) (.cons (.int 2) .nil)))))
 (.cons (.set 8 (.call 1007 (.cons (.var 2) (.cons (.var 4) (.cons (.int 1) .nil)))))
 (.cons (.set 9 (.call 1007 (.cons (.var 2) (.cons (.var 4) (.cons (.int 1) .nil)))))
 (.cons (.set 10 (.lst (.cons (.bcall .list (.cons (.var 5) .nil)) (.cons (.bcall .list (.cons (.var 6) .nil)) .nil))))
 (.cons (.set 11 (.call 1017 (.cons (.var 5) (.cons (.var 6) (.cons (.var 7) (.cons (.var 8) (.cons (.var 9) .nil)))))))
 (.cons (.ite (.bor (.cons (.bnot (.call 1014 (.cons (.var 5) (.cons (.var 6) (.cons (.ix (.var 11) (.int 0)) .nil))))) (.cons (.bnot (.call 1016 (.cons (.var 5) (.cons (.var 6) (.cons (.var 7) (.cons (.ix (.var 11) (.int 1)) .nil)))))) .nil))) (.cons (.ret (.bl false))
 .nil) .nil)
 (.cons (.ite (.cmp .ne (.ix (.var 11) (.int 2)) (.lc (.tup (.cons (.call 1005 (.cons (.var 8) (.cons (.var 14) .nil))) (.cons (.call 1005 (.cons (.var 9) (.cons (.var 15) .nil))) .nil))) (.tup (.cons (.name 14) (.cons (.name 15) .nil))) (.seq (.var 5)) .none [14, 15])) (.cons (.ret (.bl false))
 .nil) .nil)
 (.cons (.set 12 (.shw true (.var 11)))
 (.cons (.for_ (.name 13) (.seq (.var 11)) (.cons (.expr (.meth .clear (.var 13) .nil))
 .nil))
 (.cons (.ite (.bor (.cons (.cmp .ne (.shw true (.call 1017 (.cons (.var 5) (.cons (.var 6) (.cons (.var 7) (.cons (.var 8) (.cons (.var 9) .nil))))))) (.var 12)) (.cons (.cmp .ne (.lst (.cons (.var 5) (.cons (.var 6) .nil))) (.var 10)) .nil))) (.cons (.ret (.bl false))
 .nil) .nil)
 .nil)))))))))))))))))
 (.cons (.ret (.bl true))
 .nil))⟩
def lawL : List Fn := [L_law_begun, L_law_take, L_law_low, L_law_plus, L_law_minus, L_law_times, L_law_under, L_law_amount, L_law_shape, L_law_parted, L_law_fall, L_law_price, L_law_is_shape, L_law_spots, L_law_beside_right, L_law_parted_price, L_law_behind_right, L_law_all_told, L_law]
def lxs : List (Str × Lx) := [(("law" : Str), ⟨4, false, [], []⟩)]
def fns : List (Str × Nat × Nat) := [(("divisor" : Str), 46, 2), (("in_lowest" : Str), 60, 2), (("plus" : Str), 164, 2), (("minus" : Str), 126, 2), (("product" : Str), 169, 2), (("parted" : Str), 152, 2), (("is_less" : Str), 74, 2), (("larger" : Str), 97, 2), (("fall_of" : Str), 51, 2), (("price_at" : Str), 165, 2), (("risen" : Str), 188, 2), (("shapes_beside" : Str), 196, 2), (("pieces_of" : Str), 154, 1), (("by_falls" : Str), 23, 2), (("shapes_behind" : Str), 195, 3), (("shape_scaled" : Str), 194, 3), (("_law_begun" : Str), 1000, 2), (("_law_take" : Str), 1001, 2), (("_law_low" : Str), 1002, 2), (("_law_plus" : Str), 1003, 2), (("_law_minus" : Str), 1004, 2), (("_law_times" : Str), 1005, 2), (("_law_under" : Str), 1006, 2), (("_law_amount" : Str), 1007, 3), (("_law_shape" : Str), 1008, 3), (("_law_parted" : Str), 1009, 2), (("_law_fall" : Str), 1010, 2), (("_law_price" : Str), 1011, 2), (("_law_is_shape" : Str), 1012, 1), (("_law_spots" : Str), 1013, 1), (("_law_beside_right" : Str), 1014, 3), (("_law_parted_price" : Str), 1015, 3), (("_law_behind_right" : Str), 1016, 4), (("_law_all_told" : Str), 1017, 5)]
def cons : List (Str × D) := []
def blt : List Str := ["abs", "bool", "int", "isinstance", "len", "list", "max", "min", "range", "repr", "tuple", "zip"]
def cls : List (Str × Nat × Bool) := [("NoNumber", 1, true)]
end K55
end HP
namespace HP
open PySem L2
namespace K55
abbrev G : Tab := Gof lawL
theorem g_take : Takes G 1001 := takes_A rfl
theorem g_low : G 1002 = some K_low := rfl
theorem g_plus : G 1003 = some (K_plus 1002) := rfl
theorem g_minus : G 1004 = some (K_minus 1002) := rfl
theorem g_times : G 1005 = some (K_times 1002) := rfl
theorem g_under : G 1006 = some K_under := rfl
theorem g_amount : G 1007 = some (K_amount 1001 1002) := rfl
theorem g_shape : G 1008 = some (K_shape 1001 1003 1004 1005 1007) := rfl
theorem g_parted : G 1009 = some (K_parted 1002) := rfl
theorem g_fall : G 1010 = some (K_fall 1009 1004) := rfl
theorem g_price : G 1011 = some (K_price 1006 1005 1010 1004) := rfl
section
variable {k : Nat} {S : Sto}
/-- the three joins -/
theorem all_told_ok {n m : Nat} {a b : Rat × Rat} {f g : List (Rat × Rat)} {w s c : Rat} (h1 : S[n]? = some (.lst ((a :: f).map pr))) (h2 : S[m]? = some (.lst ((b :: g).map pr))) (hf : Shp (a :: f)) (hg : Shp (b :: g)) (zf : ∀ c ∈ a :: f, Ok2 c) (zg : ∀ c ∈ b :: g, Ok2 c) (l1 : (a :: f).length < 100) (l2 : (b :: g).length < 100) (hw : Sz 200 200 w) (hs : Sz 500 500 s) (hc : Sz 500 500 c) :
    Wp (callN G (k + 7) 1017 [.loc n, .loc m, q w, q s, q c] S) fun d S' => Ag (fun _ => False) S S' ∧ ∃ (l i1 i2 i3 : Nat) (r : List Rat), d = .loc l ∧ S.length ≤ l ∧ S.length ≤ i1 ∧ S.length ≤ i2 ∧ S.length ≤ i3 ∧ i1 < i2 ∧ i2 < i3 ∧ i3 < l ∧ S'[l]? = some (.lst [.loc i1, .loc i2, .loc i3]) ∧
      S'[i1]? = some (.lst (((((if a.1 < b.1 then b.1 else a.1) :: r).map (ptS (sumH (a :: f) (b :: g))))).map pr)) ∧ Bes (a :: f) (b :: g) (if a.1 < b.1 then b.1 else a.1) r ∧ r.length ≤ 200 ∧
      S'[i2]? = some (.lst ((bhd w a b f g).map pr)) ∧ S'[i3]? = some (.lst (((a :: f).map (scS s c)).map pr)) := by
  refine wp_def (fn := L_law_all_told) rfl rfl ?_
  unfold L_law_all_told
  walk_at "hp0"
  walk_at "hys"
  refine wp_mono (shapes_beside_ok (k := k) h1 h2 hf hg zf zg l1 l2) ?_
  rintro _ S1 ⟨hag1, i1, r, rfl, hi1, e1, hB, hr⟩
  have j1 := get_lt e1
  walk_at "hys"
  refine wp_mono (behind_ok (k := k) (hag1.get h1 id) (hag1.get h2 id) hf hg zf zg l1 l2 hw) ?_
  rintro _ S2 ⟨hag2, i2, rfl, hi2, e2⟩
  have j2 := get_lt e2
  walk_at "hys"
  refine wp_mono (shape_scaled_ok (k := k + 2) ((hag1.trans hag2).get h1 id) zf l1 hs hc) ?_
  rintro _ S3 ⟨hag3, rfl, e3⟩
  have j3 := get_lt e3
  walk_at "hys"
  have hA : Ag (fun _ => False) S3 (S3 ++ [.lst [.loc i1, .loc i2, .loc S2.length]]) := Ag.app
  have := hag1.1
  have := hag2.1
  have := hag3.1
  exact ⟨((hag1.trans hag2).trans hag3).trans hA, S3.length, i1, i2, S2.length, r, rfl, by omega, hi1, by omega, by omega, by omega, by omega, by omega, app_get, hA.get ((hag2.trans hag3).get e1 id) id, hB, hr, hA.get (hag3.get e2 id) id, hA.get e3 id⟩
end
end K55
end HP
namespace HP
open PySem L2
namespace K55
section
variable {k : Nat} {S : Sto}
theorem third_q : D.tup [.int 1, .int 3] = q (1 / 3) := by
  have h1 : (1 / 3 : Rat).num = 1 := by decide +kernel
  have h2 : (1 / 3 : Rat).den = 3 := by decide +kernel
  unfold q
  rw [h1, h2]; rfl
theorem third_sz : Sz 1 2 (1 / 3 : Rat) := by
  have h1 : (1 / 3 : Rat).num = 1 := by decide +kernel
  have h2 : (1 / 3 : Rat).den = 3 := by decide +kernel
  exact ⟨by rw [h1, h2]; decide, by rw [h2]; decide⟩
theorem half_q : D.tup [.int 1, .int 2] = q (1 / 2) := by
  have h1 : (1 / 2 : Rat).num = 1 := by decide +kernel
  have h2 : (1 / 2 : Rat).den = 2 := by decide +kernel
  unfold q
  rw [h1, h2]; rfl
theorem half_sz : Sz 1 1 (1 / 2 : Rat) := by
  have h1 : (1 / 2 : Rat).num = 1 := by decide +kernel
  have h2 : (1 / 2 : Rat).den = 2 := by decide +kernel
  exact ⟨by rw [h1, h2]; decide, by rw [h2]; decide⟩
/-- a whole and two more beside it, of each bend -/
theorem spots_ok {n : Nat} {xs : List Rat} (h : S[n]? = some (.lst (xs.map q))) (hz : ∀ x ∈ xs, Sz 200 200 x) (hl : xs.length ≤ 1000) :
    Wp (callN G (k + 4) 1013 [.loc n] S) fun d S' => Ag (fun _ => False) S S' ∧ ∃ (l : Nat) (ys : List Rat), d = .loc l ∧ S'[l]? = some (.lst (ys.map q)) ∧ (∀ y ∈ ys, Sz 500 500 y) ∧ ys.length ≤ 3 * xs.length := by
  refine wp_def (fn := L_law_spots) rfl rfl ?_
  unfold L_law_spots
  walk_at "hp0"
  walk_at "hys"
  have hA : Ag (fun _ => False) S (S ++ [.lst []]) := Ag.app
  have h0 : (S ++ [.lst []])[S.length]? = some (.lst (([] : List Rat).map q)) := app_get
  have hn := get_lt h
  generalize S ++ [.lst []] = S1 at *
  have hn1 := hA.get h id
  refine wf_len (seq_loc hn1) ?_
  rw [List.length_map]
  refine ⟨_, rfl, by unfold okRng; simp; omega, ?_⟩
  rw [Int.toNat_natCast]
  refine forE_inv (fun i r T => Ag (fun _ => False) S T ∧ ∃ (l : Nat) (ys : List Rat) (z : Option D), r = [some (.loc n), some (.loc l), z] ∧ T[l]? = some (.lst (ys.map q)) ∧ S.length ≤ l ∧ (∀ y ∈ ys, Sz 500 500 y) ∧ ys.length = 3 * i ∧ i ≤ xs.length)
    ⟨hA, S.length, [], none, rfl, h0, Nat.le_refl _, fun y hy => (by cases hy), rfl, Nat.zero_le _⟩ (fun _ _ _ _ _ => still0) ?_ ?_
  · rintro i d r T hd ⟨hag, l, ys, z, rfl, hT, hl0, hyz, hyl, hi⟩
    obtain ⟨hi, rfl⟩ := rng0_get hd
    have gx : xs[i]? = some (xs[i]'hi) := List.getElem?_eq_getElem _
    generalize xs[i]'hi = x at gx
    have gx2 : (xs.map q)[i]? = some (q x) := by rw [List.getElem?_map, gx]; rfl
    have hxz := hz x (List.mem_of_getElem? gx)
    have hnT := hag.get h id
    refine ⟨_, rfl, ?_⟩
    walk_at "hys"
    refine wx_ix (seq_loc hnT) (atI_get gx2) ?_
    walk_at "hys"
    refine wx_ix (seq_loc hnT) (atI_get gx2) ?_
    walk_at "hys"
    rw [third_q]
    refine wp_val (plusL_ok g_plus g_low hxz third_sz (by decide) (by decide)) ?_
    walk_at "hys"
    have hpv : ∃ x', atI (xs.map q) ((i : Int) - 1) = some (q x') ∧ x' ∈ xs := by
      by_cases e : i = 0
      · have hp : xs.length - 1 < xs.length := by omega
        have g1 : xs[xs.length - 1]? = some (xs[xs.length - 1]'hp) := List.getElem?_eq_getElem _
        refine ⟨_, ?_, List.getElem_mem hp⟩
        rw [e]
        exact atI_last (by rw [List.length_map, List.getElem?_map, g1]; rfl)
      · have hp : i - 1 < xs.length := by omega
        have g1 : xs[i - 1]? = some (xs[i - 1]'hp) := List.getElem?_eq_getElem _
        refine ⟨_, ?_, List.getElem_mem hp⟩
        rw [show (i : Int) - 1 = ((i - 1 : Nat) : Int) by omega]
        exact atI_get (by rw [List.getElem?_map, g1]; rfl)
    obtain ⟨x', hx', hm'⟩ := hpv
    have hxz' := hz x' hm'
    have hA2 : Ag (fun _ => False) T (T ++ [.lst [q x, q (x + 1 / 3)]]) := Ag.app
    have hnew : (T ++ [.lst [q x, q (x + 1 / 3)]])[T.length]? = some (.lst (([x, x + 1 / 3] : List Rat).map q)) := app_get
    refine wb_addl (hA2.get hT id) hnew (by rw [List.length_map, List.length_map]; show _ ≤ 16777216; simp; omega) ?_
    have hB := hag.trans hA2
    have hB1 := hB.1
    generalize T ++ [.lst [q x, q (x + 1 / 3)]] = U at *
    have hU2 : Ag (fun _ => False) U (U ++ [.lst (ys.map q ++ ([x, x + 1 / 3] : List Rat).map q)]) := Ag.app
    have hy2 : (U ++ [.lst (ys.map q ++ ([x, x + 1 / 3] : List Rat).map q)])[U.length]? = some (.lst ((ys ++ [x, x + 1 / 3]).map q)) := by rw [app_get, List.map_append]
    have hC := hB.trans hU2
    have hnV := hC.get h id
    generalize U ++ [.lst (ys.map q ++ ([x, x + 1 / 3] : List Rat).map q)] = V1 at *
    walk_at "hys"
    refine ⟨isL_loc hy2, ?_⟩
    walk_at "hys"
    refine wx_ix (seq_loc hnV) (atI_get gx2) ?_
    walk_at "hys"
    refine wx_ix (seq_loc hnV) hx' ?_
    walk_at "hys"
    refine wp_val (plusL_ok g_plus g_low hxz hxz' (by decide) (by decide)) ?_
    walk_at "hys"
    rw [half_q]
    refine wp_val (timesL_ok g_times g_low (hxz.add hxz') half_sz (by decide) (by decide)) ?_
    walk_at "hys"
    refine wm_append hy2 (by rw [List.length_map, List.length_append, hyl]; show _ < 16777216; simp; omega) ?_
    walk_at "hys"
    refine ⟨hC.new (Ag.set (Or.inl (Or.inr (by omega)))), U.length, ys ++ [x, x + 1 / 3] ++ [(x + x') * (1 / 2)], _, rfl, by rw [set_get hy2, List.map_append (l₂ := [(x + x') * (1 / 2)])]; rfl, by omega, fun y hy => ?_, by simp; omega, by omega⟩
    rcases List.mem_append.1 hy with hy | hy
    · rcases List.mem_append.1 hy with hy | hy
      · exact hyz y hy
      · rcases List.mem_cons.1 hy with rfl | hy
        · exact hxz.mono (by decide) (by decide)
        · rw [List.mem_singleton.1 hy]; exact (hxz.add third_sz).mono (by decide) (by decide)
    · rw [List.mem_singleton.1 hy]; exact ((hxz.add hxz').mul half_sz).mono (by decide) (by decide)
  · rintro r T ⟨hag, l, ys, z, rfl, hT, hl0, hyz, hyl, hi⟩
    rw [rngL_len] at hyl
    walk_at "hys"
    exact ⟨hag, l, ys, rfl, hT, hyz, by omega⟩
end
end K55
end HP
namespace HP
open PySem L2
namespace K55
section
variable {k : Nat} {S : Sto}
theorem in_ff {l : Nat} (h : S[l]? = some (.lst ([false, false, false, false].map D.bl))) : inD S (.bl true) (.loc l) = some false := by
  have e : rdD S 200 (.loc l) = some (.list ([false, false, false, false].map PyData.bool)) :=
    (show Dt (fun _ => True) S (.list ([false, false, false, false].map PyData.bool)) (.loc l) from ⟨_, Or.inr ⟨l, rfl, trivial, h⟩, dtA_map fun x _ => rfl⟩).rd (by decide)
  have e0 : rdD S 200 (.bl true) = some (.bool true) := rfl
  unfold inD
  dsimp only
  rw [e0, e]
  rfl
/-- the law's look at a shape -/
theorem is_shape_ok {n : Nat} {bs : List (Rat × Rat)} (h : S[n]? = some (.lst (bs.map pr))) (hs : Shp bs) (hz : ∀ c ∈ bs, Ok2 c) (hl : bs.length < 100) :
    Wp (callN G (k + 4) 1012 [.loc n] S) fun d S' => d = .bl true ∧ Ag (fun _ => False) S S' := by
  have ht : tyD S (.loc n) = some .list := by unfold tyD; dsimp only; rw [h]
  have hne : PyData.eqv (.list (bs.map prd)) (.list []) = false := by
    cases bs with
    | nil => exact absurd rfl hs.one
    | cons b r => rfl
  refine wp_def (fn := L_law_is_shape) rfl rfl ?_
  unfold L_law_is_shape
  walk_at "hp0"
  walk_at "hys"
  refine wps_ite ?_
  walk_at "hy"
  have hA : Ag (fun _ => False) S (S ++ [.lst []]) := Ag.app
  refine wc_eq (eq_loc (dt_prs (P := fun _ => True) (hA.get h id) trivial) (P' := fun _ => True) (y := .list []) ⟨_, Or.inr ⟨_, rfl, trivial, app_get⟩, rfl⟩ (cmp_prs (by omega)) (cmp_prs (xs := []) (by decide))) ?_
  rw [hne]
  have h1 := hA.get h id
  generalize S ++ [.lst []] = S1 at *
  walk_at "hys"
  rw [List.length_map]
  refine ⟨by unfold okRng; simp; omega, ?_⟩
  rw [Int.toNat_natCast]
  refine forE_inv (fun i r T => Ag (fun _ => False) S T ∧ ∃ (t : D) (z2 z3 z4 : Option D), r = [some (.loc n), some t, z2, z3, z4] ∧ noExc t = true ∧ ((t = .non ∧ i ≤ 1) ∨ ∃ (j : Nat) (a b : Rat × Rat), i = j + 2 ∧ bs[j]? = some a ∧ bs[j + 1]? = some b ∧ t = q (rateB a b)))
    ⟨hA, .non, none, none, none, rfl, rfl, Or.inl ⟨rfl, by omega⟩⟩ (fun _ _ _ _ _ => still0) ?_ ?_
  · rintro i d r T hd ⟨hag, t, z2, z3, z4, rfl, hne, hinv⟩
    obtain ⟨hi, rfl⟩ := rng0_get hd
    have hT := hag.get h id
    have ga : bs[i]? = some (bs[i]'hi) := List.getElem?_eq_getElem _
    generalize bs[i]'hi = a at ga
    have ha := hz a (List.mem_of_getElem? ga)
    have ha0 := hs.pos a (List.mem_of_getElem? ga)
    have n1 : ¬ a.1.num < 0 := by have := Rat.num_nonneg.2 ha0.1; omega
    have n2 : ¬ a.2.num < 0 := by have := Rat.num_nonneg.2 ha0.2; omega
    have ga2 : (bs.map pr)[i]? = some (pr a) := by rw [List.getElem?_map, ga]; rfl
    refine ⟨_, rfl, ?_⟩
    walk_at "hys"
    refine wps_ite ?_
    walk_at "hy"
    refine wx_ix (seq_loc hT) (atI_get ga2) ?_
    unfold pr q
    walk_at "hy"
    refine wx_ix (seq_loc hT) (atI_get ga2) ?_
    unfold pr q
    walk_at "hy"
    refine wx_ix (seq_loc hT) (atI_get ga2) ?_
    unfold pr q
    walk_at "hy"
    rw [decide_eq_false n1]
    walk_at "hy"
    refine wx_ix (seq_loc hT) (atI_get ga2) ?_
    unfold pr q
    walk_at "hy"
    rw [decide_eq_false n2]
    walk_at "hys"
    refine wps_ite ?_
    walk_at "hy"
    refine wx_ix (seq_loc hT) (atI_get ga2) ?_
    unfold pr q
    walk_at "hy"
    refine wx_ix (seq_loc hT) (atI_get ga2) ?_
    unfold pr q
    walk_at "hy"
    refine wb_addt (by simp) (by show 2 + 2 ≤ 16777216; decide) ?_
    walk_at "hy"
    refine comp_all (A := Int) (xs := [a.1.num, (a.1.den : Int), a.2.num, (a.2.den : Int)]) (enc := D.int) (g := fun _ => .bl false) (by show 4 < 1000000; decide) (fun U hU => still0) (fun j c gc U hU => ?_) (fun S2 hag2 hx => ?_)
    · refine ⟨_, rfl, ?_⟩
      walk_at "hy"
      exact ⟨rfl, Ag.rfl⟩
    refine wc_in (in_ff hx) ?_
    have hag := hag.trans hag2
    have hT := hag.get h id
    walk_at "hys"
    refine wps_ite ?_
    walk_at "hy"
    refine wq_dec (fun hi0 => ?_) (fun hi0 => ?_)
    · obtain ⟨j, rfl⟩ : ∃ j, i = j + 1 := ⟨i - 1, by omega⟩
      have e1 : ((j + 1 : Nat) : Int) - 1 = (j : Int) := by omega
      have gb : bs[j]? = some (bs[j]'(by omega)) := List.getElem?_eq_getElem _
      generalize bs[j]'(by omega) = b at gb
      have hb := hz b (List.mem_of_getElem? gb)
      have hm := hs.mono j b a gb ga
      have gb2 : (bs.map pr)[j]? = some (pr b) := by rw [List.getElem?_map, gb]; rfl
      walk_at "hys"
      refine wps_ite ?_
      walk_at "hy"
      rw [e1]
      refine wx_ix (seq_loc hT) (atI_get gb2) ?_
      walk_at "hy"
      refine wx_ix (seq_loc hT) (atI_get ga2) ?_
      walk_at "hy"
      refine wp_val (underL_ok g_under hb.1 ha.1 (by decide) (by decide)) ?_
      rw [decide_eq_true hm.1]
      walk_at "hy"
      refine wx_ix (seq_loc hT) (atI_get ga2) ?_
      walk_at "hy"
      rw [e1]
      refine wx_ix (seq_loc hT) (atI_get gb2) ?_
      walk_at "hy"
      refine wp_val (underL_ok g_under ha.2 hb.2 (by decide) (by decide)) ?_
      rw [decide_eq_true hm.2]
      walk_at "hys"
      rw [e1]
      refine wx_ix (seq_loc hT) (atI_get gb2) ?_
      walk_at "hys"
      refine wx_ix (seq_loc hT) (atI_get ga2) ?_
      walk_at "hys"
      refine wp_val (fallL_ok g_fall g_parted g_low g_minus hb ha hm.1) ?_
      walk_at "hys"
      refine wps_ite ?_
      walk_at "hy"
      rcases hinv with ⟨rfl, hi1⟩ | ⟨m, x, y, em, gx, gy, rfl⟩
      · refine wc_isn (q := true) rfl ?_
        walk_at "hy"
        exact ⟨hag, _, _, _, _, rfl, rfl, Or.inr ⟨j, b, a, by omega, gb, ga, rfl⟩⟩
      · have ej : j = m + 1 := by omega
        subst ej
        rw [gy] at gb
        cases gb
        have hxz := hz x (List.mem_of_getElem? gx)
        have hmx := hs.mono m x b gx gy
        have hcv := hs.conv m x b a gx gy ga
        refine wc_isn (q := false) rfl ?_
        walk_at "hy"
        refine wp_val (underL_ok g_under (fall_sz hb ha hm.1) (fall_sz hxz hb hmx.1) (by decide) (by decide)) ?_
        rw [decide_eq_true hcv]
        walk_at "hy"
        exact ⟨hag, _, _, _, _, rfl, rfl, Or.inr ⟨m + 1, b, a, by omega, gy, ga, rfl⟩⟩
    · walk_at "hy"
      refine ⟨hag, t, _, _, _, rfl, hne, ?_⟩
      rcases hinv with ⟨rfl, hi1⟩ | ⟨m, x, y, em, gx, gy, rfl⟩
      · exact Or.inl ⟨rfl, by omega⟩
      · omega
  · rintro r T ⟨hag, t, z2, z3, z4, rfl, hne, hinv⟩
    walk_at "hys"
    exact ⟨rfl, hag⟩
end
end K55
end HP
namespace HP
open PySem L2
namespace K55
section
variable {k : Nat} {S : Sto}
theorem pv_szL {a : Rat × Rat} {f : List (Rat × Rat)} {w : Rat} (hs : Shp (a :: f)) (hz : ∀ c ∈ a :: f, Ok2 c) (hw : Sz 1500 1800 w) (h : a.1 ≤ w) : Sz 3000 3500 (pv (a :: f) w) := by
  have := at_pv hs h
  generalize pv (a :: f) w = p at this ⊢
  cases this with
  | @way i a' b' ha hb h1 h2 =>
    have ha' := hz _ (List.mem_of_getElem? ha)
    have hb' := hz _ (List.mem_of_getElem? hb)
    exact (ha'.2.sub ((fall_sz ha' hb' (hs.mono i a' b' ha hb).1).mul (hw.sub ha'.1))).mono (by decide) (by decide)
  | last ha h1 => exact (hz _ (List.mem_of_getElem? ha)).2.mono (by decide) (by decide)
/-- the law's price, where there is one -/
theorem price_ok {n : Nat} {a : Rat × Rat} {f : List (Rat × Rat)} {w : Rat} (h : S[n]? = some (.lst ((a :: f).map pr))) (hs : Shp (a :: f)) (hz : ∀ c ∈ a :: f, Ok2 c) (hw : Sz 1500 1800 w) (hl : (a :: f).length < 100) (haw : a.1 ≤ w) :
    callN G (k + 4) 1011 [.loc n, q w] S = .ok (q (pv (a :: f) w)) S := by
  refine wp_eq (wp_mono (price_at_ok g_price g_fall g_parted g_low g_minus g_times g_under h hs hz (hw.mono (by decide) (by decide)) hl) ?_)
  rintro d S' ⟨rfl, hpr⟩
  rcases hpr with ⟨rfl, hno⟩ | ⟨p, rfl, hpp⟩
  · exact absurd haw (Rat.not_le.2 (hno a (by simp)))
  · rw [pv_at hs hpp]
    exact ⟨rfl, rfl⟩
end
end K55
end HP
namespace HP
open PySem L2
namespace K55
section
variable {k : Nat} {S : Sto}
/-- the law's least price of two parts -/
theorem parted_price_ok {n m : Nat} {a b : Rat × Rat} {f g : List (Rat × Rat)} {t w : Rat} (h1 : S[n]? = some (.lst ((a :: f).map pr))) (h2 : S[m]? = some (.lst ((b :: g).map pr))) (hf : Shp (a :: f)) (hg : Shp (b :: g)) (zf : ∀ c ∈ a :: f, Ok2 c) (zg : ∀ c ∈ b :: g, Ok2 c) (l1 : (a :: f).length < 50) (l2 : (b :: g).length < 50)
    (hw : Sz 600 700 (w - t)) (hlo : a.1 + b.1 + t ≤ w) :
    Wp (callN G (k + 5) 1015 [.loc n, .loc m, q (w - t)] S) fun d S' => d = q (pv (bhd t a b f g) w) ∧ Ag (fun _ => False) S S' := by
  obtain ⟨u, v, rr, hsp⟩ := spl_ex t w _ a b f g (Nat.le_refl _) hf hg hlo
  have ga2 : ((a :: f).map pr)[0]? = some (pr a) := rfl
  have gb2 : ((b :: g).map pr)[0]? = some (pr b) := rfl
  have haz := zf a (by simp)
  have hbz := zg b (by simp)
  refine wp_def (fn := L_law_parted_price) rfl rfl ?_
  unfold L_law_parted_price
  walk_at "hp0"
  walk_at "hys"
  refine wi_loc h1 ?_
  refine comp_all (enc := pr) (g := fun c => q c.1) (by omega) (fun U hU => still1 (hU.get h1 id)) (fun i c gc U hU => ?_) (fun S1 hag1 hx => ?_)
  · refine ⟨_, rfl, ?_⟩
    unfold pr
    walk_at "hy"
    exact ⟨rfl, Ag.rfl⟩
  walk_at "hys"
  refine wi_loc (hag1.get h2 id) ?_
  refine comp_all (enc := pr) (g := fun c => q ((w - t) - c.1)) (by omega) (fun U hU => still1 ((hag1.trans hU).get h2 id)) (fun i c gc U hU => ?_) (fun S2 hag2 hy => ?_)
  · refine ⟨_, rfl, ?_⟩
    unfold pr
    walk_at "hy"
    refine wp_val (minusL_ok g_minus g_low hw (zg c (List.mem_of_getElem? gc)).1 (by decide) (by decide)) ?_
    walk_at "hy"
    exact ⟨rfl, Ag.rfl⟩
  have hag := hag1.trans hag2
  have hx2 := hag2.get hx id
  have e1 : (a :: f).map (fun c => q c.1) = ((a :: f).map (·.1)).map q := by rw [List.map_map]; rfl
  have e2 : (b :: g).map (fun c => q ((w - t) - c.1)) = ((b :: g).map (fun c => (w - t) - c.1)).map q := by rw [List.map_map]; rfl
  rw [e1] at hx2
  rw [e2] at hy
  refine wb_addl hx2 hy (by rw [List.length_map, List.length_map, List.length_map, List.length_map]; show _ ≤ 16777216; omega) ?_
  rw [← List.map_append]
  have hA : Ag (fun _ => False) S2 (S2 ++ [.lst (((a :: f).map (·.1) ++ (b :: g).map (fun c => (w - t) - c.1)).map q)]) := Ag.app
  have hxs : (S2 ++ [.lst (((a :: f).map (·.1) ++ (b :: g).map (fun c => (w - t) - c.1)).map q)])[S2.length]? = some (.lst (((a :: f).map (·.1) ++ (b :: g).map (fun c => (w - t) - c.1)).map q)) := app_get
  have hxz : ∀ x ∈ (a :: f).map (·.1) ++ (b :: g).map (fun c => (w - t) - c.1), Sz 900 900 x := fun x hx => by
    rcases List.mem_append.1 hx with hx | hx
    · obtain ⟨c, hc, rfl⟩ := List.mem_map.1 hx
      exact (zf c hc).1.mono (by decide) (by decide)
    · obtain ⟨c, hc, rfl⟩ := List.mem_map.1 hx
      exact (hw.sub (zg c hc).1).mono (by decide) (by decide)
  have hnd : u ∈ (a :: f).map (·.1) ++ (b :: g).map (fun c => (w - t) - c.1) := by
    rcases hsp.nd with ⟨c, hc, e⟩ | ⟨c, hc, e⟩
    · exact List.mem_append_left _ (List.mem_map.2 ⟨c, hc, e⟩)
    · refine List.mem_append_right _ (List.mem_map.2 ⟨c, hc, ?_⟩)
      have := hsp.eq
      show w - t - c.1 = u
      rw [e]
      grind
  have hB := hag.trans hA
  generalize S2 ++ [.lst (((a :: f).map (·.1) ++ (b :: g).map (fun c => (w - t) - c.1)).map q)] = S3 at *
  generalize S2.length = l3 at *
  generalize (a :: f).map (·.1) ++ (b :: g).map (fun c => (w - t) - c.1) = xs at *
  refine wi_loc hxs ?_
  refine forE_inv (fun i r T => Ag (fun _ => False) S T ∧ Ag (fun _ => False) S3 T ∧ ∃ (d : D) (z4 z5 z6 : Option D), r = [some (.loc n), some (.loc m), some (q (w - t)), some d, z4, z5, z6, none] ∧ noExc d = true ∧
      ((d = .non ∧ ∀ x ∈ xs.take i, ¬ (a.1 ≤ x ∧ b.1 ≤ w - t - x)) ∨ ∃ p, d = q p ∧ Sz 7000 7500 p ∧ pv (bhd t a b f g) w ≤ p ∧ ∀ x ∈ xs.take i, a.1 ≤ x → b.1 ≤ w - t - x → p ≤ pv (a :: f) x + pv (b :: g) (w - t - x)))
    ⟨hB, Ag.rfl, .non, none, none, none, rfl, rfl, Or.inl ⟨rfl, fun x hx => by rw [List.take_zero] at hx; cases hx⟩⟩ (fun i r T _ hh => still1 (hh.2.1.get hxs id)) ?_ ?_
  · rintro i d r T hd ⟨hag, hag3, d0, z4, z5, z6, rfl, hne, hinv⟩
    rw [List.getElem?_map, Option.map_eq_some_iff] at hd
    obtain ⟨x, gx, rfl⟩ := hd
    have hz := hxz x (List.mem_of_getElem? gx)
    have hyz : Sz 1500 1800 (w - t - x) := (hw.sub hz).mono (by decide) (by decide)
    have hT1 := hag.get h1 id
    have hT2 := hag.get h2 id
    have step : ∀ {y : Rat}, y ∈ xs.take (i + 1) → y ∈ xs.take i ∨ y = x := fun {y} hy => by
      rw [take_succ_get gx] at hy
      rcases List.mem_append.1 hy with hy | hy
      · exact Or.inl hy
      · exact Or.inr (List.mem_singleton.1 hy)
    refine ⟨_, rfl, ?_⟩
    walk_at "hys"
    refine wp_val (minusL_ok g_minus g_low hw hz (by decide) (by decide)) ?_
    walk_at "hys"
    refine wps_ite ?_
    walk_at "hy"
    refine wx_ix (seq_loc hT1) (atI_get (i := 0) ga2) ?_
    walk_at "hy"
    refine wp_val (underL_ok g_under hz haz.1 (by decide) (by decide)) ?_
    walk_at "hy"
    refine wq_ndec (fun c1 => ?_) (fun c1 => ?_)
    · have c1 := Rat.not_lt.1 c1
      walk_at "hy"
      refine wx_ix (seq_loc hT2) (atI_get (i := 0) gb2) ?_
      walk_at "hy"
      refine wp_val (underL_ok g_under hyz hbz.1 (by decide) (by decide)) ?_
      walk_at "hys"
      refine wq_ndec (fun c2 => ?_) (fun c2 => ?_)
      · have c2 := Rat.not_lt.1 c2
        walk_at "hys"
        have p1 := pv_szL hf zf (hz.mono (by decide) (by decide)) c1
        have p2 := pv_szL hg zg hyz c2
        refine wp_val (price_ok hT1 hf zf (hz.mono (by decide) (by decide)) (by omega) c1) ?_
        walk_at "hys"
        refine wp_val (price_ok hT2 hg zg hyz (by omega) c2) ?_
        walk_at "hys"
        refine wp_val (plusL_ok g_plus g_low p1 p2 (by decide) (by decide)) ?_
        walk_at "hys"
        have hpz : Sz 7000 7500 (pv (a :: f) x + pv (b :: g) (w - t - x)) := (p1.add p2).mono (by decide) (by decide)
        have hle := hsp.least (u' := x) (v' := w - t - x) (by grind) c1 c2
        refine wps_ite ?_
        rcases hinv with ⟨rfl, hno⟩ | ⟨p, rfl, hpz0, hple, hmin⟩
        · walk_at "hy"
          refine wc_is (q := true) rfl ?_
          walk_at "hy"
          refine ⟨hag, hag3, _, _, _, _, rfl, rfl, Or.inr ⟨_, rfl, hpz, hle, fun y hy k1 k2 => ?_⟩⟩
          rcases step hy with hy | rfl
          · exact absurd ⟨k1, k2⟩ (hno y hy)
          · exact Rat.le_refl
        · walk_at "hy"
          refine wc_is (q := false) rfl ?_
          walk_at "hy"
          refine wp_val (underL_ok g_under hpz hpz0 (by decide) (by decide)) ?_
          walk_at "hy"
          refine wq_dec (fun c3 => ?_) (fun c3 => ?_)
          · walk_at "hy"
            refine ⟨hag, hag3, _, _, _, _, rfl, rfl, Or.inr ⟨_, rfl, hpz, hle, fun y hy k1 k2 => ?_⟩⟩
            rcases step hy with hy | rfl
            · exact Rat.le_trans (Rat.le_of_lt c3) (hmin y hy k1 k2)
            · exact Rat.le_refl
          · walk_at "hy"
            refine ⟨hag, hag3, _, _, _, _, rfl, rfl, Or.inr ⟨p, rfl, hpz0, hple, fun y hy k1 k2 => ?_⟩⟩
            rcases step hy with hy | rfl
            · exact hmin y hy k1 k2
            · exact Rat.not_lt.1 c3
      · walk_at "hys"
        refine ⟨hag, hag3, d0, _, _, _, rfl, hne, ?_⟩
        rcases hinv with ⟨e, hno⟩ | ⟨p, e, hpz0, hple, hmin⟩
        · refine Or.inl ⟨e, fun y hy => ?_⟩
          rcases step hy with hy | rfl
          · exact hno y hy
          · exact fun hh => absurd c2 (Rat.not_lt.2 hh.2)
        · refine Or.inr ⟨p, e, hpz0, hple, fun y hy k1 k2 => ?_⟩
          rcases step hy with hy | rfl
          · exact hmin y hy k1 k2
          · exact absurd c2 (Rat.not_lt.2 k2)
    · walk_at "hys"
      refine ⟨hag, hag3, d0, _, _, _, rfl, hne, ?_⟩
      rcases hinv with ⟨e, hno⟩ | ⟨p, e, hpz0, hple, hmin⟩
      · refine Or.inl ⟨e, fun y hy => ?_⟩
        rcases step hy with hy | rfl
        · exact hno y hy
        · exact fun hh => absurd c1 (Rat.not_lt.2 hh.1)
      · refine Or.inr ⟨p, e, hpz0, hple, fun y hy k1 k2 => ?_⟩
        rcases step hy with hy | rfl
        · exact hmin y hy k1 k2
        · exact absurd c1 (Rat.not_lt.2 k1)
  · rintro r T ⟨hag, hag3, d0, z4, z5, z6, rfl, hne, hinv⟩
    rw [List.length_map, List.take_length] at hinv
    have hv : v = w - t - u := by have := hsp.eq; grind
    have hyv := hsp.yv
    rw [hv] at hyv
    walk_at "hys"
    rcases hinv with ⟨rfl, hno⟩ | ⟨p, rfl, hpz0, hple, hmin⟩
    · exact absurd ⟨hsp.xu, hyv⟩ (hno u hnd)
    · have h3 := hmin u hnd hsp.xu hyv
      have h4 := hsp.pr
      rw [hv] at h4
      rw [← h4] at h3
      refine ⟨by rw [Rat.le_antisymm h3 hple], hag⟩
end
end K55
end HP
namespace HP
open PySem L2
namespace K55
section
variable {k : Nat} {S : Sto}
theorem ne_q {x y : Rat} {Q : D → Sto → Prop} (h : x = y) (j : Q (.bl false) S) : Wp (cmpD S .ne (q x) (q y)) Q := by
  refine wc_ne (eqD_q x y) ?_
  rw [decide_eq_true h]
  exact j
/-- the wholes of a list of bends -/
theorem fsts_eq (bs : List (Rat × Rat)) : bs.map (fun c => q c.1) = (bs.map (·.1)).map q := by rw [List.map_map]; rfl
/-- what stands beside is right -/
theorem beside_right_ok {n m l : Nat} {a b : Rat × Rat} {f g : List (Rat × Rat)} {u : Rat} {r : List Rat} (h1 : S[n]? = some (.lst ((a :: f).map pr))) (h2 : S[m]? = some (.lst ((b :: g).map pr))) (hf : Shp (a :: f)) (hg : Shp (b :: g)) (zf : ∀ c ∈ a :: f, Ok2 c) (zg : ∀ c ∈ b :: g, Ok2 c) (l1 : (a :: f).length < 50) (l2 : (b :: g).length < 50)
    (hu : u = if a.1 < b.1 then b.1 else a.1) (h3 : S[l]? = some (.lst (((u :: r).map (ptS (sumH (a :: f) (b :: g)))).map pr))) (hB : Bes (a :: f) (b :: g) u r) (zh : ∀ c ∈ (u :: r).map (ptS (sumH (a :: f) (b :: g))), Ok2 c) (lr : r.length < 90) :
    Wp (callN G (k + 5) 1014 [.loc n, .loc m, .loc l] S) fun d S' => d = .bl true ∧ Ag (fun _ => False) S S' := by
  have hua : a.1 ≤ u := by rw [hu]; split <;> grind
  have hub : b.1 ≤ u := by rw [hu]; split <;> grind
  obtain ⟨hs, hpv⟩ := bes_shp hf hg hB hua hub
  have haz := zf a (by simp)
  have hbz := zg b (by simp)
  have huz : Sz 200 200 u := by rw [hu]; split; exact hbz.1; exact haz.1
  have ga2 : ((a :: f).map pr)[0]? = some (pr a) := rfl
  have gb2 : ((b :: g).map pr)[0]? = some (pr b) := rfl
  have gu2 : (((u :: r).map (ptS (sumH (a :: f) (b :: g)))).map pr)[0]? = some (pr (ptS (sumH (a :: f) (b :: g)) u)) := rfl
  refine wp_def (fn := L_law_beside_right) rfl rfl ?_
  unfold L_law_beside_right
  walk_at "hp0"
  refine wps_cons ?_
  refine wps_cut (fun r1 S1 => S = S1 ∧ r1 = [some (.loc n), some (.loc m), some (.loc l), some (q a.1), none, none]) ?_ ?_
  · walk_at "hys"
    refine wx_ix (seq_loc h1) (atI_get (i := 0) ga2) ?_
    walk_at "hys"
    exact ⟨rfl, rfl⟩
  rintro _ _ ⟨rfl, rfl⟩
  refine wps_cons ?_
  refine wps_cut (fun r1 S1 => S = S1 ∧ r1 = [some (.loc n), some (.loc m), some (.loc l), some (q u), none, none]) ?_ ?_
  · refine wps_ite ?_
    walk_at "hy"
    refine wx_ix (seq_loc h2) (atI_get (i := 0) gb2) ?_
    walk_at "hy"
    refine wp_val (underL_ok g_under haz.1 hbz.1 (by decide) (by decide)) ?_
    walk_at "hys"
    refine wq_dec (fun c => ?_) (fun c => ?_)
    · rw [if_pos c] at hu
      walk_at "hys"
      refine wx_ix (seq_loc h2) (atI_get (i := 0) gb2) ?_
      walk_at "hys"
      exact ⟨rfl, by rw [hu]; rfl⟩
    · rw [if_neg c] at hu
      walk_at "hys"
      exact ⟨rfl, by rw [hu]⟩
  rintro _ _ ⟨rfl, rfl⟩
  clear hu
  walk_at "hys"
  refine wps_ite ?_
  walk_at "hy"
  refine wp_mono (is_shape_ok h3 hs zh (by rw [List.length_map, List.length_cons]; omega)) ?_
  rintro _ S1 ⟨rfl, hag1⟩
  have t1 := hag1.get h1 id
  have t2 := hag1.get h2 id
  have t3 := hag1.get h3 id
  walk_at "hy"
  refine wx_ix (seq_loc t3) (atI_get (i := 0) gu2) ?_
  walk_at "hy"
  refine ne_q rfl ?_
  walk_at "hys"
  refine wb_addl t1 t2 (by rw [List.length_map, List.length_map]; show _ ≤ 16777216; omega) ?_
  have hA1 : Ag (fun _ => False) S1 (S1 ++ [.lst ((a :: f).map pr ++ (b :: g).map pr)]) := Ag.app
  have e1 : (S1 ++ [.lst ((a :: f).map pr ++ (b :: g).map pr)])[S1.length]? = some (.lst ((a :: f ++ b :: g).map pr)) := by rw [app_get, List.map_append]
  have hag2 := hag1.trans hA1
  have t3 := hA1.get t3 id
  generalize S1 ++ [.lst ((a :: f).map pr ++ (b :: g).map pr)] = S2 at *
  generalize S1.length = p2 at *
  walk_at "hys"
  refine wb_addl e1 t3 (by simp only [List.length_map, List.length_append, List.length_cons] at l1 l2 ⊢; show _ ≤ 16777216; omega) ?_
  rw [← List.map_append]
  have hA2 : Ag (fun _ => False) S2 (S2 ++ [.lst ((a :: f ++ b :: g ++ (u :: r).map (ptS (sumH (a :: f) (b :: g)))).map pr)]) := Ag.app
  have e2 : (S2 ++ [.lst ((a :: f ++ b :: g ++ (u :: r).map (ptS (sumH (a :: f) (b :: g)))).map pr)])[S2.length]? = some (.lst ((a :: f ++ b :: g ++ (u :: r).map (ptS (sumH (a :: f) (b :: g)))).map pr)) := app_get
  have hag3 := hag2.trans hA2
  have zall : ∀ c ∈ a :: f ++ b :: g ++ (u :: r).map (ptS (sumH (a :: f) (b :: g))), Ok2 c := fun c hc => by
    rcases List.mem_append.1 hc with hc | hc
    · rcases List.mem_append.1 hc with hc | hc
      · exact zf c hc
      · exact zg c hc
    · exact zh c hc
  have lall : (a :: f ++ b :: g ++ (u :: r).map (ptS (sumH (a :: f) (b :: g)))).length ≤ 300 := by
    simp only [List.length_map, List.length_append, List.length_cons] at l1 l2 ⊢; omega
  generalize S2 ++ [.lst ((a :: f ++ b :: g ++ (u :: r).map (ptS (sumH (a :: f) (b :: g)))).map pr)] = S3 at *
  generalize S2.length = p3 at *
  generalize a :: f ++ b :: g ++ (u :: r).map (ptS (sumH (a :: f) (b :: g))) = al at *
  refine wi_loc e2 ?_
  refine comp_all (enc := pr) (g := fun c => q c.1) (by omega) (fun U hU => still1 (hU.get e2 id)) (fun i c gc U hU => ?_) (fun S4 hag4 hx => ?_)
  · refine ⟨_, rfl, ?_⟩
    unfold pr
    walk_at "hy"
    exact ⟨rfl, Ag.rfl⟩
  rw [fsts_eq] at hx
  walk_at "hys"
  refine wp_mono (spots_ok hx (fun x hx => ?_) (by rw [List.length_map]; omega)) ?_
  · obtain ⟨c, hc, rfl⟩ := List.mem_map.1 hx
    exact (zall c hc).1
  rintro _ S5 ⟨hag5, l5, ys, rfl, hys, hyz, _⟩
  have hag := (hag3.trans hag4).trans hag5
  walk_at "hys"
  refine wi_loc hys ?_
  refine forE_inv (fun i r T => Ag (fun _ => False) S T ∧ Ag (fun _ => False) S5 T ∧ ∃ z4, r = [some (.loc n), some (.loc m), some (.loc l), some (q u), z4, none])
    ⟨hag, Ag.rfl, none, rfl⟩ (fun i r T _ hh => still1 (hh.2.1.get hys id)) ?_ ?_
  · rintro i d r T hd ⟨hagT, hag5T, z4, rfl⟩
    rw [List.getElem?_map, Option.map_eq_some_iff] at hd
    obtain ⟨w, gw, rfl⟩ := hd
    have hwz := hyz w (List.mem_of_getElem? gw)
    have hT1 := hagT.get h1 id
    have hT2 := hagT.get h2 id
    have hT3 := hagT.get h3 id
    refine ⟨_, rfl, ?_⟩
    walk_at "hys"
    refine wps_ite ?_
    walk_at "hy"
    refine wp_val (underL_ok g_under hwz huz (by decide) (by decide)) ?_
    walk_at "hys"
    refine wq_ndec (fun c1 => ?_) (fun c1 => ?_)
    · have c1 := Rat.not_lt.1 c1
      walk_at "hys"
      refine wps_ite ?_
      walk_at "hy"
      have hw2 : Sz 1500 1800 w := hwz.mono (by decide) (by decide)
      refine wp_val (price_ok (a := ptS (sumH (a :: f) (b :: g)) u) (f := r.map (ptS (sumH (a :: f) (b :: g)))) hT3 hs zh hw2 (by simp only [List.length_map, List.length_cons]; omega) c1) ?_
      walk_at "hy"
      refine wp_val (price_ok hT1 hf zf hw2 (by omega) (Rat.le_trans hua c1)) ?_
      walk_at "hy"
      refine wp_val (price_ok hT2 hg zg hw2 (by omega) (Rat.le_trans hub c1)) ?_
      walk_at "hy"
      refine wp_val (plusL_ok g_plus g_low (pv_szL hf zf hw2 (Rat.le_trans hua c1)) (pv_szL hg zg hw2 (Rat.le_trans hub c1)) (by decide) (by decide)) ?_
      walk_at "hy"
      refine ne_q (hpv w c1) ?_
      walk_at "hy"
      exact ⟨hagT, hag5T, _, rfl⟩
    · walk_at "hy"
      exact ⟨hagT, hag5T, _, rfl⟩
  · rintro r T ⟨hagT, _, z4, rfl⟩
    walk_at "hys"
    exact ⟨rfl, hagT⟩
/-- what stands behind is right -/
theorem behind_right_ok {n m l : Nat} {a b : Rat × Rat} {f g : List (Rat × Rat)} {t : Rat} (h1 : S[n]? = some (.lst ((a :: f).map pr))) (h2 : S[m]? = some (.lst ((b :: g).map pr))) (hf : Shp (a :: f)) (hg : Shp (b :: g)) (zf : ∀ c ∈ a :: f, Ok2 c) (zg : ∀ c ∈ b :: g, Ok2 c) (l1 : (a :: f).length < 45) (l2 : (b :: g).length < 45)
    (ht : Sz 40 6 t) (ht0 : 0 ≤ t) (h3 : S[l]? = some (.lst ((bhd t a b f g).map pr))) (zh : ∀ c ∈ bhd t a b f g, Ok2 c) (lh : (bhd t a b f g).length < 100) :
    Wp (callN G (k + 6) 1016 [.loc n, .loc m, q t, .loc l] S) fun d S' => d = .bl true ∧ Ag (fun _ => False) S S' := by
  obtain ⟨hs, _⟩ := bhd_shp ht0 _ a b f g (Nat.le_refl _) hf hg hf hg
  obtain ⟨tl, etl⟩ := bhd_hd (t := t) (x := a) (y := b) (xr := f) (yr := g)
  have haz := zf a (by simp)
  have hbz := zg b (by simp)
  have ga2 : ((a :: f).map pr)[0]? = some (pr a) := rfl
  have gb2 : ((b :: g).map pr)[0]? = some (pr b) := rfl
  have gu2 : ((bhd t a b f g).map pr)[0]? = some (pr (crn t a b)) := by rw [etl]; rfl
  have hcz : Sz 500 500 (a.1 + b.1 + t) := ((haz.1.add hbz.1).add ht).mono (by decide) (by decide)
  refine wp_def (fn := L_law_behind_right) rfl rfl ?_
  unfold L_law_behind_right
  walk_at "hp0"
  walk_at "hys"
  refine wx_ix (seq_loc h1) (atI_get (i := 0) ga2) ?_
  walk_at "hys"
  refine wx_ix (seq_loc h2) (atI_get (i := 0) gb2) ?_
  walk_at "hys"
  refine wp_val (plusL_ok g_plus g_low haz.1 hbz.1 (by decide) (by decide)) ?_
  walk_at "hys"
  refine wp_val (plusL_ok g_plus g_low (haz.1.add hbz.1) ht (by decide) (by decide)) ?_
  walk_at "hys"
  refine wps_ite ?_
  walk_at "hy"
  refine wp_mono (is_shape_ok h3 hs zh lh) ?_
  rintro _ S1 ⟨rfl, hag1⟩
  have t3 := hag1.get h3 id
  walk_at "hy"
  refine wx_ix (seq_loc t3) (atI_get (i := 0) gu2) ?_
  walk_at "hy"
  refine ne_q (y := a.1 + b.1 + t) rfl ?_
  walk_at "hys"
  refine wi_loc t3 ?_
  refine comp_all (enc := pr) (g := fun c => q c.1) (by omega) (fun U hU => still1 (hU.get t3 id)) (fun i c gc U hU => ?_) (fun S4 hag4 hx => ?_)
  · refine ⟨_, rfl, ?_⟩
    unfold pr
    walk_at "hy"
    exact ⟨rfl, Ag.rfl⟩
  rw [fsts_eq] at hx
  walk_at "hys"
  refine wp_mono (spots_ok hx (fun x hx => ?_) (by rw [List.length_map]; omega)) ?_
  · obtain ⟨c, hc, rfl⟩ := List.mem_map.1 hx
    exact (zh c hc).1
  rintro _ S5 ⟨hag5, l5, ys, rfl, hys, hyz, _⟩
  have hag := (hag1.trans hag4).trans hag5
  walk_at "hys"
  refine wi_loc hys ?_
  refine forE_inv (fun i r T => Ag (fun _ => False) S T ∧ Ag (fun _ => False) S5 T ∧ ∃ z5, r = [some (.loc n), some (.loc m), some (q t), some (.loc l), some (q (a.1 + b.1 + t)), z5, none])
    ⟨hag, Ag.rfl, none, rfl⟩ (fun i r T _ hh => still1 (hh.2.1.get hys id)) ?_ ?_
  · rintro i d r T hd ⟨hagT, hag5T, z4, rfl⟩
    rw [List.getElem?_map, Option.map_eq_some_iff] at hd
    obtain ⟨w, gw, rfl⟩ := hd
    have hwz := hyz w (List.mem_of_getElem? gw)
    have hT1 := hagT.get h1 id
    have hT2 := hagT.get h2 id
    have hT3 := hagT.get h3 id
    refine ⟨_, rfl, ?_⟩
    walk_at "hys"
    refine wps_ite ?_
    walk_at "hy"
    refine wp_val (underL_ok g_under hwz hcz (by decide) (by decide)) ?_
    walk_at "hys"
    refine wq_ndec (fun c1 => ?_) (fun c1 => ?_)
    · have c1 := Rat.not_lt.1 c1
      walk_at "hys"
      refine wps_ite ?_
      walk_at "hy"
      have hw2 : Sz 1500 1800 w := hwz.mono (by decide) (by decide)
      have hT3' := hT3
      rw [etl] at hT3'
      refine wp_val (price_ok (a := crn t a b) (f := tl) hT3' (by rw [← etl]; exact hs) (by rw [← etl]; exact zh) hw2 (by rw [← etl]; exact lh) c1) ?_
      rw [← etl]
      walk_at "hy"
      refine wp_val (minusL_ok g_minus g_low hwz ht (by decide) (by decide)) ?_
      walk_at "hy"
      refine wp_mono (parted_price_ok hT1 hT2 hf hg zf zg (by omega) (by omega) ((hwz.sub ht).mono (by decide) (by decide)) c1) ?_
      rintro _ T2 ⟨rfl, hagT2⟩
      walk_at "hy"
      refine ne_q rfl ?_
      walk_at "hy"
      exact ⟨hagT.trans hagT2, hag5T.trans hagT2, _, rfl⟩
    · walk_at "hy"
      exact ⟨hagT, hag5T, _, rfl⟩
  · rintro r T ⟨hagT, _, z4, rfl⟩
    walk_at "hys"
    exact ⟨rfl, hagT⟩
end
end K55
end HP
namespace HP
open PySem L2
namespace K55
theorem nodup_len : (xs ys : List Rat) → xs.Nodup → (∀ x ∈ xs, x ∈ ys) → xs.length ≤ ys.length
  | [], _, _, _ => Nat.zero_le _
  | x :: xs, ys, hn, h => by
    have hx := h x (by simp)
    have hn' := List.nodup_cons.1 hn
    have ih := nodup_len xs (ys.erase x) hn'.2 fun z hz => (List.mem_erase_of_ne (fun e => hn'.1 (by rw [← e]; exact hz))).2 (h z (List.mem_cons_of_mem _ hz))
    rw [List.length_erase_of_mem hx] at ih
    have := List.length_pos_of_mem hx
    rw [List.length_cons]
    omega
theorem ris_nodup : {u : Rat} → {r : List Rat} → RisS (u :: r) → r.Nodup
  | _, [], _ => List.nodup_nil
  | _, v :: r, h => List.nodup_cons.2 ⟨fun hm => Rat.lt_irrefl (RisS.fst h.2 v hm), ris_nodup h.2⟩
theorem bes_len {f g : List (Rat × Rat)} {u : Rat} {r : List Rat} (h : Bes f g u r) : r.length ≤ f.length + g.length := by
  have := nodup_len r ((f.tail ++ g.tail).map (·.1)) (ris_nodup h.ris) fun x hx => by
    obtain ⟨c, hc, e⟩ := h.br x hx
    exact List.mem_map.2 ⟨c, hc, e⟩
  simp only [List.length_map, List.length_append, List.length_tail] at this
  omega
theorem ris_ext : {u u' : Rat} → {r r' : List Rat} → RisS (u :: r) → RisS (u' :: r') → (∀ x, x ∈ r ↔ x ∈ r') → r = r'
  | _, _, [], [], _, _, _ => rfl
  | _, _, [], y :: r', _, _, h => by have := (h y).2 (by simp); cases this
  | _, _, x :: r, [], _, _, h => by have := (h x).1 (by simp); cases this
  | _, _, x :: r, y :: r', h1, h2, h => by
    have e : x = y := by
      rcases List.mem_cons.1 ((h x).1 (by simp)) with e | e
      · exact e
      · rcases List.mem_cons.1 ((h y).2 (by simp)) with e2 | e2
        · exact e2.symm
        · have := RisS.fst h2.2 x e
          have := RisS.fst h1.2 y e2
          grind
    subst e
    refine congrArg _ (ris_ext h1.2 h2.2 fun z => ⟨fun hz => ?_, fun hz => ?_⟩)
    · rcases List.mem_cons.1 ((h z).1 (List.mem_cons_of_mem _ hz)) with e | e
      · have := RisS.fst h1.2 z hz
        rw [e] at this
        exact absurd this Rat.lt_irrefl
      · exact e
    · rcases List.mem_cons.1 ((h z).2 (List.mem_cons_of_mem _ hz)) with e | e
      · have := RisS.fst h2.2 z hz
        rw [e] at this
        exact absurd this Rat.lt_irrefl
      · exact e
theorem bes_uniq {f g : List (Rat × Rat)} {u : Rat} {r r' : List Rat} (h : Bes f g u r) (h' : Bes f g u r') : r = r' := by
  refine ris_ext h.ris h'.ris fun x => ⟨fun hx => ?_, fun hx => ?_⟩
  · obtain ⟨c, hc, rfl⟩ := h.br x hx
    exact h'.up c hc (RisS.fst h.ris _ hx)
  · obtain ⟨c, hc, rfl⟩ := h'.br x hx
    exact h.up c hc (RisS.fst h'.ris _ hx)
theorem shp_drop {bs : List (Rat × Rat)} (h : Shp bs) {j : Nat} (hj : j < bs.length) : Shp (bs.drop j) := by
  refine ⟨fun e => ?_, fun i a b ha hb => ?_, fun i a b c ha hb hc => ?_, fun p hp => h.pos p (List.mem_of_mem_drop hp)⟩
  · have := congrArg List.length e
    rw [List.length_drop, List.length_nil] at this
    omega
  · rw [List.getElem?_drop] at ha hb
    exact h.mono (j + i) a b ha (by rw [Nat.add_assoc]; exact hb)
  · rw [List.getElem?_drop] at ha hb hc
    exact h.conv (j + i) a b c ha (by rw [Nat.add_assoc]; exact hb) (by rw [Nat.add_assoc]; exact hc)
theorem fin_drop {bs : List (Rat × Rat)} (h : FinS bs) {j : Nat} : FinS (bs.drop j) := by
  refine ⟨fun p hp => h.pt p (List.mem_of_mem_drop hp), fun i a b ha hb => ?_⟩
  rw [List.getElem?_drop] at ha hb
  exact h.rt (j + i) a b ha (by rw [Nat.add_assoc]; exact hb)
def bigS (x : Rat) : Prop := x.num.natAbs < 2 ^ 1920 ∧ x.den < 2 ^ 1920
theorem big_of {x : Rat} (h : Sz 900 900 x) : bigS x := ⟨Nat.lt_of_le_of_lt h.num (Nat.pow_lt_pow_right (by decide) (by decide)), Nat.lt_of_le_of_lt h.d (Nat.pow_lt_pow_right (by decide) (by decide))⟩
theorem shn_prs {bs : List (Rat × Rat)} (h : ∀ p ∈ bs, bigS p.1 ∧ bigS p.2) (hl : bs.length ≤ 100) : Shn 3 770703 (.list (bs.map prd)) := by
  refine (shn_list (k := 2) (B := 7705) (n := 100) (fun x hx => ?_) (by rw [List.length_map]; exact hl)).mono (by decide) (by decide)
  obtain ⟨p, hp, rfl⟩ := List.mem_map.1 hx
  have hp := h p hp
  refine (shn_tuple (k := 1) (B := 3849) (n := 2) (fun y hy => ?_) (by exact Nat.le_refl 2)).mono (by decide) (by decide)
  rcases List.mem_cons.1 hy with rfl | hy
  · exact shn_q hp.1.1 hp.1.2
  · rcases List.mem_cons.1 hy with rfl | hy
    · exact shn_q hp.2.1 hp.2.2
    · cases hy
theorem fuel_prs {bs : List (Rat × Rat)} : fuel (.list (bs.map prd)) ≤ bs.length + 7 := by
  have := fuelA_map (f := prd) (n := 6) (xs := bs) fun x _ => fuel_pr x
  show fuelA (bs.map prd) + 1 ≤ _
  omega
/-- three told lists, shown -/
def dat3 (A B C : List (Rat × Rat)) : PyData := .list [.list (A.map prd), .list (B.map prd), .list (C.map prd)]
theorem shw3 {S : Sto} {l i1 i2 i3 : Nat} {A B C : List (Rat × Rat)} (h : S[l]? = some (.lst [.loc i1, .loc i2, .loc i3])) (h1 : S[i1]? = some (.lst (A.map pr))) (h2 : S[i2]? = some (.lst (B.map pr))) (h3 : S[i3]? = some (.lst (C.map pr)))
    (b1 : ∀ p ∈ A, bigS p.1 ∧ bigS p.2) (b2 : ∀ p ∈ B, bigS p.1 ∧ bigS p.2) (b3 : ∀ p ∈ C, bigS p.1 ∧ bigS p.2) (l1 : A.length ≤ 100) (l2 : B.length ≤ 100) (l3 : C.length ≤ 100) : shwD S (.loc l) = .ok (.str (dat3 A B C).shown) S := by
  have D1 : Dt (fun _ => True) S (dat3 A B C) (.loc l) := ⟨_, Or.inr ⟨_, rfl, trivial, h⟩, _, _, rfl, dt_prs h1 trivial, _, _, rfl, dt_prs h2 trivial, _, _, rfl, dt_prs h3 trivial, rfl⟩
  have f1 := fuel_prs (bs := A)
  have f2 := fuel_prs (bs := B)
  have f3 := fuel_prs (bs := C)
  refine shwD_list (k := 4) (B := 2312122) D1 ?_ ?_ (by decide) (by decide)
  · show max (fuel (.list (A.map prd))) (max (fuel (.list (B.map prd))) (max (fuel (.list (C.map prd))) 0 + 1) + 1) + 1 + 1 ≤ 200
    omega
  · refine (shn_list (k := 3) (B := 770703) (n := 3) (fun x hx => ?_) (by exact Nat.le_refl 3)).mono (by decide) (by decide)
    simp only [List.mem_cons, List.not_mem_nil, or_false] at hx
    rcases hx with rfl | rfl | rfl
    · exact shn_prs b1 l1
    · exact shn_prs b2 l2
    · exact shn_prs b3 l3
end K55
end HP
namespace HP
open PySem L2
namespace K55
theorem plain_prs (zs : List (Rat × Rat)) : plain (.list (zs.map prd)) = true := plain_map (f := prd) fun _ _ => rfl
/-- two lists, and two lists as they were kept -/
theorem kept_same {S : Sto} {n m l l' n' m' : Nat} {A B : List (Rat × Rat)} {Q : D → Sto → Prop} (h : S[l]? = some (.lst [.loc n, .loc m])) (h1 : S[n]? = some (.lst (A.map pr))) (h2 : S[m]? = some (.lst (B.map pr))) (h' : S[l']? = some (.lst [.loc n', .loc m'])) (h1' : S[n']? = some (.lst (A.map pr))) (h2' : S[m']? = some (.lst (B.map pr)))
    (hA : A.length ≤ 60) (hB : B.length ≤ 60) (j : Q (.bl false) S) : Wp (cmpD S .ne (.loc l) (.loc l')) Q := by
  have L : Cmp (.list ([A, B].map fun zs => .list (zs.map prd))) := cmp_list (n := 100) (fun zs m => by
    have hzl : zs.length ≤ 60 := by
      rcases List.mem_cons.1 m with rfl | m
      · exact hA
      · rw [List.mem_singleton.1 m]; exact hB
    refine ⟨?_, lay_map (f := prd) fun _ _ => rfl, ?_⟩
    · have := fuelA_map (f := prd) (n := 6) (xs := zs) fun x _ => fuel_pr x
      show fuelA (zs.map prd) + 1 ≤ 100
      omega
    · have := depth_map (f := prd) (n := 60) (xs := zs) fun x _ => Nat.le_trans (depth_pr x) (by decide)
      show PyData.depthAll (zs.map prd) + 1 ≤ 63
      omega) (by show 100 + 2 < 200; decide)
  have D1 : Dt (fun _ => True) S (.list ([A, B].map fun zs => .list (zs.map prd))) (.loc l) := ⟨_, Or.inr ⟨_, rfl, trivial, h⟩, _, _, rfl, dt_prs h1 trivial, _, _, rfl, dt_prs h2 trivial, rfl⟩
  have D2 : Dt (fun _ => True) S (.list ([A, B].map fun zs => .list (zs.map prd))) (.loc l') := ⟨_, Or.inr ⟨_, rfl, trivial, h'⟩, _, _, rfl, dt_prs h1' trivial, _, _, rfl, dt_prs h2' trivial, rfl⟩
  refine wc_ne (eq_loc D1 D2 L L) ?_
  have E := eqv_refl (.list ([A, B].map fun zs : List (Rat × Rat) => PyData.list (zs.map prd))) (show plain (.list _) = true from plain_map (f := fun zs : List (Rat × Rat) => PyData.list (zs.map prd)) fun z _ => plain_prs z)
  rw [E]
  exact j
theorem rg2 {j : Int} (h1 : 2 ≤ j) (h2 : j ≤ 6) : ∃ n : Nat, n ≤ 3 ∧ RgC 0 j 2 n := by
  rcases (show j = 2 ∨ j = 3 ∨ j = 4 ∨ j = 5 ∨ j = 6 by omega) with rfl | rfl | rfl | rfl | rfl
  · exact ⟨1, by decide, by decide, by decide, by decide +kernel, by decide +kernel⟩
  · exact ⟨2, by decide, by decide, by decide, by decide +kernel, by decide +kernel⟩
  · exact ⟨2, by decide, by decide, by decide, by decide +kernel, by decide +kernel⟩
  all_goals exact ⟨3, by decide, by decide, by decide, by decide +kernel, by decide +kernel⟩
theorem bes_hd {a b : Rat × Rat} : a.1 ≤ (if a.1 < b.1 then b.1 else a.1) ∧ b.1 ≤ (if a.1 < b.1 then b.1 else a.1) ∧ ((if a.1 < b.1 then b.1 else a.1) = a.1 ∨ (if a.1 < b.1 then b.1 else a.1) = b.1) := by
  split <;> grind
theorem bhd_len {t : Rat} {a b : Rat × Rat} {f g : List (Rat × Rat)} : (bhd t a b f g).length ≤ f.length + g.length + 1 := by
  have h := (mrg_mem _ (pcs (a :: f)) (pcs (b :: g)) (Nat.le_refl _)).1
  rw [pcs_len, pcs_len] at h
  simp only [List.length_cons] at h
  unfold bhd
  rw [bnd_len]
  omega
theorem law_true (ns : List Int) (hns : ns.length ≤ 63) : ∃ S, callN G 14 1018 [.frl (ns.map D.int)] [] = .ok (.bl true) S := by
  refine wp_true (wp_def (fn := L_law) rfl rfl ?_)
  unfold L_law
  walk_at "hp0"
  walk_at "hys"
  rw [List.length_map]
  obtain ⟨j, ej, hj1, hj2⟩ : ∃ j : Int, (if (if 6 < (ns.length : Int) then 6 else (ns.length : Int)) > 2 then if 6 < (ns.length : Int) then 6 else (ns.length : Int) else 2) = j ∧ 2 ≤ j ∧ j ≤ 6 := by
    refine ⟨_, rfl, ?_, ?_⟩ <;> (repeat' split) <;> omega
  rw [ej]
  obtain ⟨nn, hn, hR⟩ := rg2 hj1 hj2
  refine ⟨_, _, _, nn, rfl, rfl, rfl, hR, ?_⟩
  refine forE_inv (fun i r T => ∃ z1 z2 z3 z4 z5 z6 z7 z8 z9 z10 z11 z12 z13, r = [some (.frl (ns.map D.int)), z1, z2, z3, z4, z5, z6, z7, z8, z9, z10, z11, z12, z13, none, none]) ⟨none, none, none, none, none, none, none, none, none, none, none, none, none, rfl⟩ (fun i r S _ _ => still0) ?_ ?_
  · rintro i d r S hd ⟨z1, z2, z3, z4, z5, z6, z7, z8, z9, z10, z11, z12, z13, rfl⟩
    obtain ⟨hi, rfl⟩ := rngC_get hd
    obtain ⟨at_, eat, hat⟩ : ∃ at_ : Nat, (0 : Int) + (i : Nat) * 2 = (at_ : Nat) ∧ at_ ≤ 6 := ⟨i * 2, by omega, by omega⟩
    rw [eat]
    have e1 : (at_ : Int) + 1 = ((at_ + 1 : Nat) : Int) := by omega
    refine ⟨_, rfl, ?_⟩
    walk_at "hys"
    refine wp_mono (begun_ok (p := 2147483587) (a := 104729) (b := 7) rfl (by decide) (by decide) (by omega)) ?_
    rintro _ S1 ⟨rfl, hst1, o, rfl⟩
    generalize S ++ [o] = S1 at *
    generalize S.length = l at *
    have hl1 := stAt_lt hst1
    refine wps_cons ?_
    refine wps_cut (fun r1 S2 => StAt l S2 ∧ ∃ w : Bool, r1 = [some (.frl (ns.map D.int)), some (.int (at_ : Nat)), some (.loc l), some (.bl w), z4, z5, z6, z7, z8, z9, z10, z11, z12, z13, none, none]) ?_ ?_
    · walk_at "hy"
      refine wq_dec (fun h => ?_) (fun h => ?_)
      · walk_at "hy"
        refine wp_mono (g_take _ _ _ _ hst1 (by decide) (by decide)) ?_
        rintro _ S2 ⟨hst2, hag2, v, rfl, _, _⟩
        walk_at "hy"
        exact ⟨hst2, _, rfl⟩
      · exact ⟨hst1, _, rfl⟩
    rintro r1 S2 ⟨hst2, w, rfl⟩
    refine wps_cons ?_
    refine wps_cut (fun r1 S3 => StAt l S3 ∧ ∃ pl : Bool, r1 = [some (.frl (ns.map D.int)), some (.int (at_ : Nat)), some (.loc l), some (.bl w), some (.bl pl), z5, z6, z7, z8, z9, z10, z11, z12, z13, none, none]) ?_ ?_
    · walk_at "hy"
      refine ⟨fun h => ?_, fun h => ?_⟩
      · exact ⟨hst2, _, rfl⟩
      · walk_at "hy"
        refine wp_mono (g_take _ _ _ _ hst2 (by decide) (by decide)) ?_
        rintro _ S3 ⟨hst3, hag3, v, rfl, _, _⟩
        walk_at "hy"
        exact ⟨hst3, _, rfl⟩
    rintro r1 S3 ⟨hst3, pl, rfl⟩
    have hl3 := stAt_lt hst3
    obtain ⟨most, em, hm0, hm1⟩ : ∃ m : Int, atI [D.int 4, .int 12] (if w = true then 1 else 0) = some (.int m) ∧ 0 ≤ m ∧ m ≤ 12 := by
      cases w
      · exact ⟨4, rfl, by decide, by decide⟩
      · exact ⟨12, rfl, by decide, by decide⟩
    walk_at "hys"
    have hst4 := hst3.ag (P := fun _ => False) (Ag.app (T := [.lst [.int 4, .int 12]])) id
    refine wx_ix (seq_loc app_get) em ?_
    have hl4 : l < (S3 ++ [O.lst [.int 4, .int 12]]).length := stAt_lt hst4
    generalize S3 ++ [.lst [.int 4, .int 12]] = S4 at *
    walk_at "hys"
    refine wp_mono (shape_okF g_shape g_take g_low g_plus g_minus g_times g_amount hst4 hm0 (by omega)) ?_
    rintro _ S5 ⟨hst5, hag5, n, bs, rfl, hn, hbs, hbl, hshp, hz, hfin⟩
    have hbl : bs.length ≤ 13 := by omega
    have hn5 := get_lt hbs
    walk_at "hys"
    rw [e1]
    refine wp_mono (begun_ok (p := 2147483587) (a := 104729) (b := 7) rfl (by decide) (by decide) (by omega)) ?_
    rintro _ S6 ⟨rfl, hst6', o6, rfl⟩
    have hA6 : Ag (fun _ => False) S5 (S5 ++ [o6]) := Ag.app
    have hst6 := hst5.ag hA6 id
    have hbs6 := hA6.get hbs id
    generalize S5 ++ [o6] = S6 at *
    generalize hl6 : S5.length = l' at *
    walk_at "hys"
    have hA7 : Ag (fun _ => False) S6 (S6 ++ [.lst [.int 4, .int 12]]) := Ag.app
    have hst7' := hst6'.ag hA7 id
    have hst7 := hst6.ag hA7 id
    have hbs7 := hA7.get hbs6 id
    refine wx_ix (seq_loc app_get) em ?_
    generalize S6 ++ [.lst [.int 4, .int 12]] = S7 at *
    walk_at "hys"
    refine wp_mono (shape_okF g_shape g_take g_low g_plus g_minus g_times g_amount hst7' hm0 (by omega)) ?_
    rintro _ S8 ⟨_, hag8, m0, gs0, rfl, hm0', hgs0, hgl0, hshpg0, hzg0, hfing0⟩
    have hgl0 : gs0.length ≤ 13 := by omega
    have hst8 := hst7.ag hag8 (by omega)
    have hbs8 := hag8.get hbs7 (by omega)
    have hm07 : S7.length ≤ m0 := hm0'
    have hlS7 := stAt_lt hst7
    have hm0l : m0 ≠ l := by omega
    clear hst7' hst6'
    refine wps_cons ?_
    refine wps_cut (fun r1 S9 => StAt l S9 ∧ S9[n]? = some (.lst (bs.map pr)) ∧ ∃ (m : Nat) (gs : List (Rat × Rat)), r1 = [some (.frl (ns.map D.int)), some (.int (at_ : Nat)), some (.loc l), some (.bl w), some (.bl pl), some (.loc n), some (.loc m), z7, z8, z9, z10, z11, z12, z13, none, none] ∧ S9[m]? = some (.lst (gs.map pr)) ∧ m ≠ l ∧ gs.length ≤ 13 ∧ Shp gs ∧ (∀ c ∈ gs, Ok2 c) ∧ FinS gs) ?_ ?_
    · refine wps_ite ?_
      walk_at "hy"
      refine wp_mono (g_take _ _ _ _ hst8 (by decide) (by decide)) ?_
      rintro _ S9 ⟨hst9, hag9, v, rfl, _, _⟩
      have hbs9 := hag9.get hbs8 (by omega)
      have hgs9 := hag9.get hgs0 (by omega)
      walk_at "hy"
      refine wq_dec (fun h => ?_) (fun h => ?_)
      · walk_at "hys"
        rw [List.length_map]
        have hpos : 0 < bs.length := List.length_pos_iff.2 hshp.one
        refine wp_mono (g_take _ _ _ _ hst9 (by omega) (by omega)) ?_
        rintro _ S10 ⟨hst10, hag10, v, rfl, hv0, hv1⟩
        have hbs10 := hag10.get hbs9 (by omega)
        obtain ⟨jj, rfl⟩ : ∃ jj : Nat, v = (jj : Int) := ⟨v.toNat, by omega⟩
        have hjj : jj < bs.length := by omega
        walk_at "hys"
        refine ws_lst (lst_loc hbs10) ?_
        rw [show cutL (bs.map pr) (some (jj : Int)) none = (bs.map pr).drop jj from cut_end (j := jj) (by rw [List.length_map]; omega)]
        have hA11 : Ag (fun _ => False) S10 (S10 ++ [.lst ((bs.map pr).drop jj)]) := Ag.app
        walk_at "hys"
        refine ⟨hst10.ag hA11 id, hA11.get hbs10 id, S10.length, bs.drop jj, rfl, ?_, ?_, ?_, shp_drop hshp hjj, fun c hc => hz c (List.mem_of_mem_drop hc), fin_drop hfin⟩
        · rw [app_get, List.map_drop]
        · have := stAt_lt hst10; omega
        · rw [List.length_drop]; omega
      · walk_at "hys"
        exact ⟨hst9, hbs9, m0, gs0, rfl, hgs9, hm0l, hgl0, hshpg0, hzg0, hfing0⟩
    clear hst8 hbs8 hgs0 hshpg0 hzg0 hfing0 hgl0 hm0l hm0' hm07 hlS7 hst7 hbs7 hbs6 hst6 hag8 hst5 hst4 hst3 hst2 hst1
    rintro r1 S9 ⟨hst9, hbs9, m, gs, rfl, hgs9, hml, hgl, hshpg, hzg, hfing⟩
    have hnl : n ≠ l := by omega
    refine wps_cons ?_
    refine wps_cut (fun r1 S10 => StAt l S10 ∧ Ag (· = l) S9 S10 ∧ ∃ (t : Rat), r1 = [some (.frl (ns.map D.int)), some (.int (at_ : Nat)), some (.loc l), some (.bl w), some (.bl pl), some (.loc n), some (.loc m), some (q t), z8, z9, z10, z11, z12, z13, none, none] ∧ Sz 40 6 t ∧ 0 ≤ t) ?_ ?_
    · walk_at "hys"
      refine wp_mono (amount_ok g_amount g_take g_low hst9 (by decide) (by decide)) ?_
      rintro _ S10 ⟨hst10, hag10, x, rfl, hx0, _, hxz, _⟩
      walk_at "hys"
      have hA : Ag (fun _ => False) S10 (S10 ++ [.lst [.tup [.int 0, .int 1], q x]]) := Ag.app
      have hgt : (S10 ++ [.lst [.tup [.int 0, .int 1], q x]])[S10.length]? = some (.lst ([0, x].map q)) := app_get
      have hst11 := hst10.ag hA id
      have hag11 := hag10.trans (hA.mono fun i hi => hi.elim)
      have hl10 := stAt_lt hst10
      generalize S10 ++ [.lst [.tup [.int 0, .int 1], q x]] = S11 at *
      refine wp_mono (g_take _ _ _ _ hst11 (by decide) (by decide)) ?_
      rintro _ S12 ⟨hst12, hag12, v, rfl, hv0, hv1⟩
      have hgt := hag12.get hgt (by omega)
      rcases (show v = 0 ∨ v = 1 by omega) with rfl | rfl
      · refine wx_ix (seq_loc hgt) (v := q 0) rfl ?_
        walk_at "hys"
        exact ⟨hst12, hag11.trans hag12, 0, rfl, sz0.mono (by decide) (by decide), Rat.le_refl⟩
      · refine wx_ix (seq_loc hgt) (v := q x) rfl ?_
        walk_at "hys"
        exact ⟨hst12, hag11.trans hag12, x, rfl, hxz, hx0⟩
    rintro r1 S10 ⟨hst10, hag10, t, rfl, htz, ht0⟩
    have hbs10 := hag10.get hbs9 hnl
    have hgs10 := hag10.get hgs9 hml
    walk_at "hys"
    refine wp_mono (amount_ok g_amount g_take g_low hst10 (by decide) (by decide)) ?_
    rintro _ S11 ⟨hst11, hag11, s, rfl, _, _, hsz, _⟩
    have hbs11 := hag11.get hbs10 hnl
    have hgs11 := hag11.get hgs10 hml
    walk_at "hys"
    refine wp_mono (amount_ok g_amount g_take g_low hst11 (by decide) (by decide)) ?_
    rintro _ S12 ⟨hst12, hag12, c, rfl, _, _, hcz, _⟩
    have hbs12 := hag12.get hbs11 hnl
    have hgs12 := hag12.get hgs11 hml
    walk_at "hys"
    clear hst9 hbs9 hgs9 hst10 hbs10 hgs10 hst11 hbs11 hgs11 hag10 hag11 hag12
    refine wf_list (seq_loc hbs12) ?_
    have hA1 : Ag (fun _ => False) S12 (S12 ++ [.lst (bs.map pr)]) := Ag.app
    have k1 : (S12 ++ [.lst (bs.map pr)])[S12.length]? = some (.lst (bs.map pr)) := app_get
    have hbs13 := hA1.get hbs12 id
    have hgs13 := hA1.get hgs12 id
    generalize S12 ++ [.lst (bs.map pr)] = S13 at *
    generalize S12.length = kn at *
    walk_at "hys"
    refine wf_list (seq_loc hgs13) ?_
    have hA2 : Ag (fun _ => False) S13 (S13 ++ [.lst (gs.map pr)]) := Ag.app
    have k2 : (S13 ++ [.lst (gs.map pr)])[S13.length]? = some (.lst (gs.map pr)) := app_get
    have hbs14 := hA2.get hbs13 id
    have hgs14 := hA2.get hgs13 id
    have k1 := hA2.get k1 id
    generalize S13 ++ [.lst (gs.map pr)] = S14 at *
    generalize S13.length = km at *
    walk_at "hys"
    have hA3 : Ag (fun _ => False) S14 (S14 ++ [.lst [.loc kn, .loc km]]) := Ag.app
    have k3 : (S14 ++ [.lst [.loc kn, .loc km]])[S14.length]? = some (.lst [.loc kn, .loc km]) := app_get
    have hbs15 := hA3.get hbs14 id
    have hgs15 := hA3.get hgs14 id
    have k1 := hA3.get k1 id
    have k2 := hA3.get k2 id
    generalize S14 ++ [.lst [.loc kn, .loc km]] = S15 at *
    have kl1 := get_lt k1
    have kl2 := get_lt k2
    have kl3 := get_lt k3
    generalize S14.length = kk at *
    clear hA1 hA2 hA3 hbs12 hbs13 hbs14 hgs12 hgs13 hgs14
    obtain ⟨a, f, rfl⟩ : ∃ a f, bs = a :: f := by
      cases bs with
      | nil => exact absurd rfl hshp.one
      | cons a f => exact ⟨a, f, rfl⟩
    obtain ⟨b, g, rfl⟩ : ∃ b g, gs = b :: g := by
      cases gs with
      | nil => exact absurd rfl hshpg.one
      | cons b g => exact ⟨b, g, rfl⟩
    have fl : f.length ≤ 12 := by rw [List.length_cons] at hbl; omega
    have gl : g.length ≤ 12 := by rw [List.length_cons] at hgl; omega
    have hall : ∀ {T : Sto}, T[n]? = some (.lst ((a :: f).map pr)) → T[m]? = some (.lst ((b :: g).map pr)) → _ := fun {T} q1 q2 => all_told_ok (k := 6) (S := T) q1 q2 hshp hshpg hz hzg (by omega) (by omega) (htz.mono (a' := 200) (b' := 200) (by decide) (by decide)) (hsz.mono (a' := 500) (b' := 500) (by decide) (by decide)) (hcz.mono (a' := 500) (b' := 500) (by decide) (by decide))
    obtain ⟨hua, hub, hu⟩ := bes_hd (a := a) (b := b)
    refine wp_mono (hall hbs15 hgs15) ?_
    rintro _ S16 ⟨hag16, lt, i1, i2, i3, r, rfl, hlt0, hi1, hi2, hi3, h12, h23, h3t, hlt, hx1, hB, _, hx2, hx3⟩
    have hrl := bes_len hB
    rw [List.length_cons, List.length_cons] at hrl
    have z1' := bes_fin hshp hshpg hfin hfing hB hua hub hu
    have z2' := bhd_fin (t := t) hshp hshpg hfin hfing htz
    have lb := bhd_len (t := t) (a := a) (b := b) (f := f) (g := g)
    have l1' : (((if a.1 < b.1 then b.1 else a.1) :: r).map (ptS (sumH (a :: f) (b :: g)))).length ≤ 100 := by rw [List.length_map, List.length_cons]; omega
    have l3' : ((a :: f).map (scS s c)).length ≤ 100 := by rw [List.length_map]; omega
    have hbs16 := hag16.get hbs15 id
    have hgs16 := hag16.get hgs15 id
    have k1 := hag16.get k1 id
    have k2 := hag16.get k2 id
    have k3 := hag16.get k3 id
    walk_at "hys"
    refine wps_ite ?_
    walk_at "hy"
    refine wp_mono (beside_right_ok hbs16 hgs16 hshp hshpg hz hzg (by omega) (by omega) rfl hx1 hB z1' (by omega)) ?_
    rintro _ S17 ⟨rfl, hag17⟩
    have hlt17 := hag17.get hlt id
    walk_at "hy"
    refine wp_mono (behind_right_ok (hag17.get hbs16 id) (hag17.get hgs16 id) hshp hshpg hz hzg (by omega) (by omega) htz ht0 (hag17.get hx2 id) z2' (by omega)) ?_
    rintro _ S18 ⟨rfl, hag18'⟩
    have hag18 := hag17.trans hag18'
    have hlt18 := hag18.get hlt id
    walk_at "hys"
    refine wps_ite ?_
    walk_at "hy"
    refine wi_loc (hag18.get hbs16 id) ?_
    refine comp_all (enc := pr) (g := fun p => pr (scS s c p)) (by omega) (fun U hU => still1 ((hag18.trans hU).get hbs16 id)) (fun i p gp U hU => ?_) (fun S19 hag19' hy => ?_)
    · have hp := hz p (List.mem_of_getElem? gp)
      refine ⟨_, rfl, ?_⟩
      walk_at "hy"
      refine wp_val (timesL_ok g_times g_low hsz hp.1 (by decide) (by decide)) ?_
      walk_at "hy"
      refine wp_val (timesL_ok g_times g_low hcz hp.2 (by decide) (by decide)) ?_
      walk_at "hy"
      exact ⟨rfl, Ag.rfl⟩
    have hag19 := hag18.trans hag19'
    have e3 : (a :: f).map (fun p => pr (scS s c p)) = ((a :: f).map (scS s c)).map pr := by rw [List.map_map]; rfl
    rw [e3] at hy
    refine ne_prs (hag19.get hx3 id) hy (by rw [List.length_map]; omega) ?_
    have hlt19 := hag19.get hlt id
    have b1 : ∀ p ∈ ((if a.1 < b.1 then b.1 else a.1) :: r).map (ptS (sumH (a :: f) (b :: g))), bigS p.1 ∧ bigS p.2 := fun p hp => ⟨big_of ((z1' p hp).1.mono (by decide) (by decide)), big_of ((z1' p hp).2.mono (by decide) (by decide))⟩
    have b2 : ∀ p ∈ bhd t a b f g, bigS p.1 ∧ bigS p.2 := fun p hp => ⟨big_of ((z2' p hp).1.mono (by decide) (by decide)), big_of ((z2' p hp).2.mono (by decide) (by decide))⟩
    have b3 : ∀ p ∈ (a :: f).map (scS s c), bigS p.1 ∧ bigS p.2 := fun p hp => by
      obtain ⟨p0, h0, rfl⟩ := List.mem_map.1 hp
      have h0 := hz p0 h0
      exact ⟨big_of ((hsz.mul h0.1).mono (by decide) (by decide)), big_of ((hcz.mul h0.2).mono (by decide) (by decide))⟩
    walk_at "hys"
    refine wp_of (shw3 hlt19 (hag19.get hx1 id) (hag19.get hx2 id) (hag19.get hx3 id) b1 b2 b3 l1' (by omega) l3') ?_
    walk_at "hys"
    refine wi_loc hlt19 ?_
    have hmem : ∀ x ∈ [i1, i2, i3], S15.length ≤ x ∧ x < lt := fun x hx => by
      simp only [List.mem_cons, List.not_mem_nil, or_false] at hx
      rcases hx with rfl | rfl | rfl <;> omega
    refine forE_inv (fun i r' T => Ag (fun x => x ∈ [i1, i2, i3]) S19 T ∧ (∀ x ∈ [i1, i2, i3], ∃ ds, T[x]? = some (.lst ds)) ∧ ∃ z13, r' = [some (.frl (ns.map D.int)), some (.int (at_ : Nat)), some (.loc l), some (.bl w), some (.bl pl), some (.loc n), some (.loc m), some (q t), some (q s), some (q c), some (.loc kk), some (.loc lt), some (.str (dat3 (((if a.1 < b.1 then b.1 else a.1) :: r).map (ptS (sumH (a :: f) (b :: g)))) (bhd t a b f g) ((a :: f).map (scS s c))).shown), z13, none, none])
      ⟨Ag.rfl, fun x hx => ?_, z13, rfl⟩ (fun i r' T _ hh => still1 (hh.1.get hlt19 fun hx => by have := hmem _ hx; omega)) ?_ ?_
    · simp only [List.mem_cons, List.not_mem_nil, or_false] at hx
      rcases hx with rfl | rfl | rfl
      · exact ⟨_, hag19.get hx1 id⟩
      · exact ⟨_, hag19.get hx2 id⟩
      · exact ⟨_, hag19.get hx3 id⟩
    · rintro i d r' T hd ⟨hagT, hT, z, rfl⟩
      obtain ⟨x, hx, rfl⟩ : ∃ x ∈ [i1, i2, i3], d = .loc x := by
        have := List.mem_of_getElem? hd
        simp only [List.mem_cons, List.not_mem_nil, or_false] at this
        rcases this with rfl | rfl | rfl
        · exact ⟨i1, by simp, rfl⟩
        · exact ⟨i2, by simp, rfl⟩
        · exact ⟨i3, by simp, rfl⟩
      obtain ⟨ds, hds⟩ := hT x hx
      refine ⟨_, rfl, ?_⟩
      walk_at "hys"
      refine ⟨isL_loc hds, ?_⟩
      walk_at "hys"
      refine wm_clear hds ?_
      walk_at "hys"
      refine ⟨hagT.trans (Ag.set (Or.inl hx)), fun y hy => ?_, _, rfl⟩
      by_cases e : y = x
      · subst e; exact ⟨_, set_get hds⟩
      · obtain ⟨ds', h'⟩ := hT y hy
        exact ⟨ds', by rw [List.getElem?_set_ne (fun e' => e e'.symm)]; exact h'⟩
    rintro r' S20 ⟨hag20, _, z13', rfl⟩
    have low : ∀ {x : Nat}, x < S15.length → x ∉ [i1, i2, i3] := fun {x} hx hm => by have := hmem x hm; omega
    have hbs20 := hag20.get (hag19.get hbs16 id) (low (get_lt hbs15))
    have hgs20 := hag20.get (hag19.get hgs16 id) (low (get_lt hgs15))
    have k1 := hag20.get (hag19.get k1 id) (low kl1)
    have k2 := hag20.get (hag19.get k2 id) (low kl2)
    have k3 := hag20.get (hag19.get k3 id) (low kl3)
    clear hlt17 hlt19 hag20 hag19 hag19' hag18 hag18' hag17 hy hlt18 hx1 hx2 hx3 hlt
    walk_at "hys"
    refine wps_ite ?_
    walk_at "hy"
    refine wp_mono (hall hbs20 hgs20) ?_
    rintro _ S21 ⟨hag21, lt', j1, j2, j3, r2, rfl, _, _, _, _, _, _, _, hlt', hx1', hB', _, hx2', hx3'⟩
    cases bes_uniq hB hB'
    walk_at "hy"
    refine wp_of (shw3 hlt' hx1' hx2' hx3' b1 b2 b3 l1' (by omega) l3') ?_
    walk_at "hy"
    rw [decide_eq_true rfl]
    walk_at "hy"
    have hA : Ag (fun _ => False) S21 (S21 ++ [.lst [.loc n, .loc m]]) := Ag.app
    have hT := hag21.trans hA
    refine kept_same app_get (hT.get hbs20 id) (hT.get hgs20 id) (hT.get k3 id) (hT.get k1 id) (hT.get k2 id) (by omega) (by omega) ?_
    walk_at "hy"
    exact ⟨_, _, _, _, _, _, _, _, _, _, _, _, _, rfl⟩
  · rintro r S ⟨z1, z2, z3, z4, z5, z6, z7, z8, z9, z10, z11, z12, z13, rfl⟩
    walk_at "hy"
    rfl
end K55
end HP
namespace HP
namespace K55
open PySem L2 PySem.Spec PyProof.Rows
theorem sc_4 : FnScope ["one", "other"] ["one", "other"] (defScope (topS 4)) := ⟨rfl, rfl, rfl, by decide +kernel, rfl, by decide +kernel, by decide +kernel⟩
theorem ok_4 : okSs F_divisor.body ⟨["one", "other"], defScope (topS 4), fun _ => true, false, fns, cons, blt, cls, lxOf lxs "divisor"⟩ (defBody (topS 4)) = true := by decide +kernel
theorem sc_6 : FnScope ["top", "bottom", "by"] ["top", "bottom"] (defScope (topS 6)) := ⟨rfl, rfl, rfl, by decide +kernel, rfl, by decide +kernel, by decide +kernel⟩
theorem ok_6 : okSs F_in_lowest.body ⟨["top", "bottom", "by"], defScope (topS 6), fun _ => true, false, fns, cons, blt, cls, lxOf lxs "in_lowest"⟩ (defBody (topS 6)) = true := by decide +kernel
theorem sc_7 : FnScope ["one", "other"] ["one", "other"] (defScope (topS 7)) := ⟨rfl, rfl, rfl, by decide +kernel, rfl, by decide +kernel, by decide +kernel⟩
theorem ok_7 : okSs F_plus.body ⟨["one", "other"], defScope (topS 7), fun _ => true, false, fns, cons, blt, cls, lxOf lxs "plus"⟩ (defBody (topS 7)) = true := by decide +kernel
theorem sc_8 : FnScope ["one", "other"] ["one", "other"] (defScope (topS 8)) := ⟨rfl, rfl, rfl, by decide +kernel, rfl, by decide +kernel, by decide +kernel⟩
theorem ok_8 : okSs F_minus.body ⟨["one", "other"], defScope (topS 8), fun _ => true, false, fns, cons, blt, cls, lxOf lxs "minus"⟩ (defBody (topS 8)) = true := by decide +kernel
theorem sc_9 : FnScope ["one", "other"] ["one", "other"] (defScope (topS 9)) := ⟨rfl, rfl, rfl, by decide +kernel, rfl, by decide +kernel, by decide +kernel⟩
theorem ok_9 : okSs F_product.body ⟨["one", "other"], defScope (topS 9), fun _ => true, false, fns, cons, blt, cls, lxOf lxs "product"⟩ (defBody (topS 9)) = true := by decide +kernel
theorem sc_10 : FnScope ["one", "other"] ["one", "other"] (defScope (topS 10)) := ⟨rfl, rfl, rfl, by decide +kernel, rfl, by decide +kernel, by decide +kernel⟩
theorem ok_10 : okSs F_parted.body ⟨["one", "other"], defScope (topS 10), fun _ => true, false, fns, cons, blt, cls, lxOf lxs "parted"⟩ (defBody (topS 10)) = true := by decide +kernel
theorem sc_11 : FnScope ["one", "other"] ["one", "other"] (defScope (topS 11)) := ⟨rfl, rfl, rfl, by decide +kernel, rfl, by decide +kernel, by decide +kernel⟩
theorem ok_11 : okSs F_is_less.body ⟨["one", "other"], defScope (topS 11), fun _ => true, false, fns, cons, blt, cls, lxOf lxs "is_less"⟩ (defBody (topS 11)) = true := by decide +kernel
theorem sc_12 : FnScope ["one", "other"] ["one", "other"] (defScope (topS 12)) := ⟨rfl, rfl, rfl, by decide +kernel, rfl, by decide +kernel, by decide +kernel⟩
theorem ok_12 : okSs F_larger.body ⟨["one", "other"], defScope (topS 12), fun _ => true, false, fns, cons, blt, cls, lxOf lxs "larger"⟩ (defBody (topS 12)) = true := by decide +kernel
theorem sc_14 : FnScope ["one", "other"] ["one", "other"] (defScope (topS 14)) := ⟨rfl, rfl, rfl, by decide +kernel, rfl, by decide +kernel, by decide +kernel⟩
theorem ok_14 : okSs F_fall_of.body ⟨["one", "other"], defScope (topS 14), fun _ => true, false, fns, cons, blt, cls, lxOf lxs "fall_of"⟩ (defBody (topS 14)) = true := by decide +kernel
theorem sc_15 : FnScope ["shape", "whole", "one", "other"] ["shape", "whole"] (defScope (topS 15)) := ⟨rfl, rfl, rfl, by decide +kernel, rfl, by decide +kernel, by decide +kernel⟩
theorem ok_15 : okSs F_price_at.body ⟨["shape", "whole", "one", "other"], defScope (topS 15), fun _ => true, false, fns, cons, blt, cls, lxOf lxs "price_at"⟩ (defBody (topS 15)) = true := by decide +kernel
theorem sc_17 : FnScope ["one", "other", "told", "at", "more"] ["one", "other"] (defScope (topS 17)) := ⟨rfl, rfl, rfl, by decide +kernel, rfl, by decide +kernel, by decide +kernel⟩
theorem ok_17 : okSs F_risen.body ⟨["one", "other", "told", "at", "more"], defScope (topS 17), fun _ => true, false, fns, cons, blt, cls, lxOf lxs "risen"⟩ (defBody (topS 17)) = true := by decide +kernel
theorem sc_19 : FnScope ["one", "other", "begin", "wholes", "whole", "bend"] ["one", "other"] (defScope (topS 19)) := ⟨rfl, rfl, rfl, by decide +kernel, rfl, by decide +kernel, by decide +kernel⟩
theorem ok_19 : okSs F_shapes_beside.body ⟨["one", "other", "begin", "wholes", "whole", "bend"], defScope (topS 19), fun _ => true, false, fns, cons, blt, cls, lxOf lxs "shapes_beside"⟩ (defBody (topS 19)) = true := by decide +kernel
theorem sc_20 : FnScope ["shape", "one", "other"] ["shape"] (defScope (topS 20)) := ⟨rfl, rfl, rfl, by decide +kernel, rfl, by decide +kernel, by decide +kernel⟩
theorem ok_20 : okSs F_pieces_of.body ⟨["shape", "one", "other"], defScope (topS 20), fun _ => true, false, fns, cons, blt, cls, lxOf lxs "pieces_of"⟩ (defBody (topS 20)) = true := by decide +kernel
theorem sc_21 : FnScope ["one", "other", "told", "at", "fall", "wide"] ["one", "other"] (defScope (topS 21)) := ⟨rfl, rfl, rfl, by decide +kernel, rfl, by decide +kernel, by decide +kernel⟩
theorem ok_21 : okSs F_by_falls.body ⟨["one", "other", "told", "at", "fall", "wide"], defScope (topS 21), fun _ => true, false, fns, cons, blt, cls, lxOf lxs "by_falls"⟩ (defBody (topS 21)) = true := by decide +kernel
theorem sc_22 : FnScope ["one", "other", "wait", "whole", "price", "told", "fall", "wide"] ["one", "other", "wait"] (defScope (topS 22)) := ⟨rfl, rfl, rfl, by decide +kernel, rfl, by decide +kernel, by decide +kernel⟩
theorem ok_22 : okSs F_shapes_behind.body ⟨["one", "other", "wait", "whole", "price", "told", "fall", "wide"], defScope (topS 22), fun _ => true, false, fns, cons, blt, cls, lxOf lxs "shapes_behind"⟩ (defBody (topS 22)) = true := by decide +kernel
theorem sc_23 : FnScope ["shape", "span", "cost", "whole", "price"] ["shape", "span", "cost"] (defScope (topS 23)) := ⟨rfl, rfl, rfl, by decide +kernel, rfl, by decide +kernel, by decide +kernel⟩
theorem ok_23 : okSs F_shape_scaled.body ⟨["shape", "span", "cost", "whole", "price"], defScope (topS 23), fun _ => true, false, fns, cons, blt, cls, lxOf lxs "shape_scaled"⟩ (defBody (topS 23)) = true := by decide +kernel
theorem sc_25 : FnScope ["_law_script", "_law_k", "_law_cell"] ["_law_script", "_law_k"] (defScope (topS 25)) := ⟨rfl, rfl, rfl, by decide +kernel, rfl, by decide +kernel, by decide +kernel⟩
theorem ok_25 : okSs L_law_begun.body ⟨["_law_script", "_law_k", "_law_cell"], defScope (topS 25), fun _ => true, false, fns, cons, blt, cls, lxOf lxs "_law_begun"⟩ (defBody (topS 25)) = true := by decide +kernel
theorem sc_26 : FnScope ["_law_state", "_law_many", "_law_digit", "_law_made", "_law_turn"] ["_law_state", "_law_many"] (defScope (topS 26)) := ⟨rfl, rfl, rfl, by decide +kernel, rfl, by decide +kernel, by decide +kernel⟩
theorem ok_26 : okSs L_law_take.body ⟨["_law_state", "_law_many", "_law_digit", "_law_made", "_law_turn"], defScope (topS 26), fun _ => true, false, fns, cons, blt, cls, lxOf lxs "_law_take"⟩ (defBody (topS 26)) = true := by decide +kernel
theorem sc_27 : FnScope ["_law_top", "_law_bottom", "_law_one", "_law_other"] ["_law_top", "_law_bottom"] (defScope (topS 27)) := ⟨rfl, rfl, rfl, by decide +kernel, rfl, by decide +kernel, by decide +kernel⟩
theorem ok_27 : okSs L_law_low.body ⟨["_law_top", "_law_bottom", "_law_one", "_law_other"], defScope (topS 27), fun _ => true, false, fns, cons, blt, cls, lxOf lxs "_law_low"⟩ (defBody (topS 27)) = true := by decide +kernel
theorem sc_28 : FnScope ["_law_one", "_law_other"] ["_law_one", "_law_other"] (defScope (topS 28)) := ⟨rfl, rfl, rfl, by decide +kernel, rfl, by decide +kernel, by decide +kernel⟩
theorem ok_28 : okSs L_law_plus.body ⟨["_law_one", "_law_other"], defScope (topS 28), fun _ => true, false, fns, cons, blt, cls, lxOf lxs "_law_plus"⟩ (defBody (topS 28)) = true := by decide +kernel
theorem sc_29 : FnScope ["_law_one", "_law_other"] ["_law_one", "_law_other"] (defScope (topS 29)) := ⟨rfl, rfl, rfl, by decide +kernel, rfl, by decide +kernel, by decide +kernel⟩
theorem ok_29 : okSs L_law_minus.body ⟨["_law_one", "_law_other"], defScope (topS 29), fun _ => true, false, fns, cons, blt, cls, lxOf lxs "_law_minus"⟩ (defBody (topS 29)) = true := by decide +kernel
theorem sc_30 : FnScope ["_law_one", "_law_other"] ["_law_one", "_law_other"] (defScope (topS 30)) := ⟨rfl, rfl, rfl, by decide +kernel, rfl, by decide +kernel, by decide +kernel⟩
theorem ok_30 : okSs L_law_times.body ⟨["_law_one", "_law_other"], defScope (topS 30), fun _ => true, false, fns, cons, blt, cls, lxOf lxs "_law_times"⟩ (defBody (topS 30)) = true := by decide +kernel
theorem sc_31 : FnScope ["_law_one", "_law_other"] ["_law_one", "_law_other"] (defScope (topS 31)) := ⟨rfl, rfl, rfl, by decide +kernel, rfl, by decide +kernel, by decide +kernel⟩
theorem ok_31 : okSs L_law_under.body ⟨["_law_one", "_law_other"], defScope (topS 31), fun _ => true, false, fns, cons, blt, cls, lxOf lxs "_law_under"⟩ (defBody (topS 31)) = true := by decide +kernel
theorem sc_32 : FnScope ["_law_state", "_law_plain", "_law_least", "_law_way", "_law_bottom"] ["_law_state", "_law_plain", "_law_least"] (defScope (topS 32)) := ⟨rfl, rfl, rfl, by decide +kernel, rfl, by decide +kernel, by decide +kernel⟩
theorem ok_32 : okSs L_law_amount.body ⟨["_law_state", "_law_plain", "_law_least", "_law_way", "_law_bottom"], defScope (topS 32), fun _ => true, false, fns, cons, blt, cls, lxOf lxs "_law_amount"⟩ (defBody (topS 32)) = true := by decide +kernel
theorem sc_33 : FnScope ["_law_state", "_law_most", "_law_plain", "_law_gaps", "_law_whole", "_law_price_here", "_law_rate", "_law_falls", "_law_gap", "_law_bends", "_law_k"] ["_law_state", "_law_most", "_law_plain"] (defScope (topS 33)) := ⟨rfl, rfl, rfl, by decide +kernel, rfl, by decide +kernel, by decide +kernel⟩
theorem ok_33 : okSs L_law_shape.body ⟨["_law_state", "_law_most", "_law_plain", "_law_gaps", "_law_whole", "_law_price_here", "_law_rate", "_law_falls", "_law_gap", "_law_bends", "_law_k"], defScope (topS 33), fun _ => true, false, fns, cons, blt, cls, lxOf lxs "_law_shape"⟩ (defBody (topS 33)) = true := by decide +kernel
theorem sc_34 : FnScope ["_law_one", "_law_other"] ["_law_one", "_law_other"] (defScope (topS 34)) := ⟨rfl, rfl, rfl, by decide +kernel, rfl, by decide +kernel, by decide +kernel⟩
theorem ok_34 : okSs L_law_parted.body ⟨["_law_one", "_law_other"], defScope (topS 34), fun _ => true, false, fns, cons, blt, cls, lxOf lxs "_law_parted"⟩ (defBody (topS 34)) = true := by decide +kernel
theorem sc_35 : FnScope ["_law_one", "_law_other"] ["_law_one", "_law_other"] (defScope (topS 35)) := ⟨rfl, rfl, rfl, by decide +kernel, rfl, by decide +kernel, by decide +kernel⟩
theorem ok_35 : okSs L_law_fall.body ⟨["_law_one", "_law_other"], defScope (topS 35), fun _ => true, false, fns, cons, blt, cls, lxOf lxs "_law_fall"⟩ (defBody (topS 35)) = true := by decide +kernel
theorem sc_36 : FnScope ["_law_shape_here", "_law_whole", "_law_told", "_law_k", "_law_down"] ["_law_shape_here", "_law_whole"] (defScope (topS 36)) := ⟨rfl, rfl, rfl, by decide +kernel, rfl, by decide +kernel, by decide +kernel⟩
theorem ok_36 : okSs L_law_price.body ⟨["_law_shape_here", "_law_whole", "_law_told", "_law_k", "_law_down"], defScope (topS 36), fun _ => true, false, fns, cons, blt, cls, lxOf lxs "_law_price"⟩ (defBody (topS 36)) = true := by decide +kernel
theorem sc_37 : FnScope ["_law_thing", "_law_last", "_law_k", "_law_fall_here", "_law_number"] ["_law_thing"] (defScope (topS 37)) := ⟨rfl, rfl, rfl, by decide +kernel, rfl, by decide +kernel, by decide +kernel⟩
theorem ok_37 : okSs L_law_is_shape.body ⟨["_law_thing", "_law_last", "_law_k", "_law_fall_here", "_law_number"], defScope (topS 37), fun _ => true, false, fns, cons, blt, cls, lxOf lxs "_law_is_shape"⟩ (defBody (topS 37)) = true := by decide +kernel
theorem sc_38 : FnScope ["_law_marks", "_law_spots_here", "_law_k"] ["_law_marks"] (defScope (topS 38)) := ⟨rfl, rfl, rfl, by decide +kernel, rfl, by decide +kernel, by decide +kernel⟩
theorem ok_38 : okSs L_law_spots.body ⟨["_law_marks", "_law_spots_here", "_law_k"], defScope (topS 38), fun _ => true, false, fns, cons, blt, cls, lxOf lxs "_law_spots"⟩ (defBody (topS 38)) = true := by decide +kernel
theorem sc_39 : FnScope ["_law_one", "_law_other", "_law_told", "_law_begin", "_law_whole", "_law_bend"] ["_law_one", "_law_other", "_law_told"] (defScope (topS 39)) := ⟨rfl, rfl, rfl, by decide +kernel, rfl, by decide +kernel, by decide +kernel⟩
theorem ok_39 : okSs L_law_beside_right.body ⟨["_law_one", "_law_other", "_law_told", "_law_begin", "_law_whole", "_law_bend"], defScope (topS 39), fun _ => true, false, fns, cons, blt, cls, lxOf lxs "_law_beside_right"⟩ (defBody (topS 39)) = true := by decide +kernel
theorem sc_40 : FnScope ["_law_one", "_law_other", "_law_room", "_law_best", "_law_mine", "_law_yours", "_law_price_here", "_law_bend"] ["_law_one", "_law_other", "_law_room"] (defScope (topS 40)) := ⟨rfl, rfl, rfl, by decide +kernel, rfl, by decide +kernel, by decide +kernel⟩
theorem ok_40 : okSs L_law_parted_price.body ⟨["_law_one", "_law_other", "_law_room", "_law_best", "_law_mine", "_law_yours", "_law_price_here", "_law_bend"], defScope (topS 40), fun _ => true, false, fns, cons, blt, cls, lxOf lxs "_law_parted_price"⟩ (defBody (topS 40)) = true := by decide +kernel
theorem sc_41 : FnScope ["_law_one", "_law_other", "_law_wait", "_law_told", "_law_begin", "_law_whole", "_law_bend"] ["_law_one", "_law_other", "_law_wait", "_law_told"] (defScope (topS 41)) := ⟨rfl, rfl, rfl, by decide +kernel, rfl, by decide +kernel, by decide +kernel⟩
theorem ok_41 : okSs L_law_behind_right.body ⟨["_law_one", "_law_other", "_law_wait", "_law_told", "_law_begin", "_law_whole", "_law_bend"], defScope (topS 41), fun _ => true, false, fns, cons, blt, cls, lxOf lxs "_law_behind_right"⟩ (defBody (topS 41)) = true := by decide +kernel
theorem sc_42 : FnScope ["_law_one", "_law_other", "_law_wait", "_law_span", "_law_cost"] ["_law_one", "_law_other", "_law_wait", "_law_span", "_law_cost"] (defScope (topS 42)) := ⟨rfl, rfl, rfl, by decide +kernel, rfl, by decide +kernel, by decide +kernel⟩
theorem ok_42 : okSs L_law_all_told.body ⟨["_law_one", "_law_other", "_law_wait", "_law_span", "_law_cost"], defScope (topS 42), fun _ => true, false, fns, cons, blt, cls, lxOf lxs "_law_all_told"⟩ (defBody (topS 42)) = true := by decide +kernel
theorem sc_43 : FnScope ["_law_script", "_law_k", "_law_state", "_law_wide", "_law_plain", "_law_one", "_law_other", "_law_wait", "_law_span", "_law_cost", "_law_kept", "_law_told", "_law_held", "_law_shape_here", "_law_whole", "_law_price_here"] ["_law_script"] (defScope (topS 43)) := ⟨rfl, rfl, rfl, by decide +kernel, rfl, by decide +kernel, by decide +kernel⟩
theorem ok_43 : okSs L_law.body ⟨["_law_script", "_law_k", "_law_state", "_law_wide", "_law_plain", "_law_one", "_law_other", "_law_wait", "_law_span", "_law_cost", "_law_kept", "_law_told", "_law_held", "_law_shape_here", "_law_whole", "_law_price_here"], defScope (topS 43), fun _ => true, false, fns, cons, blt, cls, lxOf lxs "law"⟩ (defBody (topS 43)) = true := by decide +kernel
theorem all_mk (lt : ∀ ns : List Int, ns.length ≤ 63 → ∃ S, callN (Gof lawL) 14 1018 [.frl (ns.map D.int)] [] = .ok (.bl true) S)
    {P : Program} {w : World} {K : PySem.W.Frag} {h : Heap} {mg : Str → Option Value} {fa : Addr} (X : K.In h) (G : h.Ns mainGlobals mg) (hfa : mg "law" = some (.ref fa))
    {e13 : Addr} {f15 : Addr} {od15 an15 : Option Addr} {sl15 : Array (Option Value)} {oc15 kV15 dc15 pm15 cd15 ct15 : Value} {f16 : Addr} {od16 an16 : Option Addr} {sl16 : Array (Option Value)} {oc16 kV16 dc16 pm16 cd16 ct16 : Value} {f17 : Addr} {od17 an17 : Option Addr} {sl17 : Array (Option Value)} {oc17 kV17 dc17 pm17 cd17 ct17 : Value} {f18 : Addr} {od18 an18 : Option Addr} {sl18 : Array (Option Value)} {oc18 kV18 dc18 pm18 cd18 ct18 : Value} {f19 : Addr} {od19 an19 : Option Addr} {sl19 : Array (Option Value)} {oc19 kV19 dc19 pm19 cd19 ct19 : Value} {f20 : Addr} {od20 an20 : Option Addr} {sl20 : Array (Option Value)} {oc20 kV20 dc20 pm20 cd20 ct20 : Value} {f21 : Addr} {od21 an21 : Option Addr} {sl21 : Array (Option Value)} {oc21 kV21 dc21 pm21 cd21 ct21 : Value} {f22 : Addr} {od22 an22 : Option Addr} {sl22 : Array (Option Value)} {oc22 kV22 dc22 pm22 cd22 ct22 : Value} {f23 : Addr} {od23 an23 : Option Addr} {sl23 : Array (Option Value)} {oc23 kV23 dc23 pm23 cd23 ct23 : Value} {f24 : Addr} {od24 an24 : Option Addr} {sl24 : Array (Option Value)} {oc24 kV24 dc24 pm24 cd24 ct24 : Value} {f25 : Addr} {od25 an25 : Option Addr} {sl25 : Array (Option Value)} {oc25 kV25 dc25 pm25 cd25 ct25 : Value} {f26 : Addr} {od26 an26 : Option Addr} {sl26 : Array (Option Value)} {oc26 kV26 dc26 pm26 cd26 ct26 : Value} {f27 : Addr} {od27 an27 : Option Addr} {sl27 : Array (Option Value)} {oc27 kV27 dc27 pm27 cd27 ct27 : Value} {f28 : Addr} {od28 an28 : Option Addr} {sl28 : Array (Option Value)} {oc28 kV28 dc28 pm28 cd28 ct28 : Value} {f29 : Addr} {od29 an29 : Option Addr} {sl29 : Array (Option Value)} {oc29 kV29 dc29 pm29 cd29 ct29 : Value} {f30 : Addr} {od30 an30 : Option Addr} {sl30 : Array (Option Value)} {oc30 kV30 dc30 pm30 cd30 ct30 : Value} {f31 : Addr} {od31 an31 : Option Addr} {sl31 : Array (Option Value)} {oc31 kV31 dc31 pm31 cd31 ct31 : Value} {f32 : Addr} {od32 an32 : Option Addr} {sl32 : Array (Option Value)} {oc32 kV32 dc32 pm32 cd32 ct32 : Value} {f33 : Addr} {od33 an33 : Option Addr} {sl33 : Array (Option Value)} {oc33 kV33 dc33 pm33 cd33 ct33 : Value} {f34 : Addr} {od34 an34 : Option Addr} {sl34 : Array (Option Value)} {oc34 kV34 dc34 pm34 cd34 ct34 : Value} {f35 : Addr} {od35 an35 : Option Addr} {sl35 : Array (Option Value)} {oc35 kV35 dc35 pm35 cd35 ct35 : Value} {f36 : Addr} {od36 an36 : Option Addr} {sl36 : Array (Option Value)} {oc36 kV36 dc36 pm36 cd36 ct36 : Value} {f37 : Addr} {od37 an37 : Option Addr} {sl37 : Array (Option Value)} {oc37 kV37 dc37 pm37 cd37 ct37 : Value} {f38 : Addr} {od38 an38 : Option Addr} {sl38 : Array (Option Value)} {oc38 kV38 dc38 pm38 cd38 ct38 : Value} {f39 : Addr} {od39 an39 : Option Addr} {sl39 : Array (Option Value)} {oc39 kV39 dc39 pm39 cd39 ct39 : Value} {f40 : Addr} {od40 an40 : Option Addr} {sl40 : Array (Option Value)} {oc40 kV40 dc40 pm40 cd40 ct40 : Value} {f41 : Addr} {od41 an41 : Option Addr} {sl41 : Array (Option Value)} {oc41 kV41 dc41 pm41 cd41 ct41 : Value} {f42 : Addr} {od42 an42 : Option Addr} {sl42 : Array (Option Value)} {oc42 kV42 dc42 pm42 cd42 ct42 : Value} {f43 : Addr} {od43 an43 : Option Addr} {sl43 : Array (Option Value)} {oc43 kV43 dc43 pm43 cd43 ct43 : Value} {f44 : Addr} {od44 an44 : Option Addr} {sl44 : Array (Option Value)} {oc44 kV44 dc44 pm44 cd44 ct44 : Value} {f45 : Addr} {od45 an45 : Option Addr} {sl45 : Array (Option Value)} {oc45 kV45 dc45 pm45 cd45 ct45 : Value} {f46 : Addr} {od46 an46 : Option Addr} {sl46 : Array (Option Value)} {oc46 kV46 dc46 pm46 cd46 ct46 : Value} {f47 : Addr} {od47 an47 : Option Addr} {sl47 : Array (Option Value)} {oc47 kV47 dc47 pm47 cd47 ct47 : Value} {f48 : Addr} {od48 an48 : Option Addr} {sl48 : Array (Option Value)} {oc48 kV48 dc48 pm48 cd48 ct48 : Value} {f49 : Addr} {od49 an49 : Option Addr} {sl49 : Array (Option Value)} {oc49 kV49 dc49 pm49 cd49 ct49 : Value}
    (z1 : PySem.W.nsIn K mainGlobals "abs" = some none)
    (z2 : PySem.W.nsIn K mainGlobals "bool" = some none)
    (z3 : PySem.W.nsIn K mainGlobals "int" = some none)
    (z4 : PySem.W.nsIn K mainGlobals "isinstance" = some none)
    (z5 : PySem.W.nsIn K mainGlobals "len" = some none)
    (z6 : PySem.W.nsIn K mainGlobals "list" = some none)
    (z7 : PySem.W.nsIn K mainGlobals "max" = some none)
    (z8 : PySem.W.nsIn K mainGlobals "min" = some none)
    (z9 : PySem.W.nsIn K mainGlobals "range" = some none)
    (z10 : PySem.W.nsIn K mainGlobals "repr" = some none)
    (z11 : PySem.W.nsIn K mainGlobals "tuple" = some none)
    (z12 : PySem.W.nsIn K mainGlobals "zip" = some none)
    (m13 : PySem.W.nsIn K mainGlobals "NoNumber" = some (some (.ref e13)))
    (hd13 : PySem.W.hasDictIn K e13 = true)
    (ty13 : PySem.W.typeIn K (.ref e13) = some (.type "type"))
    (ex13 : PySem.W.subIn K (.ref e13) (.type "BaseException") = some true)
    (sn14 : PySem.W.specialIn K (.builtin "object.__class__") "__get__" = some (some (.builtin "getset_descriptor.__get__")))
    (st14 : PySem.W.takesIn K (.builtin "object.__class__") = some true)
    (xg13 : PySem.W.findIn K (.ref e13) "__getattribute__" = some (some (.builtin "BaseException.__getattribute__")))
    (xk13 : PySem.W.findIn K (.ref e13) "__getattr__" = some none)
    (xa13 : PySem.W.findIn K (.ref e13) "__class__" = some (some (.builtin "object.__class__")))
    (xm13 : PySem.W.mroIn K e13 (.type "object") = some true)
    (xp13 : PySem.W.keepIn K (.ref e13) = true)
    (xv13 : PySem.W.subIn K (.ref e13) (.type "ValueError") = some true)
    (xo13 : PySem.W.excIn K e13 [.type "ValueError", .type "Exception", .type "BaseException", .type "object"] "ValueError.__new__" = true)
    (r13_13 : PySem.W.subIn K (.ref e13) (.ref e13) = some true)
    (b15 : PySem.W.nsIn K mainGlobals "divisor" = some (some (.ref f15)))
    (l15 : K.lookup f15 = some ⟨oc15, od15, .func (PySem.W.fnOf "divisor" "divisor" (defArgs (topS 4)) (defBody (topS 4)) (defScope (topS 4)) .none kV15 dc15 pm15 an15 cd15 ct15), sl15⟩)
    (c15 : PySem.W.codeIn K cd15 "divisor" = true)
    (k15 : PySem.W.keepIn K (.ref f15) = true)
    (b16 : PySem.W.nsIn K mainGlobals "in_lowest" = some (some (.ref f16)))
    (l16 : K.lookup f16 = some ⟨oc16, od16, .func (PySem.W.fnOf "in_lowest" "in_lowest" (defArgs (topS 6)) (defBody (topS 6)) (defScope (topS 6)) .none kV16 dc16 pm16 an16 cd16 ct16), sl16⟩)
    (c16 : PySem.W.codeIn K cd16 "in_lowest" = true)
    (k16 : PySem.W.keepIn K (.ref f16) = true)
    (b17 : PySem.W.nsIn K mainGlobals "plus" = some (some (.ref f17)))
    (l17 : K.lookup f17 = some ⟨oc17, od17, .func (PySem.W.fnOf "plus" "plus" (defArgs (topS 7)) (defBody (topS 7)) (defScope (topS 7)) .none kV17 dc17 pm17 an17 cd17 ct17), sl17⟩)
    (c17 : PySem.W.codeIn K cd17 "plus" = true)
    (k17 : PySem.W.keepIn K (.ref f17) = true)
    (b18 : PySem.W.nsIn K mainGlobals "minus" = some (some (.ref f18)))
    (l18 : K.lookup f18 = some ⟨oc18, od18, .func (PySem.W.fnOf "minus" "minus" (defArgs (topS 8)) (defBody (topS 8)) (defScope (topS 8)) .none kV18 dc18 pm18 an18 cd18 ct18), sl18⟩)
    (c18 : PySem.W.codeIn K cd18 "minus" = true)
    (k18 : PySem.W.keepIn K (.ref f18) = true)
    (b19 : PySem.W.nsIn K mainGlobals "product" = some (some (.ref f19)))
    (l19 : K.lookup f19 = some ⟨oc19, od19, .func (PySem.W.fnOf "product" "product" (defArgs (topS 9)) (defBody (topS 9)) (defScope (topS 9)) .none kV19 dc19 pm19 an19 cd19 ct19), sl19⟩)
    (c19 : PySem.W.codeIn K cd19 "product" = true)
    (k19 : PySem.W.keepIn K (.ref f19) = true)
    (b20 : PySem.W.nsIn K mainGlobals "parted" = some (some (.ref f20)))
    (l20 : K.lookup f20 = some ⟨oc20, od20, .func (PySem.W.fnOf "parted" "parted" (defArgs (topS 10)) (defBody (topS 10)) (defScope (topS 10)) .none kV20 dc20 pm20 an20 cd20 ct20), sl20⟩)
    (c20 : PySem.W.codeIn K cd20 "parted" = true)
    (k20 : PySem.W.keepIn K (.ref f20) = true)
    (b21 : PySem.W.nsIn K mainGlobals "is_less" = some (some (.ref f21)))
    (l21 : K.lookup f21 = some ⟨oc21, od21, .func (PySem.W.fnOf "is_less" "is_less" (defArgs (topS 11)) (defBody (topS 11)) (defScope (topS 11)) .none kV21 dc21 pm21 an21 cd21 ct21), sl21⟩)
    (c21 : PySem.W.codeIn K cd21 "is_less" = true)
    (k21 : PySem.W.keepIn K (.ref f21) = true)
    (b22 : PySem.W.nsIn K mainGlobals "larger" = some (some (.ref f22)))
    (l22 : K.lookup f22 = some ⟨oc22, od22, .func (PySem.W.fnOf "larger" "larger" (defArgs (topS 12)) (defBody (topS 12)) (defScope (topS 12)) .none kV22 dc22 pm22 an22 cd22 ct22), sl22⟩)
    (c22 : PySem.W.codeIn K cd22 "larger" = true)
    (k22 : PySem.W.keepIn K (.ref f22) = true)
    (b23 : PySem.W.nsIn K mainGlobals "fall_of" = some (some (.ref f23)))
    (l23 : K.lookup f23 = some ⟨oc23, od23, .func (PySem.W.fnOf "fall_of" "fall_of" (defArgs (topS 14)) (defBody (topS 14)) (defScope (topS 14)) .none kV23 dc23 pm23 an23 cd23 ct23), sl23⟩)
    (c23 : PySem.W.codeIn K cd23 "fall_of" = true)
    (k23 : PySem.W.keepIn K (.ref f23) = true)
    (b24 : PySem.W.nsIn K mainGlobals "price_at" = some (some (.ref f24)))
    (l24 : K.lookup f24 = some ⟨oc24, od24, .func (PySem.W.fnOf "price_at" "price_at" (defArgs (topS 15)) (defBody (topS 15)) (defScope (topS 15)) .none kV24 dc24 pm24 an24 cd24 ct24), sl24⟩)
    (c24 : PySem.W.codeIn K cd24 "price_at" = true)
    (k24 : PySem.W.keepIn K (.ref f24) = true)
    (b25 : PySem.W.nsIn K mainGlobals "risen" = some (some (.ref f25)))
    (l25 : K.lookup f25 = some ⟨oc25, od25, .func (PySem.W.fnOf "risen" "risen" (defArgs (topS 17)) (defBody (topS 17)) (defScope (topS 17)) .none kV25 dc25 pm25 an25 cd25 ct25), sl25⟩)
    (c25 : PySem.W.codeIn K cd25 "risen" = true)
    (k25 : PySem.W.keepIn K (.ref f25) = true)
    (b26 : PySem.W.nsIn K mainGlobals "shapes_beside" = some (some (.ref f26)))
    (l26 : K.lookup f26 = some ⟨oc26, od26, .func (PySem.W.fnOf "shapes_beside" "shapes_beside" (defArgs (topS 19)) (defBody (topS 19)) (defScope (topS 19)) .none kV26 dc26 pm26 an26 cd26 ct26), sl26⟩)
    (c26 : PySem.W.codeIn K cd26 "shapes_beside" = true)
    (k26 : PySem.W.keepIn K (.ref f26) = true)
    (b27 : PySem.W.nsIn K mainGlobals "pieces_of" = some (some (.ref f27)))
    (l27 : K.lookup f27 = some ⟨oc27, od27, .func (PySem.W.fnOf "pieces_of" "pieces_of" (defArgs (topS 20)) (defBody (topS 20)) (defScope (topS 20)) .none kV27 dc27 pm27 an27 cd27 ct27), sl27⟩)
    (c27 : PySem.W.codeIn K cd27 "pieces_of" = true)
    (k27 : PySem.W.keepIn K (.ref f27) = true)
    (b28 : PySem.W.nsIn K mainGlobals "by_falls" = some (some (.ref f28)))
    (l28 : K.lookup f28 = some ⟨oc28, od28, .func (PySem.W.fnOf "by_falls" "by_falls" (defArgs (topS 21)) (defBody (topS 21)) (defScope (topS 21)) .none kV28 dc28 pm28 an28 cd28 ct28), sl28⟩)
    (c28 : PySem.W.codeIn K cd28 "by_falls" = true)
    (k28 : PySem.W.keepIn K (.ref f28) = true)
    (b29 : PySem.W.nsIn K mainGlobals "shapes_behind" = some (some (.ref f29)))
    (l29 : K.lookup f29 = some ⟨oc29, od29, .func (PySem.W.fnOf "shapes_behind" "shapes_behind" (defArgs (topS 22)) (defBody (topS 22)) (defScope (topS 22)) .none kV29 dc29 pm29 an29 cd29 ct29), sl29⟩)
    (c29 : PySem.W.codeIn K cd29 "shapes_behind" = true)
    (k29 : PySem.W.keepIn K (.ref f29) = true)
    (b30 : PySem.W.nsIn K mainGlobals "shape_scaled" = some (some (.ref f30)))
    (l30 : K.lookup f30 = some ⟨oc30, od30, .func (PySem.W.fnOf "shape_scaled" "shape_scaled" (defArgs (topS 23)) (defBody (topS 23)) (defScope (topS 23)) .none kV30 dc30 pm30 an30 cd30 ct30), sl30⟩)
    (c30 : PySem.W.codeIn K cd30 "shape_scaled" = true)
    (k30 : PySem.W.keepIn K (.ref f30) = true)
    (b31 : PySem.W.nsIn K mainGlobals "_law_begun" = some (some (.ref f31)))
    (l31 : K.lookup f31 = some ⟨oc31, od31, .func (PySem.W.fnOf "_law_begun" "_law_begun" (defArgs (topS 25)) (defBody (topS 25)) (defScope (topS 25)) .none kV31 dc31 pm31 an31 cd31 ct31), sl31⟩)
    (c31 : PySem.W.codeIn K cd31 "_law_begun" = true)
    (k31 : PySem.W.keepIn K (.ref f31) = true)
    (b32 : PySem.W.nsIn K mainGlobals "_law_take" = some (some (.ref f32)))
    (l32 : K.lookup f32 = some ⟨oc32, od32, .func (PySem.W.fnOf "_law_take" "_law_take" (defArgs (topS 26)) (defBody (topS 26)) (defScope (topS 26)) .none kV32 dc32 pm32 an32 cd32 ct32), sl32⟩)
    (c32 : PySem.W.codeIn K cd32 "_law_take" = true)
    (k32 : PySem.W.keepIn K (.ref f32) = true)
    (b33 : PySem.W.nsIn K mainGlobals "_law_low" = some (some (.ref f33)))
    (l33 : K.lookup f33 = some ⟨oc33, od33, .func (PySem.W.fnOf "_law_low" "_law_low" (defArgs (topS 27)) (defBody (topS 27)) (defScope (topS 27)) .none kV33 dc33 pm33 an33 cd33 ct33), sl33⟩)
    (c33 : PySem.W.codeIn K cd33 "_law_low" = true)
    (k33 : PySem.W.keepIn K (.ref f33) = true)
    (b34 : PySem.W.nsIn K mainGlobals "_law_plus" = some (some (.ref f34)))
    (l34 : K.lookup f34 = some ⟨oc34, od34, .func (PySem.W.fnOf "_law_plus" "_law_plus" (defArgs (topS 28)) (defBody (topS 28)) (defScope (topS 28)) .none kV34 dc34 pm34 an34 cd34 ct34), sl34⟩)
    (c34 : PySem.W.codeIn K cd34 "_law_plus" = true)
    (k34 : PySem.W.keepIn K (.ref f34) = true)
    (b35 : PySem.W.nsIn K mainGlobals "_law_minus" = some (some (.ref f35)))
    (l35 : K.lookup f35 = some ⟨oc35, od35, .func (PySem.W.fnOf "_law_minus" "_law_minus" (defArgs (topS 29)) (defBody (topS 29)) (defScope (topS 29)) .none kV35 dc35 pm35 an35 cd35 ct35), sl35⟩)
    (c35 : PySem.W.codeIn K cd35 "_law_minus" = true)
    (k35 : PySem.W.keepIn K (.ref f35) = true)
    (b36 : PySem.W.nsIn K mainGlobals "_law_times" = some (some (.ref f36)))
    (l36 : K.lookup f36 = some ⟨oc36, od36, .func (PySem.W.fnOf "_law_times" "_law_times" (defArgs (topS 30)) (defBody (topS 30)) (defScope (topS 30)) .none kV36 dc36 pm36 an36 cd36 ct36), sl36⟩)
    (c36 : PySem.W.codeIn K cd36 "_law_times" = true)
    (k36 : PySem.W.keepIn K (.ref f36) = true)
    (b37 : PySem.W.nsIn K mainGlobals "_law_under" = some (some (.ref f37)))
    (l37 : K.lookup f37 = some ⟨oc37, od37, .func (PySem.W.fnOf "_law_under" "_law_under" (defArgs (topS 31)) (defBody (topS 31)) (defScope (topS 31)) .none kV37 dc37 pm37 an37 cd37 ct37), sl37⟩)
    (c37 : PySem.W.codeIn K cd37 "_law_under" = true)
    (k37 : PySem.W.keepIn K (.ref f37) = true)
    (b38 : PySem.W.nsIn K mainGlobals "_law_amount" = some (some (.ref f38)))
    (l38 : K.lookup f38 = some ⟨oc38, od38, .func (PySem.W.fnOf "_law_amount" "_law_amount" (defArgs (topS 32)) (defBody (topS 32)) (defScope (topS 32)) .none kV38 dc38 pm38 an38 cd38 ct38), sl38⟩)
    (c38 : PySem.W.codeIn K cd38 "_law_amount" = true)
    (k38 : PySem.W.keepIn K (.ref f38) = true)
    (b39 : PySem.W.nsIn K mainGlobals "_law_shape" = some (some (.ref f39)))
    (l39 : K.lookup f39 = some ⟨oc39, od39, .func (PySem.W.fnOf "_law_shape" "_law_shape" (defArgs (topS 33)) (defBody (topS 33)) (defScope (topS 33)) .none kV39 dc39 pm39 an39 cd39 ct39), sl39⟩)
    (c39 : PySem.W.codeIn K cd39 "_law_shape" = true)
    (k39 : PySem.W.keepIn K (.ref f39) = true)
    (b40 : PySem.W.nsIn K mainGlobals "_law_parted" = some (some (.ref f40)))
    (l40 : K.lookup f40 = some ⟨oc40, od40, .func (PySem.W.fnOf "_law_parted" "_law_parted" (defArgs (topS 34)) (defBody (topS 34)) (defScope (topS 34)) .none kV40 dc40 pm40 an40 cd40 ct40), sl40⟩)
    (c40 : PySem.W.codeIn K cd40 "_law_parted" = true)
    (k40 : PySem.W.keepIn K (.ref f40) = true)
    (b41 : PySem.W.nsIn K mainGlobals "_law_fall" = some (some (.ref f41)))
    (l41 : K.lookup f41 = some ⟨oc41, od41, .func (PySem.W.fnOf "_law_fall" "_law_fall" (defArgs (topS 35)) (defBody (topS 35)) (defScope (topS 35)) .none kV41 dc41 pm41 an41 cd41 ct41), sl41⟩)
    (c41 : PySem.W.codeIn K cd41 "_law_fall" = true)
    (k41 : PySem.W.keepIn K (.ref f41) = true)
    (b42 : PySem.W.nsIn K mainGlobals "_law_price" = some (some (.ref f42)))
    (l42 : K.lookup f42 = some ⟨oc42, od42, .func (PySem.W.fnOf "_law_price" "_law_price" (defArgs (topS 36)) (defBody (topS 36)) (defScope (topS 36)) .none kV42 dc42 pm42 an42 cd42 ct42), sl42⟩)
    (c42 : PySem.W.codeIn K cd42 "_law_price" = true)
    (k42 : PySem.W.keepIn K (.ref f42) = true)
    (b43 : PySem.W.nsIn K mainGlobals "_law_is_shape" = some (some (.ref f43)))
    (l43 : K.lookup f43 = some ⟨oc43, od43, .func (PySem.W.fnOf "_law_is_shape" "_law_is_shape" (defArgs (topS 37)) (defBody (topS 37)) (defScope (topS 37)) .none kV43 dc43 pm43 an43 cd43 ct43), sl43⟩)
    (c43 : PySem.W.codeIn K cd43 "_law_is_shape" = true)
    (k43 : PySem.W.keepIn K (.ref f43) = true)
    (b44 : PySem.W.nsIn K mainGlobals "_law_spots" = some (some (.ref f44)))
    (l44 : K.lookup f44 = some ⟨oc44, od44, .func (PySem.W.fnOf "_law_spots" "_law_spots" (defArgs (topS 38)) (defBody (topS 38)) (defScope (topS 38)) .none kV44 dc44 pm44 an44 cd44 ct44), sl44⟩)
    (c44 : PySem.W.codeIn K cd44 "_law_spots" = true)
    (k44 : PySem.W.keepIn K (.ref f44) = true)
    (b45 : PySem.W.nsIn K mainGlobals "_law_beside_right" = some (some (.ref f45)))
    (l45 : K.lookup f45 = some ⟨oc45, od45, .func (PySem.W.fnOf "_law_beside_right" "_law_beside_right" (defArgs (topS 39)) (defBody (topS 39)) (defScope (topS 39)) .none kV45 dc45 pm45 an45 cd45 ct45), sl45⟩)
    (c45 : PySem.W.codeIn K cd45 "_law_beside_right" = true)
    (k45 : PySem.W.keepIn K (.ref f45) = true)
    (b46 : PySem.W.nsIn K mainGlobals "_law_parted_price" = some (some (.ref f46)))
    (l46 : K.lookup f46 = some ⟨oc46, od46, .func (PySem.W.fnOf "_law_parted_price" "_law_parted_price" (defArgs (topS 40)) (defBody (topS 40)) (defScope (topS 40)) .none kV46 dc46 pm46 an46 cd46 ct46), sl46⟩)
    (c46 : PySem.W.codeIn K cd46 "_law_parted_price" = true)
    (k46 : PySem.W.keepIn K (.ref f46) = true)
    (b47 : PySem.W.nsIn K mainGlobals "_law_behind_right" = some (some (.ref f47)))
    (l47 : K.lookup f47 = some ⟨oc47, od47, .func (PySem.W.fnOf "_law_behind_right" "_law_behind_right" (defArgs (topS 41)) (defBody (topS 41)) (defScope (topS 41)) .none kV47 dc47 pm47 an47 cd47 ct47), sl47⟩)
    (c47 : PySem.W.codeIn K cd47 "_law_behind_right" = true)
    (k47 : PySem.W.keepIn K (.ref f47) = true)
    (b48 : PySem.W.nsIn K mainGlobals "_law_all_told" = some (some (.ref f48)))
    (l48 : K.lookup f48 = some ⟨oc48, od48, .func (PySem.W.fnOf "_law_all_told" "_law_all_told" (defArgs (topS 42)) (defBody (topS 42)) (defScope (topS 42)) .none kV48 dc48 pm48 an48 cd48 ct48), sl48⟩)
    (c48 : PySem.W.codeIn K cd48 "_law_all_told" = true)
    (k48 : PySem.W.keepIn K (.ref f48) = true)
    (b49 : PySem.W.nsIn K mainGlobals "law" = some (some (.ref f49)))
    (l49 : K.lookup f49 = some ⟨oc49, od49, .func (PySem.W.fnOf "law" "law" (defArgs (topS 43)) (defBody (topS 43)) (defScope (topS 43)) .none kV49 dc49 pm49 an49 cd49 ct49), sl49⟩)
    (c49 : PySem.W.codeIn K cd49 "law" = true)
    (k49 : PySem.W.keepIn K (.ref f49) = true) :
    ∀ (base : Heap) (H : Hp) (s : Shared) (a : Addr) (ns : List Int), ns.length ≤ 63 → K.In base → base.Ns mainGlobals mg → FzL K H a (ns.map V.int) → Env0 P w K mg base callerA [] s H →
      codeAny (model P w) callerA (.call (.ref fa) ⟨[.ref a], []⟩) (CR (L2.CX P w) [] P w H s (fun v _ => v = .bl true) fun _ _ _ => False) s := by
  have e : f49 = fa := by
    have q := (PySem.W.mg_of X G b49).symm.trans hfa
    cases q
    rfl
  subst e
  have T : Top w K mg ⟨fun k => match k with | 1 => e13 | _ => e13, [], []⟩ (Gof lawL) fns cons blt cls lxs := top_of
    (List.forall_mem_cons.mpr ⟨⟨PySem.W.mg_of X G m13, hd13, ty13, ex13⟩,
    List.forall_mem_nil _⟩)
    (show ∀ k ∈ [1], KnF K ⟨fun k => match k with | 1 => e13 | _ => e13, [], []⟩ cls k from List.forall_mem_cons.mpr ⟨⟨⟨xg13, xk13, ex13, hd13, xa13, sn14, st14, xm13⟩, xp13, fun _ => xo13, ty13, ex13, xv13, fun e => absurd e (by decide), r13_13, rel_of (ca := ⟨fun k => match k with | 1 => e13 | _ => e13, [], []⟩) (cls := cls) (k := 1) (List.forall_mem_cons.mpr ⟨r13_13,
    List.forall_mem_nil _⟩)⟩,
    List.forall_mem_nil _⟩)
    (show ∀ k ∈ [], IniT K mg ((⟨fun k => match k with | 1 => e13 | _ => e13, [], []⟩ : CA) k) (fldsOf k) from List.forall_mem_nil _)
    (List.forall_mem_nil _)
    (List.forall_mem_cons.mpr ⟨PySem.W.mg_none_of X G z1,
    List.forall_mem_cons.mpr ⟨PySem.W.mg_none_of X G z2,
    List.forall_mem_cons.mpr ⟨PySem.W.mg_none_of X G z3,
    List.forall_mem_cons.mpr ⟨PySem.W.mg_none_of X G z4,
    List.forall_mem_cons.mpr ⟨PySem.W.mg_none_of X G z5,
    List.forall_mem_cons.mpr ⟨PySem.W.mg_none_of X G z6,
    List.forall_mem_cons.mpr ⟨PySem.W.mg_none_of X G z7,
    List.forall_mem_cons.mpr ⟨PySem.W.mg_none_of X G z8,
    List.forall_mem_cons.mpr ⟨PySem.W.mg_none_of X G z9,
    List.forall_mem_cons.mpr ⟨PySem.W.mg_none_of X G z10,
    List.forall_mem_cons.mpr ⟨PySem.W.mg_none_of X G z11,
    List.forall_mem_cons.mpr ⟨PySem.W.mg_none_of X G z12,
    List.forall_mem_nil _⟩⟩⟩⟩⟩⟩⟩⟩⟩⟩⟩⟩)
    (List.forall_mem_cons.mpr ⟨⟨topS 4, _, _, F_divisor, f15, _, fun_mk (st := topS 4) l15 c15 k15, PySem.W.mg_of X G b15, (fun_mk (st := topS 4) l15 c15 k15).binds (ps := ["one", "other"]) (fun _ _ _ _ _ _ us hl => match us, hl with | [_, _], _ => rfl), rfl, sc_4, rfl, rfl, rfl, ok_4, lxf_no rfl⟩,
    List.forall_mem_cons.mpr ⟨⟨topS 6, _, _, F_in_lowest, f16, _, fun_mk (st := topS 6) l16 c16 k16, PySem.W.mg_of X G b16, (fun_mk (st := topS 6) l16 c16 k16).binds (ps := ["top", "bottom"]) (fun _ _ _ _ _ _ us hl => match us, hl with | [_, _], _ => rfl), rfl, sc_6, rfl, rfl, rfl, ok_6, lxf_no rfl⟩,
    List.forall_mem_cons.mpr ⟨⟨topS 7, _, _, F_plus, f17, _, fun_mk (st := topS 7) l17 c17 k17, PySem.W.mg_of X G b17, (fun_mk (st := topS 7) l17 c17 k17).binds (ps := ["one", "other"]) (fun _ _ _ _ _ _ us hl => match us, hl with | [_, _], _ => rfl), rfl, sc_7, rfl, rfl, rfl, ok_7, lxf_no rfl⟩,
    List.forall_mem_cons.mpr ⟨⟨topS 8, _, _, F_minus, f18, _, fun_mk (st := topS 8) l18 c18 k18, PySem.W.mg_of X G b18, (fun_mk (st := topS 8) l18 c18 k18).binds (ps := ["one", "other"]) (fun _ _ _ _ _ _ us hl => match us, hl with | [_, _], _ => rfl), rfl, sc_8, rfl, rfl, rfl, ok_8, lxf_no rfl⟩,
    List.forall_mem_cons.mpr ⟨⟨topS 9, _, _, F_product, f19, _, fun_mk (st := topS 9) l19 c19 k19, PySem.W.mg_of X G b19, (fun_mk (st := topS 9) l19 c19 k19).binds (ps := ["one", "other"]) (fun _ _ _ _ _ _ us hl => match us, hl with | [_, _], _ => rfl), rfl, sc_9, rfl, rfl, rfl, ok_9, lxf_no rfl⟩,
    List.forall_mem_cons.mpr ⟨⟨topS 10, _, _, F_parted, f20, _, fun_mk (st := topS 10) l20 c20 k20, PySem.W.mg_of X G b20, (fun_mk (st := topS 10) l20 c20 k20).binds (ps := ["one", "other"]) (fun _ _ _ _ _ _ us hl => match us, hl with | [_, _], _ => rfl), rfl, sc_10, rfl, rfl, rfl, ok_10, lxf_no rfl⟩,
    List.forall_mem_cons.mpr ⟨⟨topS 11, _, _, F_is_less, f21, _, fun_mk (st := topS 11) l21 c21 k21, PySem.W.mg_of X G b21, (fun_mk (st := topS 11) l21 c21 k21).binds (ps := ["one", "other"]) (fun _ _ _ _ _ _ us hl => match us, hl with | [_, _], _ => rfl), rfl, sc_11, rfl, rfl, rfl, ok_11, lxf_no rfl⟩,
    List.forall_mem_cons.mpr ⟨⟨topS 12, _, _, F_larger, f22, _, fun_mk (st := topS 12) l22 c22 k22, PySem.W.mg_of X G b22, (fun_mk (st := topS 12) l22 c22 k22).binds (ps := ["one", "other"]) (fun _ _ _ _ _ _ us hl => match us, hl with | [_, _], _ => rfl), rfl, sc_12, rfl, rfl, rfl, ok_12, lxf_no rfl⟩,
    List.forall_mem_cons.mpr ⟨⟨topS 14, _, _, F_fall_of, f23, _, fun_mk (st := topS 14) l23 c23 k23, PySem.W.mg_of X G b23, (fun_mk (st := topS 14) l23 c23 k23).binds (ps := ["one", "other"]) (fun _ _ _ _ _ _ us hl => match us, hl with | [_, _], _ => rfl), rfl, sc_14, rfl, rfl, rfl, ok_14, lxf_no rfl⟩,
    List.forall_mem_cons.mpr ⟨⟨topS 15, _, _, F_price_at, f24, _, fun_mk (st := topS 15) l24 c24 k24, PySem.W.mg_of X G b24, (fun_mk (st := topS 15) l24 c24 k24).binds (ps := ["shape", "whole"]) (fun _ _ _ _ _ _ us hl => match us, hl with | [_, _], _ => rfl), rfl, sc_15, rfl, rfl, rfl, ok_15, lxf_no rfl⟩,
    List.forall_mem_cons.mpr ⟨⟨topS 17, _, _, F_risen, f25, _, fun_mk (st := topS 17) l25 c25 k25, PySem.W.mg_of X G b25, (fun_mk (st := topS 17) l25 c25 k25).binds (ps := ["one", "other"]) (fun _ _ _ _ _ _ us hl => match us, hl with | [_, _], _ => rfl), rfl, sc_17, rfl, rfl, rfl, ok_17, lxf_no rfl⟩,
    List.forall_mem_cons.mpr ⟨⟨topS 19, _, _, F_shapes_beside, f26, _, fun_mk (st := topS 19) l26 c26 k26, PySem.W.mg_of X G b26, (fun_mk (st := topS 19) l26 c26 k26).binds (ps := ["one", "other"]) (fun _ _ _ _ _ _ us hl => match us, hl with | [_, _], _ => rfl), rfl, sc_19, rfl, rfl, rfl, ok_19, lxf_no rfl⟩,
    List.forall_mem_cons.mpr ⟨⟨topS 20, _, _, F_pieces_of, f27, _, fun_mk (st := topS 20) l27 c27 k27, PySem.W.mg_of X G b27, (fun_mk (st := topS 20) l27 c27 k27).binds (ps := ["shape"]) (fun _ _ _ _ _ _ us hl => match us, hl with | [_], _ => rfl), rfl, sc_20, rfl, rfl, rfl, ok_20, lxf_no rfl⟩,
    List.forall_mem_cons.mpr ⟨⟨topS 21, _, _, F_by_falls, f28, _, fun_mk (st := topS 21) l28 c28 k28, PySem.W.mg_of X G b28, (fun_mk (st := topS 21) l28 c28 k28).binds (ps := ["one", "other"]) (fun _ _ _ _ _ _ us hl => match us, hl with | [_, _], _ => rfl), rfl, sc_21, rfl, rfl, rfl, ok_21, lxf_no rfl⟩,
    List.forall_mem_cons.mpr ⟨⟨topS 22, _, _, F_shapes_behind, f29, _, fun_mk (st := topS 22) l29 c29 k29, PySem.W.mg_of X G b29, (fun_mk (st := topS 22) l29 c29 k29).binds (ps := ["one", "other", "wait"]) (fun _ _ _ _ _ _ us hl => match us, hl with | [_, _, _], _ => rfl), rfl, sc_22, rfl, rfl, rfl, ok_22, lxf_no rfl⟩,
    List.forall_mem_cons.mpr ⟨⟨topS 23, _, _, F_shape_scaled, f30, _, fun_mk (st := topS 23) l30 c30 k30, PySem.W.mg_of X G b30, (fun_mk (st := topS 23) l30 c30 k30).binds (ps := ["shape", "span", "cost"]) (fun _ _ _ _ _ _ us hl => match us, hl with | [_, _, _], _ => rfl), rfl, sc_23, rfl, rfl, rfl, ok_23, lxf_no rfl⟩,
    List.forall_mem_cons.mpr ⟨⟨topS 25, _, _, L_law_begun, f31, _, fun_mk (st := topS 25) l31 c31 k31, PySem.W.mg_of X G b31, (fun_mk (st := topS 25) l31 c31 k31).binds (ps := ["_law_script", "_law_k"]) (fun _ _ _ _ _ _ us hl => match us, hl with | [_, _], _ => rfl), rfl, sc_25, rfl, rfl, rfl, ok_25, lxf_no rfl⟩,
    List.forall_mem_cons.mpr ⟨⟨topS 26, _, _, L_law_take, f32, _, fun_mk (st := topS 26) l32 c32 k32, PySem.W.mg_of X G b32, (fun_mk (st := topS 26) l32 c32 k32).binds (ps := ["_law_state", "_law_many"]) (fun _ _ _ _ _ _ us hl => match us, hl with | [_, _], _ => rfl), rfl, sc_26, rfl, rfl, rfl, ok_26, lxf_no rfl⟩,
    List.forall_mem_cons.mpr ⟨⟨topS 27, _, _, L_law_low, f33, _, fun_mk (st := topS 27) l33 c33 k33, PySem.W.mg_of X G b33, (fun_mk (st := topS 27) l33 c33 k33).binds (ps := ["_law_top", "_law_bottom"]) (fun _ _ _ _ _ _ us hl => match us, hl with | [_, _], _ => rfl), rfl, sc_27, rfl, rfl, rfl, ok_27, lxf_no rfl⟩,
    List.forall_mem_cons.mpr ⟨⟨topS 28, _, _, L_law_plus, f34, _, fun_mk (st := topS 28) l34 c34 k34, PySem.W.mg_of X G b34, (fun_mk (st := topS 28) l34 c34 k34).binds (ps := ["_law_one", "_law_other"]) (fun _ _ _ _ _ _ us hl => match us, hl with | [_, _], _ => rfl), rfl, sc_28, rfl, rfl, rfl, ok_28, lxf_no rfl⟩,
    List.forall_mem_cons.mpr ⟨⟨topS 29, _, _, L_law_minus, f35, _, fun_mk (st := topS 29) l35 c35 k35, PySem.W.mg_of X G b35, (fun_mk (st := topS 29) l35 c35 k35).binds (ps := ["_law_one", "_law_other"]) (fun _ _ _ _ _ _ us hl => match us, hl with | [_, _], _ => rfl), rfl, sc_29, rfl, rfl, rfl, ok_29, lxf_no rfl⟩,
    List.forall_mem_cons.mpr ⟨⟨topS 30, _, _, L_law_times, f36, _, fun_mk (st := topS 30) l36 c36 k36, PySem.W.mg_of X G b36, (fun_mk (st := topS 30) l36 c36 k36).binds (ps := ["_law_one", "_law_other"]) (fun _ _ _ _ _ _ us hl => match us, hl with | [_, _], _ => rfl), rfl, sc_30, rfl, rfl, rfl, ok_30, lxf_no rfl⟩,
    List.forall_mem_cons.mpr ⟨⟨topS 31, _, _, L_law_under, f37, _, fun_mk (st := topS 31) l37 c37 k37, PySem.W.mg_of X G b37, (fun_mk (st := topS 31) l37 c37 k37).binds (ps := ["_law_one", "_law_other"]) (fun _ _ _ _ _ _ us hl => match us, hl with | [_, _], _ => rfl), rfl, sc_31, rfl, rfl, rfl, ok_31, lxf_no rfl⟩,
    List.forall_mem_cons.mpr ⟨⟨topS 32, _, _, L_law_amount, f38, _, fun_mk (st := topS 32) l38 c38 k38, PySem.W.mg_of X G b38, (fun_mk (st := topS 32) l38 c38 k38).binds (ps := ["_law_state", "_law_plain", "_law_least"]) (fun _ _ _ _ _ _ us hl => match us, hl with | [_, _, _], _ => rfl), rfl, sc_32, rfl, rfl, rfl, ok_32, lxf_no rfl⟩,
    List.forall_mem_cons.mpr ⟨⟨topS 33, _, _, L_law_shape, f39, _, fun_mk (st := topS 33) l39 c39 k39, PySem.W.mg_of X G b39, (fun_mk (st := topS 33) l39 c39 k39).binds (ps := ["_law_state", "_law_most", "_law_plain"]) (fun _ _ _ _ _ _ us hl => match us, hl with | [_, _, _], _ => rfl), rfl, sc_33, rfl, rfl, rfl, ok_33, lxf_no rfl⟩,
    List.forall_mem_cons.mpr ⟨⟨topS 34, _, _, L_law_parted, f40, _, fun_mk (st := topS 34) l40 c40 k40, PySem.W.mg_of X G b40, (fun_mk (st := topS 34) l40 c40 k40).binds (ps := ["_law_one", "_law_other"]) (fun _ _ _ _ _ _ us hl => match us, hl with | [_, _], _ => rfl), rfl, sc_34, rfl, rfl, rfl, ok_34, lxf_no rfl⟩,
    List.forall_mem_cons.mpr ⟨⟨topS 35, _, _, L_law_fall, f41, _, fun_mk (st := topS 35) l41 c41 k41, PySem.W.mg_of X G b41, (fun_mk (st := topS 35) l41 c41 k41).binds (ps := ["_law_one", "_law_other"]) (fun _ _ _ _ _ _ us hl => match us, hl with | [_, _], _ => rfl), rfl, sc_35, rfl, rfl, rfl, ok_35, lxf_no rfl⟩,
    List.forall_mem_cons.mpr ⟨⟨topS 36, _, _, L_law_price, f42, _, fun_mk (st := topS 36) l42 c42 k42, PySem.W.mg_of X G b42, (fun_mk (st := topS 36) l42 c42 k42).binds (ps := ["_law_shape_here", "_law_whole"]) (fun _ _ _ _ _ _ us hl => match us, hl with | [_, _], _ => rfl), rfl, sc_36, rfl, rfl, rfl, ok_36, lxf_no rfl⟩,
    List.forall_mem_cons.mpr ⟨⟨topS 37, _, _, L_law_is_shape, f43, _, fun_mk (st := topS 37) l43 c43 k43, PySem.W.mg_of X G b43, (fun_mk (st := topS 37) l43 c43 k43).binds (ps := ["_law_thing"]) (fun _ _ _ _ _ _ us hl => match us, hl with | [_], _ => rfl), rfl, sc_37, rfl, rfl, rfl, ok_37, lxf_no rfl⟩,
    List.forall_mem_cons.mpr ⟨⟨topS 38, _, _, L_law_spots, f44, _, fun_mk (st := topS 38) l44 c44 k44, PySem.W.mg_of X G b44, (fun_mk (st := topS 38) l44 c44 k44).binds (ps := ["_law_marks"]) (fun _ _ _ _ _ _ us hl => match us, hl with | [_], _ => rfl), rfl, sc_38, rfl, rfl, rfl, ok_38, lxf_no rfl⟩,
    List.forall_mem_cons.mpr ⟨⟨topS 39, _, _, L_law_beside_right, f45, _, fun_mk (st := topS 39) l45 c45 k45, PySem.W.mg_of X G b45, (fun_mk (st := topS 39) l45 c45 k45).binds (ps := ["_law_one", "_law_other", "_law_told"]) (fun _ _ _ _ _ _ us hl => match us, hl with | [_, _, _], _ => rfl), rfl, sc_39, rfl, rfl, rfl, ok_39, lxf_no rfl⟩,
    List.forall_mem_cons.mpr ⟨⟨topS 40, _, _, L_law_parted_price, f46, _, fun_mk (st := topS 40) l46 c46 k46, PySem.W.mg_of X G b46, (fun_mk (st := topS 40) l46 c46 k46).binds (ps := ["_law_one", "_law_other", "_law_room"]) (fun _ _ _ _ _ _ us hl => match us, hl with | [_, _, _], _ => rfl), rfl, sc_40, rfl, rfl, rfl, ok_40, lxf_no rfl⟩,
    List.forall_mem_cons.mpr ⟨⟨topS 41, _, _, L_law_behind_right, f47, _, fun_mk (st := topS 41) l47 c47 k47, PySem.W.mg_of X G b47, (fun_mk (st := topS 41) l47 c47 k47).binds (ps := ["_law_one", "_law_other", "_law_wait", "_law_told"]) (fun _ _ _ _ _ _ us hl => match us, hl with | [_, _, _, _], _ => rfl), rfl, sc_41, rfl, rfl, rfl, ok_41, lxf_no rfl⟩,
    List.forall_mem_cons.mpr ⟨⟨topS 42, _, _, L_law_all_told, f48, _, fun_mk (st := topS 42) l48 c48 k48, PySem.W.mg_of X G b48, (fun_mk (st := topS 42) l48 c48 k48).binds (ps := ["_law_one", "_law_other", "_law_wait", "_law_span", "_law_cost"]) (fun _ _ _ _ _ _ us hl => match us, hl with | [_, _, _, _, _], _ => rfl), rfl, sc_42, rfl, rfl, rfl, ok_42, lxf_no rfl⟩,
    List.forall_mem_nil _⟩⟩⟩⟩⟩⟩⟩⟩⟩⟩⟩⟩⟩⟩⟩⟩⟩⟩⟩⟩⟩⟩⟩⟩⟩⟩⟩⟩⟩⟩⟩⟩⟩⟩)
  exact fun base H s a ns hn _ _ hz e0 => show_run T (fun (p : Addr × Addr) hp => nomatch hp) (k := 13) (n := 63) (y := "_law_script") (fun_mk (st := topS 43) l49 c49 k49) sc_43 rfl rfl rfl ok_43 (lxf_shw rfl) lt ⟨rfl, by decide, by decide⟩ e0 (.of_eq rfl) (.cons rfl .nil) hz hn (fun p hp => nomatch hp)
end K55
end HP
open PySem PySem.W PyProof.Rows
theorem PySem.Challenge.cw_hurryprice_k55_shapes_joined_holds : PySem.Challenge.rw_hurryprice_k55_shapes_joined.Holds := by
  w_on; o_law; k_head; (case hw => w_witness2)
  k_fill
  refine HP.walk_show (l := PySem.Challenge.rw_hurryprice_k55_shapes_joined) (n := 63) rfl (by decide) rfl (fun w h Y => PySem.W.kIn_of Y) ?F
  case F =>
    intro w mg fa h KX G hmg
    refine' HP.K55.all_mk HP.K55.law_true KX G hmg ?z1 ?z2 ?z3 ?z4 ?z5 ?z6 ?z7 ?z8 ?z9 ?z10 ?z11 ?z12 ?m13 ?hd13 ?ty13 ?ex13 ?sn14 ?st14 ?xg13 ?xk13 ?xa13 ?xm13 ?xp13 ?xv13 ?xo13 ?r13_13 ?b15 ?l15 ?c15 ?k15 ?b16 ?l16 ?c16 ?k16 ?b17 ?l17 ?c17 ?k17 ?b18 ?l18 ?c18 ?k18 ?b19 ?l19 ?c19 ?k19 ?b20 ?l20 ?c20 ?k20 ?b21 ?l21 ?c21 ?k21 ?b22 ?l22 ?c22 ?k22 ?b23 ?l23 ?c23 ?k23 ?b24 ?l24 ?c24 ?k24 ?b25 ?l25 ?c25 ?k25 ?b26 ?l26 ?c26 ?k26 ?b27 ?l27 ?c27 ?k27 ?b28 ?l28 ?c28 ?k28 ?b29 ?l29 ?c29 ?k29 ?b30 ?l30 ?c30 ?k30 ?b31 ?l31 ?c31 ?k31 ?b32 ?l32 ?c32 ?k32 ?b33 ?l33 ?c33 ?k33 ?b34 ?l34 ?c34 ?k34 ?b35 ?l35 ?c35 ?k35 ?b36 ?l36 ?c36 ?k36 ?b37 ?l37 ?c37 ?k37 ?b38 ?l38 ?c38 ?k38 ?b39 ?l39 ?c39 ?k39 ?b40 ?l40 ?c40 ?k40 ?b41 ?l41 ?c41 ?k41 ?b42 ?l42 ?c42 ?k42 ?b43 ?l43 ?c43 ?k43 ?b44 ?l44 ?c44 ?k44 ?b45 ?l45 ?c45 ?k45 ?b46 ?l46 ?c46 ?k46 ?b47 ?l47 ?c47 ?k47 ?b48 ?l48 ?c48 ?k48 ?b49 ?l49 ?c49 ?k49
    (case z1 => k_is); (case z2 => k_is); (case z3 => k_is); (case z4 => k_is); (case z5 => k_is); (case z6 => k_is); (case z7 => k_is); (case z8 => k_is); (case z9 => k_is); (case z10 => k_is); (case z11 => k_is); (case z12 => k_is); (case m13 => k_is); (case hd13 => k_is); (case ty13 => k_is); (case ex13 => k_is); (case sn14 => k_is); (case st14 => k_is); (case xg13 => k_is); (case xk13 => k_is); (case xa13 => k_is); (case xm13 => k_is); (case xp13 => k_is); (case xv13 => k_is); (case xo13 => k_exc); (case r13_13 => k_is); (case b15 => k_is); (case l15 => k_is); (case c15 => k_is); (case k15 => k_is); (case b16 => k_is); (case l16 => k_is); (case c16 => k_is); (case k16 => k_is); (case b17 => k_is); (case l17 => k_is); (case c17 => k_is); (case k17 => k_is); (case b18 => k_is); (case l18 => k_is); (case c18 => k_is); (case k18 => k_is); (case b19 => k_is); (case l19 => k_is); (case c19 => k_is); (case k19 => k_is); (case b20 => k_is); (case l20 => k_is); (case c20 => k_is); (case k20 => k_is); (case b21 => k_is); (case l21 => k_is); (case c21 => k_is); (case k21 => k_is); (case b22 => k_is); (case l22 => k_is); (case c22 => k_is); (case k22 => k_is); (case b23 => k_is); (case l23 => k_is); (case c23 => k_is); (case k23 => k_is); (case b24 => k_is); (case l24 => k_is); (case c24 => k_is); (case k24 => k_is); (case b25 => k_is); (case l25 => k_is); (case c25 => k_is); (case k25 => k_is); (case b26 => k_is); (case l26 => k_is); (case c26 => k_is); (case k26 => k_is); (case b27 => k_is); (case l27 => k_is); (case c27 => k_is); (case k27 => k_is); (case b28 => k_is); (case l28 => k_is); (case c28 => k_is); (case k28 => k_is); (case b29 => k_is); (case l29 => k_is); (case c29 => k_is); (case k29 => k_is); (case b30 => k_is); (case l30 => k_is); (case c30 => k_is); (case k30 => k_is); (case b31 => k_is); (case l31 => k_is); (case c31 => k_is); (case k31 => k_is); (case b32 => k_is); (case l32 => k_is); (case c32 => k_is); (case k32 => k_is); (case b33 => k_is); (case l33 => k_is); (case c33 => k_is); (case k33 => k_is); (case b34 => k_is); (case l34 => k_is); (case c34 => k_is); (case k34 => k_is); (case b35 => k_is); (case l35 => k_is); (case c35 => k_is); (case k35 => k_is); (case b36 => k_is); (case l36 => k_is); (case c36 => k_is); (case k36 => k_is); (case b37 => k_is); (case l37 => k_is); (case c37 => k_is); (case k37 => k_is); (case b38 => k_is); (case l38 => k_is); (case c38 => k_is); (case k38 => k_is); (case b39 => k_is); (case l39 => k_is); (case c39 => k_is); (case k39 => k_is); (case b40 => k_is); (case l40 => k_is); (case c40 => k_is); (case k40 => k_is); (case b41 => k_is); (case l41 => k_is); (case c41 => k_is); (case k41 => k_is); (case b42 => k_is); (case l42 => k_is); (case c42 => k_is); (case k42 => k_is); (case b43 => k_is); (case l43 => k_is); (case c43 => k_is); (case k43 => k_is); (case b44 => k_is); (case l44 => k_is); (case c44 => k_is); (case k44 => k_is); (case b45 => k_is); (case l45 => k_is); (case c45 => k_is); (case k45 => k_is); (case b46 => k_is); (case l46 => k_is); (case c46 => k_is); (case k46 => k_is); (case b47 => k_is); (case l47 => k_is); (case c47 => k_is); (case k47 => k_is); (case b48 => k_is); (case l48 => k_is); (case c48 => k_is); (case k48 => k_is); (case b49 => k_is); (case l49 => k_is); (case c49 => k_is); (case k49 => k_is)
