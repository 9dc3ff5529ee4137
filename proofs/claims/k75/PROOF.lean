import PyProof.Rows.All
import Wide.All
import OpenK.AllK
import Wide.FinOn
import HandS.ForMost
import HandS.Walk
import HandS.Exc
import HandS.WordsExc
import HandS.Style
import HandS.TupAny
import HandS.TupMul
import HandS.IsInst
import HandS.Deep
import HandS.Conv
import HandS.SetFor
import HandS.SortRule
import HandS.SortInts
import KE.KDictZip
import KE.KTurns
import HandS.Small
import HandS.Strs
import HandS.ExcInit
import HandS.ExcSuper
import KE.KSuper
import HandS.ExcIs
import HandS.ExcField
import HandS.TryOnly
import HandS.Ends
import PyProof.Rows.Walk
import PyProof.ReprLen
import PySem.Challenge.RW_baylines_k75_books_and_lines_by_names
set_option Elab.async false
set_option linter.all false
set_option maxRecDepth 100000
/-! Bay: data over the layer. D: values with tuples as data; Sto: what stands at the addresses of lists, dicts, instances. -/
namespace Bay
open PySem PySem.Spec PyProof.Rows L2

/-! ### data -/
inductive D where
  | non
  | bl (b : Bool)
  | int (i : Int)
  | str (x : Str)
  | tup (xs : List D)
  | ref (a : Addr)
  | ty (n : String)
  /-- a list, a tuple that is read alone (the script, the module's constants) -/
  | rol (xs : List D)
  | rot (xs : List D)
instance : Inhabited D := ⟨.non⟩

/-- a list, a tuple that stays as it is: locked, or the module's -/
def FzL (K : PySem.W.Frag) (H : Hp) (a : Addr) (xs : List V) : Prop :=
  (∃ o, H a = some (.frz o (.lst xs))) ∨
    ∃ (o : Obj) (its : Array Value) (n : Nat), K.lookup a = some o ∧ o.cls = .type "list" ∧ o.dict = none ∧ o.data = .seq its n ∧ its.size ≤ sizeLine ∧ Vals xs its.toList
def FzT (K : PySem.W.Frag) (H : Hp) (a : Addr) (xs : List V) : Prop :=
  (∃ o, H a = some (.frz o (.tup xs))) ∨
    ∃ (o : Obj) (its : Array Value) (n : Nat), K.lookup a = some o ∧ o.cls = .type "tuple" ∧ o.data = .seq its n ∧ its.size ≤ sizeLine ∧ Vals xs its.toList
theorem FzL.sq {K : PySem.W.Frag} {H : Hp} {a : Addr} {xs : List V} (h : FzL K H a xs) : SqL K H a xs := h.elim (fun z => .inl (.inr z)) .inr
theorem FzT.sq {K : PySem.W.Frag} {H : Hp} {a : Addr} {xs : List V} (h : FzT K H a xs) : SqT K H a xs := h.elim (fun z => .inl (.inr z)) .inr

mutual
/-- v is the data d in H -/
inductive Rp (K : PySem.W.Frag) (H : Hp) : V → D → Prop
  | non : Rp K H .non .non
  | bl (b : Bool) : Rp K H (.bl b) (.bl b)
  | int (i : Int) : Rp K H (.int i) (.int i)
  | str (x : Str) : Rp K H (.str x) (.str x)
  | ref (a : Addr) : Rp K H (.ref a) (.ref a)
  | ty (n : String) : Rp K H (.ty n) (.ty n)
  | tup {a : Addr} {vs : List V} {ds : List D} : H a = some (.tup vs) → RpL K H vs ds → Rp K H (.ref a) (.tup ds)
  | rol {a : Addr} {vs : List V} {ds : List D} : FzL K H a vs → RpL K H vs ds → Rp K H (.ref a) (.rol ds)
  | rot {a : Addr} {vs : List V} {ds : List D} : FzT K H a vs → RpL K H vs ds → Rp K H (.ref a) (.rot ds)
inductive RpL (K : PySem.W.Frag) (H : Hp) : List V → List D → Prop
  | nil : RpL K H [] []
  | cons {v : V} {d : D} {vs : List V} {ds : List D} : Rp K H v d → RpL K H vs ds → RpL K H (v :: vs) (d :: ds)
end

/-- tuples stay -/
structure Tp (H H' : Hp) : Prop where
  t : ∀ a xs, H a = some (.tup xs) → H' a = some (.tup xs)
  f : ∀ a o u, H a = some (.frz o u) → H' a = some (.frz o u)
  x : ∀ a fs, H a = some (.xd fs) → H' a = some (.xd fs)
/-- what may change -/
def Chg (u : HO) : Prop := (∀ xs, u ≠ .tup xs) ∧ (∀ o x, u ≠ .frz o x) ∧ ∀ fs, u ≠ .xd fs
theorem Tp.refl (H : Hp) : Tp H H := ⟨fun _ _ h => h, fun _ _ _ h => h, fun _ _ h => h⟩
theorem Tp.trans {H H1 H2 : Hp} (a : Tp H H1) (b : Tp H1 H2) : Tp H H2 := ⟨fun c xs h => b.t c xs (a.t c xs h), fun c o u h => b.f c o u (a.f c o u h), fun c fs h => b.x c fs (a.x c fs h)⟩
theorem Tp.fresh {H : Hp} {p : Addr} {o : HO} (h : H p = none) : Tp H (upd H p o) :=
  ⟨fun a xs e => by rw [upd_ne (ne_of_none e h)]; exact e, fun a o u e => by rw [upd_ne (ne_of_none e h)]; exact e, fun a fs e => by rw [upd_ne (ne_of_none e h)]; exact e⟩
theorem Tp.over {H : Hp} {p : Addr} {o u : HO} (h : H p = some u) (nt : Chg u) : Tp H (upd H p o) :=
  ⟨fun a xs e => by rw [upd_ne (ne_of e h fun z => nt.1 xs z.symm)]; exact e, fun a o x e => by rw [upd_ne (ne_of e h fun z => nt.2.1 o x z.symm)]; exact e, fun a fs e => by rw [upd_ne (ne_of e h fun z => nt.2.2 fs z.symm)]; exact e⟩
theorem FzL.to {K : PySem.W.Frag} {H H' : Hp} {a : Addr} {xs : List V} (t : Tp H H') (h : FzL K H a xs) : FzL K H' a xs :=
  h.elim (fun ⟨o, z⟩ => .inl ⟨o, t.f _ _ _ z⟩) .inr
theorem FzT.to {K : PySem.W.Frag} {H H' : Hp} {a : Addr} {xs : List V} (t : Tp H H') (h : FzT K H a xs) : FzT K H' a xs :=
  h.elim (fun ⟨o, z⟩ => .inl ⟨o, t.f _ _ _ z⟩) .inr

mutual
theorem Rp.to {K : PySem.W.Frag} {H H' : Hp} (t : Tp H H') : ∀ {v : V} {d : D}, Rp K H v d → Rp K H' v d
  | _, _, .non => .non
  | _, _, .bl b => .bl b
  | _, _, .int i => .int i
  | _, _, .str x => .str x
  | _, _, .ref a => .ref a
  | _, _, .ty n => .ty n
  | _, _, .tup h r => .tup (t.t _ _ h) (RpL.to t r)
  | _, _, .rol h r => .rol (h.to t) (RpL.to t r)
  | _, _, .rot h r => .rot (h.to t) (RpL.to t r)
theorem RpL.to {K : PySem.W.Frag} {H H' : Hp} (t : Tp H H') : ∀ {vs : List V} {ds : List D}, RpL K H vs ds → RpL K H' vs ds
  | _, _, .nil => .nil
  | _, _, .cons h r => .cons (Rp.to t h) (RpL.to t r)
end
section
variable {K : PySem.W.Frag} {H : Hp}
theorem RpL.length : ∀ {vs : List V} {ds : List D}, RpL K H vs ds → vs.length = ds.length
  | _, _, .nil => rfl
  | _, _, .cons _ r => by rw [List.length_cons, List.length_cons, RpL.length r]
theorem RpL.get : ∀ {vs : List V} {ds : List D} {i : Nat} {d : D}, RpL K H vs ds → ds[i]? = some d → ∃ v, vs[i]? = some v ∧ Rp K H v d
  | _, _, _, _, .nil, e => by simp at e
  | _, _, 0, _, .cons r _, e => by simp at e; subst e; exact ⟨_, rfl, r⟩
  | _, _, i + 1, d, .cons _ t, e => by
    obtain ⟨v, h1, h2⟩ := RpL.get (i := i) (d := d) t (by simpa using e)
    exact ⟨v, by simpa using h1, h2⟩
theorem RpL.getV : ∀ {vs : List V} {ds : List D} {i : Nat} {v : V}, RpL K H vs ds → vs[i]? = some v → ∃ d, ds[i]? = some d ∧ Rp K H v d
  | _, _, _, _, .nil, e => by simp at e
  | _, _, 0, _, .cons r _, e => by simp at e; subst e; exact ⟨_, rfl, r⟩
  | _, _, i + 1, v, .cons _ t, e => by
    obtain ⟨d, h1, h2⟩ := RpL.getV (i := i) (v := v) t (by simpa using e)
    exact ⟨d, by simpa using h1, h2⟩
theorem RpL.app : ∀ {vs ws : List V} {ds es : List D}, RpL K H vs ds → RpL K H ws es → RpL K H (vs ++ ws) (ds ++ es)
  | _, _, _, _, .nil, s => s
  | _, _, _, _, .cons r t, s => .cons r (RpL.app t s)
theorem RpL.take : ∀ {vs : List V} {ds : List D} (n : Nat), RpL K H vs ds → RpL K H (vs.take n) (ds.take n)
  | _, _, 0, _ => .nil
  | _, _, _ + 1, .nil => .nil
  | _, _, n + 1, .cons r t => .cons r (RpL.take n t)
theorem RpL.drop : ∀ {vs : List V} {ds : List D} (n : Nat), RpL K H vs ds → RpL K H (vs.drop n) (ds.drop n)
  | _, _, 0, r => r
  | _, _, _ + 1, .nil => .nil
  | _, _, n + 1, .cons _ t => RpL.drop n t
theorem RpL.set {v : V} {d : D} (q : Rp K H v d) : ∀ {vs : List V} {ds : List D} (i : Nat), RpL K H vs ds → RpL K H (vs.set i v) (ds.set i d)
  | _, _, _, .nil => .nil
  | _, _, 0, .cons _ t => .cons q t
  | _, _, i + 1, .cons r t => .cons r (RpL.set q i t)
theorem RpL.erase : ∀ {vs : List V} {ds : List D} (i : Nat), RpL K H vs ds → RpL K H (vs.eraseIdx i) (ds.eraseIdx i)
  | _, _, _, .nil => .nil
  | _, _, 0, .cons _ t => t
  | _, _, i + 1, .cons r t => .cons r (RpL.erase i t)
theorem RpL.dropLast : ∀ {vs : List V} {ds : List D}, RpL K H vs ds → RpL K H vs.dropLast ds.dropLast
  | _, _, .nil => .nil
  | _, _, .cons _ .nil => .nil
  | _, _, .cons r (.cons r2 t) => .cons r (RpL.dropLast (.cons r2 t))
theorem RpL.rev {vs : List V} {ds : List D} (r : RpL K H vs ds) : RpL K H vs.reverse ds.reverse := by
  have go : ∀ {vs : List V} {ds : List D}, RpL K H vs ds → ∀ {ws : List V} {es : List D}, RpL K H ws es → RpL K H (vs.reverseAux ws) (ds.reverseAux es) := by
    intro vs
    induction vs with
    | nil => intro ds r ws es q; cases r; exact q
    | cons v vs ih =>
      intro ds r ws es q
      cases r with
      | cons h t => exact ih t (.cons h q)
  exact go r .nil
theorem RpL.nil_iff {vs : List V} {ds : List D} (r : RpL K H vs ds) : vs = [] ↔ ds = [] := by
  cases r with
  | nil => simp
  | cons _ _ => simp
/-- any list of data that are borne one by one -/
theorem RpL.of_get : ∀ {vs : List V} {ds : List D}, vs.length = ds.length → (∀ (i : Nat) (v : V) (d : D), vs[i]? = some v → ds[i]? = some d → Rp K H v d) → RpL K H vs ds
  | [], [], _, _ => .nil
  | [], _ :: _, e, _ => by simp at e
  | _ :: _, [], e, _ => by simp at e
  | v :: vs, d :: ds, e, h => .cons (h 0 v d rfl rfl) (RpL.of_get (by simpa using e) fun i v d h1 h2 => h (i + 1) v d (by simpa using h1) (by simpa using h2))
/-- the values of data without tuples -/
theorem Rp.int_inv {v : V} {i : Int} (r : Rp K H v (.int i)) : v = .int i := by cases r; rfl
theorem Rp.str_inv {v : V} {x : Str} (r : Rp K H v (.str x)) : v = .str x := by cases r; rfl
theorem Rp.bl_inv {v : V} {b : Bool} (r : Rp K H v (.bl b)) : v = .bl b := by cases r; rfl
theorem Rp.non_inv {v : V} (r : Rp K H v .non) : v = .non := by cases r; rfl
theorem Rp.ref_inv {v : V} {a : Addr} (r : Rp K H v (.ref a)) : v = .ref a := by cases r; rfl
theorem Rp.tup_inv {v : V} {ds : List D} (r : Rp K H v (.tup ds)) : ∃ a vs, v = .ref a ∧ H a = some (.tup vs) ∧ RpL K H vs ds := by
  cases r with
  | tup h r => exact ⟨_, _, rfl, h, r⟩
theorem RpL.ints : ∀ {ns : List Int}, RpL K H (ns.map V.int) (ns.map D.int)
  | [] => .nil
  | n :: ns => .cons (.int n) RpL.ints
theorem RpL.ints_inv : ∀ {ns : List Int} {vs : List V}, RpL K H vs (ns.map D.int) → vs = ns.map V.int
  | [], vs, r => by cases r; rfl
  | n :: ns, vs, r => by
    cases r with
    | cons h t => rw [h.int_inv, RpL.ints_inv t]; rfl
theorem RpL.strs_inv : ∀ {ns : List Str} {vs : List V}, RpL K H vs (ns.map D.str) → vs = ns.map V.str
  | [], vs, r => by cases r; rfl
  | n :: ns, vs, r => by
    cases r with
    | cons h t => rw [h.str_inv, RpL.strs_inv t]; rfl
theorem RpL.strs : ∀ {ns : List Str}, RpL K H (ns.map V.str) (ns.map D.str)
  | [] => .nil
  | n :: ns => .cons (.str n) RpL.strs
end

/-! ### what stands at an address -/
inductive O where
  /-- a list -/
  | lst (xs : List D)
  /-- a dict whose keys are ints and texts; one whose keys are tuples of such -/
  | dK (kvs : List (Key × D))
  | dT (kvs : List (List Key × D))
  /-- an instance -/
  | ins (C : Addr) (fs : List (Str × D))

abbrev Sto := Addr → Option O
def Sto.upd (S : Sto) (a : Addr) (o : O) : Sto := fun b => if b = a then some o else S b
section
variable {S : Sto} {a b : Addr} {o u : O}
@[simp] theorem Sto.upd_same : S.upd a o a = some o := by unfold Sto.upd; rw [if_pos rfl]
theorem Sto.upd_ne (h : b ≠ a) : S.upd a o b = S b := by unfold Sto.upd; rw [if_neg h]
theorem Sto.upd_upd : (S.upd a o).upd a u = S.upd a u := by funext b; unfold Sto.upd; split <;> rfl
theorem Sto.comm (h : a ≠ b) : (S.upd a o).upd b u = (S.upd b u).upd a o := by
  funext c
  unfold Sto.upd
  by_cases h1 : c = b
  · subst h1; rw [if_pos rfl, if_neg (Ne.symm h), if_pos rfl]
  · rw [if_neg h1]; by_cases h2 : c = a
    · rw [if_pos h2, if_pos h2]
    · rw [if_neg h2, if_neg h2, if_neg h1]
theorem Sto.upd_id (h : S a = some o) : S.upd a o = S := by
  funext c
  unfold Sto.upd
  split
  · rename_i e; rw [e, h]
  · rfl
theorem Sto.ne (h : S a = some o) (h' : S b = none) : a ≠ b := fun e => by rw [e, h'] at h; cases h
end

def PD {κ : Type} (K : PySem.W.Frag) (H : Hp) : List (κ × V) → List (κ × D) → Prop := Paired fun (p : κ × V) (q : κ × D) => p.1 = q.1 ∧ Rp K H p.2 q.2
theorem PD.to {κ : Type} {K : PySem.W.Frag} {H H' : Hp} (t : Tp H H') {l : List (κ × V)} {m : List (κ × D)} (h : PD K H l m) : PD K H' l m := Paired.mapP h fun _ _ x => ⟨x.1, x.2.to t⟩

/-- the object at a is borne by H -/
def OB (K : PySem.W.Frag) (H : Hp) (a : Addr) : O → Prop
  | .lst ds => ∃ vs, H a = some (.lst vs) ∧ RpL K H vs ds
  | .dK kvs => ∃ ws, H a = some (.dK ws) ∧ PD K H ws kvs
  | .dT kvs => ∃ ws, H a = some (.dT ws) ∧ PD K H ws kvs
  | .ins C fs => ∃ dx ws, H a = some (.ins C dx ws) ∧ PD K H ws fs
def Bears (K : PySem.W.Frag) (H : Hp) (S : Sto) : Prop := ∀ a o, S a = some o → OB K H a o
/-- from one state to a later one: tuples stay, what is tracked stays tracked, nothing tracked is newly told -/
structure Stp (H : Hp) (S : Sto) (H' : Hp) (S' : Sto) : Prop where
  tp : Tp H H'
  tr : ∀ a, H a ≠ none → H' a ≠ none
  /-- what is tracked and not told stays, untold -/
  keep : ∀ a u, H a = some u → S a = none → H' a = some u ∧ S' a = none
theorem Stp.refl {H : Hp} {S : Sto} : Stp H S H S := ⟨Tp.refl H, fun _ h => h, fun _ _ e n => ⟨e, n⟩⟩
theorem Stp.trans {H H1 H2 : Hp} {S S1 S2 : Sto} (a : Stp H S H1 S1) (b : Stp H1 S1 H2 S2) : Stp H S H2 S2 :=
  ⟨a.tp.trans b.tp, fun c h => b.tr c (a.tr c h), fun c u e n => b.keep c u (a.keep c u e n).1 (a.keep c u e n).2⟩

section
variable {K : PySem.W.Frag} {H H' : Hp} {S : Sto} {a p : Addr} {o u : O} {ho : HO}
theorem OB.keep (t : Tp H H') (e : H' a = H a) (h : OB K H a o) : OB K H' a o := by
  cases o with
  | lst ds => obtain ⟨vs, q, r⟩ := h; exact ⟨vs, e.trans q, r.to t⟩
  | dK kvs => obtain ⟨ws, q, r⟩ := h; exact ⟨ws, e.trans q, r.to t⟩
  | dT kvs => obtain ⟨ws, q, r⟩ := h; exact ⟨ws, e.trans q, r.to t⟩
  | ins C fs => obtain ⟨dx, ws, q, r⟩ := h; exact ⟨dx, ws, e.trans q, r.to t⟩
theorem OB.chg (h : OB K H a o) : ∃ u, H a = some u ∧ Chg u := by
  cases o with
  | lst ds => obtain ⟨vs, q, r⟩ := h; exact ⟨_, q, ⟨fun _ z => (nomatch z), fun _ _ z => (nomatch z), fun _ z => (nomatch z)⟩⟩
  | dK kvs => obtain ⟨ws, q, r⟩ := h; exact ⟨_, q, ⟨fun _ z => (nomatch z), fun _ _ z => (nomatch z), fun _ z => (nomatch z)⟩⟩
  | dT kvs => obtain ⟨ws, q, r⟩ := h; exact ⟨_, q, ⟨fun _ z => (nomatch z), fun _ _ z => (nomatch z), fun _ z => (nomatch z)⟩⟩
  | ins C fs => obtain ⟨dx, ws, q, r⟩ := h; exact ⟨_, q, ⟨fun _ z => (nomatch z), fun _ _ z => (nomatch z), fun _ z => (nomatch z)⟩⟩
/-- nothing is told at a free place -/
theorem Bears.no (b : Bears K H S) (n : H p = none) : S p = none := by
  cases e : S p with
  | none => rfl
  | some o =>
    obtain ⟨u, q, _⟩ := (b p o e).chg
    rw [n] at q; cases q
/-- a new tuple, or any new thing that is not told -/
theorem Bears.newT (b : Bears K H S) (n : H p = none) : Bears K (L2.upd H p ho) S := fun a o e =>
  (b a o e).keep (Tp.fresh n) (L2.upd_ne fun z => by rw [z, b.no n] at e; cases e)
theorem Bears.sub {S' : Sto} (b : Bears K H S) (h : ∀ a o, S' a = some o → S a = some o) : Bears K H S' := fun a o e => b a o (h a o e)
/-- an object that is told -/
theorem Bears.made (b : Bears K H S) (n : H p = none) (q : OB K (L2.upd H p ho) p o) : Bears K (L2.upd H p ho) (S.upd p o) := fun a u e => by
  by_cases h : a = p
  · subst h; rw [Sto.upd_same] at e; cases e; exact q
  · rw [Sto.upd_ne h] at e
    exact (b a u e).keep (Tp.fresh n) (L2.upd_ne h)
theorem Bears.wrote (b : Bears K H S) (n : S p = some u) (q : OB K (L2.upd H p ho) p o) : Bears K (L2.upd H p ho) (S.upd p o) := fun a w e => by
  by_cases h : a = p
  · subst h; rw [Sto.upd_same] at e; cases e; exact q
  · rw [Sto.upd_ne h] at e
    obtain ⟨x, z, c⟩ := (b p u n).chg
    exact (b a w e).keep (Tp.over z c) (L2.upd_ne h)
theorem upd_some {b : Addr} (h : H b ≠ Option.none) : L2.upd H p ho b ≠ Option.none := by
  by_cases e : b = p
  · subst e; rw [L2.upd_same]; exact fun z => by cases z
  · rw [L2.upd_ne e]; exact h
theorem Stp.made (n : H p = Option.none) : Stp H S (L2.upd H p ho) (S.upd p o) := by
  refine ⟨Tp.fresh n, fun _ h => upd_some h, fun a u e m => ?_⟩
  have ne : a ≠ p := fun z => by rw [z, n] at e; cases e
  exact ⟨(L2.upd_ne ne).trans e, (Sto.upd_ne ne).trans m⟩
theorem Stp.newT (n : H p = Option.none) : Stp H S (L2.upd H p ho) S := by
  refine ⟨Tp.fresh n, fun _ h => upd_some h, fun a u e m => ?_⟩
  have ne : a ≠ p := fun z => by rw [z, n] at e; cases e
  exact ⟨(L2.upd_ne ne).trans e, m⟩
theorem Stp.wrote (b : Bears K H S) (s : S p = some u) : Stp H S (L2.upd H p ho) (S.upd p o) := by
  obtain ⟨x, z, c⟩ := (b p u s).chg
  refine ⟨Tp.over z c, fun _ h => upd_some h, fun a w e m => ?_⟩
  have ne : a ≠ p := fun y => by rw [y, s] at m; cases m
  exact ⟨(L2.upd_ne ne).trans e, (Sto.upd_ne ne).trans m⟩
/-- what is told may be forgotten -/
theorem Stp.sub {H' : Hp} {S1 S2 : Sto} (a : Stp H S H' S1) (h : ∀ a o, S2 a = some o → S1 a = some o) : Stp H S H' S2 := ⟨a.tp, a.tr, fun c u e n => by
  obtain ⟨h1, h2⟩ := a.keep c u e n
  refine ⟨h1, ?_⟩
  cases q : S2 c with
  | none => rfl
  | some o =>
    have z := h c o q
    rw [h2] at z
    cases z⟩
/-- an object of ours that is not told is changed -/
theorem Stp.own {H' : Hp} {S' : Sto} (a : Stp (L2.upd H p ho) S H' S') (n : H p = Option.none) : Stp H S H' S' := by
  refine ⟨(Tp.fresh n).trans a.tp, fun c h => a.tr c (upd_some h), fun c u e m => ?_⟩
  exact a.keep c u ((L2.upd_ne fun z => by rw [z, n] at e; cases e).trans e) m
/-- .. behind -/
theorem Stp.mine {H1 : Hp} {S1 : Sto} (a : Stp H S H1 S1) (n : H p = Option.none) (c : ∀ u, H1 p = some u → Chg u) : Stp H S (L2.upd H1 p ho) S1 := by
  refine ⟨a.tp.trans ⟨fun b xs e => ?_, fun b o x e => ?_, fun b fs e => ?_⟩, fun b h => upd_some (a.tr b h), fun b u e m => ?_⟩
  · have ne : b ≠ p := fun z => (c _ (z ▸ e)).1 xs rfl
    exact (L2.upd_ne ne).trans e
  · have ne : b ≠ p := fun z => (c _ (z ▸ e)).2.1 o x rfl
    exact (L2.upd_ne ne).trans e
  · have ne : b ≠ p := fun z => (c _ (z ▸ e)).2.2 fs rfl
    exact (L2.upd_ne ne).trans e
  · have ne : b ≠ p := fun z => by rw [z, n] at e; cases e
    exact ⟨(L2.upd_ne ne).trans (a.keep b u e m).1, (a.keep b u e m).2⟩
theorem Bears.mine (b : Bears K H S) (n : S p = Option.none) (c : ∀ u, H p = some u → Chg u) : Bears K (L2.upd H p ho) S := fun a o e => by
  have ne : a ≠ p := fun z => by rw [z, n] at e; cases e
  refine (b a o e).keep ⟨fun d xs q => ?_, fun d o x q => ?_, fun d fs q => ?_⟩ (L2.upd_ne ne)
  · exact (L2.upd_ne fun z => (c _ (z ▸ q)).1 xs rfl).trans q
  · exact (L2.upd_ne fun z => (c _ (z ▸ q)).2.1 o x rfl).trans q
  · exact (L2.upd_ne fun z => (c _ (z ▸ q)).2.2 fs rfl).trans q
end
end Bay

set_option Elab.async false
set_option linter.all false
set_option maxRecDepth 100000
/-! Bay: sorted(set(xs)), xs a list of ints. -/
namespace Bay
open PySem PySem.Spec PyProof.Rows L2

section
variable {P : Program} {w : World} {A : Around} {E : Value → Shared → Prop} {s : Shared}
/-- an empty set, as it is laid -/
def so (w : World) : Obj := { cls := .type "set", dict := none, data := .set #[] 0 (.fresh 0 0 (!w.params.followText "set-order")) }
/-- with it laid -/
def sl (w : World) (s : Shared) : Shared := { s with heap := s.heap.push (so w) }
theorem sl_at : (sl w s).heap.get? s.heap.objs.size = some (so w) := Heap.get?_push_size _ rfl
theorem sl_up {b : Addr} {o : Obj} (h : s.heap.get? b = some o) : (sl w s).heap.get? b = some o := Heap.get?_push_of_some _ h
theorem sl_size : (sl w s).heap.objs.size = s.heap.objs.size + 1 := Heap.size_push ..
/-- filled from a list -/
def Fil (w : World) (s : Shared) (ns : List Int) (r : Value) (s2 : Shared) : Prop :=
  r = .none ∧ ∃ h' tk c, s2 = { s with heap := h', toks := tk } ∧ SetR w h' s.heap.objs.size (fun j => decide (j ∈ ns)) c ∧ c ≤ ns.length ∧ ∀ b o, s.heap.get? b = some o → h'.get? b = some o
set_option maxHeartbeats 3200000 in
theorem fill_list {l : Addr} {its : Array Value} (ns : List Int) (hh : A.handled = none) (hl : s.heap.IsList l its) (hi : IntsAre its.toList ns) (hb : ns.length + 1 < scanBound) :
    codeAny (model P w) A (.call (.builtin "set.__init__") ⟨[.ref s.heap.objs.size, .ref l], []⟩) (wants (Fil w s ns) E) (sl w s) := by
  have big : its.size = ns.length := by rw [← IntsAre.length hi, Array.length_toList]
  have L2' : (sl w s).heap.IsList l its := hl.at fun o e => sl_up e
  have tl := F.sub_list_set
  have tf := F.sub_list_frozenset
  have nd : (Value.type "list" == Value.type "dict") = false := by decide
  obtain ⟨ol, e0, e1, n, e2⟩ := id L2'
  obtain ⟨oc, od, ox, os⟩ := ol
  dsimp only at e1 e2
  subst e1 e2
  have at0 : (sl w s).heap.get? s.heap.objs.size = some { cls := .type "set", dict := none, data := .set #[] 0 (.fresh 0 0 (!w.params.followText "set-order")) } := sl_at
  refine codeAny_call_builtin F.called_set.init.plain F.entry_set_init (check_set_init_1 ⟨_, sl_at, rfl⟩ ?_)
  unfold Builtin.«set.__init__» noKeywords Builtin.Frozenset.updateFrom
  generalize hPI : pyIter = PI
  wp_walk
  subst hPI
  have lt : l < s.heap.objs.size := by
    obtain ⟨o, e, _⟩ := id hl
    exact Heap.lt_size e
  have eq2 : (sl w s).heap.objs.size = s.heap.objs.size + 1 := sl_size
  have far : l ≠ (sl w s).heap.objs.size := by rw [eq2]; exact Nat.ne_of_lt (Nat.lt_succ_of_lt lt)
  have out : s.heap.objs.size ∉ [(sl w s).heap.objs.size, l] := by
    rw [eq2, List.mem_cons, List.mem_singleton]
    rintro (z | z)
    · exact absurd z (Nat.ne_of_lt (Nat.lt_succ_self _))
    · exact absurd z (Nat.ne_of_gt lt)
  refine wpAny_pyIter_list L2' ?_
  refine wpAny_bind (wpAny_runValue ?_)
  have fine : A.in1.in1.handled = none := by simp [hh]
  have item : ∀ (i : Nat) (v : Value), its[i]? = some v → ∃ k t, ns[i]? = some k ∧ v = .int k t := fun i v hv => by
    have il : i < ns.length := by rw [← big]; exact (Array.getElem?_eq_some_iff.mp hv).1
    obtain ⟨t, e⟩ := IntsAre.int_at hi i v (by rw [Array.getElem?_toList]; exact hv)
    refine ⟨ns[i], t, List.getElem?_eq_getElem il, ?_⟩
    rw [e, List.getD_eq_getElem?_getD, List.getElem?_eq_getElem il] <;> rfl
  refine set_update_ints ((Walks.list fine _ l far its).toS) s.heap.objs.size out ns big hb item (its.size - 0) 0 _ (by omega) (Nat.zero_le _) ?zs ?z0 fun s3 c mv le rs => ?_
  case zs => exact ⟨⟨_, Heap.get?_push_size _ rfl, rfl, rfl⟩, L2'.push _⟩
  case z0 => exact ⟨0, Nat.le_refl 0, setR_new_at (Heap.get?_push_of_some _ at0)⟩
  obtain ⟨h3, g3, d3, t3, o3⟩ := s3
  have eg : g3 = s.gens := mv.gens
  have ed : d3 = s.drawn := mv.drawn
  have eo : o3 = s.os := mv.os
  subst eg ed eo
  show wpAny _ _ _ _ _ _
  refine wpAny_pure ?_
  show wpAny _ _ (ret Value.none) _ _ _
  refine wpAny_pure ⟨rfl, h3, t3, c, rfl, rs, by rw [← big]; exact le, fun b o e => ?_⟩
  have bl : b < s.heap.objs.size := Heap.lt_size e
  refine mv.heap b o ?_ (Heap.get?_push_of_some _ (sl_up e))
  rw [List.mem_cons, List.mem_singleton]
  rintro (z | z)
  · exact absurd z (Nat.ne_of_lt bl)
  · rw [z, eq2] at bl; exact absurd bl (Nat.not_lt_of_lt (Nat.lt_succ_self _))
set_option maxHeartbeats 3200000 in
theorem set_of_list {l : Addr} {its : Array Value} (ns : List Int) {Q : Value → Shared → Prop} (hh : A.handled = none) (hl : s.heap.IsList l its) (hi : IntsAre its.toList ns) (hb : ns.length + 1 < scanBound)
    (q : ∀ (h' : Heap) (tk c : Nat), SetR w h' s.heap.objs.size (fun j => decide (j ∈ ns)) c → c ≤ ns.length → (∀ b o, s.heap.get? b = some o → h'.get? b = some o) → Q (.ref s.heap.objs.size) { s with heap := h', toks := tk }) :
    wpAny (model P w) A (call (.type "set") [.ref l]) Q E s := by
  obtain ⟨c, tl, mro⟩ := F.called_set.mro
  have made := F.called_set.made
  have sub := F.called_set.sub
  have nt := F.called_set.notType
  have cc := F.called_set.canCreate
  have tc := F.typeCall_set_1 (.ref l)
  refine wpAny_call (codeAny_of_tree (show wpAny _ _ (callAny (.type "set") _) _ _ _ from wpAny_pure ⟨Code.quiet_builtin _ (by decide +kernel), codeAny_builtin F.entry_type_call ?_⟩))
  rw [Around.under_plain (weight_type_call_type "set" [.ref l] []) rfl]
  repeat (any_goals (first | assumption | wp_step))
  refine codeAny_mono (code_set_led1 (.ref l) (E := E) (Q₁ := fun o s1 => o = .ref s.heap.objs.size ∧ s1 = sl w s) ⟨rfl, rfl⟩) fun r s1 hr => ?_
  match r, hr with
  | .error e, hr => exact hr
  | .ok (.ret o), ⟨e1, e2⟩ =>
    subst e1 e2
    have ty : Shared.TypeIs (sl w s) (.ref s.heap.objs.size) "set" := ⟨_, sl_at, rfl⟩
    have look := F.called_set.init.lookup
    have bind := F.called_set.init.bind (.ref s.heap.objs.size)
    repeat (any_goals (first | assumption | wp_step))
    refine codeAny_mono (fill_list (E := E) ns (by simp [hh]) hl hi hb) fun r2 s2 hr2 => ?_
    match r2, hr2 with
    | .error e, hr2 => exact hr2
    | .ok (.ret v), ⟨e1, h', tk, c', e2, rs, le, kp⟩ =>
      subst e1 e2
      repeat (any_goals (first | assumption | wp_step))
      exact q _ _ _ rs le kp
end
end Bay

set_option Elab.async false
set_option linter.all false
set_option maxRecDepth 100000
/-! Bay: list(zip(xs, ys)), two lists. -/
namespace Bay
open PySem PySem.Spec PyProof.Rows L2

theorem zip_no_len : typeLookup (.type "zip") "__len__" = pure none := am_miss_of_fast (by decide +kernel)
theorem zip_no_hint : typeLookup (.type "zip") "__length_hint__" = pure none := am_miss_of_fast (by decide +kernel)
theorem zip_not_list : (Value.type "zip" == Value.type "list") = false := by decide
theorem zip_not_tuple : (Value.type "zip" == Value.type "tuple") = false := by decide
/-- the zip before turn i: nothing is out yet, or the last pair is -/
def ZAt (S : Addr) (h : Heap) (z TI TO i1 i2 l1 l2 : Addr) (i : Nat) : Prop :=
  ((∃ x y, IsZip h z TI TO .none ∧ IsPair h TO x y) ∨ ∃ T f o, IsZipHeld h z TI TO T f ∧ h.get? T = some o ∧ T ≠ z ∧ T ≠ TO ∧ T ≠ i1 ∧ T ≠ i2 ∧ T ≠ S) ∧ IsPair h TI (.ref i1) (.ref i2) ∧ h.IsListIter i1 l1 i ∧ h.IsListIter i2 l2 i
section
variable {P : Program} {w : World} {A : Around} {E : Value → Shared → Prop} {s : Shared} {S z TI TO i1 i2 l1 l2 : Addr} {i : Nat} {us ws : Array Value} {Q : Option Value → Shared → Prop}
theorem zat_type (h : ZAt S s.heap z TI TO i1 i2 l1 l2 i) : s.TypeIs (.ref z) "zip" := by
  rcases h.1 with ⟨_, _, q, _⟩ | ⟨_, _, _, q, _⟩ <;> exact ⟨_, q, rfl⟩
/-- one turn -/
theorem zat_item (D : ZipApart z TI TO i1 i2 l1 l2) (h : ZAt S s.heap z TI TO i1 i2 l1 l2 i) (hl1 : s.heap.IsList l1 us) (hl2 : s.heap.IsList l2 ws) {x y : Value} (hx : us[i]? = some x) (hy : ws[i]? = some y) (hzl : z < s.heap.objs.size ∧ TO < s.heap.objs.size ∧ i1 < s.heap.objs.size ∧ i2 < s.heap.objs.size ∧ S < s.heap.objs.size)
    (q : ∀ h', ZAt S h' z TI TO i1 i2 l1 l2 (i + 1) → IsPair h' s.heap.objs.size x y → h'.objs.size = s.heap.objs.size + 1 → (∀ c o, c ≠ z → c ≠ TO → c ≠ i1 → c ≠ i2 → s.heap.get? c = some o → h'.get? c = some o) → Q (some (.ref s.heap.objs.size)) { s with heap := h' }) :
    wpAny (model P w) A (pyNext (.ref z)) Q E s := by
  obtain ⟨hz, hTI, h1, h2⟩ := h
  rcases hz with ⟨a, b, hz, hTO⟩ | ⟨T, f, o, hz, hT, n1, n2, n3, n4, n5⟩
  · refine wpAny_pyNext_zip_item D hz hTI hTO h1 h2 hl1 hl2 hx hy fun h' a1 a2 a3 a4 a5 a6 a7 => ?_
    refine q h' ⟨.inr ⟨s.heap.objs.size, false, _, a1, a5, Nat.ne_of_gt hzl.1, Nat.ne_of_gt hzl.2.1, Nat.ne_of_gt hzl.2.2.1, Nat.ne_of_gt hzl.2.2.2.1, Nat.ne_of_gt hzl.2.2.2.2⟩, a7 _ _ D.TIz D.TITO D.TIi1 D.TIi2 hTI, a3, a4⟩ a5 a6 a7
  · refine wpAny_pyNext_zip_item_held D hz hT hTI h1 h2 hl1 hl2 hx hy fun h' a1 a3 a4 a5 a6 a7 => ?_
    exact q h' ⟨.inr ⟨T, true, o, a1, a7 _ _ n1 n3 n4 hT, n1, n2, n3, n4, n5⟩, a7 _ _ D.TIz D.TIi1 D.TIi2 hTI, a3, a4⟩ a5 a6 fun c o c1 _ c3 c4 => a7 c o c1 c3 c4
theorem zat_end (hh : A.handled = none) (D : ZipApart z TI TO i1 i2 l1 l2) (h : ZAt S s.heap z TI TO i1 i2 l1 l2 i) (hl1 : s.heap.IsList l1 us) (hl2 : s.heap.IsList l2 ws) (he : us[i]? = none ∨ ws[i]? = none)
    (q : ∀ h', (∀ c o, c ≠ z → c ≠ TO → c ≠ i1 → c ≠ i2 → s.heap.get? c = some o → h'.get? c = some o) → Q none { s with heap := h' }) :
    wpAny (model P w) A (pyNext (.ref z)) Q E s := by
  obtain ⟨hz, hTI, h1, h2⟩ := h
  rcases hz with ⟨a, b, hz, hTO⟩ | ⟨T, f, o, hz, hT, n1, n2, n3, n4, n5⟩
  · exact wpAny_pyNext_zip_end hh D hz hTI hTO h1 h2 hl1 hl2 he q
  · exact wpAny_pyNext_zip_end_held hh D hz hT hTI h1 h2 hl1 hl2 he fun h' k => q h' fun c o c1 _ c3 c4 => k c o c1 c3 c4
theorem zat_keep {h h' : Heap} (a : ZAt S h z TI TO i1 i2 l1 l2 i) (ns : S ≠ z ∧ S ≠ TI ∧ S ≠ TO ∧ S ≠ i1 ∧ S ≠ i2) (k : ∀ b o, b ≠ S → h.get? b = some o → h'.get? b = some o) : ZAt S h' z TI TO i1 i2 l1 l2 i := by
  obtain ⟨hz, hTI, h1, h2⟩ := a
  refine ⟨?_, k _ _ (Ne.symm ns.2.1) hTI, h1.at fun o e => k _ _ (Ne.symm ns.2.2.2.1) e, h2.at fun o e => k _ _ (Ne.symm ns.2.2.2.2) e⟩
  rcases hz with ⟨x, y, q1, q2⟩ | ⟨T, f, o, q1, q2, r⟩
  · exact .inl ⟨x, y, k _ _ (Ne.symm ns.1) q1, k _ _ (Ne.symm ns.2.2.1) q2⟩
  · exact .inr ⟨T, f, o, k _ _ (Ne.symm ns.1) q1, k _ _ r.2.2.2.2 q2, r⟩
end
section
variable {X : Cx} {pins : List (Addr × Obj)} {σ : L2.St} {z TI TO i1 i2 a b S : Addr} {H1 : Hp} {xs ys : List V} {A : Around} {R : Result → Shared → Prop}
/-- what is kept while the pairs are laid -/
structure LJ (X : Cx) (pins : List (Addr × Obj)) (z TI TO i1 i2 S : Addr) (H1 : Hp) (xs ys : List V) (H : Hp) (refs : List V) (i : Nat) : Prop where
  at_ : H S = some (.lst refs)
  len : refs.length = i
  ext : ∀ c u, H1 c = some u → H c = some u
  pr : ∀ (j : Nat) (v : V), refs[j]? = some v → ∃ T x y, v = V.ref T ∧ H1 T = none ∧ T ≠ S ∧ xs[j]? = some x ∧ ys[j]? = some y ∧ H T = some (.tup [x, y])
  fp : ∀ c ∈ [z, TI, TO, i1, i2], FpOk X pins H c
theorem sq_ext {K : PySem.W.Frag} {H H' : Hp} {a : Addr} {xs : List V} (e : ∀ c u, H c = some u → H' c = some u) (h : SqL K H a xs) : SqL K H' a xs := by
  rcases h with (q | ⟨o, q⟩) | q
  · exact .inl (.inl (e _ _ q))
  · exact .inl (.inr ⟨o, e _ _ q⟩)
  · exact .inr q
set_option maxHeartbeats 1600000 in
theorem zip_loop (D : ZipApart z TI TO i1 i2 a b) (ns : S ≠ z ∧ S ≠ TI ∧ S ≠ TO ∧ S ≠ i1 ∧ S ≠ i2) (hxs : SqL X.K H1 a xs) (hys : SqL X.K H1 b ys) (n0 : H1 S = none) (hz : xs.length ≤ sizeLine) (N : Nat) (hN : z < N ∧ TI < N ∧ TO < N ∧ i1 < N ∧ i2 < N ∧ S < N) (hh : A.in1.handled = none) :
    ∀ (k i : Nat) (s : Shared) (H : Hp) (refs : List V), min xs.length ys.length - i = k → i ≤ min xs.length ys.length → N ≤ s.heap.objs.size → Inv X pins σ H s → ZAt S s.heap z TI TO i1 i2 a b i → LJ X pins z TI TO i1 i2 S H1 xs ys H refs i →
      (∀ (s' : Shared) (H' : Hp) (refs' : List V), Inv X pins σ H' s' → LJ X pins z TI TO i1 i2 S H1 xs ys H' refs' (min xs.length ys.length) → R (.ok (.ret .none)) s') →
      codeAny (model X.prog X.w) A (.builtin "list.extend.loop" ⟨[.ref S, .ref z, .none], []⟩) R s := by
  intro k
  induction k with
  | zero =>
    intro i s H refs hk hi hN2 I za J hR
    have e : i = min xs.length ys.length := by omega
    subst e
    obtain ⟨its, rv, p, _⟩ := I.list (sq_ext J.ext hxs)
    obtain ⟨its2, rv2, p2, _⟩ := I.list (sq_ext J.ext hys)
    have e1 := rv.length
    have e2 := rv2.length
    refine codeAny_builtin F.entry_extend_loop ?_
    rw [Around.under_plainId F.plain_extend_loop _]
    show wpAny _ A.in1 (pyNext (.ref z) >>= _) _ _ s
    refine wpAny_bind (zat_end hh D za p.isList p2.isList ?_ fun h' kp => ?_)
    · rcases Nat.le_total xs.length ys.length with q | q
      · exact .inl (by simp; omega)
      · exact .inr (by simp; omega)
    · have I2 : Inv X pins σ H { s with heap := h' } := I.turnedL (t' := s.toks) (ch := [z, TI, TO, i1, i2]) (fun c o hb q => kp c o (fun q' => hb (by simp [q'])) (fun q' => hb (by simp [q'])) (fun q' => hb (by simp [q'])) (fun q' => hb (by simp [q'])) q) J.fp
      exact wpAny_pure (hR _ H refs I2 J)
  | succ k ih =>
    intro i s H refs hk hi hN2 I za J hR
    have hx : i < xs.length := by omega
    have hy : i < ys.length := by omega
    have qx := sq_ext J.ext hxs
    have qy := sq_ext J.ext hys
    obtain ⟨its, rv, p, _⟩ := I.list qx
    obtain ⟨its2, rv2, p2, _⟩ := I.list qy
    obtain ⟨u, hu, ru⟩ := rv.get (List.getElem?_eq_getElem hx)
    obtain ⟨u2, hu2, ru2⟩ := rv2.get (List.getElem?_eq_getElem hy)
    have far : ∀ c ∈ [z, TI, TO, i1, i2], c < s.heap.objs.size := fun c hc => by
      refine Nat.lt_of_lt_of_le ?_ hN2
      simp only [List.mem_cons, List.not_mem_nil, or_false] at hc
      rcases hc with rfl | rfl | rfl | rfl | rfl
      · exact hN.1
      · exact hN.2.1
      · exact hN.2.2.1
      · exact hN.2.2.2.1
      · exact hN.2.2.2.2.1
    have lS : S < s.heap.objs.size := Nat.lt_of_lt_of_le hN.2.2.2.2.2 hN2
    refine codeAny_builtin F.entry_extend_loop ?_
    rw [Around.under_plainId F.plain_extend_loop _]
    show wpAny _ A.in1 (pyNext (.ref z) >>= _) _ _ s
    refine wpAny_bind (zat_item D za p.isList p2.isList (x := u) (y := u2) (by simpa using hu) (by simpa using hu2) ⟨far z (by simp), far TO (by simp), far i1 (by simp), far i2 (by simp), lS⟩ fun h' za' pr sz kp => ?_)
    have fresh : H s.heap.objs.size = none := I.hok.fresh (Nat.le_refl _)
    have new : ObjOk X.prog X.w (upd H s.heap.objs.size (.tup [xs[i], ys[i]])) h' s.heap.objs.size (.tup [xs[i], ys[i]]) :=
      ⟨by show 2 ≤ sizeLine; decide, [u, u2], .cons ru (.cons ru2 .nil), ⟨_, pr, rfl, _, rfl⟩⟩
    have I1 : Inv X pins σ (upd H s.heap.objs.size (.tup [xs[i], ys[i]])) { s with heap := h' } :=
      I.turnedNew (t' := s.toks) (ch := [z, TI, TO, i1, i2]) (fun c o hb q => kp c o (fun q' => hb (by simp [q'])) (fun q' => hb (by simp [q'])) (fun q' => hb (by simp [q'])) (fun q' => hb (by simp [q'])) q) J.fp (Nat.le_refl _) new
    have hS1 : upd H s.heap.objs.size (.tup [xs[i], ys[i]]) S = some (.lst refs) := by rw [upd_ne (Nat.ne_of_lt lS)]; exact J.at_
    obtain ⟨hz1, il, n, vl, ll, el⟩ := I1.lstM hS1
    have small : (refs ++ [V.ref s.heap.objs.size]).length ≤ sizeLine := by rw [List.length_append, J.len]; show i + 1 ≤ sizeLine; omega
    have I2 := I1.lset (its' := il ++ [.ref s.heap.objs.size]) (ys := refs ++ [V.ref s.heap.objs.size]) (f := (·.push (.ref s.heap.objs.size))) (t' := s.toks) hS1 el (by simp) (vl.append (.cons (show RelV (V.ref s.heap.objs.size) (.ref s.heap.objs.size) from rfl) .nil)) small
    show wpAny _ A.in1 (updateSeq S (·.push (.ref s.heap.objs.size)) >>= _) _ _ _
    have hil : il.toArray.size ≤ sizeLine := by rw [List.size_toArray, ← ll]; exact hz1
    refine wpAny_bind (wpAny_updateSeq el rfl (wpAny_pure ⟨plainId_quiet F.plain_extend_loop _, ?_⟩) hil (by show (il.toArray.push (Value.ref s.heap.objs.size)).size ≤ sizeLine + 1; rw [Array.size_push]; omega))
    refine ih (i + 1) _ _ (refs ++ [V.ref s.heap.objs.size]) (by omega) (by omega) ?_ I2 (zat_keep za' ns fun c o hc e => (Heap.get?_update_other _ _ (Ne.symm hc)).trans e) ⟨upd_same, by rw [List.length_append, J.len]; rfl, fun c v e => ?_, fun j v e => ?_, fun c hc => ?_⟩ hR
    · show N ≤ (h'.update S _).objs.size
      rw [Heap.size_update, sz]; omega
    · rw [upd_ne (fun q => by rw [q, n0] at e; cases e), upd_ne (fun q => by rw [q] at e; rw [J.ext _ _ e] at fresh; cases fresh)]
      exact J.ext c v e
    · rw [List.getElem?_append] at e
      by_cases hj : j < refs.length
      · rw [if_pos hj] at e
        obtain ⟨T, x, y, g1, g2, g3, g4, g5, g6⟩ := J.pr j v e
        refine ⟨T, x, y, g1, g2, g3, g4, g5, ?_⟩
        rw [upd_ne g3, upd_ne (fun q => by rw [q, fresh] at g6; cases g6)]
        exact g6
      · rw [if_neg hj] at e
        have ej : j = i := by
          have : j - refs.length < 1 := by
            rcases List.getElem?_eq_some_iff.mp e with ⟨q, _⟩
            simpa using q
          have := J.len
          omega
        subst ej
        rw [J.len, Nat.sub_self] at e
        cases e
        refine ⟨s.heap.objs.size, xs[j], ys[j], rfl, ?_, Nat.ne_of_gt lS, List.getElem?_eq_getElem hx, List.getElem?_eq_getElem hy, ?_⟩
        · cases q : H1 s.heap.objs.size with
          | none => rfl
          | some v => rw [J.ext _ _ q] at fresh; cases fresh
        · rw [upd_ne (Nat.ne_of_gt lS), upd_same]
    · obtain ⟨f1, f2⟩ := J.fp c hc
      refine ⟨?_, f2⟩
      have hc' : c ≠ S := by
        simp only [List.mem_cons, List.not_mem_nil, or_false] at hc
        rcases hc with rfl | rfl | rfl | rfl | rfl
        · exact Ne.symm ns.1
        · exact Ne.symm ns.2.1
        · exact Ne.symm ns.2.2.1
        · exact Ne.symm ns.2.2.2.1
        · exact Ne.symm ns.2.2.2.2
      rw [upd_ne hc', upd_ne (Nat.ne_of_lt (far c hc))]
      exact f1
end
section
variable {P : Program} {w : World} {A : Around} {s : Shared} {R : Result → Shared → Prop} {z TI TO S : Addr} {v : Value}
/-- list.__init__ over a zip, to its loop -/
theorem list_init_zip (hS : s.heap.get? S = some { cls := .type "list", data := .seq #[] }) (hz : IsZip s.heap z TI TO .none) (ne : S ≠ z)
    (hR : ∀ h', (∀ b o, b ≠ S → s.heap.get? b = some o → h'.get? b = some o) → (∃ n, h'.get? S = some { cls := .type "list", data := .seq #[] n }) → h'.objs.size = s.heap.objs.size →
      codeAny (model P w) A (.builtin "list.extend.loop" ⟨[.ref S, .ref z, .none], []⟩) R { s with heap := h' }) :
    wpAny (model P w) A.in1 (Builtin.«list.__init__» ⟨[.ref S, .ref z], []⟩)
      (fun fin s' => match fin with
        | .done f => R (.ok f) s'
        | .again c' => c'.quiet = true ∧ codeAny (model P w) A c' R s') (fun e s' => R (.error e) s') s := by
  show wpAny _ A.in1 (Builtin.List.listItems (.ref S) >>= fun old => Builtin.List.listUpdate (.ref S) (fun _ => #[]) >>= fun _ => letGo old.toList.reverse >>= fun _ =>
    Builtin.List.listExtendWith (.ref S) (.ref z) .none) _ _ s
  refine wpAny_bind ?_
  unfold Builtin.List.listItems
  refine wpAny_bind (wpAny_seqItems hS rfl (wpAny_pure ?_))
  show wpAny _ A.in1 (updateSeq S (fun _ => #[]) >>= fun _ => letGo ([] : List Value) >>= fun _ => Builtin.List.listExtendWith (.ref S) (.ref z) .none) _ _ s
  refine wpAny_bind (wpAny_updateSeq hS rfl ?_)
  refine wpAny_bind (wpAny_letGo ?_)
  have hS2 := Heap.get?_update_self (Obj.mapSeq (fun _ => (#[] : Array Value))) hS rfl
  have k2 : ∀ b o, b ≠ S → s.heap.get? b = some o → (s.heap.update S (Obj.mapSeq (fun _ => (#[] : Array Value)))).get? b = some o := fun b o hb e => (Heap.get?_update_other _ _ (Ne.symm hb)).trans e
  have z2 : (s.heap.update S (Obj.mapSeq (fun _ => (#[] : Array Value)))).objs.size = s.heap.objs.size := Heap.size_update ..
  generalize s.heap.update S (Obj.mapSeq (fun _ => (#[] : Array Value))) = h2 at hS2 k2 z2 ⊢
  have hz2 := k2 _ _ (Ne.symm ne) hz
  have ty : ∀ s' : Shared, s'.heap = h2 → s'.TypeIs (.ref z) "zip" := fun s' e => ⟨_, by rw [e]; exact hz2, rfl⟩
  unfold Builtin.List.listExtendWith
  refine wpAny_bind (wpAny_typeOf (ty _ rfl) ?_)
  have h1 : Builtin.List.listSameRef (.ref S) (.ref z) = false := by simp [Builtin.List.listSameRef, ne]
  simp only [h1, zip_not_list, zip_not_tuple, Bool.or_false, Bool.false_eq_true, if_false]
  refine wpAny_bind (wpAny_pyIter_zip hz2 ?_)
  refine wpAny_bind (wpAny_holding ?_)
  unfold Builtin.List.listLengthHint
  refine wpAny_bind (wpAny_specialOf (ty _ rfl) zip_no_len ?_)
  show wpAny _ A.in1 (specialOf (Value.ref z) (Str.ofString "__length_hint__") >>= _) _ _ _
  refine wpAny_bind (wpAny_specialOf (ty _ rfl) zip_no_hint ?_)
  refine wpAny_pure ?_
  rw [Bool.true_or, if_pos rfl]
  refine wpAny_bind (wpAny_rule (wpAny_bind ?_))
  show wpAny _ A.in1 (updateSeq S (·.push .none) >>= fun _ => updateSeq S (·.pop)) _ _ _
  refine wpAny_bind (wpAny_updateSeq hS2 rfl ?_)
  have hS3 := Heap.get?_update_self (Obj.mapSeq (·.push Value.none)) hS2 rfl
  refine wpAny_updateSeq (hz := by seq_fits) hS3 rfl ?_
  have hS4 := Heap.get?_update_self (Obj.mapSeq (·.pop)) hS3 rfl
  refine wpAny_pure ⟨plainId_quiet F.plain_extend_loop _, hR _ (fun b o hb e => ?_) ⟨_, hS4⟩ ?_⟩
  · exact (Heap.get?_update_other _ _ (Ne.symm hb)).trans ((Heap.get?_update_other _ _ (Ne.symm hb)).trans (k2 b o hb e))
  · rw [Heap.size_update, Heap.size_update, z2]
end
section
variable {X : Cx} {ta : TA} {e e2 : Expr} {p p2 pos pos2 : Pos}
def tLZ (K : PySem.W.Frag) (ta : TA) : TE := fun σ H Q => ta σ H fun vs H1 => ∃ a b xs ys, vs = [V.ref a, V.ref b] ∧ SqL K H1 a xs ∧ SqL K H1 b ys ∧
  ∀ (H2 : Hp) (p : Addr) (refs : List V), H1 p = none → H2 p = some (.lst refs) → refs.length = min xs.length ys.length → (∀ c u, H1 c = some u → H2 c = some u) →
    (∀ (j : Nat) (v : V), refs[j]? = some v → ∃ T x y, v = V.ref T ∧ H1 T = none ∧ T ≠ p ∧ xs[j]? = some x ∧ ys[j]? = some y ∧ H2 T = some (.tup [x, y])) → Q (.ref p) H2
/-- a zip is made -/
structure ZMade (X : Cx) (pins : List (Addr × Obj)) (σ : L2.St) (Q : VK) (v : Value) (s' : Shared) (z TI TO i1 i2 a b : Addr) (xs ys : List V) (H1 : Hp) : Prop where
  v : v = .ref z
  inv : Inv X pins σ H1 s'
  ap : ZipApart z TI TO i1 i2 a b
  hz : IsZip s'.heap z TI TO .none
  at_ : ∀ S, S = s'.heap.objs.size → ZAt S s'.heap z TI TO i1 i2 a b 0
  lt : ∀ c ∈ [z, TI, TO, i1, i2], c < s'.heap.objs.size
  fp : ∀ c ∈ [z, TI, TO, i1, i2], FpOk X pins H1 c
  sx : SqL X.K H1 a xs
  sy : SqL X.K H1 b ys
  q : ∀ (H2 : Hp) (p : Addr) (refs : List V), H1 p = none → H2 p = some (.lst refs) → refs.length = min xs.length ys.length → (∀ c u, H1 c = some u → H2 c = some u) →
    (∀ (j : Nat) (v : V), refs[j]? = some v → ∃ T x y, v = V.ref T ∧ H1 T = none ∧ T ≠ p ∧ xs[j]? = some x ∧ ys[j]? = some y ∧ H2 T = some (.tup [x, y])) → Q (.ref p) H2
theorem zip_made {pins : List (Addr × Obj)} {σ : L2.St} {H : Hp} {s : Shared} {Q : VK} (hg : Gl X "zip") (hm : X.mg "zip" = none) (ha : PA X [e, e2] ta)
    (hs : starEach [e, e2] X.env = (false, eval e X.env) :: starEach [e2] X.env) (hpl : (backTo pos2 (starEach [e2] X.env)).any (·.1) = false) (I : Inv X pins σ H s) (h : tLZ X.K ta σ H Q) :
    wpAny (model X.prog X.w) X.A (eval (.Call (.Name "zip" p2) [e, e2] [] pos2) X.env) (fun v s' => ∃ z TI TO i1 i2 a b xs ys H1, ZMade X pins σ Q v s' z TI TO i1 i2 a b xs ys H1) X.xe s := by
  refine Call_ (ld_blt I hg hm PyProof.Rows.boot_zip (PyProof.Rows.callWith_type1 (thn (ha.run pos2 pins s σ H _ I h) fun us s1 ⟨vs, H1, I1, r1, q1⟩ => ?_) hs hpl))
  obtain ⟨a, b, xs, ys, ex, hqx, hqy, q⟩ := q1
  subst ex
  have two : us = [Value.ref a, Value.ref b] := by
    cases r1 with
    | cons r rr =>
      cases rr with
      | cons r' rr =>
        cases rr
        cases r
        cases r'
        rfl
  subst two
  obtain ⟨its, rv, p1, hz1⟩ := I1.list hqx
  obtain ⟨its2, rv2, p2, hz2⟩ := I1.list hqy
  have la : a < s1.heap.objs.size := p1.lt
  have lb : b < s1.heap.objs.size := p2.lt
  refine call_zip_2 p1.isList p2.isList fun h' hz hTI hTO h1 h2 hsz hk => ?_
  have I2 : Inv X pins σ H1 { s1 with heap := h' } := I1.kept (t' := s1.toks) hk
  have five : ∀ c ∈ [s1.heap.objs.size + 4, s1.heap.objs.size + 2, s1.heap.objs.size + 3, s1.heap.objs.size, s1.heap.objs.size + 1], s1.heap.objs.size ≤ c ∧ c < s1.heap.objs.size + 5 := fun c hcm => by
    simp only [List.mem_cons, List.not_mem_nil, or_false] at hcm
    rcases hcm with z | z | z | z | z <;> rw [z] <;> exact ⟨by first | exact Nat.le_add_right _ _ | exact Nat.le_refl _, by first | exact Nat.add_lt_add_left (by decide) _ | exact Nat.lt_add_of_pos_right (by decide)⟩
  exact ⟨_, _, _, _, _, a, b, xs, ys, H1, rfl, I2, PySem.W.ktu_apart s1.heap.objs.size a b la lb, hz, fun S _ => ⟨.inl ⟨_, _, hz, hTO⟩, hTI, h1, h2⟩, fun c hc => by
    show c < h'.objs.size
    rw [hsz]; exact (five c hc).2, fun c hc => I1.fpOk (five c hc).1 (I1.hok.fresh (five c hc).1), hqx, hqy, q⟩
theorem pe_listZip (hc : X.calm = true) (hgl : Gl X "list") (hml : X.mg "list" = none) (hg : Gl X "zip") (hm : X.mg "zip" = none) (ha : PA X [e, e2] ta)
    (hs : starEach [e, e2] X.env = (false, eval e X.env) :: starEach [e2] X.env) (hpl : (backTo pos2 (starEach [e2] X.env)).any (·.1) = false)
    (na : starEach [Expr.Call (.Name "zip" p2) [e, e2] [] pos2] X.env = (false, eval (.Call (.Name "zip" p2) [e, e2] [] pos2) X.env) :: starEach [] X.env := by rfl) :
    PE X (.Call (.Name "list" p) [.Call (.Name "zip" p2) [e, e2] [] pos2] [] pos) (tLZ X.K ta) := by
  refine ⟨fun pins s σ H Q I h => ?_⟩
  refine Call_ (ld_blt I hgl hml PyProof.Rows.boot_list (PyProof.Rows.callWith_type1 (PyProof.Rows.args_cons (thn (zip_made hg hm ha hs hpl I h) fun v s1 M => PyProof.Rows.args_nil ?_) na) na))
  obtain ⟨z, TI, TO, i1, i2, a, b, xs, ys, H1, M⟩ := M
  rw [M.v]
  have I := M.inv
  have hd := I.ok.hd hc
  refine callType_codes (Q₁ := fun o s2 => o = .ref s1.heap.objs.size ∧ s2 = { s1 with heap := s1.heap.push { cls := .type "list", data := .seq #[] } }) F.called_list (F.typeCall_list_1 _) F.entry_list_init (code_list_new _ ⟨rfl, rfl⟩) fun o s2 h2 => ?_
  obtain ⟨eo, es⟩ := h2
  subst eo es
  have hS : (s1.heap.push { cls := .type "list", data := .seq #[] }).get? s1.heap.objs.size = some { cls := .type "list", data := .seq #[] } := Heap.get?_push_size _ rfl
  have ns : ∀ c ∈ [z, TI, TO, i1, i2], s1.heap.objs.size ≠ c := fun c hcm => Nat.ne_of_gt (M.lt c hcm)
  have n0 : H1 s1.heap.objs.size = none := I.hok.fresh (Nat.le_refl _)
  have IL : Inv X pins σ (upd H1 s1.heap.objs.size (.lst [])) { s1 with heap := s1.heap.push { cls := .type "list", data := .seq #[] } } := I.lnew (its := []) (t' := s1.toks) .nil (Nat.zero_le _)
  refine ⟨⟨_, hS, rfl⟩, F.args_list_init_2 _ _, list_init_zip hS (Heap.get?_push_of_some _ M.hz) (ns z (by simp)) fun h3 k3 ⟨n3, hS3⟩ z3 => ?_⟩
  have I3 : Inv X pins σ (upd H1 s1.heap.objs.size (.lst [])) { s1 with heap := h3 } := by
    have q := IL.write (x := s1.heap.objs.size) (e := s1.heap.objs.size) (o := .lst []) (t' := s1.toks) (h' := h3) (by rw [upd_same]; exact trivial) (.inl rfl) (fun b o hb e => k3 b o hb e) ⟨_, hS3⟩ ⟨Nat.zero_le _, [], n3, .nil, hS3⟩
    have e0 : upd (upd H1 s1.heap.objs.size (.lst [])) s1.heap.objs.size (.lst []) = upd H1 s1.heap.objs.size (.lst []) := by
      funext c
      by_cases hcc : c = s1.heap.objs.size
      · rw [hcc, upd_same, upd_same]
      · rw [upd_ne hcc]
    rw [e0] at q
    exact q
  have za : ZAt s1.heap.objs.size h3 z TI TO i1 i2 a b 0 := by
    refine zat_keep (M.at_ _ rfl) ⟨ns z (by simp), ns TI (by simp), ns TO (by simp), ns i1 (by simp), ns i2 (by simp)⟩ fun c o hcc e => k3 c o hcc (Heap.get?_push_of_some _ e)
  obtain ⟨its, rv, p1, hz1⟩ := I.list M.sx
  have sz3 : h3.objs.size = s1.heap.objs.size + 1 := by rw [z3]; exact Heap.size_push ..
  refine zip_loop (H1 := H1) (xs := xs) (ys := ys) M.ap ⟨ns z (by simp), ns TI (by simp), ns TO (by simp), ns i1 (by simp), ns i2 (by simp)⟩ M.sx M.sy n0 hz1 (s1.heap.objs.size + 1)
    ⟨Nat.lt_succ_of_lt (M.lt z (by simp)), Nat.lt_succ_of_lt (M.lt TI (by simp)), Nat.lt_succ_of_lt (M.lt TO (by simp)), Nat.lt_succ_of_lt (M.lt i1 (by simp)), Nat.lt_succ_of_lt (M.lt i2 (by simp)), Nat.lt_succ_self _⟩ (by simp [hd])
    _ 0 _ _ [] rfl (Nat.zero_le _) (Nat.le_of_eq sz3.symm) I3 za ⟨upd_same, rfl, fun c u e => ?_, fun j v e => by simp at e, fun c hcm => ?_⟩ fun s' H' refs I' J => ?_
  · rw [upd_ne (fun q => by rw [q, n0] at e; cases e)]; exact e
  · obtain ⟨f1, f2⟩ := M.fp c hcm
    exact ⟨by rw [upd_ne (Ne.symm (ns c hcm))]; exact f1, f2⟩
  · refine ⟨rfl, .ref s1.heap.objs.size, H', I', rfl, M.q H' _ refs n0 J.at_ J.len J.ext J.pr⟩
end
end Bay

set_option Elab.async false
set_option linter.all false
set_option maxRecDepth 100000
set_option maxHeartbeats 4000000
/-! Bay: a tuple times one, times nothing; the empty one. -/
namespace Bay
open PySem PySem.Spec PyProof.Rows L2
/-- the same one comes back -/
theorem tmul_same (l : Addr) (items : Array Value) (n : Nat) (sl : Array (Option Value)) (dd : Option Addr) (x : Int) (u : Tok) (c0 : (decide (x < -(2 ^ 63)) || decide (x ≥ 2 ^ 63)) = false) (c1 : (items.isEmpty || x == 1) = true) :
    Meets (Builtin.«tuple.__mul__» ⟨[.ref l, .int x u], []⟩) (fun _ R s => s.heap.get? l = some { cls := .type "tuple", dict := dd, data := .seq items n, slots := sl } ∧ R (.ok (.ret (Value.ref l))) s) :=
  .of_wp fun prog w A R s h => by
    obtain ⟨hp, g, d, tk, os⟩ := s
    obtain ⟨hl, h⟩ := h
    have f1 := AutoSeq1.idx_int
    wp_walk using wpAny_loadPart' hl
    refine wpAny_ite_false (decide_eq_false (by rw [c0]; exact Bool.false_ne_true)) ?_
    wp_walk using wpAny_loadPart' hl
    exact ⟨_, rfl, h⟩
/-- none of it is left -/
theorem tmul_none (l : Addr) (items : Array Value) (n : Nat) (sl : Array (Option Value)) (dd : Option Addr) (x : Int) (u : Tok) (c0 : (decide (x < -(2 ^ 63)) || decide (x ≥ 2 ^ 63)) = false) (c1 : (items.isEmpty || x == 1) = false) (c2 : (decide (x ≤ 0) || items.isEmpty) = true) :
    Meets (Builtin.«tuple.__mul__» ⟨[.ref l, .int x u], []⟩) (fun _ R s => s.heap.get? l = some { cls := .type "tuple", dict := dd, data := .seq items n, slots := sl } ∧
      R (.ok (.ret (Value.ref s.heap.objs.size))) { s with heap := s.heap.push { cls := .type "tuple", data := .seq #[] }, toks := s.toks }) :=
  .of_wp fun prog w A R s h => by
    obtain ⟨hp, g, d, tk, os⟩ := s
    obtain ⟨hl, h⟩ := h
    have f1 := AutoSeq1.idx_int
    wp_walk using wpAny_loadPart' hl
    repeat (first
      | (refine wpAny_ite_false (decide_eq_false (by rw [c0]; exact Bool.false_ne_true)) ?_; wp_walk using wpAny_loadPart' hl)
      | (refine wpAny_ite_false (decide_eq_false (by rw [c1]; exact Bool.false_ne_true)) ?_; wp_walk using wpAny_loadPart' hl))
    exact ⟨_, rfl, h⟩
/-- t * k: k is one, or t is empty: t itself; k is nothing or less: an empty one -/
def rRep1 (K : PySem.W.Frag) : R2 := fun x y H Q => ∃ l k xs, x = V.ref l ∧ y = V.int k ∧ SqT K H l xs ∧ (-(2 ^ 63) ≤ k ∧ k < 2 ^ 63) ∧ (((xs = [] ∨ k = 1) ∧ Q (.ref l) H) ∨ (xs ≠ [] ∧ k ≤ 0 ∧ ∀ p, H p = none → Q (.ref p) (upd H p (.tup []))))
section
variable {X : Cx}
theorem op_rep1 : OpR X (binaryOp .Mult) (rRep1 X.K) := by
  intro pins s σ H x y v u Q I rx ry h
  obtain ⟨l, k, xs, rfl, rfl, hT, hk, q⟩ := h
  cases rx
  obtain ⟨t, rfl⟩ := ry
  obtain ⟨its, r, ⟨⟨cls, dd, data, sl⟩, ho, hc, n, hd⟩, hs⟩ := I.tuple hT
  simp only at hc hd
  subst hc hd
  have hle : its.length = xs.length := r.length.symm
  have c0 : (decide (k < -(2 ^ 63)) || decide (k ≥ 2 ^ 63)) = false := by
    rw [decide_eq_false (by omega), decide_eq_false (by omega)] <;> rfl
  have em : its.toArray.isEmpty = decide (xs = []) := by
    cases its with
    | nil => cases xs with
      | nil => rfl
      | cons a b => simp at hle
    | cons a b => cases xs with
      | nil => simp at hle
      | cons c d => rfl
  rcases q with ⟨hq, q⟩ | ⟨hne, hk0, q⟩
  · have c1 : (its.toArray.isEmpty || k == 1) = true := by
      rw [em]
      rcases hq with h | h
      · rw [h]; rfl
      · rw [h, beq_self_eq_true, Bool.or_true]
    exact wpAny_binaryOp_repeat_ref (T := "tuple") (U := "int") (by decide) ⟨_, ho, rfl⟩ (fun s' => typeIs_int s' k t) noFill_tuple_mul F.fills_int_mul F.slot_int_rmul repeat_tuple F.slot_int_index.lookup
      (call_meets F.slot_int_rmul (typeIs_int s k t) F.entry_int_rmul (F.args_int_rmul_2 _ _) (int_rmul_tuple k t l its.toArray n dd sl)
        ⟨ho, rfl, ⟨_, ho, rfl⟩, call_meets F.slot_tuple_mul ⟨_, ho, rfl⟩ F.entry_tuple_mul (F.args_tuple_mul_2 _ _) (tmul_same l its.toArray n sl dd k t c0 c1) ⟨ho, ⟨.ref l, H, I, rfl, q⟩⟩⟩)
  · have c1 : (its.toArray.isEmpty || k == 1) = false := by
      rw [em, decide_eq_false hne, Bool.false_or]
      exact beq_eq_false_iff_ne.mpr (by omega)
    have c2 : (decide (k ≤ 0) || its.toArray.isEmpty) = true := by rw [decide_eq_true hk0]; rfl
    exact wpAny_binaryOp_repeat_ref (T := "tuple") (U := "int") (by decide) ⟨_, ho, rfl⟩ (fun s' => typeIs_int s' k t) noFill_tuple_mul F.fills_int_mul F.slot_int_rmul repeat_tuple F.slot_int_index.lookup
      (call_meets F.slot_int_rmul (typeIs_int s k t) F.entry_int_rmul (F.args_int_rmul_2 _ _) (int_rmul_tuple k t l its.toArray n dd sl)
        ⟨ho, rfl, ⟨_, ho, rfl⟩, call_meets F.slot_tuple_mul ⟨_, ho, rfl⟩ F.entry_tuple_mul (F.args_tuple_mul_2 _ _) (tmul_none l its.toArray n sl dd k t c0 c1 c2)
          ⟨ho, ⟨.ref s.heap.objs.size, _, I.laid (t' := s.toks) (o := .tup []) (fun b ob q => Heap.get?_push_of_some _ q) (Nat.le_refl _) ⟨Nat.zero_le _, [], .nil, IsTup.new _ _⟩, rfl, q _ (I.hok.fresh (Nat.le_refl _))⟩⟩⟩)
end
end Bay

set_option Elab.async false
set_option linter.all false
set_option maxRecDepth 100000
/-! Bay: the small language, and what must hold so that it comes to a wanted end. -/
namespace Bay
open PySem PySem.Spec PyProof.Rows L2

structure Ex where
  cls : Str
  arg : Option (Str × D)
abbrev Ev := List (Option D)
abbrev QD := D → Sto → Prop
abbrev QX := Ex → Sto → Prop
abbrev FnD := List D → Sto → QD → QX → Prop

/-! ### data as trees -/
mutual
inductive Vw (S : Sto) : D → PyData → Prop
  | non : Vw S .non .none
  | bl (b : Bool) : Vw S (.bl b) (.bool b)
  | int (i : Int) : Vw S (.int i) (.int i)
  | str (x : Str) : Vw S (.str x) (.str x)
  | tup {ds : List D} {ts : List PyData} : VwL S ds ts → Vw S (.tup ds) (.tuple ts)
  | rot {ds : List D} {ts : List PyData} : VwL S ds ts → Vw S (.rot ds) (.tuple ts)
  | rol {ds : List D} {ts : List PyData} : VwL S ds ts → Vw S (.rol ds) (.list ts)
  | lst {a : Addr} {ds : List D} {ts : List PyData} : S a = some (.lst ds) → VwL S ds ts → Vw S (.ref a) (.list ts)
inductive VwL (S : Sto) : List D → List PyData → Prop
  | nil : VwL S [] []
  | cons {d : D} {t : PyData} {ds : List D} {ts : List PyData} : Vw S d t → VwL S ds ts → VwL S (d :: ds) (t :: ts)
end

/-! ### operations on data -/
def cutL {α : Type} (xs : List α) (lo hi : Option Int) : List α := (xs.drop (HT.sIx xs.length 0 lo)).take (HT.sIx xs.length xs.length hi - HT.sIx xs.length 0 lo)
def repL {α : Type} (xs : List α) (k : Int) : List α := (List.replicate k.toNat xs).flatten
/-- a new list -/
def newL (xs : List D) (S : Sto) (Q : QD) : Prop := xs.length ≤ sizeLine ∧ ∀ p, S p = none → Q (.ref p) (S.upd p (.lst xs))

def addD : D → D → Sto → QD → Prop
  | .int i, .int j, S, Q => Q (.int (i + j)) S
  | .str x, .str y, S, Q => x.length + y.length ≤ sizeLine ∧ Q (.str (x ++ y)) S
  | .tup xs, .tup ys, S, Q => xs.length + ys.length ≤ sizeLine ∧ Q (.tup (xs ++ ys)) S
  | .ref a, .ref b, S, Q => match S a, S b with
    | some (.lst xs), some (.lst ys) => newL (xs ++ ys) S Q
    | _, _ => False
  | _, _, _, _ => False
def subD : D → D → Sto → QD → Prop
  | .int i, .int j, S, Q => Q (.int (i - j)) S
  | _, _, _, _ => False
def mulD : D → D → Sto → QD → Prop
  | .int i, .int j, S, Q => CMul i j ∧ Q (.int (i * j)) S
  | .tup xs, .int k, S, Q => (-1000 ≤ k ∧ k ≤ 1000 ∧ xs.length ≤ 1000) ∧ Q (.tup (repL xs k)) S
  | .str x, .int k, S, Q => (-(2 ^ 63) < k ∧ k < 2 ^ 63) ∧ x.length * k.toNat ≤ 1000000 ∧ Q (.str ⟨(repL x.cps.toList k).toArray⟩) S
  | .ref a, .int k, S, Q => match S a with
    | some (.lst xs) => (-(2 ^ 63) ≤ k ∧ k < 2 ^ 63) ∧ xs.length * k.toNat ≤ sizeLine ∧ newL (repL xs k) S Q
    | _ => False
  | _, _, _, _ => False
def fdvD : D → D → Sto → QD → Prop
  | .int i, .int j, S, Q => CDiv i j ∧ Q (.int (i / j)) S
  | _, _, _, _ => False
def modD : D → D → Sto → QD → Prop
  | .int i, .int j, S, Q => 0 < j ∧ Q (.int (i % j)) S
  | _, _, _, _ => False
def powD : D → D → Sto → QD → Prop
  | .int i, .int j, S, Q => CPow i j ∧ Q (.int (i ^ j.toNat)) S
  | _, _, _, _ => False
def negD : D → Sto → QD → Prop
  | .int i, S, Q => Q (.int (-i)) S
  | _, _, _ => False

/-- == of scalars -/
def sEq : D → D → Option Bool
  | .int i, .int j => some (decide (i = j))
  | .str x, .str y => some (decide (x = y))
  | .bl a, .bl b => some (decide (a = b))
  | .non, .non => some true
  | .non, .int _ => some false | .int _, .non => some false
  | .non, .str _ => some false | .str _, .non => some false
  | .non, .bl _ => some false | .bl _, .non => some false
  | .int _, .str _ => some false | .str _, .int _ => some false
  | .bl _, .str _ => some false | .str _, .bl _ => some false
  | _, _ => none
def eqD (d e : D) (S : Sto) (Q : Bool → Prop) : Prop :=
  match sEq d e with
  | some b => Q b
  | none => ∃ t u, Vw S d t ∧ Vw S e u ∧ SeqAt.shaped t = true ∧ SeqAt.shaped u = true ∧ Q (PyData.eqv t u)
/-- keys of dicts -/
def keyD : D → Option Key
  | .int i => some (.inl i)
  | .str x => some (.inr x)
  | _ => none
def keysD : List D → Option (List Key)
  | [] => some []
  | d :: ds => match keyD d, keysD ds with
    | some k, some ks => some (k :: ks)
    | _, _ => none
def keyT : D → Option (List Key)
  | .tup ds => keysD ds
  | _ => none
section
variable {κ : Type} [DecidableEq κ]
def valD (kvs : List (κ × D)) (k : κ) : Option D := (kvs.find? fun kv => decide (kv.1 = k)).map (·.2)
def putD (kvs : List (κ × D)) (k : κ) (v : D) : List (κ × D) :=
  if (kvs.any fun kv => decide (kv.1 = k)) = true then kvs.map (fun kv => if kv.1 = k then (kv.1, v) else kv) else kvs ++ [(k, v)]
end
/-- x in a sequence of data -/
def memD (d : D) (xs : List D) (S : Sto) (Q : Bool → Prop) : Prop :=
  ∃ t us, Vw S d t ∧ VwL S xs us ∧ SeqAt.shaped t = true ∧ SeqAt.shaped (.list us) = true ∧ Q (us.any fun z => PyData.eqv z t)
def inD : D → D → Sto → (Bool → Prop) → Prop
  | .str x, .str y, S, Q => ∃ c : Nat, x = ⟨#[c]⟩ ∧ Q (decide (c ∈ y.cps.toList))
  | d, .tup xs, S, Q => memD d xs S Q
  | d, .rot xs, S, Q => memD d xs S Q
  | d, .rol xs, S, Q => memD d xs S Q
  | d, .ref a, S, Q => match S a with
    | some (.lst xs) => memD d xs S Q
    | some (.dK kvs) => ∃ k, keyD d = some k ∧ Q (valD kvs k).isSome
    | some (.dT kvs) => ∃ k, keyT d = some k ∧ Q (valD kvs k).isSome
    | _ => False
  | _, _, _, _ => False
/-- ints of data -/
def intsOf : List D → Option (List Int)
  | [] => some []
  | .int i :: r => match intsOf r with
    | some ns => some (i :: ns)
    | none => none
  | _ :: _ => none
def ltD : D → D → (Bool → Prop) → Prop
  | .int i, .int j, Q => Q (decide (i < j))
  | .tup xs, .tup ys, Q => ∃ ns ms, intsOf xs = some ns ∧ intsOf ys = some ms ∧ Q (HT.lexLt ns ms)
  | _, _, _ => False
def leD : D → D → (Bool → Prop) → Prop
  | .int i, .int j, Q => Q (decide (i ≤ j))
  | _, _, _ => False
def gtD : D → D → (Bool → Prop) → Prop
  | .int i, .int j, Q => Q (decide (j < i))
  | _, _, _ => False
def geD : D → D → (Bool → Prop) → Prop
  | .int i, .int j, Q => Q (decide (j ≤ i))
  | _, _, _ => False
def cmpD : CmpOp → D → D → Sto → QD → Prop
  | .Eq, d, e, S, Q => eqD d e S fun b => Q (.bl b) S
  | .NotEq, d, e, S, Q => eqD d e S fun b => Q (.bl (!b)) S
  | .Lt, d, e, S, Q => ltD d e fun b => Q (.bl b) S
  | .LtE, d, e, S, Q => leD d e fun b => Q (.bl b) S
  | .Gt, d, e, S, Q => gtD d e fun b => Q (.bl b) S
  | .GtE, d, e, S, Q => geD d e fun b => Q (.bl b) S
  | .In, d, e, S, Q => inD d e S fun b => Q (.bl b) S
  | .NotIn, d, e, S, Q => inD d e S fun b => Q (.bl (!b)) S
  | _, _, _, _, _ => False
def isN : D → Bool
  | .non => true
  | _ => false
/-- a[i] -/
def idxL (xs : List D) : D → Sto → QD → Prop
  | .int i, S, Q => ∃ d, atI xs i = some d ∧ Q d S
  | _, _, _ => False
def idxD : D → D → Sto → QD → Prop
  | .tup xs, i, S, Q => idxL xs i S Q
  | .rot xs, i, S, Q => idxL xs i S Q
  | .rol xs, i, S, Q => idxL xs i S Q
  | .str x, .int i, S, Q => x.length ≤ sizeLine ∧ ∃ c, atI x.cps.toList i = some c ∧ Q (.str ⟨#[c]⟩) S
  | .ref a, i, S, Q => match S a with
    | some (.lst xs) => idxL xs i S Q
    | some (.dK kvs) => ∃ k d, keyD i = some k ∧ valD kvs k = some d ∧ Q d S
    | some (.dT kvs) => ∃ k d, keyT i = some k ∧ valD kvs k = some d ∧ Q d S
    | _ => False
  | _, _, _, _ => False
/-- a slice's part -/
def partD : D → Option (Option Int)
  | .int i => some (some i)
  | _ => none
def slcD (d : D) (lo hi : Option Int) (S : Sto) (Q : QD) : Prop :=
  match d with
  | .tup xs => Q (.tup (cutL xs lo hi)) S
  | .rol xs => newL (cutL xs lo hi) S Q
  | .str x => x.length ≤ sizeLine ∧ Q (.str ⟨(cutL x.cps.toList lo hi).toArray⟩) S
  | .ref a => match S a with
    | some (.lst xs) => newL (cutL xs lo hi) S Q
    | _ => False
  | _ => False
/-- a[i] = v -/
def setD (o i v : D) (S : Sto) (Q : Sto → Prop) : Prop :=
  match o with
  | .ref a => match S a with
    | some (.lst xs) => ∃ k j, i = .int k ∧ ixN xs.length k = some j ∧ Q (S.upd a (.lst (xs.set j v)))
    | some (.dK kvs) => ∃ k, keyD i = some k ∧ kvs.length < sizeLine ∧ Q (S.upd a (.dK (putD kvs k v)))
    | some (.dT kvs) => ∃ k, keyT i = some k ∧ kvs.length < sizeLine ∧ Q (S.upd a (.dT (putD kvs k v)))
    | _ => False
  | _ => False
/-- the items that a walk gives, with what must stay -/
def chars (x : Str) : List D := x.cps.toList.map fun c => .str ⟨#[c]⟩
def srcD (d : D) (S : Sto) (Q : List D → List (Addr × List D) → Prop) : Prop :=
  match d with
  | .tup xs => Q xs []
  | .rot xs => Q xs []
  | .rol xs => Q xs []
  | .str x => Q (chars x) []
  | .ref a => match S a with
    | some (.lst xs) => Q xs [(a, xs)]
    | _ => False
  | _ => False
def Stay (g : List (Addr × List D)) (S : Sto) : Prop := ∀ p ∈ g, S p.1 = some (.lst p.2)

/-- .. of lists alone -/
def lstD (d : D) (S : Sto) (Q : List D → List (Addr × List D) → Prop) : Prop :=
  match d with
  | .rol xs => Q xs []
  | .ref a => match S a with
    | some (.lst xs) => Q xs [(a, xs)]
    | _ => False
  | _ => False
/-- .. of no text -/
def seqD (d : D) (S : Sto) (Q : List D → Prop) : Prop :=
  match d with
  | .tup xs => Q xs
  | .rot xs => Q xs
  | .rol xs => Q xs
  | .ref a => match S a with
    | some (.lst xs) => Q xs
    | _ => False
  | _ => False
/-- tuple(d) -/
def tupD (d : D) (S : Sto) (Q : D → Prop) : Prop :=
  match d with
  | .tup xs => Q (.tup xs)
  | .rol xs => Q (.tup xs)
  | .ref a => match S a with
    | some (.lst xs) => Q (.tup xs)
    | _ => False
  | _ => False
/-! ### built-in functions, methods -/
inductive B1 where
  | len | abs | int | repr | str | list | tuple | sorted | sortedSet | isStr | isTup | isInt | isBool | dict | sum | max1 | min1 | max2 | min2 | all | any
  deriving DecidableEq
inductive M1 where
  | append | extend | pop | popAt | insert | remove | index | update | join | partition | split | get2 | items | clear
  deriving DecidableEq

def lenD : D → Sto → (Nat → Prop) → Prop
  | .tup xs, _, Q => Q xs.length
  | .rot xs, _, Q => Q xs.length
  | .rol xs, _, Q => Q xs.length
  | .str x, _, Q => x.length ≤ sizeLine ∧ Q x.length
  | .ref a, S, Q => match S a with
    | some (.lst xs) => Q xs.length
    | _ => False
  | _, _, _ => False
def rngS : Int := 2 ^ 62
def isKind (b : B1) : D → Sto → Option Bool
  | .non, _ => some false
  | .bl _, _ => some (match b with | .isInt => true | .isBool => true | _ => false)
  | .int _, _ => some (match b with | .isInt => true | _ => false)
  | .str _, _ => some (match b with | .isStr => true | _ => false)
  | .tup _, _ => some (match b with | .isTup => true | _ => false)
  | .rot _, _ => some (match b with | .isTup => true | _ => false)
  | .rol _, _ => some false
  | .ref a, S => match S a with
    | some (.lst _) => some false
    | some (.dK _) => some false
    | some (.dT _) => some false
    | _ => none
  | _, _ => none
/-- pairs of a key and a value -/
def pairsOf : List D → Option (List (Key × D))
  | [] => some []
  | .tup [k, v] :: r => match keyD k, pairsOf r with
    | some k, some l => some ((k, v) :: l)
    | _, _ => none
  | _ :: _ => none
def mergeD {κ : Type} [DecidableEq κ] (acc : List (κ × D)) (l : List (κ × D)) : List (κ × D) := l.foldl (fun a p => putD a p.1 p.2) acc

def prD (p : Int × Int) : D := .tup [.int p.1, .int p.2]
/-- sorted(xs): ints, or pairs of ints -/
def srtD (d : D) (S : Sto) (Q : QD) : Prop := lstD d S fun xs _ =>
  (∃ ns : List Int, xs = ns.map .int ∧ ∀ ns' : List Int, ns'.Perm ns → ns'.Pairwise (· ≤ ·) → newL (ns'.map .int) S Q) ∨
    ∃ ps : List (Int × Int), xs = ps.map prD ∧ ∀ ps' : List (Int × Int), ps'.Perm ps → ps'.Pairwise (fun p q => p.1 < q.1 ∨ (p.1 = q.1 ∧ p.2 ≤ q.2)) → newL (ps'.map prD) S Q
inductive U1 where
  | rev | lsR | srtS
  deriving DecidableEq
/-- xs[::-1]; list(range(n)); sorted(set(xs)) -/
def unD : U1 → D → Sto → QD → Prop
  | .rev, d, S, Q => lstD d S fun xs _ => newL xs.reverse S Q
  | .lsR, .int j, S, Q => (0 ≤ j ∧ j ≤ 16777216) ∧ newL ((List.range j.toNat).map fun i : Nat => .int i) S Q
  | .lsR, _, _, _ => False
  | .srtS, d, S, Q => lstD d S fun xs _ => ∃ ns : List Int, xs = ns.map .int ∧ ns.length < 64 ∧ ∀ ns' : List Int, ns'.Pairwise (· < ·) → (∀ k, k ∈ ns' ↔ k ∈ ns) → newL (ns'.map .int) S Q
/-- list(zip(xs, ys)) -/
def zipD (d e : D) (S : Sto) (Q : QD) : Prop := lstD d S fun xs _ => lstD e S fun ys _ => newL ((xs.zip ys).map fun p => .tup [p.1, p.2]) S Q
def bltD : B1 → List D → Sto → QD → Prop
  | .len, [d], S, Q => lenD d S fun n => Q (.int n) S
  | .abs, [.int i], S, Q => Q (.int (if i < 0 then -i else i)) S
  | .int, [.int i], S, Q => Q (.int i) S
  | .int, [.bl b], S, Q => Q (.int (if b then 1 else 0)) S
  | .repr, [d], S, Q => ∃ t, Vw S d t ∧ t.showable = true ∧ t.depth ≤ 60 ∧ t.shown.length ≤ sizeLine ∧ Q (.str t.shown) S
  | .str, [.int i], S, Q => i.natAbs.log2 < 1920 ∧ Q (.str (toString i)) S
  | .list, [d], S, Q => seqD d S fun xs => newL xs S Q
  | .tuple, [d], S, Q => tupD d S fun e => Q e S
  | .sorted, [d], S, Q => srtD d S Q
  | .isStr, [d], S, Q => ∃ b, isKind .isStr d S = some b ∧ Q (.bl b) S
  | .isTup, [d], S, Q => ∃ b, isKind .isTup d S = some b ∧ Q (.bl b) S
  | .isInt, [d], S, Q => ∃ b, isKind .isInt d S = some b ∧ Q (.bl b) S
  | .isBool, [d], S, Q => ∃ b, isKind .isBool d S = some b ∧ Q (.bl b) S
  | _, _, _, _ => False
def mthD : M1 → D → List D → Sto → QD → Prop
  | .append, .ref a, [d], S, Q => match S a with
    | some (.lst xs) => xs.length < sizeLine ∧ Q .non (S.upd a (.lst (xs ++ [d])))
    | _ => False
  | .extend, .ref a, [.ref b], S, Q => match S a, S b with
    | some (.lst xs), some (.lst ys) => xs.length + ys.length ≤ sizeLine ∧ Q .non (S.upd a (.lst (xs ++ ys)))
    | _, _ => False
  | .pop, .ref a, [], S, Q => match S a with
    | some (.lst xs) => ∃ d, xs[xs.length - 1]? = some d ∧ Q d (S.upd a (.lst xs.dropLast))
    | _ => False
  | .popAt, .ref a, [.int i], S, Q => match S a with
    | some (.lst xs) => ∃ (k : Nat) (d : D), i = k ∧ (k : Int) < 2 ^ 63 ∧ xs[k]? = some d ∧ Q d (S.upd a (.lst (xs.eraseIdx k)))
    | _ => False
  | .join, .str z, [d], S, Q => ∃ ys : List Str, seqD d S (fun xs => xs = ys.map .str) ∧ (ys.map (·.length)).sum + ys.length * z.length ≤ 16777216 ∧ Q (.str (Str.join z ys)) S
  | _, _, _, _, _ => False

/-- what a method is asked of -/
def rcvD : M1 → D → Sto → Prop
  | .join, .str _, _ => True
  | .append, .ref a, S => match S a with | some (.lst _) => True | _ => False
  | .extend, .ref a, S => match S a with | some (.lst _) => True | _ => False
  | .pop, .ref a, S => match S a with | some (.lst _) => True | _ => False
  | .popAt, .ref a, S => match S a with | some (.lst _) => True | _ => False
  | _, _, _ => False
/-! ### the language -/
inductive MG where
  | nm (i : Nat)
  | tp (is : List Nat)
mutual
inductive ME where
  | var (i : Nat)
  | cst (d : D)
  | cg (i : Nat)
  | add (a b : ME)
  | sub (a b : ME)
  | mul (a b : ME)
  | fdv (a b : ME)
  | mod (a b : ME)
  | pow (a b : ME)
  | neg (a : ME)
  | cmp (op : CmpOp) (a b : ME)
  | cmp2 (op op' : CmpOp) (a b c : ME)
  | isN (n : Bool) (a : ME)
  | not (a : ME)
  | and (a b : ME)
  | or (a b : ME)
  | ite (c a b : ME)
  | tup (es : MEs)
  | lst (es : MEs)
  | dic (ks : List Str) (es : MEs)
  | dicT
  | idx (a i : ME)
  | slc (a : ME) (lo hi : MO)
  | call (f : Nat) (es : MEs)
  | callK (f : Nat) (es : MEs) (perm : List Nat)
  | blt (b : B1) (es : MEs)
  /-- the caught exception in i: its field, isinstance of it -/
  | xf (i : Nat) (f : Str)
  | xis (i : Nat) (c : Str)
  | mth (m : M1) (o : ME) (es : MEs)
  | un (u : U1) (a : ME)
  | lsZ (a b : ME)
  | lc (elt : ME) (tg : MG) (it : MI) (c : MO) (own : List (Str × Nat))
inductive MEs where
  | nil
  | cons (e : ME) (r : MEs)
inductive MO where
  | no
  | yes (e : ME)
inductive MI where
  | gen (e : ME)
  | rng1 (a : ME)
  | rng2 (a b : ME)
  | enum (a : ME)
  | zip2 (a b : ME)
end
inductive MS where
  | skip
  | seq (a b : MS)
  | set (i : Nat) (e : ME)
  | setT (is : List Nat) (e : ME)
  | par (is : List Nat) (es : MEs)
  | sub (o i e : ME)
  | expr (e : ME)
  | ret (e : ME)
  | retN
  | ite (c : ME) (a b : MS)
  | for_ (tg : MG) (it : MI) (body : MS)
  | whl (c : ME) (body : MS)
  | brk
  | cont
  | rais (cls : Str) (f : Option Str) (arg : MO)
  | try_ (oi : Option Nat) (cls : Str) (body h : MS)

/-! ### the walk -/
structure Sig where
  fn : Nat → FnD
  /-- how many arguments -/
  ar : Nat → Nat
  /-- the module's constants -/
  cg : Nat → D
  /-- the classes of exceptions with their fields; which is below which -/
  exs : List (Str × Option Str) := []
  sub : Str → Str → Bool := fun x c => decide (x = c)
  /-- in an except suite: the caught one -/
  xa : Option (Addr × Ex) := none
def setsE : List Nat → List D → Ev → Ev
  | i :: is, d :: ds, ε => setsE is ds (ε.set i (some d))
  | _, _, ε => ε
def asgD : MG → D → Ev → Option Ev
  | .nm i, d, ε => some (ε.set i (some d))
  | .tp is, .tup ds, ε => if is.length = ds.length then some (setsE is ds ε) else none
  | .tp is, .rot ds, ε => if is.length = ds.length then some (setsE is ds ε) else none
  | _, _, _ => none
def wipeE (ε : Ev) : List Nat → Ev
  | [] => ε
  | v :: vs => (wipeE ε vs).set v none
def lookE (ε : Ev) (i : Nat) : Option D := match ε[i]? with
  | some o => o
  | none => none
/-- the turns of a comprehension -/
def lcGo (f : D → Sto → (Option D → Sto → Prop) → Prop) (g : Sto → Prop) : List D → List D → Sto → (List D → Sto → Prop) → Prop
  | acc, [], S, Q => g S ∧ Q acc S
  | acc, x :: xs, S, Q => g S ∧ f x S fun r S' => match r with
    | some d => acc.length < sizeLine ∧ lcGo f g (acc ++ [d]) xs S' Q
    | none => lcGo f g acc xs S' Q
/-- things in another order -/
def permL {α : Type} : List Nat → List α → Option (List α)
  | [], _ => some []
  | i :: is, l => match l[i]?, permL is l with
    | some x, some r => some (x :: r)
    | _, _ => none
/-- the dict of a display -/
def dicD (ks : List Str) (ds : List D) : List (Key × D) := (ks.zip ds).map fun p => (.inr p.1, p.2)
def tstD (Q : Bool → Sto → Prop) : QD := fun d S => match d with
  | .bl b => Q b S
  | _ => False
/-- nothing is raised -/
def XF : QX := fun _ _ => False
section
variable (Γ : Sig)
mutual
def wE : ME → QX → Ev → Sto → QD → Prop
  | .var i, X, ε, S, Q => match lookE ε i with
    | some d => Q d S
    | none => False
  | .cst d, X, _, S, Q => Q d S
  | .cg i, X, _, S, Q => Q (Γ.cg i) S
  | .add a b, X, ε, S, Q => wE a X ε S fun x S1 => wE b X ε S1 fun y S2 => addD x y S2 Q
  | .sub a b, X, ε, S, Q => wE a X ε S fun x S1 => wE b X ε S1 fun y S2 => subD x y S2 Q
  | .mul a b, X, ε, S, Q => wE a X ε S fun x S1 => wE b X ε S1 fun y S2 => mulD x y S2 Q
  | .fdv a b, X, ε, S, Q => wE a X ε S fun x S1 => wE b X ε S1 fun y S2 => fdvD x y S2 Q
  | .mod a b, X, ε, S, Q => wE a X ε S fun x S1 => wE b X ε S1 fun y S2 => modD x y S2 Q
  | .pow a b, X, ε, S, Q => wE a X ε S fun x S1 => wE b X ε S1 fun y S2 => powD x y S2 Q
  | .neg a, X, ε, S, Q => wE a X ε S fun x S1 => negD x S1 Q
  | .cmp op a b, X, ε, S, Q => wE a X ε S fun x S1 => wE b X ε S1 fun y S2 => cmpD op x y S2 Q
  | .cmp2 op op' a b c, X, ε, S, Q => wE a X ε S fun x S1 => wE b X ε S1 fun y S2 => cmpD op x y S2 (tstD fun k S3 => if k = true then wE c X ε S3 fun z S4 => cmpD op' y z S4 Q else Q (.bl false) S3)
  | .isN n a, X, ε, S, Q => wE a X ε S fun x S1 => Q (.bl (if n then !isN x else isN x)) S1
  | .not a, X, ε, S, Q => wE a X ε S (tstD fun k S1 => Q (.bl (!k)) S1)
  | .and a b, X, ε, S, Q => wE a X ε S (tstD fun k S1 => if k = true then wE b X ε S1 Q else Q (.bl false) S1)
  | .or a b, X, ε, S, Q => wE a X ε S (tstD fun k S1 => if k = true then Q (.bl true) S1 else wE b X ε S1 Q)
  | .ite c a b, X, ε, S, Q => wE c X ε S (tstD fun k S1 => if k = true then wE a X ε S1 Q else wE b X ε S1 Q)
  | .tup es, X, ε, S, Q => wEs es X ε S fun ds S1 => ds.length ≤ sizeLine ∧ Q (.tup ds) S1
  | .lst es, X, ε, S, Q => wEs es X ε S fun ds S1 => newL ds S1 Q
  | .dic ks es, X, ε, S, Q => wEs es X ε S fun ds S1 => ∀ p, S1 p = none → Q (.ref p) (S1.upd p (.dK (dicD ks ds)))
  | .dicT, X, _, S, Q => ∀ p, S p = none → Q (.ref p) (S.upd p (.dT []))
  | .idx a i, X, ε, S, Q => wE a X ε S fun x S1 => wE i X ε S1 fun y S2 => idxD x y S2 Q
  | .slc a lo hi, X, ε, S, Q => wE a X ε S fun x S1 => wO lo X ε S1 fun l S2 => wO hi X ε S2 fun h S3 => slcD x l h S3 Q
  | .call f es, X, ε, S, Q => wEs es X ε S fun ds S1 => ds.length = Γ.ar f ∧ Γ.fn f ds S1 Q X
  | .callK f es perm, X, ε, S, Q => wEs es X ε S fun ds S1 => ds.length = perm.length ∧ ∃ es', permL perm ds = some es' ∧ es'.length = Γ.ar f ∧ Γ.fn f es' S1 Q X
  | .xf i f, _, ε, S, Q => ∃ a x d, Γ.xa = some (a, x) ∧ lookE ε i = some (.ref a) ∧ x.arg = some (f, d) ∧ Q d S
  | .xis i c, _, ε, S, Q => ∃ a x, Γ.xa = some (a, x) ∧ lookE ε i = some (.ref a) ∧ Q (.bl (Γ.sub x.cls c)) S
  | .blt b es, X, ε, S, Q => wEs es X ε S fun ds S1 => bltD b ds S1 Q
  | .mth m o es, X, ε, S, Q => wE o X ε S fun x S1 => rcvD m x S1 ∧ wEs es X ε S1 fun ds S2 => mthD m x ds S2 Q
  | .un u a, X, ε, S, Q => wE a X ε S fun x S1 => unD u x S1 Q
  | .lsZ a b, X, ε, S, Q => wE a X ε S fun x S1 => wE b X ε S1 fun y S2 => zipD x y S2 Q
  | .lc elt tg it c own, X, ε, S, Q => wI it X ε S fun xs g S1 =>
      lcGo (fun x S2 K => ∃ ε', asgD tg x (wipeE ε (own.map (·.2))) = some ε' ∧ wC c XF ε' S2 fun k S3 => if k = true then wE elt XF ε' S3 fun d S4 => K (some d) S4 else K none S3) (Stay g) [] xs S1 fun ys S2 => ∀ p, S2 p = none → Q (.ref p) (S2.upd p (.lst ys))
def wEs : MEs → QX → Ev → Sto → (List D → Sto → Prop) → Prop
  | .nil, X, _, S, Q => Q [] S
  | .cons e r, X, ε, S, Q => wE e X ε S fun d S1 => wEs r X ε S1 fun ds S2 => Q (d :: ds) S2
def wO : MO → QX → Ev → Sto → (Option Int → Sto → Prop) → Prop
  | .no, X, _, S, Q => Q none S
  | .yes e, X, ε, S, Q => wE e X ε S fun d S1 => match d with
    | .int i => Q (some i) S1
    | _ => False
/-- a comprehension's test -/
def wC : MO → QX → Ev → Sto → (Bool → Sto → Prop) → Prop
  | .no, X, _, S, Q => Q true S
  | .yes e, X, ε, S, Q => wE e X ε S (tstD Q)
/-- what is walked -/
def wI : MI → QX → Ev → Sto → (List D → List (Addr × List D) → Sto → Prop) → Prop
  | .rng1 a, X, ε, S, Q => wE a X ε S fun d S1 => match d with
    | .int j => (-rngS ≤ j ∧ j < rngS) ∧ Q ((List.range j.toNat).map fun i : Nat => .int i) [] S1
    | _ => False
  | .rng2 a b, X, ε, S, Q => wE a X ε S fun d S1 => wE b X ε S1 fun e S2 => match d, e with
    | .int i, .int j => (-rngS ≤ i ∧ i < rngS ∧ -rngS ≤ j ∧ j < rngS) ∧ Q ((List.range (j - i).toNat).map fun k : Nat => .int (i + k)) [] S2
    | _, _ => False
  | .enum a, X, ε, S, Q => wE a X ε S fun d S1 => lstD d S1 fun xs g => Q (xs.zipIdx.map fun p => .tup [.int p.2, p.1]) g S1
  | .zip2 a b, X, ε, S, Q => wE a X ε S fun d S1 => wE b X ε S1 fun e S2 => lstD d S2 fun xs g => lstD e S2 fun ys g' => Q ((xs.zip ys).map fun p => .tup [p.1, p.2]) (g ++ g') S2
  | .gen e, X, ε, S, Q => wE e X ε S fun d S1 => srcD d S1 fun xs g => Q xs g S1
end
end
structure EK where
  nx : Ev → Sto → Prop
  rt : QD
  bk : Ev → Sto → Prop := fun _ _ => False
  ct : Ev → Sto → Prop := fun _ _ => False
/-- the turns of a for -/
def forGo (tb : EK → Ev → Sto → Prop) (asg : D → Ev → Option Ev) (g : Sto → Prop) : List D → EK → Ev → Sto → Prop
  | [], K, ε, S => g S ∧ K.nx ε S
  | x :: xs, K, ε, S => g S ∧ ∃ ε', asg x ε = some ε' ∧ tb { nx := forGo tb asg g xs K, rt := K.rt, bk := K.nx, ct := forGo tb asg g xs K } ε' S
/-- the turns of a while, at most n -/
def whGo (c : Ev → Sto → (Bool → Sto → Prop) → Prop) (tb : EK → Ev → Sto → Prop) : Nat → EK → Ev → Sto → Prop
  | 0, _, _, _ => False
  | n + 1, K, ε, S => c ε S fun b S1 => if b = true then tb { nx := whGo c tb n K, rt := K.rt, bk := K.nx, ct := whGo c tb n K } ε S1 else K.nx ε S1
/-- the names' data behind a raise: none is known -/
def blank (oi : Option Nat) (a : Addr) (ε : Ev) : Ev := match oi with
  | none => ε.map fun _ => none
  | some i => (ε.map fun _ => none).set i (some (.ref a))
def endH (oi : Option Nat) (K : EK) : EK := match oi with
  | none => K
  | some i => { nx := fun ε S => K.nx (ε.set i none) S, rt := K.rt, bk := fun ε S => K.bk (ε.set i none) S, ct := fun ε S => K.ct (ε.set i none) S }
def wS : MS → Sig → QX → EK → Ev → Sto → Prop
  | .skip, _, _, K, ε, S => K.nx ε S
  | .seq a b, Γ, X, K, ε, S => wS a Γ X { K with nx := wS b Γ X K } ε S
  | .set i e, Γ, X, K, ε, S => wE Γ e X ε S fun d S1 => K.nx (ε.set i (some d)) S1
  | .setT is e, Γ, X, K, ε, S => wE Γ e X ε S fun d S1 => ∃ ε', asgD (.tp is) d ε = some ε' ∧ K.nx ε' S1
  | .par is es, Γ, X, K, ε, S => wEs Γ es X ε S fun ds S1 => ds.length = is.length ∧ K.nx (setsE is ds ε) S1
  | .sub o i e, Γ, X, K, ε, S => wE Γ e X ε S fun v S1 => wE Γ o X ε S1 fun x S2 => wE Γ i X ε S2 fun y S3 => setD x y v S3 fun S4 => K.nx ε S4
  | .expr e, Γ, X, K, ε, S => wE Γ e X ε S fun _ S1 => K.nx ε S1
  | .ret e, Γ, X, K, ε, S => wE Γ e X ε S K.rt
  | .retN, _, _, K, _, S => K.rt .non S
  | .ite c a b, Γ, X, K, ε, S => wE Γ c X ε S (tstD fun k S1 => if k = true then wS a Γ X K ε S1 else wS b Γ X K ε S1)
  | .for_ tg it body, Γ, X, K, ε, S => wI Γ it X ε S fun xs g S1 => forGo (wS body Γ X) (asgD tg) (Stay g) xs K ε S1
  | .whl c body, Γ, X, K, ε, S => ∃ n, whGo (fun ε S Q => wE Γ c X ε S (tstD Q)) (wS body Γ X) n K ε S
  | .brk, _, _, K, ε, S => K.bk ε S
  | .cont, _, _, K, ε, S => K.ct ε S
  | .rais cls f arg, Γ, X, K, ε, S => (cls, f) ∈ Γ.exs ∧ match f, arg with
    | some f, .yes e => wE Γ e X ε S fun d S1 => X ⟨cls, some (f, d)⟩ S1
    | none, .no => X ⟨cls, none⟩ S
    | _, _ => False
  | .try_ oi cls body h, Γ, X, K, ε, S => wS body Γ (fun x S' => (x.cls, x.arg.map (·.1)) ∈ Γ.exs ∧
      if Γ.sub x.cls cls = true then ∀ a, S' a = none → wS h { Γ with xa := some (a, x) } XF (endH oi K) (blank oi a ε) S' else X x S') K ε S
end Bay

set_option Elab.async false
set_option linter.all false
set_option maxRecDepth 100000
/-! Bay: defs whose callers let no repr run (guards told), their calls, the end of a law. -/
namespace Bay
open PySem PySem.Spec PyProof.Rows L2

/-- as FnOk, where the guards around are known to be none -/
structure FnG (P : Program) (w : World) (K : PySem.W.Frag) (mg : Str → Option Value) (base : Heap) (k : Nat) (f : Addr) (fd : FuncData) (ps : List Str) (sp : Sp) : Prop where
  len : ∀ vs H Q E, sp vs H Q E → vs.length = ps.length
  go : ∀ (A : Around) (out : List Env) (s : Shared) (H : Hp) (args : Args) (us : List Value) (vs : List V) (Q : VK) (E : XK), Room k A → A.guards = some [] → Env0 P w K mg base A out s H →
    BindsTo s fd args (ps.zip us) → Vals vs us → sp vs H Q E → codeAny (model P w) A (.call (.ref f) args) (CR (L2.CX P w) out P w H s Q E) s
section
variable {P : Program} {w : World} {K : PySem.W.Frag} {mg : Str → Option Value} {base : Heap}
theorem FnG.mono {j k : Nat} {f : Addr} {fd : FuncData} {ps : List Str} {sp : Sp} (F : FnG P w K mg base j f fd ps sp) (h : j ≤ k) : FnG P w K mg base k f fd ps sp :=
  ⟨F.len, fun A out s H args us vs Q E hr => F.go A out s H args us vs Q E (hr.mono h)⟩
theorem FnG.weak {k : Nat} {f : Addr} {fd : FuncData} {ps : List Str} {sp sp' : Sp} (F : FnG P w K mg base k f fd ps sp) (h : ∀ vs H Q E, sp' vs H Q E → sp vs H Q E) : FnG P w K mg base k f fd ps sp' :=
  ⟨fun vs H Q E z => F.len vs H Q E (h _ _ _ _ z), fun A out s H args us vs Q E a b c d e z => F.go A out s H args us vs Q E a b c d e (h _ _ _ _ z)⟩

/-- a def by its body -/
theorem fnG_of {k : Nat} {x qual : Str} {st : Stmt} {f : Addr} {fd : FuncData} {N ps : List Str} {sp : Sp} (F : Fun K x qual st f fd) (S : FnScope N ps (defScope st)) (len : ∀ vs H Q E, sp vs H Q E → vs.length = ps.length)
    (body : ∀ (cdv : Value) (A : Around) (out : List Env) (s : Shared) (H : Hp) (vs : List V) (Q : VK) (E : XK), Room k (A.deeper (envOfC qual (defScope st) s.heap.objs.size f cdv)) → A.guards = some [] → sp vs H Q E →
      ∃ t, PSs (cxOf (L2.CX P w) P w K mg base N qual (defScope st) f cdv A out s H E) (defBody st) t ∧ t ⟨fun _ H' => Q .non H', Q, fun _ _ => False, fun _ _ => False⟩ (start N vs) H) : FnG P w K mg base (k + 1) f fd ps sp := by
  obtain ⟨oc, od, kV, doc, pm, an, cdv, ct, osl, rfl, lk, hcd⟩ := F.ex
  constructor
  · exact len
  intro A out s H args us vs Q E hr hgd e0 hb r hsp
  have hlen := len vs H Q E hsp
  have inK : K.In s.heap := e0.mod.kin.keeps fun b o z => (e0.bs b o z).1
  have nolim : s.heap.NoLimit := e0.mod.nolimit.keeps fun b o z => (e0.bs b o z).1
  have kinds : ∀ y ∈ ps.zip us, (defScope st).names.lookup y.1 = some .local ∨ ((defScope st).names.lookup y.1 = some .cell ∧ ((cellsFrom (s.heap.objs.size + 1) (defScope st).names []).lookup y.1).isSome = true) := by
    intro y hy
    obtain ⟨n, v⟩ := y
    have hn := (List.of_mem_zip hy).1
    rcases S.par n hn with q | q
    · left; exact q
    · right; exact ⟨q, PySem.W.cellsFrom_some _ _ _ (.inl q)⟩
  refine codeAny_call_function hr.depth (inK _ _ lk) rfl S.co S.gen rfl (PySem.W.codeRec_of inK hcd) (hb _ _ _ _ ?_)
  refine wpAny_newFunctionEnv_cells S.kind kinds fun env he s1 x => ?_
  cases he
  refine ⟨nolim.keeps x.toInCall.keep, codeAny_func ?_⟩
  obtain ⟨t, ht, hq⟩ := body cdv A out s H vs Q E (hr.deeper _) hgd hsp
  have I := inv_start (CX := L2.CX P w) (E := E) (N := N) (qual := qual) (f := f) (cd := cdv) S hr.hd e0 hlen r x
  have fin : ∀ {σ' : L2.St} {H' : Hp} {v : V} {u : Value} {s' : Shared}, Inv (cxOf (L2.CX P w) P w K mg base N qual (defScope st) f cdv A out s H E) [] σ' H' s' → RelV v u → Q v H' → CE out P w H s Q u s' := by
    intro σ' H' v u s' J rv q
    exact ⟨v, H', J.os, J.bare, J.base, J.hok, rv, q⟩
  refine wpAny_mono (ht.run [] s1 (start N vs) H _ I hq) ?_ fun e s' hs => hs
  intro fl s' hs
  match fl, hs with
  | .ret u, ⟨v, σ', H', J, rv, q⟩ => exact fin J rv q
  | .next, ⟨σ', H', J, q⟩ => exact fin (v := V.non) (u := Value.none) J rfl q
  | .brk, ⟨_, _, _, q⟩ => exact q.elim
  | .cont, ⟨_, _, _, q⟩ => exact q.elim
end

section
variable {X : Cx} {k : Nat} {f : Addr} {fd : FuncData} {ps ks : List Str} {sp : Sp} {E : XK} {x : Str} {p pos : Pos} {e : Expr} {es : List Expr} {kws : List Keyword} {t tk : TA}
theorem after_call {pins : List (Addr × Obj)} {σ : L2.St} {H : Hp} {s : Shared} {Q : VK} (I : Inv X pins σ H s) (hx : Passes (L2.CX X.prog X.w) X E) {f : Addr} {args : Args}
    (h : codeAny (model X.prog X.w) X.A (.call (.ref f) args) (CR (L2.CX X.prog X.w) X.stack X.prog X.w H s Q E) s) : codeAny (model X.prog X.w) X.A (.call (.ref f) args) (fun r s' => match r with
      | .ok (.ret u) => EP X pins σ Q u s'
      | .ok _ => False
      | .error e => X.xe e s') s := by
  refine codeAny_mono h fun r s' hq => ?_
  match r, hq with
  | .error e, hq => exact hx pins σ H s e s' I hq
  | .ok (.ret u), hq => exact I.after hq
  | .ok .next, hq => exact hq.elim
  | .ok .brk, hq => exact hq.elim
  | .ok .cont, hq => exact hq.elim
theorem runG {pins : List (Addr × Obj)} {σ : L2.St} {H : Hp} {s : Shared} {Q : VK} {us : List Value} {vs : List V} (F : FnG X.prog X.w X.K X.mg X.base k f fd ps sp) (hr : Room k X.A) (hgd : X.A.guards = some []) (hb : Binds X.K fd ps [])
    (hx : Passes (L2.CX X.prog X.w) X E) (I : Inv X pins σ H s) (r : Vals vs us) (h : sp vs H Q E) : wpAny (model X.prog X.w) X.A (call (.ref f) us) (EP X pins σ Q) X.xe s := by
  have hl : (us ++ []).length = ps.length := by rw [List.append_nil, ← r.length]; exact F.len _ _ _ _ h
  have hb' := hb s us I.kIn hl
  rw [List.append_nil] at hb'
  refine wpAny_call (codeAny_mono (after_call (Q := Q) I hx (F.go X.A X.stack s H ⟨us, []⟩ us vs Q E hr hgd I.env0 hb' r h)) fun r s' hq => ?_)
  match r, hq with
  | .error e, hq => exact hq
  | .ok (.ret u), hq => exact hq
  | .ok .next, hq => exact hq.elim
  | .ok .brk, hq => exact hq.elim
  | .ok .cont, hq => exact hq.elim
/-- f(e, ..) -/
theorem pe_callG (F : FnG X.prog X.w X.K X.mg X.base k f fd ps sp) (hr : Room k X.A) (hgd : X.A.guards = some []) (hg : Gl X x) (hm : X.mg x = some (.ref f)) (hk : PySem.W.keepIn X.K (.ref f) = true) (hb : Binds X.K fd ps [])
    (hx : Passes (L2.CX X.prog X.w) X E) (ha : PA X (e :: es) t) (hdb : (x == ("__debug__" : Str)) = false) (h1 : starEach (e :: es) X.env = (false, eval e X.env) :: starEach es X.env) (h2 : (backTo pos (starEach es X.env)).any (·.1) = false) :
    PE X (.Call (.Name x p) (e :: es) [] pos) (fun σ H Q => t σ H fun vs H1 => sp vs H1 Q E) := by
  constructor
  intro pins s σ H Q I h
  refine wpAny_Call_Name_kw (ld_glob I hg hm ?_ hdb)
  refine PySem.W.callWith_K (h₀ := X.base) I.ok.mod.kin hk (thn (ha.run pos pins s σ H _ I h) ?_) h1 h2
  intro us s1 ⟨vs, H1, I1, rv, q⟩
  exact ⟨I1.kIn, runG F hr hgd hb hx I1 rv q⟩
/-- f() -/
theorem pe_callG0 (F : FnG X.prog X.w X.K X.mg X.base k f fd ps sp) (hr : Room k X.A) (hgd : X.A.guards = some []) (hg : Gl X x) (hm : X.mg x = some (.ref f)) (hk : PySem.W.keepIn X.K (.ref f) = true) (hb : Binds X.K fd ps [])
    (hx : Passes (L2.CX X.prog X.w) X E) (hdb : (x == ("__debug__" : Str)) = false) : PE X (.Call (.Name x p) [] [] pos) (fun σ H Q => sp [] H Q E) := by
  constructor
  intro pins s σ H Q I h
  refine wpAny_Call_Name_kw (ld_glob I hg hm ?_ hdb)
  exact PySem.W.callWith_K0 I.kIn hk (runG (us := []) F hr hgd hb hx I .nil h)
end
end Bay

set_option Elab.async false
set_option linter.all false
set_option maxRecDepth 100000
/-! Bay: what the layer's rules say of data. -/
namespace Bay
open PySem PySem.Spec PyProof.Rows L2

/-- what is wanted around: the defs' promises, what is wanted of an exception (as data, as the layer has it), the heap at the entry -/
structure Ctx where
  Γ : Sig
  xw : QX
  E : XK
  H0 : Hp
  S0 : Sto
  /-- the classes of exceptions, by name -/
  cl : Str → Value
/-- an exception as the layer tells it -/
def XR (K : PySem.W.Frag) (cl : Str → Value) (H : Hp) (c : Value) (od : Option Addr) (x : Ex) : Prop :=
  c = cl x.cls ∧ match x.arg with
    | none => od = none
    | some (f, d) => ∃ dx fs v, od = some dx ∧ H dx = some (.xd fs) ∧ fs.lookup f = some v ∧ Rp K H v d
structure EvR (K : PySem.W.Frag) (H : Hp) (σ : L2.St) (ε : Ev) : Prop where
  len : σ.length = ε.length
  get : ∀ (i : Nat) (d : D), ε[i]? = some (some d) → ∃ v, σ[i]? = some (some v) ∧ Rp K H v d
theorem EvR.to {K : PySem.W.Frag} {H H' : Hp} {σ : L2.St} {ε : Ev} (t : Tp H H') (h : EvR K H σ ε) : EvR K H' σ ε := ⟨h.len, fun i d e => let ⟨v, a, b⟩ := h.get i d e; ⟨v, a, b.to t⟩⟩
theorem EvR.set {K : PySem.W.Frag} {H : Hp} {σ : L2.St} {ε : Ev} {v : V} {d : D} (h : EvR K H σ ε) (i : Nat) (r : Rp K H v d) : EvR K H (σ.set i (some v)) (ε.set i (some d)) := by
  refine ⟨by simpa using h.len, fun j e q => ?_⟩
  by_cases hj : i = j
  · subst hj
    by_cases hl : i < ε.length
    · rw [List.getElem?_set_self hl] at q
      cases q
      exact ⟨v, List.getElem?_set_self (by rw [h.len]; exact hl), r⟩
    · rw [List.getElem?_eq_none (by simpa using hl)] at q; cases q
  · rw [List.getElem?_set_ne hj] at q
    obtain ⟨w, a, b⟩ := h.get j e q
    exact ⟨w, by rw [List.getElem?_set_ne hj]; exact a, b⟩
theorem EvR.forget {K : PySem.W.Frag} {H : Hp} {σ : L2.St} {ε : Ev} (h : EvR K H σ ε) (i : Nat) (o : Option V) : EvR K H (σ.set i o) (ε.set i none) := by
  refine ⟨by simpa using h.len, fun j e q => ?_⟩
  by_cases hj : i = j
  · subst hj
    by_cases hl : i < ε.length
    · rw [List.getElem?_set_self hl] at q; cases q
    · rw [List.getElem?_eq_none (by simpa using hl)] at q; cases q
  · rw [List.getElem?_set_ne hj] at q
    obtain ⟨w, a, b⟩ := h.get j e q
    exact ⟨w, by rw [List.getElem?_set_ne hj]; exact a, b⟩
theorem EvR.wipe {K : PySem.W.Frag} {H : Hp} {σ : L2.St} {ε : Ev} (h : EvR K H σ ε) : ∀ vs : List Nat, EvR K H (L2.wipe σ vs) (wipeE ε vs)
  | [] => h
  | v :: vs => (h.wipe vs).forget v none

structure At (K : PySem.W.Frag) (C : Ctx) (σ : L2.St) (H : Hp) (ε : Ev) (S : Sto) : Prop where
  st : Stp C.H0 C.S0 H S
  ev : EvR K H σ ε
  br : Bears K H S
theorem At.on {K : PySem.W.Frag} {C : Ctx} {σ : L2.St} {H H' : Hp} {ε : Ev} {S S' : Sto} (a : At K C σ H ε S) (st : Stp H S H' S') (b : Bears K H' S') : At K C σ H' ε S' :=
  ⟨a.st.trans st, a.ev.to st.tp, b⟩
theorem At.tp {K : PySem.W.Frag} {C : Ctx} {σ : L2.St} {H : Hp} {ε : Ev} {S : Sto} (a : At K C σ H ε S) : Tp C.H0 H := a.st.tp
/-- what follows a value -/
abbrev Fol (K : PySem.W.Frag) (H : Hp) (S : Sto) (Q0 : QD) (Q : VK) : Prop := ∀ d S' v H', Q0 d S' → Stp H S H' S' → Rp K H' v d → Bears K H' S' → Q v H'
abbrev FolB (K : PySem.W.Frag) (H : Hp) (S : Sto) (Q0 : Bool → Sto → Prop) (Q : Bool → Hp → Prop) : Prop := ∀ b S' H', Q0 b S' → Stp H S H' S' → Bears K H' S' → Q b H'
abbrev FolL (K : PySem.W.Frag) (H : Hp) (S : Sto) (Q0 : List D → Sto → Prop) (Q : List V → Hp → Prop) : Prop := ∀ ds S' vs H', Q0 ds S' → Stp H S H' S' → RpL K H' vs ds → Bears K H' S' → Q vs H'
theorem Fol.on {K : PySem.W.Frag} {H H1 : Hp} {S S1 : Sto} {Q0 : QD} {Q : VK} (f : Fol K H S Q0 Q) (st : Stp H S H1 S1) : Fol K H1 S1 Q0 Q := fun d S' v H' q s r b => f d S' v H' q (st.trans s) r b
section
variable (K : PySem.W.Frag) (C : Ctx)
def LE (m : Ev → Sto → QD → Prop) : TE := fun σ H Q => ∃ ε S Q0, At K C σ H ε S ∧ m ε S Q0 ∧ Fol K H S Q0 Q
def LT (m : Ev → Sto → (Bool → Sto → Prop) → Prop) : TT := fun σ H Q => ∃ ε S Q0, At K C σ H ε S ∧ m ε S Q0 ∧ FolB K H S Q0 Q
def LA (m : Ev → Sto → (List D → Sto → Prop) → Prop) : TA := fun σ H Q => ∃ ε S Q0, At K C σ H ε S ∧ m ε S Q0 ∧ FolL K H S Q0 Q
/-- an operation on two values -/
def LR (op : D → D → Sto → QD → Prop) : R2 := fun x y H Q => ∃ d e S Q0, Rp K H x d ∧ Rp K H y e ∧ Bears K H S ∧ op d e S Q0 ∧ Fol K H S Q0 Q
def LU (op : D → Sto → QD → Prop) : V → Hp → VK → Prop := fun x H Q => ∃ d S Q0, Rp K H x d ∧ Bears K H S ∧ op d S Q0 ∧ Fol K H S Q0 Q
/-- .. on several -/
def LC (op : List D → Sto → QD → Prop) : List V → Hp → VK → Prop := fun vs H Q => ∃ ds S Q0, RpL K H vs ds ∧ Bears K H S ∧ op ds S Q0 ∧ Fol K H S Q0 Q
def LM (op : D → List D → Sto → QD → Prop) : V → List V → Hp → VK → Prop := fun x vs H Q => ∃ d ds S Q0, Rp K H x d ∧ RpL K H vs ds ∧ Bears K H S ∧ op d ds S Q0 ∧ Fol K H S Q0 Q
/-- a def's promise over data, as the layer has it -/
def LF (cl : Str → Value) (n : Nat) (sp : FnD) : Sp := fun vs H Q E => vs.length = n ∧ ∃ ds S Q0 X0, RpL K H vs ds ∧ Bears K H S ∧ sp ds S Q0 X0 ∧ Fol K H S Q0 Q ∧ ∀ x S' c od H', X0 x S' → Stp H S H' S' → Bears K H' S' → XR K cl H' c od x → E c od H'
end
theorem _root_.L2.PE.imp {X : Cx} {e : Expr} {t t' : TE} (h : PE X e t) (i : ∀ σ H Q, t' σ H Q → t σ H Q) : PE X e t' := ⟨fun pins s σ H Q I w => h.run pins s σ H Q I (i _ _ _ w)⟩
theorem _root_.L2.PT.imp {X : Cx} {e : Expr} {t t' : TT} (h : PT X e t) (i : ∀ σ H Q, t' σ H Q → t σ H Q) : PT X e t' := ⟨fun pins s σ H Q I w => h.run pins s σ H Q I (i _ _ _ w)⟩
theorem _root_.L2.PA.imp {X : Cx} {e : List Expr} {t t' : TA} (h : PA X e t) (i : ∀ σ H Q, t' σ H Q → t σ H Q) : PA X e t' := ⟨fun pos pins s σ H Q I w => h.run pos pins s σ H Q I (i _ _ _ w)⟩
theorem _root_.L2.PS.imp {X : Cx} {e : Stmt} {t t' : TS} (h : PS X e t) (i : ∀ D σ H, t' D σ H → t D σ H) : PS X e t' := ⟨fun pins s σ H D I w => h.run pins s σ H D I (i _ _ _ w)⟩
theorem _root_.L2.PSs.imp {X : Cx} {e : List Stmt} {t t' : TS} (h : PSs X e t) (i : ∀ D σ H, t' D σ H → t D σ H) : PSs X e t' := ⟨fun pins s σ H D I w => h.run pins s σ H D I (i _ _ _ w)⟩
section
variable {K : PySem.W.Frag} {C : Ctx} {ma mb : Ev → Sto → QD → Prop} {op : D → D → Sto → QD → Prop} {u : D → Sto → QD → Prop}
theorem lift_bin : ∀ σ H Q, LE K C (fun ε S Q => ma ε S fun x S1 => mb ε S1 fun y S2 => op x y S2 Q) σ H Q → tOp (LR K op) (LE K C ma) (LE K C mb) σ H Q := by
  rintro σ H Q ⟨ε, S, Q0, at', hm, hQ⟩
  refine ⟨ε, S, _, at', hm, fun d S1 v H1 q st rp br => ⟨ε, S1, _, at'.on st br, q, fun d2 S2 v2 H2 q2 st2 rp2 br2 => ?_⟩⟩
  exact ⟨d, d2, S2, Q0, rp.to st2.tp, rp2, br2, q2, fun d' S' v' H' q' st' r' b' => hQ _ _ _ _ q' (st.trans (st2.trans st')) r' b'⟩
theorem lift_un : ∀ σ H Q, LE K C (fun ε S Q => ma ε S fun x S1 => u x S1 Q) σ H Q → tUn (LU K u) (LE K C ma) σ H Q := by
  rintro σ H Q ⟨ε, S, Q0, at', hm, hQ⟩
  refine ⟨ε, S, _, at', hm, fun d S1 v H1 q st rp br => ?_⟩
  exact ⟨d, S1, Q0, rp, br, q, fun d' S' v' H' q' st' r' b' => hQ _ _ _ _ q' (st.trans st') r' b'⟩
/-- a new list -/
theorem new_list {H : Hp} {S : Sto} {Q0 : QD} {Q : VK} {xs : List D} {vs : List V} {p : Addr} (n : H p = none) (br : Bears K H S) (r : RpL K H vs xs) (q : newL xs S Q0) (f : Fol K H S Q0 Q) : Q (.ref p) (upd H p (.lst vs)) :=
  f _ _ _ _ (q.2 p (br.no n)) (Stp.made n) (.ref p) (br.made n ⟨vs, upd_same, r.to (Tp.fresh n)⟩)
theorem new_tup {H : Hp} {S : Sto} {Q0 : QD} {Q : VK} {xs : List D} {vs : List V} {p : Addr} (n : H p = none) (br : Bears K H S) (r : RpL K H vs xs) (q : Q0 (.tup xs) S) (f : Fol K H S Q0 Q) : Q (.ref p) (upd H p (.tup vs)) :=
  f _ _ _ _ q (Stp.newT n) (.tup upd_same (r.to (Tp.fresh n))) (br.newT n)
theorem at_lst {H : Hp} {S : Sto} {a : Addr} {xs : List D} (br : Bears K H S) (e : S a = some (.lst xs)) : ∃ vs, H a = some (.lst vs) ∧ RpL K H vs xs := br a _ e
theorem write_list {H : Hp} {S : Sto} {Q0 : QD} {Q : VK} {a : Addr} {u : O} {xs : List D} {vs : List V} {d : D} {v : V} (br : Bears K H S) (e : S a = some u) (r : RpL K H vs xs) (rv : Rp K H v d) (q : Q0 d (S.upd a (.lst xs))) (f : Fol K H S Q0 Q) : Q v (upd H a (.lst vs)) := by
  obtain ⟨w, z, c⟩ := (br a _ e).chg
  exact f _ _ _ _ q (Stp.wrote br e) (rv.to (Tp.over z c)) (br.wrote e ⟨vs, upd_same, r.to (Tp.over z c)⟩)
end

/-! ### operators -/
theorem flatten_rep {K : PySem.W.Frag} {H : Hp} {vs : List V} {ds : List D} (r : RpL K H vs ds) : ∀ n : Nat, RpL K H (List.replicate n vs).flatten (List.replicate n ds).flatten
  | 0 => .nil
  | n + 1 => by rw [List.replicate_succ, List.replicate_succ, List.flatten_cons, List.flatten_cons]; exact r.app (flatten_rep r n)
section
variable {X : Cx}
theorem or_add : OpR X (binaryOp .Add) (LR X.K addD) := by
  intro pins s σ H x y v u Q I rx ry h
  obtain ⟨d, e, S, Q0, rd, re, br, q, f⟩ := h
  cases d <;> cases e <;> first | (exact q.elim) | skip
  · rename_i i j
    rw [rd.int_inv] at rx; rw [re.int_inv] at ry
    exact op_add pins s σ H _ _ v u Q I rx ry ⟨i, j, rfl, rfl, f _ _ _ _ q Stp.refl (.int _) br⟩
  · rename_i i j
    rw [rd.str_inv] at rx; rw [re.str_inv] at ry
    exact op_add_str pins s σ H _ _ v u Q I rx ry ⟨i, j, rfl, rfl, q.1, f _ _ _ _ q.2 Stp.refl (.str _) br⟩
  · rename_i xs ys
    obtain ⟨a, vs, rfl, ha, r1⟩ := rd.tup_inv
    obtain ⟨b, ws, rfl, hb, r2⟩ := re.tup_inv
    obtain ⟨q1, q2⟩ := q
    refine op_catA pins s σ H _ _ v u Q I rx ry ⟨a, b, vs, ws, rfl, rfl, .of ha, .of hb, by rw [r1.length, r2.length]; exact q1, fun z => ?_, fun _ z => ?_, fun _ _ p n => ?_⟩
    · have : xs = [] := r1.nil_iff.mp z
      subst this
      exact f _ _ _ _ q2 Stp.refl re br
    · have : ys = [] := r2.nil_iff.mp z
      subst this
      rw [List.append_nil] at q2
      exact f _ _ _ _ q2 Stp.refl rd br
    · exact new_tup n br (r1.app r2) q2 f
  · rename_i a b
    rw [rd.ref_inv] at rx; rw [re.ref_inv] at ry
    cases h1 : S a with
    | none => simp only [addD, h1] at q
    | some o1 =>
      cases h2 : S b with
      | none => simp only [addD, h1, h2] at q
      | some o2 =>
        cases o1 <;> cases o2 <;> simp only [addD, h1, h2] at q <;> first | (exact q.elim) | skip
        obtain ⟨vs, z1, r1⟩ := at_lst br h1
        obtain ⟨ws, z2, r2⟩ := at_lst br h2
        refine op_cat pins s σ H _ _ v u Q I rx ry ⟨a, b, vs, ws, rfl, rfl, z1, z2, ?_, fun p n => new_list n br (r1.app r2) q f⟩
        have := q.1
        rw [List.length_append] at this
        rw [r1.length, r2.length]; exact this
theorem or_sub : OpR X (binaryOp .Sub) (LR X.K subD) := by
  intro pins s σ H x y v u Q I rx ry h
  obtain ⟨d, e, S, Q0, rd, re, br, q, f⟩ := h
  cases d <;> cases e <;> first | (exact q.elim) | skip
  rename_i i j
  rw [rd.int_inv] at rx; rw [re.int_inv] at ry
  exact op_sub pins s σ H _ _ v u Q I rx ry ⟨i, j, rfl, rfl, f _ _ _ _ q Stp.refl (.int _) br⟩
theorem or_fdv : OpR X (binaryOp .FloorDiv) (LR X.K fdvD) := by
  intro pins s σ H x y v u Q I rx ry h
  obtain ⟨d, e, S, Q0, rd, re, br, q, f⟩ := h
  cases d <;> cases e <;> first | (exact q.elim) | skip
  rename_i i j
  rw [rd.int_inv] at rx; rw [re.int_inv] at ry
  exact op_fdiv pins s σ H _ _ v u Q I rx ry ⟨i, j, rfl, rfl, q.1, f _ _ _ _ q.2 Stp.refl (.int _) br⟩
theorem or_mod : OpR X (binaryOp .Mod) (LR X.K modD) := by
  intro pins s σ H x y v u Q I rx ry h
  obtain ⟨d, e, S, Q0, rd, re, br, q, f⟩ := h
  cases d <;> cases e <;> first | (exact q.elim) | skip
  rename_i i j
  rw [rd.int_inv] at rx; rw [re.int_inv] at ry
  exact op_mod pins s σ H _ _ v u Q I rx ry ⟨i, j, rfl, rfl, q.1, f _ _ _ _ q.2 Stp.refl (.int _) br⟩
theorem or_pow : OpR X (binaryOp .Pow) (LR X.K powD) := by
  intro pins s σ H x y v u Q I rx ry h
  obtain ⟨d, e, S, Q0, rd, re, br, q, f⟩ := h
  cases d <;> cases e <;> first | (exact q.elim) | skip
  rename_i i j
  rw [rd.int_inv] at rx; rw [re.int_inv] at ry
  exact op_pow pins s σ H _ _ v u Q I rx ry ⟨i, j, rfl, rfl, q.1, f _ _ _ _ q.2 Stp.refl (.int _) br⟩
theorem or_neg : UnR X (unaryOp .USub) (LU X.K negD) := by
  intro pins s σ H x v Q I rx h
  obtain ⟨d, S, Q0, rd, br, q, f⟩ := h
  cases d <;> first | (exact q.elim) | skip
  rename_i i
  rw [rd.int_inv] at rx
  exact un_neg pins s σ H _ v Q I rx ⟨i, rfl, f _ _ _ _ q Stp.refl (.int _) br⟩
end
end Bay

set_option Elab.async false
set_option linter.all false
set_option maxRecDepth 100000
namespace Bay
open PySem PySem.Spec PyProof.Rows L2

/-! ### trees -/
mutual
theorem Vw.dp {K : PySem.W.Frag} {H : Hp} {S : Sto} (br : Bears K H S) : ∀ {d : D} {t : PyData}, Vw S d t → ∀ {v : V}, Rp K H v d → Dp K H v t
  | _, _, .non, v, r => by rw [r.non_inv]; exact .non
  | _, _, .bl b, v, r => by rw [r.bl_inv]; exact .bl b
  | _, _, .int i, v, r => by rw [r.int_inv]; exact .int i
  | _, _, .str x, v, r => by rw [r.str_inv]; exact .str x
  | _, _, .tup w, v, r => by
    obtain ⟨a, vs, rfl, h, q⟩ := r.tup_inv
    exact .tup (.of h) (VwL.dp br w q)
  | _, _, .rot w, v, r => by
    cases r with
    | rot h q => exact .tup h.sq (VwL.dp br w q)
  | _, _, .rol w, v, r => by
    cases r with
    | rol h q => exact .lst h.sq (VwL.dp br w q)
  | _, _, .lst e w, v, r => by
    rw [r.ref_inv]
    obtain ⟨vs, h, q⟩ := at_lst br e
    exact .lst (.of h) (VwL.dp br w q)
theorem VwL.dp {K : PySem.W.Frag} {H : Hp} {S : Sto} (br : Bears K H S) : ∀ {ds : List D} {ts : List PyData}, VwL S ds ts → ∀ {vs : List V}, RpL K H vs ds → DpAll K H vs ts
  | _, _, .nil, vs, r => by cases r; exact .nil
  | _, _, .cons h t, vs, r => by
    cases r with
    | cons r1 r2 => exact .cons (Vw.dp br h r1) (VwL.dp br t r2)
end

theorem sEq_scal {d e : D} {b : Bool} {K : PySem.W.Frag} {H : Hp} {x y : V} (rd : Rp K H x d) (re : Rp K H y e) (h : sEq d e = some b) : scal x y = true ∧ decide (x = y) = b := by
  cases d <;> cases e <;> simp only [sEq, Option.some.injEq, reduceCtorEq] at h <;> first | (exact h.elim) | skip
  all_goals (first | (cases rd; cases re; subst h; exact ⟨rfl, by simp⟩) | (cases rd; cases re; subst h; exact ⟨rfl, rfl⟩))

section
variable {X : Cx}
theorem or_eqG (hu : X.A.units + 64 < cLine) (n : Bool) : OpR X (compareOp (if n then .NotEq else .Eq)) (LR X.K fun d e S Q => eqD d e S fun b => Q (.bl (if n then !b else b)) S) := by
  intro pins s σ H x y v u Q I rx ry h
  obtain ⟨d, e, S, Q0, rd, re, br, q, f⟩ := h
  unfold eqD at q
  cases hs : sEq d e with
  | some b =>
    simp only [hs] at q
    obtain ⟨h1, h2⟩ := sEq_scal rd re hs
    cases n with
    | false => exact op_eq pins s σ H _ _ v u Q I rx ry ⟨h1, by rw [h2]; exact f _ _ _ _ q Stp.refl (.bl _) br⟩
    | true => exact op_ne pins s σ H _ _ v u Q I rx ry ⟨h1, by rw [h2]; exact f _ _ _ _ q Stp.refl (.bl _) br⟩
  | none =>
    simp only [hs] at q
    obtain ⟨t, w, h1, h2, s1, s2, q⟩ := q
    cases n with
    | false => exact op_eqD hu pins s σ H _ _ v u Q I rx ry ⟨t, w, h1.dp br rd, h2.dp br re, s1, s2, f _ _ _ _ q Stp.refl (.bl _) br⟩
    | true => exact op_neD hu pins s σ H _ _ v u Q I rx ry ⟨t, w, h1.dp br rd, h2.dp br re, s1, s2, f _ _ _ _ q Stp.refl (.bl _) br⟩
theorem or_lt (hu : X.A.units < cLine) : OpR X (compareOp .Lt) (LR X.K (cmpD .Lt)) := by
  intro pins s σ H x y v u Q I rx ry h
  obtain ⟨d, e, S, Q0, rd, re, br, q, f⟩ := h
  cases d <;> cases e <;> first | (exact q.elim) | skip
  · rename_i i j
    rw [rd.int_inv] at rx; rw [re.int_inv] at ry
    exact op_lt pins s σ H _ _ v u Q I rx ry ⟨i, j, rfl, rfl, f _ _ _ _ q Stp.refl (.bl _) br⟩
  · rename_i xs ys
    obtain ⟨ns, ms, h1, h2, q⟩ := q
    have intsE : ∀ {l : List D} {ns : List Int}, intsOf l = some ns → l = ns.map D.int := by
      intro l
      induction l with
      | nil => intro ns h; cases h; rfl
      | cons d l ih =>
        intro ns h
        cases d <;> simp only [intsOf, reduceCtorEq] at h
        rename_i i
        cases hi : intsOf l with
        | none => simp only [hi, reduceCtorEq] at h
        | some ms => simp only [hi, Option.some.injEq] at h; subst h; rw [ih hi]; rfl
    obtain ⟨a, vs, rfl, ha, r1⟩ := rd.tup_inv
    obtain ⟨b, ws, rfl, hb, r2⟩ := re.tup_inv
    rw [intsE h1] at r1; rw [intsE h2] at r2
    rw [r1.ints_inv] at ha; rw [r2.ints_inv] at hb
    exact op_ltT hu pins s σ H _ _ v u Q I rx ry ⟨a, b, ns, ms, rfl, rfl, .of ha, .of hb, f _ _ _ _ q Stp.refl (.bl _) br⟩
theorem or_le : OpR X (compareOp .LtE) (LR X.K (cmpD .LtE)) := by
  intro pins s σ H x y v u Q I rx ry h
  obtain ⟨d, e, S, Q0, rd, re, br, q, f⟩ := h
  cases d <;> cases e <;> first | (exact q.elim) | skip
  rename_i i j
  rw [rd.int_inv] at rx; rw [re.int_inv] at ry
  exact op_le pins s σ H _ _ v u Q I rx ry ⟨i, j, rfl, rfl, f _ _ _ _ q Stp.refl (.bl _) br⟩
theorem or_gt : OpR X (compareOp .Gt) (LR X.K (cmpD .Gt)) := by
  intro pins s σ H x y v u Q I rx ry h
  obtain ⟨d, e, S, Q0, rd, re, br, q, f⟩ := h
  cases d <;> cases e <;> first | (exact q.elim) | skip
  rename_i i j
  rw [rd.int_inv] at rx; rw [re.int_inv] at ry
  exact op_gt pins s σ H _ _ v u Q I rx ry ⟨i, j, rfl, rfl, f _ _ _ _ q Stp.refl (.bl _) br⟩
theorem or_ge : OpR X (compareOp .GtE) (LR X.K (cmpD .GtE)) := by
  intro pins s σ H x y v u Q I rx ry h
  obtain ⟨d, e, S, Q0, rd, re, br, q, f⟩ := h
  cases d <;> cases e <;> first | (exact q.elim) | skip
  rename_i i j
  rw [rd.int_inv] at rx; rw [re.int_inv] at ry
  exact op_ge pins s σ H _ _ v u Q I rx ry ⟨i, j, rfl, rfl, f _ _ _ _ q Stp.refl (.bl _) br⟩

/-- keys -/
theorem keyD_inv {K : PySem.W.Frag} {H : Hp} {v : V} {d : D} {k : Key} (r : Rp K H v d) (h : keyD d = some k) : v = kV k := by
  cases d <;> simp only [keyD, Option.some.injEq, reduceCtorEq] at h <;> subst h
  · rw [r.int_inv]; rfl
  · rw [r.str_inv]; rfl
theorem keysD_inv {K : PySem.W.Frag} {H : Hp} : ∀ {ds : List D} {vs : List V} {ks : List Key}, RpL K H vs ds → keysD ds = some ks → vs = ks.map kV
  | [], vs, ks, r, h => by cases r; cases h; rfl
  | d :: ds, vs, ks, r, h => by
    cases r with
    | cons r1 r2 =>
      simp only [keysD] at h
      cases h1 : keyD d with
      | none => simp only [h1, reduceCtorEq] at h
      | some k =>
        cases h2 : keysD ds with
        | none => simp only [h1, h2, reduceCtorEq] at h
        | some ks' =>
          simp only [h1, h2, Option.some.injEq] at h
          subst h
          rw [keyD_inv r1 h1, keysD_inv r2 h2]; rfl
theorem keyT_inv {K : PySem.W.Frag} {H : Hp} {v : V} {d : D} {k : List Key} (r : Rp K H v d) (h : keyT d = some k) : ∃ b, v = .ref b ∧ H b = some (.tup (k.map kV)) := by
  cases d <;> simp only [keyT, reduceCtorEq] at h
  obtain ⟨a, vs, rfl, ha, r1⟩ := r.tup_inv
  rw [keysD_inv r1 h] at ha
  exact ⟨a, rfl, ha⟩
section
variable {κ : Type} [DecidableEq κ] {K : PySem.W.Frag} {H : Hp}
theorem PD.val {ws : List (κ × V)} {kvs : List (κ × D)} (h : PD K H ws kvs) (k : κ) : (valV ws k).isSome = (valD kvs k).isSome ∧ ∀ d, valD kvs k = some d → ∃ v, valV ws k = some v ∧ Rp K H v d := by
  induction h with
  | nil => exact ⟨rfl, fun d e => by cases e⟩
  | cons r t ih =>
    rename_i p q l m
    obtain ⟨e1, e2⟩ := r
    by_cases hk : p.1 = k
    · have hk' : q.1 = k := e1 ▸ hk
      have h1 : valD (q :: m) k = some q.2 := by unfold valD; rw [List.find?_cons_of_pos (by simpa using hk')]; rfl
      rw [valV_pos hk, h1]
      exact ⟨rfl, fun d e => by cases e; exact ⟨_, rfl, e2⟩⟩
    · have hk' : ¬ q.1 = k := fun z => hk (e1.trans z)
      have h1 : valD (q :: m) k = valD m k := by unfold valD; rw [List.find?_cons_of_neg (by simpa using hk')]
      rw [valV_neg hk, h1]
      exact ih
theorem PD.any {ws : List (κ × V)} {kvs : List (κ × D)} (h : PD K H ws kvs) (k : κ) : (ws.any fun kv => decide (kv.1 = k)) = kvs.any fun kv => decide (kv.1 = k) := by
  induction h with
  | nil => rfl
  | cons r t ih => rw [List.any_cons, List.any_cons, ih, r.1]
theorem PD.app {ws ws' : List (κ × V)} {kvs kvs' : List (κ × D)} (h : PD K H ws kvs) (h' : PD K H ws' kvs') : PD K H (ws ++ ws') (kvs ++ kvs') := by
  induction h with
  | nil => exact h'
  | cons r t ih => exact .cons r ih
theorem PD.repl {ws : List (κ × V)} {kvs : List (κ × D)} (h : PD K H ws kvs) (k : κ) {v : V} {d : D} (r : Rp K H v d) : PD K H (ws.map fun kv => if kv.1 = k then (kv.1, v) else kv) (kvs.map fun kv => if kv.1 = k then (kv.1, d) else kv) := by
  induction h with
  | nil => exact .nil
  | cons q t ih =>
    rename_i p q' l m
    rw [List.map_cons, List.map_cons]
    refine .cons ?_ ih
    by_cases hk : p.1 = k
    · have hk' : q'.1 = k := q.1 ▸ hk
      rw [if_pos hk, if_pos hk']
      exact ⟨q.1, r⟩
    · have hk' : ¬ q'.1 = k := fun z => hk (q.1.trans z)
      rw [if_neg hk, if_neg hk']
      exact q
theorem PD.put {ws : List (κ × V)} {kvs : List (κ × D)} (h : PD K H ws kvs) (k : κ) {v : V} {d : D} (r : Rp K H v d) : PD K H (putK ws k v) (putD kvs k d) := by
  unfold putK putD
  rw [h.any k]
  split
  · exact h.repl k r
  · exact h.app (.cons ⟨rfl, r⟩ .nil)
theorem PD.length {ws : List (κ × V)} {kvs : List (κ × D)} (h : PD K H ws kvs) : ws.length = kvs.length := by
  induction h with
  | nil => rfl
  | cons r t ih => rw [List.length_cons, List.length_cons, ih]
end
theorem dk_get {K : PySem.W.Frag} {H : Hp} {S : Sto} {a : Addr} {kvs : List (Key × D)} {k : Key} (br : Bears K H S) (e : S a = some (.dK kvs)) : ∃ o, DGet H a (kV k) o ∧ o.isSome = (valD kvs k).isSome ∧ ∀ d, valD kvs k = some d → ∃ v, o = some v ∧ Rp K H v d := by
  obtain ⟨ws, h, q⟩ := br a _ e
  obtain ⟨h1, h2⟩ := q.val k
  exact ⟨_, .k h, h1, h2⟩
theorem dt_get {K : PySem.W.Frag} {H : Hp} {S : Sto} {a b : Addr} {kvs : List (List Key × D)} {k : List Key} (br : Bears K H S) (e : S a = some (.dT kvs)) (hb : H b = some (.tup (k.map kV))) :
    ∃ o, DGet H a (.ref b) o ∧ o.isSome = (valD kvs k).isSome ∧ ∀ d, valD kvs k = some d → ∃ v, o = some v ∧ Rp K H v d := by
  obtain ⟨ws, h, q⟩ := br a _ e
  obtain ⟨h1, h2⟩ := q.val k
  exact ⟨_, .t h hb, h1, h2⟩
/-- x in a sequence -/
theorem mem_run {neg : Bool} {pins : List (Addr × Obj)} {s : Shared} {σ : L2.St} {H : Hp} {x y : V} {v u : Value} {Q : VK} {d : D} {xs : List D} {S : Sto} {Q0 : QD} (hu : X.A.units + 65 < cLine) (I : Inv X pins σ H s) (rx : RelV x v) (ry : RelV y u)
    (rd : Rp X.K H x d) (br : Bears X.K H S) (hy : ∀ us, VwL S xs us → Dp X.K H y (.list us) ∨ Dp X.K H y (.tuple us)) (q : memD d xs S fun b => Q0 (.bl (if neg then !b else b)) S) (f : Fol X.K H S Q0 Q) :
    wpAny (model X.prog X.w) X.A (compareOp (if neg then .NotIn else .In) v u) (EP X pins σ Q) X.xe s := by
  obtain ⟨t, us, h1, h2, s1, s2, q⟩ := q
  obtain ⟨as, r1⟩ := Dp.reads I t x v (h1.dp br rd) rx
  have go : Q (.bl (if neg then !(us.any fun z => PyData.eqv z t) else us.any fun z => PyData.eqv z t)) H := f _ _ _ _ q Stp.refl (.bl _) br
  rcases hy us h2 with hl | hl
  · obtain ⟨bs, r2⟩ := Dp.reads I _ y u hl ry
    cases neg with
    | false => exact SeqAt.in_list_reads r2 r1 (SeqAt.canLay_of_shaped s2) (SeqAt.canLay_of_shaped s1) (room_in_shaped s1 hu) ⟨.bl _, H, I, rfl, go⟩
    | true => exact SeqAt.notIn_list_reads r2 r1 (SeqAt.canLay_of_shaped s2) (SeqAt.canLay_of_shaped s1) (room_in_shaped s1 hu) ⟨.bl _, H, I, rfl, go⟩
  · obtain ⟨bs, r2⟩ := Dp.reads I _ y u hl ry
    cases neg with
    | false => exact SeqAt.in_tuple_reads r2 r1 (SeqAt.canLay_of_shaped s2) (SeqAt.canLay_of_shaped s1) (room_in_shaped s1 hu) ⟨.bl _, H, I, rfl, go⟩
    | true => exact SeqAt.notIn_tuple_reads r2 r1 (SeqAt.canLay_of_shaped s2) (SeqAt.canLay_of_shaped s1) (room_in_shaped s1 hu) ⟨.bl _, H, I, rfl, go⟩
theorem or_in (hu : X.A.units + 65 < cLine) (neg : Bool) : OpR X (compareOp (if neg then .NotIn else .In)) (LR X.K fun d e S Q => inD d e S fun b => Q (.bl (if neg then !b else b)) S) := by
  intro pins s σ H x y v u Q I rx ry h
  obtain ⟨d, e, S, Q0, rd, re, br, q, f⟩ := h
  have hu1 : X.A.units + 1 < cLine := by omega
  have seqT : ∀ {ys : List D}, e = .tup ys → ∀ us, VwL S ys us → Dp X.K H y (.list us) ∨ Dp X.K H y (.tuple us) := fun he us w => .inr (Vw.dp br (.tup w) (he ▸ re))
  cases e with
  | tup ys =>
    have q' : memD d ys S fun b => Q0 (.bl (if neg then !b else b)) S := by cases d <;> exact q
    exact mem_run hu I rx ry rd br (fun us w => .inr (Vw.dp br (.tup w) re)) q' f
  | rot ys =>
    have q' : memD d ys S fun b => Q0 (.bl (if neg then !b else b)) S := by cases d <;> exact q
    exact mem_run hu I rx ry rd br (fun us w => .inr (Vw.dp br (.rot w) re)) q' f
  | rol ys =>
    have q' : memD d ys S fun b => Q0 (.bl (if neg then !b else b)) S := by cases d <;> exact q
    exact mem_run hu I rx ry rd br (fun us w => .inl (Vw.dp br (.rol w) re)) q' f
  | str z =>
    cases d <;> first | (exact q.elim) | skip
    rename_i w
    obtain ⟨c, rfl, q⟩ := q
    rw [rd.str_inv] at rx; rw [re.str_inv] at ry
    cases neg with
    | false => exact op_in_sign pins s σ H _ _ v u Q I rx ry ⟨c, z, rfl, rfl, f _ _ _ _ q Stp.refl (.bl _) br⟩
    | true => exact op_notIn_sign pins s σ H _ _ v u Q I rx ry ⟨c, z, rfl, rfl, f _ _ _ _ q Stp.refl (.bl _) br⟩
  | ref a =>
    have q' : match S a with
      | some (.lst xs) => memD d xs S fun b => Q0 (.bl (if neg then !b else b)) S
      | some (.dK kvs) => ∃ k, keyD d = some k ∧ Q0 (.bl (if neg then !(valD kvs k).isSome else (valD kvs k).isSome)) S
      | some (.dT kvs) => ∃ k, keyT d = some k ∧ Q0 (.bl (if neg then !(valD kvs k).isSome else (valD kvs k).isSome)) S
      | _ => False := by cases d <;> exact q
    clear q
    have eu : u = .ref a := by rw [re.ref_inv] at ry; exact ry
    have ey := re.ref_inv
    subst ey
    cases h1 : S a with
    | none => simp only [h1] at q'
    | some o =>
      cases o with
      | lst xs =>
        simp only [h1] at q'
        exact mem_run hu I rx ry rd br (fun us w => .inl (Vw.dp br (.lst h1 w) re)) q' f
      | dK kvs =>
        simp only [h1] at q'
        obtain ⟨k, e1, q⟩ := q'
        obtain ⟨o, g, eo, _⟩ := dk_get (k := k) br h1
        rw [← eo] at q
        rw [keyD_inv rd e1] at rx
        subst eu
        cases neg with
        | false => exact d_in hu1 I g rx fun s' I' => ⟨.bl _, H, I', rfl, f _ _ _ _ q Stp.refl (.bl _) br⟩
        | true => exact d_notIn hu1 I g rx fun s' I' => ⟨.bl _, H, I', rfl, f _ _ _ _ q Stp.refl (.bl _) br⟩
      | dT kvs =>
        simp only [h1] at q'
        obtain ⟨k, e1, q⟩ := q'
        obtain ⟨b, rfl, hb⟩ := keyT_inv rd e1
        obtain ⟨o, g, eo, _⟩ := dt_get br h1 hb
        rw [← eo] at q
        subst eu
        cases neg with
        | false => exact d_in hu1 I g rx fun s' I' => ⟨.bl _, H, I', rfl, f _ _ _ _ q Stp.refl (.bl _) br⟩
        | true => exact d_notIn hu1 I g rx fun s' I' => ⟨.bl _, H, I', rfl, f _ _ _ _ q Stp.refl (.bl _) br⟩
      | ins C fs => simp only [h1] at q'
  | non => cases d <;> exact q.elim
  | bl b => cases d <;> exact q.elim
  | int i => cases d <;> exact q.elim
  | ty n => cases d <;> exact q.elim
theorem or_cmp (hu : X.A.units + 65 < cLine) (op : CmpOp) : OpR X (compareOp op) (LR X.K (cmpD op)) := by
  cases op with
  | Eq => exact or_eqG (by omega) false
  | NotEq => exact or_eqG (by omega) true
  | Lt => exact or_lt (by omega)
  | LtE => exact or_le
  | Gt => exact or_gt
  | GtE => exact or_ge
  | In => exact or_in hu false
  | NotIn => exact or_in hu true
  | Is => intro pins s σ H x y v u Q I rx ry ⟨d, e, S, Q0, rd, re, br, q, f⟩; exact q.elim
  | IsNot => intro pins s σ H x y v u Q I rx ry ⟨d, e, S, Q0, rd, re, br, q, f⟩; exact q.elim
end
end Bay

set_option Elab.async false
set_option linter.all false
set_option maxRecDepth 100000
namespace Bay
open PySem PySem.Spec PyProof.Rows L2

/-! ### places of lists -/
theorem atI_map {α β : Type} {R : α → β → Prop} {xs : List α} {ys : List β} (hl : xs.length = ys.length) (h : ∀ (j : Nat) (y : β), ys[j]? = some y → ∃ x, xs[j]? = some x ∧ R x y) {i : Int} {y : β} (e : atI ys i = some y) : ∃ x, atI xs i = some x ∧ R x y := by
  unfold atI at e ⊢
  rw [hl]
  cases q : ixN ys.length i with
  | none => rw [q] at e; cases e
  | some j =>
    rw [q] at e
    exact h j y e
section
variable {X : Cx}
theorem list_at {pins : List (Addr × Obj)} {s : Shared} {σ : L2.St} {H : Hp} {v u : Value} {Q : VK} {p : Addr} {vs : List V} {xs : List D} {d : D} {y : V} {S : Sto} {Q0 : QD} {value slice : Expr} (I : Inv X pins σ H s) (rx : RelV (.ref p) v) (ry : RelV y u) (rd : Rp X.K H y d) (br : Bears X.K H S)
    (hs : SqL X.K H p vs ∨ SqT X.K H p vs) (r : RpL X.K H vs xs) (q : idxL xs d S Q0) (f : Fol X.K H S Q0 Q) (hp : subscripted slice false v u = operate [v, u] (getItem v u)) : wpAny (model X.prog X.w) X.A (subscriptTail value slice v u) (EP X pins σ Q) X.xe s := by
  cases d <;> first | (exact q.elim) | skip
  rename_i i
  obtain ⟨e, he, q⟩ := q
  have ey := rd.int_inv
  subst ey
  obtain ⟨x, hx, rx'⟩ := atI_map (R := fun v d => Rp X.K H v d) r.length (fun j y e => r.get e) he
  rcases hs with hs | hs
  · exact ix_list value slice pins s σ H _ _ v u Q I rx ry ⟨p, vs, i, x, rfl, rfl, hs, hx, f _ _ _ _ q Stp.refl rx' br⟩ hp
  · exact ix_tup value slice pins s σ H _ _ v u Q I rx ry ⟨p, vs, i, x, rfl, rfl, hs, hx, f _ _ _ _ q Stp.refl rx' br⟩ hp
theorem or_idx (hu : X.A.units + 1 < cLine) : IxR X (LR X.K idxD) := by
  intro value slice pins s σ H x y v u Q I rx ry h hp
  obtain ⟨d, e, S, Q0, rd, re, br, q, f⟩ := h
  cases d with
  | tup xs =>
    obtain ⟨a, vs, rfl, ha, r1⟩ := rd.tup_inv
    exact list_at I rx ry re br (.inr (.of ha)) r1 (by cases e <;> exact q) f hp
  | rot xs =>
    cases rd with
    | rot h r1 => exact list_at I rx ry re br (.inr h.sq) r1 (by cases e <;> exact q) f hp
  | rol xs =>
    cases rd with
    | rol h r1 => exact list_at I rx ry re br (.inl h.sq) r1 (by cases e <;> exact q) f hp
  | str z =>
    cases e <;> first | (exact q.elim) | skip
    rename_i i
    obtain ⟨q1, c, q2, q3⟩ := q
    rw [rd.str_inv] at rx; rw [re.int_inv] at ry
    exact ix_str value slice pins s σ H _ _ v u Q I rx ry ⟨z, i, c, rfl, rfl, q1, q2, f _ _ _ _ q3 Stp.refl (.str _) br⟩ hp
  | ref a =>
    have ex := rd.ref_inv
    subst ex
    have ev : v = .ref a := rx
    have q' : match S a with
      | some (.lst xs) => idxL xs e S Q0
      | some (.dK kvs) => ∃ k d, keyD e = some k ∧ valD kvs k = some d ∧ Q0 d S
      | some (.dT kvs) => ∃ k d, keyT e = some k ∧ valD kvs k = some d ∧ Q0 d S
      | _ => False := by cases e <;> exact q
    clear q
    cases h1 : S a with
    | none => simp only [h1] at q'
    | some o =>
      cases o with
      | lst xs =>
        simp only [h1] at q'
        obtain ⟨vs, z, r⟩ := at_lst br h1
        exact list_at I rx ry re br (.inl (.of z)) r q' f hp
      | dK kvs =>
        simp only [h1] at q'
        obtain ⟨k, d, e1, e2, q⟩ := q'
        obtain ⟨o, g, _, gv⟩ := dk_get (k := k) br h1
        obtain ⟨w, rfl, rw'⟩ := gv d e2
        rw [keyD_inv re e1] at ry
        subst ev
        exact tail_any (dict_typeIs I g) PySem.F.slot_dict_getitem.lookup (d_getItem hu I g ry fun w' s3 I3 rw2 => ⟨w, H, I3, rw2, f _ _ _ _ q Stp.refl rw' br⟩) hp
      | dT kvs =>
        simp only [h1] at q'
        obtain ⟨k, d, e1, e2, q⟩ := q'
        obtain ⟨b, rfl, hb⟩ := keyT_inv re e1
        obtain ⟨o, g, _, gv⟩ := dt_get br h1 hb
        obtain ⟨w, rfl, rw'⟩ := gv d e2
        subst ev
        exact tail_any (dict_typeIs I g) PySem.F.slot_dict_getitem.lookup (d_getItem hu I g ry fun w' s3 I3 rw2 => ⟨w, H, I3, rw2, f _ _ _ _ q Stp.refl rw' br⟩) hp
      | ins C fs => simp only [h1] at q'
  | non => cases e <;> exact q.elim
  | bl b => cases e <;> exact q.elim
  | int i => cases e <;> exact q.elim
  | ty n => cases e <;> exact q.elim

/-! ### slices -/
theorem cut_rp {K : PySem.W.Frag} {H : Hp} {vs : List V} {ds : List D} (r : RpL K H vs ds) (lo hi : Option Int) : RpL K H (cutV vs lo hi) (cutL ds lo hi) := by
  unfold cutV cutL
  rw [r.length]
  exact (r.drop _).take _
theorem cut_whole {α : Type} {xs : List α} {lo hi : Option Int} (h : HT.sIx xs.length 0 lo = 0 ∧ HT.sIx xs.length xs.length hi = xs.length) : cutL xs lo hi = xs := by
  unfold cutL
  rw [h.1, h.2]
  simp
theorem or_slc : SlR X (fun x lo hi H Q => ∃ d S Q0, Rp X.K H x d ∧ Bears X.K H S ∧ slcD d lo hi S Q0 ∧ Fol X.K H S Q0 Q) := by
  intro pins s σ H x v vl vu lo hi sl Q I rx hs pl pu h
  obtain ⟨d, S, Q0, rd, br, q, f⟩ := h
  unfold slcD at q
  cases d with
  | tup xs =>
    obtain ⟨a, vs, rfl, ha, r1⟩ := rd.tup_inv
    refine sl_tupA pins s σ H _ v vl vu lo hi sl Q I rx hs pl pu ⟨a, vs, rfl, .of ha, fun z => ?_, fun _ p n => new_tup n br (cut_rp r1 lo hi) q f⟩
    rw [r1.length] at z
    have q' : Q0 (.tup (cutL xs lo hi)) S := q
    rw [cut_whole z] at q'
    exact f _ _ _ _ q' Stp.refl rd br
  | rol xs =>
    cases rd with
    | rol h r1 => exact sl_list pins s σ H _ v vl vu lo hi sl Q I rx hs pl pu ⟨_, _, rfl, h.sq, fun p n => new_list n br (cut_rp r1 lo hi) q f⟩
  | str z =>
    have ex := rd.str_inv
    subst ex
    exact sl_str pins s σ H _ v vl vu lo hi sl Q I rx hs pl pu ⟨z, rfl, q.1, f _ _ _ _ q.2 Stp.refl (.str _) br⟩
  | ref a =>
    have ex := rd.ref_inv
    subst ex
    cases h1 : S a with
    | none => simp only [h1] at q
    | some o =>
      cases o <;> simp only [h1] at q <;> first | (exact q.elim) | skip
      obtain ⟨vs, z, r⟩ := at_lst br h1
      exact sl_list pins s σ H _ v vl vu lo hi sl Q I rx hs pl pu ⟨a, vs, rfl, .of z, fun p n => new_list n br (cut_rp r lo hi) q f⟩
  | non => exact q.elim
  | bl b => exact q.elim
  | int i => exact q.elim
  | ty n => exact q.elim
  | rot xs => exact q.elim

/-! ### a[i] = v -/
def LSet (K : PySem.W.Frag) : TSet := fun o i v H Q => ∃ dO dI dV S Q0, Rp K H o dO ∧ Rp K H i dI ∧ Rp K H v dV ∧ Bears K H S ∧ setD dO dI dV S Q0 ∧ ∀ S' H', Q0 S' → Stp H S H' S' → Bears K H' S' → Q H'
theorem or_set (hu : X.A.units + 1 < cLine) : PSet X (LSet X.K) := by
  intro pins s σ H o i v ov iv u Q I ro ri rv h
  obtain ⟨dO, dI, dV, S, Q0, rO, rI, rV, br, q, f⟩ := h
  unfold setD at q
  cases dO <;> first | (exact q.elim) | skip
  rename_i a
  have ex := rO.ref_inv
  subst ex
  cases h1 : S a with
  | none => simp only [h1] at q
  | some ob =>
    cases ob with
    | lst xs =>
      simp only [h1] at q
      obtain ⟨k, j, rfl, hj, q⟩ := q
      obtain ⟨vs, z, r⟩ := at_lst br h1
      have ei := rI.int_inv
      subst ei
      refine set_list pins s σ H _ _ v ov iv u Q I ro ri rv ⟨a, vs, k, j, rfl, rfl, z, by rw [r.length]; exact hj, ?_⟩
      have c : Chg (.lst vs) := ⟨fun _ z => (nomatch z), fun _ _ z => (nomatch z), fun _ z => (nomatch z)⟩
      exact f _ _ q (Stp.wrote br h1) (br.wrote h1 ⟨_, upd_same, (RpL.set rV j r).to (Tp.over z c)⟩)
    | dK kvs =>
      simp only [h1] at q
      obtain ⟨k, e1, e2, q⟩ := q
      obtain ⟨ws, z, r⟩ := br a _ h1
      have ei := keyD_inv rI e1
      subst ei
      refine set_dict hu pins s σ H _ _ v ov iv u Q I ro ri rv ⟨a, _, rfl, .k z (by rw [PD.length r]; exact e2), ?_⟩
      have c : Chg (.dK ws) := ⟨fun _ z => (nomatch z), fun _ _ z => (nomatch z), fun _ z => (nomatch z)⟩
      exact f _ _ q (Stp.wrote br h1) (br.wrote h1 ⟨_, upd_same, (PD.put r k rV).to (Tp.over z c)⟩)
    | dT kvs =>
      simp only [h1] at q
      obtain ⟨k, e1, e2, q⟩ := q
      obtain ⟨ws, z, r⟩ := br a _ h1
      obtain ⟨b, rfl, hb⟩ := keyT_inv rI e1
      refine set_dict hu pins s σ H _ _ v ov iv u Q I ro ri rv ⟨a, _, rfl, .t z hb (by rw [PD.length r]; exact e2), ?_⟩
      have c : Chg (.dT ws) := ⟨fun _ z => (nomatch z), fun _ _ z => (nomatch z), fun _ z => (nomatch z)⟩
      exact f _ _ q (Stp.wrote br h1) (br.wrote h1 ⟨_, upd_same, (PD.put r k rV).to (Tp.over z c)⟩)
    | ins C fs => simp only [h1] at q

/-! ### lists' methods -/
theorem or_append : MtR X "list.append" (LM X.K (mthD .append)) := by
  intro pins s σ H x vs v us Q I rx rvs h
  obtain ⟨d, ds, S, Q0, rd, rds, br, q, f⟩ := h
  cases d <;> first | (exact q.elim) | skip
  rename_i a
  match ds, rds, q with
  | [], _, q => exact q.elim
  | [e], .cons r .nil, q =>
    have ex := rd.ref_inv
    subst ex
    cases h1 : S a with
    | none => simp only [mthD, h1] at q
    | some o =>
      cases o <;> simp only [mthD, h1] at q <;> first | (exact q.elim) | skip
      obtain ⟨ws, z, rl⟩ := at_lst br h1
      exact mt_append pins s σ H _ _ v us Q I rx rvs ⟨a, ws, _, rfl, rfl, z, by rw [rl.length]; exact q.1, write_list br h1 (rl.app (.cons r .nil)) .non q.2 f⟩
  | _ :: _ :: _, _, q => exact q.elim
theorem or_extend : MtR X "list.extend" (LM X.K (mthD .extend)) := by
  intro pins s σ H x vs v us Q I rx rvs h
  obtain ⟨d, ds, S, Q0, rd, rds, br, q, f⟩ := h
  cases d <;> first | (exact q.elim) | skip
  rename_i a
  match ds, rds, q with
  | [], _, q => exact q.elim
  | [e], .cons r .nil, q =>
    have ex := rd.ref_inv
    subst ex
    cases e <;> first | (exact q.elim) | skip
    rename_i b
    have er := r.ref_inv
    subst er
    cases h1 : S a with
    | none => simp only [mthD, h1] at q
    | some o =>
      cases h2 : S b with
      | none => simp only [mthD, h1, h2] at q
      | some o2 =>
        cases o <;> cases o2 <;> simp only [mthD, h1, h2] at q <;> first | (exact q.elim) | skip
        obtain ⟨ws, z, rl⟩ := at_lst br h1
        obtain ⟨ws2, z2, rl2⟩ := at_lst br h2
        exact mt_extend pins s σ H _ _ v us Q I rx rvs ⟨a, b, ws, ws2, rfl, rfl, z, z2, by rw [rl.length, rl2.length]; exact q.1, write_list br h1 (rl.app rl2) .non q.2 f⟩
  | e :: _ :: _, _, q => cases e <;> exact q.elim
theorem or_pop : MtR X "list.pop" (LM X.K (mthD .pop)) := by
  intro pins s σ H x vs v us Q I rx rvs h
  obtain ⟨d, ds, S, Q0, rd, rds, br, q, f⟩ := h
  cases d <;> first | (exact q.elim) | skip
  rename_i a
  match ds, rds, q with
  | [], .nil, q =>
    have ex := rd.ref_inv
    subst ex
    cases h1 : S a with
    | none => simp only [mthD, h1] at q
    | some o =>
      cases o <;> simp only [mthD, h1] at q <;> first | (exact q.elim) | skip
      obtain ⟨e, he, q⟩ := q
      obtain ⟨ws, z, rl⟩ := at_lst br h1
      rw [← rl.length] at he
      obtain ⟨w, hw, rw'⟩ := rl.get he
      exact mt_pop pins s σ H _ _ v us Q I rx rvs ⟨a, ws, w, rfl, rfl, z, hw, write_list br h1 rl.dropLast rw' q f⟩
  | _ :: _, _, q => exact q.elim
theorem or_popAt : MtR X "list.pop" (LM X.K (mthD .popAt)) := by
  intro pins s σ H x vs v us Q I rx rvs h
  obtain ⟨d, ds, S, Q0, rd, rds, br, q, f⟩ := h
  cases d <;> first | (exact q.elim) | skip
  rename_i a
  match ds, rds, q with
  | [], _, q => exact q.elim
  | [e], .cons r .nil, q =>
    have ex := rd.ref_inv
    subst ex
    cases e <;> first | (exact q.elim) | skip
    rename_i i
    have er := r.int_inv
    subst er
    cases h1 : S a with
    | none => simp only [mthD, h1] at q
    | some o =>
      cases o <;> simp only [mthD, h1] at q <;> first | (exact q.elim) | skip
      obtain ⟨k, e, rfl, hk, he, q⟩ := q
      obtain ⟨ws, z, rl⟩ := at_lst br h1
      obtain ⟨w, hw, rw'⟩ := rl.get he
      have hlt : k < ws.length := (List.getElem?_eq_some_iff.mp hw).1
      exact mt_popAt pins s σ H _ _ v us Q I rx rvs ⟨a, ws, k, k, w, rfl, rfl, z, by omega, hk, by rw [seqIndex_of (by omega) (by omega)]; simp, hw, write_list br h1 (RpL.erase k rl) rw' q f⟩
  | e :: _ :: _, _, q => cases e <;> exact q.elim
theorem rep_str (x : Str) (n : Nat) : (⟨(List.replicate n x.cps).foldl (· ++ ·) #[]⟩ : Str) = ⟨(List.replicate n x.cps.toList).flatten.toArray⟩ := by
  have go : ∀ (n : Nat) (acc : Array Nat), (List.replicate n x.cps).foldl (· ++ ·) acc = (acc.toList ++ (List.replicate n x.cps.toList).flatten).toArray := by
    intro n
    induction n with
    | zero => intro acc; simp
    | succ n ih => intro acc; rw [List.replicate_succ, List.foldl_cons, ih, List.replicate_succ, List.flatten_cons]; simp
  rw [go n #[]]; simp
theorem or_mul : OpR X (binaryOp .Mult) (LR X.K mulD) := by
  intro pins s σ H x y v u Q I rx ry h
  obtain ⟨d, e, S, Q0, rd, re, br, q, f⟩ := h
  cases d <;> cases e <;> first | (exact q.elim) | skip
  · rename_i i j
    rw [rd.int_inv] at rx; rw [re.int_inv] at ry
    exact op_mul pins s σ H _ _ v u Q I rx ry ⟨i, j, rfl, rfl, q.1, f _ _ _ _ q.2 Stp.refl (.int _) br⟩
  · rename_i z k
    rw [rd.str_inv] at rx; rw [re.int_inv] at ry
    obtain ⟨t, rfl⟩ := rx
    obtain ⟨t', rfl⟩ := ry
    obtain ⟨⟨h1, h2⟩, h3, q⟩ := q
    have go : Q (.str ⟨(repL z.cps.toList k).toArray⟩) H := f _ _ _ _ q Stp.refl (.str _) br
    have d1 : decide (k < -(2 ^ 63 : Int)) = false := decide_eq_false (by omega)
    have d2 : decide (k ≥ 2 ^ 63) = false := decide_eq_false (by omega)
    refine P.mul_str (by rw [d1, d2]; rfl) (fun a b => ?_) (fun a b => ?_) ?_
    · have hk : 2 ≤ k := by
        have : k ≠ 1 := fun zz => by
          rw [zz] at b
          have b' : (true || z.length == 0) = false := b
          rw [Bool.true_or] at b'
          cases b'
        omega
      have : z.length * k.toNat ≤ 1000000 := h3
      have e1 : (z.length : Int) * k ≤ 1000000 := by
        have : ((z.length * k.toNat : Nat) : Int) ≤ ((1000000 : Nat) : Int) := Int.ofNat_le.mpr h3
        rw [Int.natCast_mul, Int.toNat_of_nonneg (by omega)] at this
        exact this
      have e2 : (z.length : Int) ≤ 1000000 := Int.le_trans (by
        have : (z.length : Int) * 1 ≤ (z.length : Int) * k := Int.mul_le_mul_of_nonneg_left (by omega) (by omega)
        omega) e1
      have e3 : (z.length : Int) ≤ (2 ^ 63 - 1) / k := by
        rw [Int.le_ediv_iff_mul_le (by omega)]
        omega
      omega
    · exact decide_eq_false (by have := sizeLine_eq; omega)
    · by_cases hk : k < 1
      · rw [if_pos hk]
        have ek : repL z.cps.toList k = [] := by
          unfold repL
          rw [show k.toNat = 0 by omega]; rfl
        rw [ek] at go
        exact ⟨by decide, .str _, H, I.tok _, ⟨_, rfl⟩, go⟩
      · rw [if_neg hk]
        by_cases h1 : (k == 1 || z.length == 0) = true
        · rw [if_pos h1]
          have ek : (⟨(repL z.cps.toList k).toArray⟩ : Str) = z := by
            unfold repL
            rw [Bool.or_eq_true] at h1
            rcases h1 with h1 | h1
            · have : k = 1 := by simpa using h1
              subst this
              simp
            · have : z.cps = #[] := by
                have : z.cps.size = 0 := beq_iff_eq.mp h1
                exact Array.eq_empty_of_size_eq_zero this
              obtain ⟨c⟩ := z
              simp only at this
              subst this
              simp
          rw [ek] at go
          exact ⟨.str _, H, I, ⟨_, rfl⟩, go⟩
        · rw [if_neg h1, rep_str]
          refine ⟨?_, .str _, H, I.tok _, ⟨_, rfl⟩, go⟩
          show (List.replicate k.toNat z.cps.toList).flatten.toArray.size ≤ sizeLine
          have : ((List.replicate k.toNat z.cps.toList).flatten).length = k.toNat * z.cps.size := by simp
          have e3 : z.cps.size * k.toNat ≤ 1000000 := h3
          rw [Nat.mul_comm] at e3
          rw [List.size_toArray, this, sizeLine_eq]
          omega
  · rename_i xs k
    obtain ⟨a, vs, rfl, ha, r1⟩ := rd.tup_inv
    rw [re.int_inv] at ry
    obtain ⟨⟨h1, h2, h3⟩, q⟩ := q
    by_cases h0 : vs = [] ∨ k = 1
    · have e : repL xs k = xs := by
        unfold repL
        rcases h0 with h | h
        · have : xs = [] := r1.nil_iff.mp h
          rw [this]; simp
        · rw [h]; simp
      rw [e] at q
      exact op_rep1 pins s σ H _ _ v u Q I rx ry ⟨a, k, vs, rfl, rfl, .of ha, ⟨by omega, by omega⟩, .inl ⟨h0, f _ _ _ _ q Stp.refl rd br⟩⟩
    · rw [not_or] at h0
      by_cases hk : k ≤ 0
      · have e : repL xs k = [] := by unfold repL; rw [show k.toNat = 0 by omega]; rfl
        rw [e] at q
        exact op_rep1 pins s σ H _ _ v u Q I rx ry ⟨a, k, vs, rfl, rfl, .of ha, ⟨by omega, by omega⟩, .inr ⟨h0.1, hk, fun p n => new_tup n br .nil q f⟩⟩
      · exact op_repT pins s σ H _ _ v u Q I rx ry ⟨a, k, vs, rfl, rfl, .of ha, h0.1, by omega, h2, by rw [r1.length]; exact h3, fun p n => new_tup n br (flatten_rep r1 _) q f⟩
  · rename_i a k
    rw [rd.ref_inv] at rx; rw [re.int_inv] at ry
    cases h1 : S a with
    | none => simp only [mulD, h1] at q
    | some o =>
      cases o <;> simp only [mulD, h1] at q <;> first | (exact q.elim) | skip
      obtain ⟨ws, z, rl⟩ := at_lst br h1
      exact op_rep pins s σ H _ _ v u Q I rx ry ⟨a, k, ws, rfl, rfl, z, q.1.1, q.1.2, by rw [rl.length]; exact q.2.1, fun p n => new_list n br (flatten_rep rl _) q.2.2 f⟩
end
end Bay

set_option Elab.async false
set_option linter.all false
set_option maxRecDepth 100000
namespace Bay
open PySem PySem.Spec PyProof.Rows L2

mutual
theorem Vw.noDict {S : Sto} : ∀ {d : D} {t : PyData}, Vw S d t → t.hasDict = false
  | _, _, .non => rfl
  | _, _, .bl b => rfl
  | _, _, .int i => rfl
  | _, _, .str x => rfl
  | _, _, .tup w => by simp only [PyData.hasDict]; exact VwL.noDict w
  | _, _, .rot w => by simp only [PyData.hasDict]; exact VwL.noDict w
  | _, _, .rol w => by simp only [PyData.hasDict]; exact VwL.noDict w
  | _, _, .lst e w => by simp only [PyData.hasDict]; exact VwL.noDict w
theorem VwL.noDict {S : Sto} : ∀ {ds : List D} {ts : List PyData}, VwL S ds ts → PyData.hasDictAll ts = false
  | _, _, .nil => rfl
  | _, _, .cons h t => by simp only [PyData.hasDictAll, Vw.noDict h, VwL.noDict t, Bool.or_self]
end
section
variable {X : Cx}
theorem one_of {ds : List D} {vs : List V} {us : List Value} {K : PySem.W.Frag} {H : Hp} (r : RpL K H vs ds) (rv : Vals vs us) {P : Prop} (h0 : ds = [] → P) (h2 : ∀ a b c, ds = a :: b :: c → P)
    (h1 : ∀ d v u, ds = [d] → vs = [v] → us = [u] → Rp K H v d → RelV v u → P) : P := by
  match ds, r, rv with
  | [], _, _ => exact h0 rfl
  | a :: b :: c, _, _ => exact h2 a b c rfl
  | [d], .cons r .nil, .cons rv .nil => exact h1 _ _ _ rfl rfl rfl r rv
theorem seq_at {K : PySem.W.Frag} {H : Hp} {v : V} {d : D} {S : Sto} {Q : List D → Prop} (r : Rp K H v d) (br : Bears K H S) (q : seqD d S Q) :
    ∃ a vs xs, v = .ref a ∧ (SqL K H a vs ∨ SqT K H a vs) ∧ RpL K H vs xs ∧ Q xs := by
  unfold seqD at q
  cases d with
  | tup xs =>
    obtain ⟨a, vs, rfl, ha, r1⟩ := r.tup_inv
    exact ⟨a, vs, xs, rfl, .inr (.of ha), r1, q⟩
  | rot xs =>
    cases r with
    | rot h r1 => exact ⟨_, _, xs, rfl, .inr h.sq, r1, q⟩
  | rol xs =>
    cases r with
    | rol h r1 => exact ⟨_, _, xs, rfl, .inl h.sq, r1, q⟩
  | ref a =>
    rw [r.ref_inv]
    cases h1 : S a with
    | none => simp only [h1] at q
    | some o =>
      cases o <;> simp only [h1] at q <;> first | (exact q.elim) | skip
      obtain ⟨vs, z, rl⟩ := at_lst br h1
      exact ⟨a, vs, _, rfl, .inl (.of z), rl, q⟩
  | str x => exact q.elim
  | non => exact q.elim
  | bl b => exact q.elim
  | int i => exact q.elim
  | ty n => exact q.elim
theorem or_len : CallR X (.builtin "len") (LC X.K (bltD .len)) := by
  intro pins s σ H vs us Q I rvs h
  obtain ⟨ds, S, Q0, rds, br, q, f⟩ := h
  refine one_of rds rvs (fun e => by subst e; exact q.elim) (fun a b c e => by subst e; exact q.elim) fun d v u e1 e2 e3 r rv => ?_
  subst e1 e2 e3
  have q' : lenD d S fun n => Q0 (.int n) S := q
  unfold lenD at q'
  cases d with
  | tup xs =>
    obtain ⟨a, vs, rfl, ha, r1⟩ := r.tup_inv
    refine call_len pins s σ H _ _ Q I rvs ⟨_, _, rfl, .inr ⟨vs, .of ha, rfl⟩, ?_⟩
    rw [r1.length]; exact f _ _ _ _ q' Stp.refl (.int _) br
  | rot xs =>
    cases r with
    | rot h r1 =>
      refine call_len pins s σ H _ _ Q I rvs ⟨_, _, rfl, .inr ⟨_, h.sq, rfl⟩, ?_⟩
      rw [r1.length]; exact f _ _ _ _ q' Stp.refl (.int _) br
  | rol xs =>
    cases r with
    | rol h r1 =>
      refine call_len pins s σ H _ _ Q I rvs ⟨_, _, rfl, .inl ⟨_, h.sq, rfl⟩, ?_⟩
      rw [r1.length]; exact f _ _ _ _ q' Stp.refl (.int _) br
  | str x =>
    have e := r.str_inv
    subst e
    exact call_len pins s σ H _ _ Q I rvs ⟨_, _, rfl, ⟨q'.1, rfl⟩, f _ _ _ _ q'.2 Stp.refl (.int _) br⟩
  | ref a =>
    have e := r.ref_inv
    subst e
    cases h1 : S a with
    | none => simp only [h1] at q'
    | some o =>
      cases o <;> simp only [h1] at q' <;> first | (exact q'.elim) | skip
      obtain ⟨ws, z, rl⟩ := at_lst br h1
      refine call_len pins s σ H _ _ Q I rvs ⟨_, _, rfl, .inl ⟨ws, .of z, rfl⟩, ?_⟩
      rw [rl.length]; exact f _ _ _ _ q' Stp.refl (.int _) br
  | non => exact q'.elim
  | bl b => exact q'.elim
  | int i => exact q'.elim
  | ty n => exact q'.elim
theorem or_abs : CallR X (.builtin "abs") (LC X.K (bltD .abs)) := by
  intro pins s σ H vs us Q I rvs h
  obtain ⟨ds, S, Q0, rds, br, q, f⟩ := h
  refine one_of rds rvs (fun e => by subst e; exact q.elim) (fun a b c e => by subst e; cases a <;> exact q.elim) fun d v u e1 e2 e3 r rv => ?_
  subst e1 e2 e3
  cases d <;> first | (exact q.elim) | skip
  have e := r.int_inv
  subst e
  exact call_abs pins s σ H _ _ Q I rvs ⟨_, rfl, f _ _ _ _ q Stp.refl (.int _) br⟩
theorem or_int : CallR X (.type "int") (LC X.K (bltD .int)) := by
  intro pins s σ H vs us Q I rvs h
  obtain ⟨ds, S, Q0, rds, br, q, f⟩ := h
  refine one_of rds rvs (fun e => by subst e; exact q.elim) (fun a b c e => by subst e; cases a <;> exact q.elim) fun d v u e1 e2 e3 r rv => ?_
  subst e1 e2 e3
  cases d <;> first | (exact q.elim) | skip
  · have e := r.bl_inv
    subst e
    exact call_int1 pins s σ H _ _ Q I rvs (.inr ⟨_, rfl, f _ _ _ _ q Stp.refl (.int _) br⟩)
  · have e := r.int_inv
    subst e
    exact call_int1 pins s σ H _ _ Q I rvs (.inl ⟨_, rfl, f _ _ _ _ q Stp.refl (.int _) br⟩)
theorem or_str : CallR X (.type "str") (LC X.K (bltD .str)) := by
  intro pins s σ H vs us Q I rvs h
  obtain ⟨ds, S, Q0, rds, br, q, f⟩ := h
  refine one_of rds rvs (fun e => by subst e; exact q.elim) (fun a b c e => by subst e; cases a <;> exact q.elim) fun d v u e1 e2 e3 r rv => ?_
  subst e1 e2 e3
  cases d <;> first | (exact q.elim) | skip
  have e := r.int_inv
  subst e
  exact call_str_int pins s σ H _ _ Q I rvs ⟨_, rfl, q.1, f _ _ _ _ q.2 Stp.refl (.str _) br⟩
theorem or_list : CallR X (.type "list") (LC X.K (bltD .list)) := by
  intro pins s σ H vs us Q I rvs h
  obtain ⟨ds, S, Q0, rds, br, q, f⟩ := h
  refine one_of rds rvs (fun e => by subst e; exact q.elim) (fun a b c e => by subst e; exact q.elim) fun d v u e1 e2 e3 r rv => ?_
  subst e1 e2 e3
  have q' : seqD d S fun xs => newL xs S Q0 := q
  obtain ⟨a, vs, xs, rfl, hs, rl, q2⟩ := seq_at r br q'
  exact call_list_of pins s σ H _ _ Q I rvs ⟨a, vs, rfl, hs, fun l n => new_list n br rl q2 f⟩
theorem or_tuple : CallR X (.type "tuple") (LC X.K (bltD .tuple)) := by
  intro pins s σ H vs us Q I rvs h
  obtain ⟨ds, S, Q0, rds, br, q, f⟩ := h
  refine one_of rds rvs (fun e => by subst e; exact q.elim) (fun a b c e => by subst e; exact q.elim) fun d v u e1 e2 e3 r rv => ?_
  subst e1 e2 e3
  have q' : tupD d S fun e => Q0 e S := q
  unfold tupD at q'
  cases d with
  | tup xs =>
    obtain ⟨a, vs, rfl, ha, r1⟩ := r.tup_inv
    exact call_tuple_of pins s σ H _ _ Q I rvs ⟨a, vs, rfl, .inr ⟨.of ha, f _ _ _ _ q' Stp.refl r br⟩⟩
  | rol xs =>
    cases r with
    | rol h r1 => exact call_tuple_of pins s σ H _ _ Q I rvs ⟨_, _, rfl, .inl ⟨h.sq, fun l n => new_tup n br r1 q' f⟩⟩
  | ref a =>
    have e := r.ref_inv
    subst e
    cases h1 : S a with
    | none => simp only [h1] at q'
    | some o =>
      cases o <;> simp only [h1] at q' <;> first | (exact q'.elim) | skip
      obtain ⟨ws, z, rl⟩ := at_lst br h1
      exact call_tuple_of pins s σ H _ _ Q I rvs ⟨a, ws, rfl, .inl ⟨.of z, fun l n => new_tup n br rl q' f⟩⟩
  | rot xs => exact q'.elim
  | str x => exact q'.elim
  | non => exact q'.elim
  | bl b => exact q'.elim
  | int i => exact q'.elim
  | ty n => exact q'.elim
theorem or_repr (hu : X.A.units + 65 < cLine) (hg : X.A.guards = some []) : CallR X (.builtin "repr") (LC X.K (bltD .repr)) := by
  intro pins s σ H vs us Q I rvs h
  obtain ⟨ds, S, Q0, rds, br, q, f⟩ := h
  refine one_of rds rvs (fun e => by subst e; exact q.elim) (fun a b c e => by subst e; exact q.elim) fun d v u e1 e2 e3 r rv => ?_
  subst e1 e2 e3
  have q' : ∃ t, Vw S d t ∧ t.showable = true ∧ t.depth ≤ 60 ∧ t.shown.length ≤ sizeLine ∧ Q0 (.str t.shown) S := q
  obtain ⟨t, hw, h1, h2, h3, q⟩ := q'
  have go : Q (.str t.shown) H := f _ _ _ _ q Stp.refl (.str _) br
  obtain ⟨as, rd⟩ := Dp.reads I t v u (hw.dp br r) rv
  have nd := hw.noDict
  have gen : ∀ a, u = .ref a → wpAny (model X.prog X.w) X.A (call (.builtin "repr") [u]) (EP X pins σ Q) X.xe s := fun a e => by
    subst e
    exact repr_of_reads' rd h1 (PyData.noDict_hsm nd) hg (by omega) (fun _ _ e => e) (fun h' w' tk hk => ⟨.str t.shown, H, I.kept hk, ⟨_, rfl⟩, go⟩) h3
  cases rd with
  | none => exact P.repr_of_none ⟨.str _, H, I.tok _, ⟨_, rfl⟩, go⟩
  | bool b => exact P.repr_of_bool ⟨.str _, H, I.tok _, ⟨_, rfl⟩, go⟩
  | int i tk => exact P.repr_of_int (of_decide_eq_true h1) ⟨.str _, H, I.tok _, ⟨_, rfl⟩, go⟩
  | str x tk => exact P.repr_of_str ⟨.str _, H, I.tok _, ⟨_, rfl⟩, go⟩ h3
  | list a b c e => exact gen _ rfl
  | tuple a b c e => exact gen _ rfl
  | dict a b c e f' => exact gen _ rfl
theorem or_join : MtR X "str.join" (LM X.K (mthD .join)) := by
  intro pins s σ H x vs v us Q I rx rvs h
  obtain ⟨d, ds, S, Q0, rd, rds, br, q, f⟩ := h
  cases d <;> first | (exact q.elim) | skip
  rename_i z
  have ex := rd.str_inv
  subst ex
  match ds, rds, q with
  | [], _, q => exact q.elim
  | [e], .cons r .nil, q =>
    obtain ⟨ys, q1, q2, q3⟩ := q
    obtain ⟨a, ws, xs, rfl, hs, rl, hxs⟩ := seq_at r br q1
    subst hxs
    rw [rl.strs_inv] at hs
    refine mt_join pins s σ H _ _ v us Q I rx rvs ⟨z, a, ys, rfl, rfl, hs, q2, ?_⟩
    rw [TL.join_eq]
    exact f _ _ _ _ q3 Stp.refl (.str _) br
  | e :: _ :: _, _, q => exact q.elim
/-- kinds of values -/
theorem kit_all : (∀ b : B1, ∀ T : String, (b, T) ∈ [(B1.isStr, "str"), (B1.isTup, "tuple"), (B1.isInt, "int"), (B1.isBool, "bool")] →
    kitB "NoneType" T = some false ∧ kitB "bool" T = some (match b with | .isInt => true | .isBool => true | _ => false) ∧ kitB "int" T = some (match b with | .isInt => true | _ => false) ∧
    kitB "str" T = some (match b with | .isStr => true | _ => false) ∧ kitB "tuple" T = some (match b with | .isTup => true | _ => false) ∧ kitB "list" T = some false ∧ kitB "dict" T = some false) := by
  intro b T h
  simp only [List.mem_cons, Prod.mk.injEq, List.not_mem_nil, or_false] at h
  rcases h with ⟨rfl, rfl⟩ | ⟨rfl, rfl⟩ | ⟨rfl, rfl⟩ | ⟨rfl, rfl⟩ <;> decide +kernel
theorem kind_ty {K : PySem.W.Frag} {H : Hp} {v : V} {d : D} {S : Sto} {b : B1} {T : String} {k : Bool} (hb : (b, T) ∈ [(B1.isStr, "str"), (B1.isTup, "tuple"), (B1.isInt, "int"), (B1.isBool, "bool")]) (r : Rp K H v d) (br : Bears K H S) (h : isKind b d S = some k) :
    ∃ t, TyX K H v t ∧ PySem.W.kitOne K t (.type T) = some k := by
  obtain ⟨k1, k2, k3, k4, k5, k6, k7⟩ := kit_all b T hb
  cases d with
  | non => rw [r.non_inv]; cases h; exact ⟨_, .base .non, kit_ty k1⟩
  | bl c => rw [r.bl_inv]; cases h; exact ⟨_, .base (.bl c), kit_ty k2⟩
  | int i => rw [r.int_inv]; cases h; exact ⟨_, .base (.int i), kit_ty k3⟩
  | str x => rw [r.str_inv]; cases h; exact ⟨_, .base (.str x), kit_ty k4⟩
  | tup xs =>
    obtain ⟨a, vs, rfl, ha, r1⟩ := r.tup_inv
    cases h
    exact ⟨_, .base (.tup ha), kit_ty k5⟩
  | rot xs =>
    cases h
    cases r with
    | rot h r1 =>
      rcases h with ⟨o, h⟩ | ⟨o, its, n, e, c, _⟩
      · exact ⟨_, .fTuple h, kit_ty k5⟩
      · exact ⟨_, .kTuple e c, kit_ty k5⟩
  | rol xs =>
    cases h
    cases r with
    | rol h r1 =>
      rcases h with ⟨o, h⟩ | ⟨o, its, n, e, c, _⟩
      · exact ⟨_, .base (.frz h), kit_ty k6⟩
      · exact ⟨_, .kList e c, kit_ty k6⟩
  | ref a =>
    rw [r.ref_inv]
    unfold isKind at h
    cases h1 : S a with
    | none => simp only [h1, reduceCtorEq] at h
    | some o =>
      cases o with
      | lst xs =>
        simp only [h1, Option.some.injEq] at h
        subst h
        obtain ⟨vs, z, _⟩ := br a _ h1
        exact ⟨_, .base (.lst z), kit_ty k6⟩
      | dK kvs =>
        simp only [h1, Option.some.injEq] at h
        subst h
        obtain ⟨vs, z, _⟩ := br a _ h1
        exact ⟨_, .base (.dK z), kit_ty k7⟩
      | dT kvs =>
        simp only [h1, Option.some.injEq] at h
        subst h
        obtain ⟨vs, z, _⟩ := br a _ h1
        exact ⟨_, .base (.dT z), kit_ty k7⟩
      | ins C fs => simp only [h1, reduceCtorEq] at h
  | ty n => cases h
theorem or_isi {b : B1} {T : String} (hb : (b, T) ∈ [(B1.isStr, "str"), (B1.isTup, "tuple"), (B1.isInt, "int"), (B1.isBool, "bool")]) :
    CallR X (.builtin "isinstance") (LC X.K fun ds S Q => ∃ d k, ds = [d, .ty T] ∧ isKind b d S = some k ∧ Q (.bl k) S) := by
  intro pins s σ H vs us Q I rvs h
  obtain ⟨ds, S, Q0, rds, br, ⟨d, k, rfl, hk, q⟩, f⟩ := h
  match rds with
  | .cons r (.cons r2 .nil) =>
    cases r2
    obtain ⟨t, h1, h2⟩ := kind_ty hb r br hk
    exact call_isi pins s σ H _ _ Q I rvs ⟨_, _, t, _, k, rfl, .ty T, h1, h2, f _ _ _ _ q Stp.refl (.bl _) br⟩
end
end Bay

set_option Elab.async false
set_option linter.all false
set_option maxRecDepth 100000
namespace Bay
open PySem PySem.Spec PyProof.Rows L2

/-! ### walks over data -/
structure DW (K : PySem.W.Frag) (J : It) (xs : List D) (G : Hp → Prop) : Prop where
  goes : ∀ i H, i < xs.length → G H → J.go i H
  stops : ∀ H, G H → J.stop xs.length H
  yields : ∀ i H x H', i < xs.length → G H → J.yld i H x H' → ∃ d, xs[i]? = some d ∧ Rp K H' x d ∧ (H' = H ∨ ∃ T o, H T = none ∧ H' = upd H T o)
/-- what stays true of the walked thing -/
abbrev Gd (K : PySem.W.Frag) (H : Hp) (g : List (Addr × List D)) (G : Hp → Prop) : Prop := ∀ H' S', Tp H H' → Bears K H' S' → Stay g S' → G H'
theorem chars_get {x : Str} {i : Nat} : (chars x)[i]? = (x.cps[i]?).map fun c => .str ⟨#[c]⟩ := by
  unfold chars
  rw [List.getElem?_map]
  simp
theorem chars_len {x : Str} : (chars x).length = x.cps.size := by unfold chars; simp
section
variable {X : Cx} {tg : Expr}
theorem dw_list {K : PySem.W.Frag} {a : Addr} {xs : List D} : DW K (Itl K a) xs (fun H => ∃ vs, SqL K H a vs ∧ RpL K H vs xs) where
  goes := fun i H hi ⟨vs, h, r⟩ => by
    have hv : i < vs.length := by rw [r.length]; exact hi
    exact ⟨vs, vs[i], h, List.getElem?_eq_getElem hv⟩
  stops := fun H ⟨vs, h, r⟩ => ⟨vs, h, by rw [r.length]; exact Nat.le_refl _⟩
  yields := fun i H x H' hi ⟨vs, h, r⟩ ⟨e, y⟩ => by
    subst e
    obtain ⟨d, h1, h2⟩ := r.getV (y vs h)
    exact ⟨d, h1, h2, .inl rfl⟩
theorem dw_tup {K : PySem.W.Frag} {a : Addr} {xs : List D} : DW K (Itt K a) xs (fun H => ∃ vs, SqT K H a vs ∧ RpL K H vs xs) where
  goes := fun i H hi ⟨vs, h, r⟩ => by
    have hv : i < vs.length := by rw [r.length]; exact hi
    exact ⟨vs, vs[i], h, List.getElem?_eq_getElem hv⟩
  stops := fun H ⟨vs, h, r⟩ => ⟨vs, h, by rw [r.length]; exact Nat.le_refl _⟩
  yields := fun i H x H' hi ⟨vs, h, r⟩ ⟨e, y⟩ => by
    subst e
    obtain ⟨d, h1, h2⟩ := r.getV (y vs h)
    exact ⟨d, h1, h2, .inl rfl⟩
theorem dw_str {K : PySem.W.Frag} {x : Str} : DW K (Its x) (chars x) (fun _ => True) where
  goes := fun i H hi _ => by rw [chars_len] at hi; exact hi
  stops := fun H _ => by show x.cps.size ≤ (chars x).length; rw [chars_len]; exact Nat.le_refl _
  yields := fun i H v H' hi _ ⟨e, c, h1, h2⟩ => by
    subst e h2
    exact ⟨.str ⟨#[c]⟩, by rw [chars_get, h1]; rfl, .str _, .inl rfl⟩
theorem dw_range {K : PySem.W.Frag} {lo : Int} {n : Nat} : DW K (Itr lo n) ((List.range n).map fun k : Nat => D.int (lo + k)) (fun _ => True) where
  goes := fun i H hi _ => by
    show i < n
    simpa using hi
  stops := fun H _ => by show n ≤ _; simp
  yields := fun i H v H' hi _ ⟨e, h2⟩ => by
    subst e h2
    have hi' : i < n := by simpa using hi
    exact ⟨.int (lo + i), by rw [List.getElem?_map, List.getElem?_range hi']; rfl, .int _, .inl rfl⟩
theorem dw_enum {K : PySem.W.Frag} {a : Addr} {xs : List D} : DW K (Ite K a) (xs.zipIdx.map fun p => .tup [.int p.2, p.1]) (fun H => ∃ vs, SqL K H a vs ∧ RpL K H vs xs) where
  goes := fun i H hi ⟨vs, h, r⟩ => by
    have hv : i < vs.length := by rw [r.length]; simpa using hi
    exact ⟨vs, vs[i], h, List.getElem?_eq_getElem hv⟩
  stops := fun H ⟨vs, h, r⟩ => ⟨vs, h, by rw [r.length]; simp⟩
  yields := fun i H x H' hi ⟨vs, h, r⟩ ⟨T, v, e1, n, e2, y⟩ => by
    subst e1 e2
    obtain ⟨d, h1, h2⟩ := r.getV (y vs h)
    refine ⟨.tup [.int i, d], ?_, .tup upd_same (.cons (.int _) (.cons (h2.to (Tp.fresh n)) .nil)), .inr ⟨T, _, n, rfl⟩⟩
    rw [List.getElem?_map, List.getElem?_zipIdx, h1]
    simp
theorem dw_zip {K : PySem.W.Frag} {a b : Addr} {xs ys : List D} : DW K (Itz K a b) ((xs.zip ys).map fun p => .tup [p.1, p.2]) (fun H => (∃ vs, SqL K H a vs ∧ RpL K H vs xs) ∧ ∃ vs, SqL K H b vs ∧ RpL K H vs ys) where
  goes := fun i H hi ⟨⟨vs, h, r⟩, ws, h', r'⟩ => by
    have hl : i < xs.length ∧ i < ys.length := by simpa [List.length_zip, Nat.lt_min] using hi
    have w := walk_zip (K := K) (a := a) (b := b) (xs := vs) (ys := ws) rfl
    exact w.goes i H (by rw [r.length, r'.length]; omega) ⟨h, h'⟩
  stops := fun H ⟨⟨vs, h, r⟩, ws, h', r'⟩ => by
    have w := walk_zip (K := K) (a := a) (b := b) (xs := vs) (ys := ws) rfl
    have := w.stops H ⟨h, h'⟩
    rw [r.length, r'.length] at this
    simpa [List.length_zip] using this
  yields := fun i H x H' hi ⟨⟨vs, h, r⟩, ws, h', r'⟩ y => by
    have hl : i < xs.length ∧ i < ys.length := by simpa [List.length_zip, Nat.lt_min] using hi
    have w := walk_zip (K := K) (a := a) (b := b) (xs := vs) (ys := ws) rfl
    obtain ⟨T, v1, v2, e1, n, e2, g1, g2⟩ := w.yields i H x H' (by rw [r.length, r'.length]; omega) ⟨h, h'⟩ y
    subst e1 e2
    obtain ⟨d1, q1, p1⟩ := r.getV g1
    obtain ⟨d2, q2, p2⟩ := r'.getV g2
    refine ⟨.tup [d1, d2], ?_, .tup upd_same (.cons (p1.to (Tp.fresh n)) (.cons (p2.to (Tp.fresh n)) .nil)), .inr ⟨T, _, n, rfl⟩⟩
    rw [List.getElem?_map, List.zip, List.getElem?_zipWith, q1, q2]
    rfl
/-- the iterator of a list, a tuple, a text -/
theorem src_iter {pins : List (Addr × Obj)} {s : Shared} {σ : L2.St} {H : Hp} {v : V} {u : Value} {d : D} {S : Sto} {R : It → Hp → Prop} {P : List D → List (Addr × List D) → Prop} (I : Inv X pins σ H s) (rv : RelV v u) (r : Rp X.K H v d) (br : Bears X.K H S) (q : srcD d S P)
    (hR : ∀ J xs g G, P xs g → DW X.K J xs G → Gd X.K H g G → R J H) : wpAny (model X.prog X.w) X.A (pyIter u) (PIE X pins σ tg R) X.xe s := by
  have lst : ∀ {a : Addr} {vs : List V} {xs : List D} {g : List (Addr × List D)}, u = .ref a → SqL X.K H a vs → P xs g → (Gd X.K H g fun H => ∃ vs, SqL X.K H a vs ∧ RpL X.K H vs xs) → wpAny (model X.prog X.w) X.A (pyIter u) (PIE X pins σ tg R) X.xe s := by
    intro a vs xs g e hq p hg
    subst e
    obtain ⟨its, rv2, pl, hz⟩ := I.list hq
    refine wpAny_pyIter_list pl.isList ⟨s.heap.objs.size, [s.heap.objs.size], _, _, H, rfl, I.kept (t' := s.toks) fun b o e => Heap.get?_push_of_some _ e, turn_list a _, ⟨_, Heap.get?_push_size _ rfl, rfl, rfl⟩, ?_, hR _ xs g _ p dw_list hg⟩
    intro b hb
    rw [show b = s.heap.objs.size by simpa using hb]
    exact I.fpOk (Nat.le_refl _) (I.hok.fresh (Nat.le_refl _))
  have tup : ∀ {a : Addr} {vs : List V} {xs : List D}, u = .ref a → SqT X.K H a vs → P xs [] → (Gd X.K H [] fun H => ∃ vs, SqT X.K H a vs ∧ RpL X.K H vs xs) → wpAny (model X.prog X.w) X.A (pyIter u) (PIE X pins σ tg R) X.xe s := by
    intro a vs xs e hq p hg
    subst e
    obtain ⟨its, rv2, pl, hz⟩ := I.tuple hq
    refine wpAny_pyIter_tuple (show s.heap.IsTuple a its.toArray from pl) ⟨s.heap.objs.size, [s.heap.objs.size], _, _, H, rfl, I.kept (t' := s.toks) fun b o e => Heap.get?_push_of_some _ e, turn_tuple a _, ⟨_, Heap.get?_push_size _ rfl, rfl, rfl⟩, ?_, hR _ xs [] _ p dw_tup hg⟩
    intro b hb
    rw [show b = s.heap.objs.size by simpa using hb]
    exact I.fpOk (Nat.le_refl _) (I.hok.fresh (Nat.le_refl _))
  unfold srcD at q
  cases d with
  | tup xs =>
    obtain ⟨a, vs, rfl, ha, r1⟩ := r.tup_inv
    exact tup rv (.of ha) q fun H' S' t _ _ => ⟨vs, .of (t.t _ _ ha), r1.to t⟩
  | rot xs =>
    cases r with
    | rot h r1 => exact tup rv h.sq q fun H' S' t _ _ => ⟨_, (h.to t).sq, r1.to t⟩
  | rol xs =>
    cases r with
    | rol h r1 => exact lst rv h.sq q fun H' S' t _ _ => ⟨_, (h.to t).sq, r1.to t⟩
  | str x =>
    have e := r.str_inv
    subst e
    obtain ⟨t, rfl⟩ := rv
    have fin : R (Its x) H := hR _ _ _ _ q dw_str fun _ _ _ _ _ => trivial
    cases ha : x.cps.all (· < 128)
    · exact wpAny_pyIter_wide ha (pi_one (tk := s.toks) I _ (turn_str _ x t "str_iterator" (.inr rfl)) ⟨_, Heap.get?_push_size _ rfl, rfl, rfl⟩ fin)
    · exact wpAny_pyIter_ascii ha (pi_one (tk := s.toks) I _ (turn_str _ x t "str_ascii_iterator" (.inl rfl)) ⟨_, Heap.get?_push_size _ rfl, rfl, rfl⟩ fin)
  | ref a =>
    have e := r.ref_inv
    subst e
    cases h1 : S a with
    | none => simp only [h1] at q
    | some o =>
      cases o <;> simp only [h1] at q <;> first | (exact q.elim) | skip
      obtain ⟨vs, z, rl⟩ := at_lst br h1
      refine lst rv (.of z) q fun H' S' t b' st => ?_
      obtain ⟨vs', z', rl'⟩ := at_lst b' (st _ (List.mem_cons_self ..))
      exact ⟨vs', .of z', rl'⟩
  | non => exact q.elim
  | bl b => exact q.elim
  | int i => exact q.elim
  | ty n => exact q.elim
end
/-- what is walked, as data -/
def LI (K : PySem.W.Frag) (C : Ctx) (m : Ev → Sto → (List D → List (Addr × List D) → Sto → Prop) → Prop) : TI := fun σ H R => ∃ ε S Q0, At K C σ H ε S ∧ m ε S Q0 ∧
  ∀ J xs g G S' H', Q0 xs g S' → DW K J xs G → Gd K H' g G → Stp H S H' S' → Bears K H' S' → R J H'
section
variable {X : Cx} {C : Ctx} {tg : Expr}
theorem pi_gen {e : Expr} {m : Ev → Sto → QD → Prop} (he : PE X e (LE X.K C m)) : PI X tg e (LI X.K C fun ε S Q => m ε S fun d S1 => srcD d S1 fun xs g => Q xs g S1) := by
  constructor
  intro pins s σ H R I ⟨ε, S, Q0, at', hm, hQ⟩
  refine thn (he.run pins s σ H (fun v H1 => ∃ d S1, Rp X.K H1 v d ∧ Bears X.K H1 S1 ∧ Stp H S H1 S1 ∧ srcD d S1 fun xs g => Q0 xs g S1) I ⟨ε, S, _, at', hm, fun d S1 v H1 q st r b => ⟨d, S1, r, b, st, q⟩⟩) ?_
  intro v s1 ⟨x, H1, I1, r1, d, S1, rd, br, st, q⟩
  exact src_iter I1 r1 rd br q fun J xs g G p dw gd => hQ J xs g G S1 H1 p dw gd st br
theorem pi_rng1 {e : Expr} {p pos : Pos} {m : Ev → Sto → QD → Prop} (hg : Gl X "range") (hm : X.mg "range" = none) (he : PE X e (LE X.K C m)) (hs : starEach [e] X.env = [(false, eval e X.env)]) :
    PI X tg (.Call (.Name "range" p) [e] [] pos) (LI X.K C fun ε S Q => m ε S fun d S1 => match d with
      | .int j => (-rngS ≤ j ∧ j < rngS) ∧ Q ((List.range j.toNat).map fun i : Nat => .int i) [] S1
      | _ => False) := by
  constructor
  intro pins s σ H R I ⟨ε, S, Q0, at', hm', hQ⟩
  refine (pi_range1 (tg := tg) hg hm (pa_cons he pa_nil (by rw [hs]; rfl)) hs).run pins s σ H R I ⟨ε, S, _, at', hm', fun d S1 v H1 q st r b => ?_⟩
  cases d <;> first | (exact q.elim) | skip
  rename_i j
  have e := r.int_inv
  subst e
  refine ⟨j, rfl, q.1.1, q.1.2, hQ _ _ [] _ S1 H1 q.2 ?_ (fun _ _ _ _ _ => trivial) st b⟩
  have w := dw_range (K := X.K) (lo := 0) (n := j.toNat)
  simpa using w
theorem pi_rng2 {a e : Expr} {p pos : Pos} {m m' : Ev → Sto → QD → Prop} (hg : Gl X "range") (hm : X.mg "range" = none) (ha : PE X a (LE X.K C m)) (he : PE X e (LE X.K C m')) (hs : starEach [a, e] X.env = [(false, eval a X.env), (false, eval e X.env)]) (hs2 : starEach [e] X.env = [(false, eval e X.env)]) :
    PI X tg (.Call (.Name "range" p) [a, e] [] pos) (LI X.K C fun ε S Q => m ε S fun d S1 => m' ε S1 fun e S2 => match d, e with
      | .int i, .int j => (-rngS ≤ i ∧ i < rngS ∧ -rngS ≤ j ∧ j < rngS) ∧ Q ((List.range (j - i).toNat).map fun k : Nat => .int (i + k)) [] S2
      | _, _ => False) := by
  constructor
  intro pins s σ H R I ⟨ε, S, Q0, at', hm', hQ⟩
  refine (pi_range2 (tg := tg) hg hm (pa_cons ha (pa_cons he pa_nil (by rw [hs2]; rfl)) (by rw [hs, hs2])) hs hs2).run pins s σ H R I ⟨ε, S, _, at', hm', fun d S1 v H1 q st r b => ⟨ε, S1, _, at'.on st b, q, fun d2 S2 v2 H2 q2 st2 r2 b2 => ?_⟩⟩
  cases d <;> cases d2 <;> first | (exact q2.elim) | skip
  rename_i i j
  have e1 := r.int_inv
  have e2 := r2.int_inv
  subst e1 e2
  exact ⟨i, j, rfl, q2.1, hQ _ _ [] _ S2 H2 q2.2 dw_range (fun _ _ _ _ _ => trivial) (st.trans st2) b2⟩
theorem lst_at {K : PySem.W.Frag} {H : Hp} {v : V} {d : D} {S : Sto} {Q : List D → List (Addr × List D) → Prop} (r : Rp K H v d) (br : Bears K H S) (q : lstD d S Q) :
    ∃ a vs xs g, v = .ref a ∧ SqL K H a vs ∧ RpL K H vs xs ∧ Q xs g ∧ Gd K H g fun H => ∃ vs, SqL K H a vs ∧ RpL K H vs xs := by
  unfold lstD at q
  cases d with
  | rol xs =>
    cases r with
    | rol h r1 => exact ⟨_, _, xs, [], rfl, h.sq, r1, q, fun H' S' t _ _ => ⟨_, (h.to t).sq, r1.to t⟩⟩
  | ref a =>
    rw [r.ref_inv]
    cases h1 : S a with
    | none => simp only [h1] at q
    | some o =>
      cases o <;> simp only [h1] at q <;> first | (exact q.elim) | skip
      obtain ⟨vs, z, rl⟩ := at_lst br h1
      refine ⟨a, vs, _, _, rfl, .of z, rl, q, fun H' S' t b' st => ?_⟩
      obtain ⟨vs', z', rl'⟩ := at_lst b' (st _ (List.mem_cons_self ..))
      exact ⟨vs', .of z', rl'⟩
  | tup xs => exact q.elim
  | rot xs => exact q.elim
  | str x => exact q.elim
  | non => exact q.elim
  | bl b => exact q.elim
  | int i => exact q.elim
  | ty n => exact q.elim
theorem pi_enumL {e : Expr} {p pos tpos : Pos} {elts : List Expr} {kk : Nat} {m : Ev → Sto → QD → Prop} (hg : Gl X "enumerate") (hm : X.mg "enumerate" = none) (he : PE X e (LE X.K C m)) (hs : starEach [e] X.env = [(false, eval e X.env)]) :
    PI X (.Tuple elts kk tpos) (.Call (.Name "enumerate" p) [e] [] pos) (LI X.K C fun ε S Q => m ε S fun d S1 => lstD d S1 fun xs g => Q (xs.zipIdx.map fun p => .tup [.int p.2, p.1]) g S1) := by
  constructor
  intro pins s σ H R I ⟨ε, S, Q0, at', hm', hQ⟩
  refine (pi_enum (elts := elts) (kk := kk) (tpos := tpos) hg hm (pa_cons he pa_nil (by rw [hs]; rfl)) hs).run pins s σ H R I ⟨ε, S, _, at', hm', fun d S1 v H1 q st r b => ?_⟩
  obtain ⟨a, vs, xs, g, rfl, hq, rl, q, gd⟩ := lst_at r b q
  exact ⟨a, vs, rfl, hq, hQ _ _ g _ S1 H1 q dw_enum gd st b⟩
theorem Stay.left {g g' : List (Addr × List D)} {S : Sto} (h : Stay (g ++ g') S) : Stay g S := fun p hp => h p (List.mem_append_left _ hp)
theorem Stay.right {g g' : List (Addr × List D)} {S : Sto} (h : Stay (g ++ g') S) : Stay g' S := fun p hp => h p (List.mem_append_right _ hp)
theorem pi_zipL {a e : Expr} {p pos tpos : Pos} {elts : List Expr} {kk : Nat} {m m' : Ev → Sto → QD → Prop} (hg : Gl X "zip") (hm : X.mg "zip" = none) (ha : PE X a (LE X.K C m)) (he : PE X e (LE X.K C m')) (hs : starEach [a, e] X.env = (false, eval a X.env) :: starEach [e] X.env) (hs2 : starEach [e] X.env = [(false, eval e X.env)]) :
    PI X (.Tuple elts kk tpos) (.Call (.Name "zip" p) [a, e] [] pos) (LI X.K C fun ε S Q => m ε S fun d S1 => m' ε S1 fun e S2 => lstD d S2 fun xs g => lstD e S2 fun ys g' => Q ((xs.zip ys).map fun p => .tup [p.1, p.2]) (g ++ g') S2) := by
  constructor
  intro pins s σ H R I ⟨ε, S, Q0, at', hm', hQ⟩
  refine (pi_zip (elts := elts) (kk := kk) (tpos := tpos) hg hm (pa_cons ha (pa_cons he pa_nil (by rw [hs2]; rfl)) hs) hs (by rw [hs2]; rfl)).run pins s σ H R I ⟨ε, S, _, at', hm', fun d S1 v H1 q st r b => ⟨ε, S1, _, at'.on st b, q, fun d2 S2 v2 H2 q2 st2 r2 b2 => ?_⟩⟩
  obtain ⟨a1, vs, xs, g, rfl, hq, rl, q, gd⟩ := lst_at (r.to st2.tp) b2 q2
  obtain ⟨a2, ws, ys, g', rfl, hq', rl', q, gd'⟩ := lst_at r2 b2 q
  exact ⟨a1, a2, vs, ws, rfl, hq, hq', hQ _ _ (g ++ g') _ S2 H2 q dw_zip (fun H' S' t b' st' => ⟨gd H' S' t b' st'.left, gd' H' S' t b' st'.right⟩) (st.trans st2) b2⟩

/-! ### targets, for -/
/-- what is wanted behind a statement -/
structure EndR (K : PySem.W.Frag) (C : Ctx) (H : Hp) (S : Sto) (k : EK) (D : Ends) : Prop where
  nx : ∀ ε S' σ' H', k.nx ε S' → Stp H S H' S' → At K C σ' H' ε S' → D.nx σ' H'
  rt : ∀ d S' v H', k.rt d S' → Stp H S H' S' → Rp K H' v d → Bears K H' S' → D.rt v H'
  bk : ∀ ε S' σ' H', k.bk ε S' → Stp H S H' S' → At K C σ' H' ε S' → D.bk σ' H'
  ct : ∀ ε S' σ' H', k.ct ε S' → Stp H S H' S' → At K C σ' H' ε S' → D.ct σ' H'
theorem EndR.on {K : PySem.W.Frag} {H H1 : Hp} {S S1 : Sto} {k : EK} {D : Ends} (e : EndR K C H S k D) (st : Stp H S H1 S1) : EndR K C H1 S1 k D :=
  ⟨fun _ _ _ _ a b c => e.nx _ _ _ _ a (st.trans b) c, fun _ _ _ _ a b c d => e.rt _ _ _ _ a (st.trans b) c d, fun _ _ _ _ a b c => e.bk _ _ _ _ a (st.trans b) c, fun _ _ _ _ a b c => e.ct _ _ _ _ a (st.trans b) c⟩
def LS (K : PySem.W.Frag) (C : Ctx) (m : EK → Ev → Sto → Prop) : TS := fun D σ H => ∃ ε S k, At K C σ H ε S ∧ m k ε S ∧ EndR K C H S k D
theorem lift_for {wi : Ev → Sto → (List D → List (Addr × List D) → Sto → Prop) → Prop} {tb : EK → Ev → Sto → Prop} {asg : D → Ev → Option Ev} {g : TG} (hg : ∀ v σ H Q, (∃ d ε S ε', Rp X.K H v d ∧ At X.K C σ H ε S ∧ asg d ε = some ε' ∧ ∀ σ', At X.K C σ' H ε' S → Q σ' H) → g v σ H Q) :
    ∀ D σ H, LS X.K C (fun k ε S => wi ε S fun xs g S1 => forGo tb asg (Stay g) xs k ε S1) D σ H → tFor (LI X.K C wi) g (LS X.K C tb) D σ H := by
  rintro D σ H ⟨ε, S, k, at', hm, ends⟩
  refine ⟨ε, S, _, at', hm, fun J xs g G S1 H1 q dw gd st br => ?_⟩
  refine ⟨fun i m σ2 H2 => i + m = xs.length ∧ ∃ ε2 S2, At X.K C σ2 H2 ε2 S2 ∧ Stp H1 S1 H2 S2 ∧ forGo tb asg (Stay g) (xs.drop i) k ε2 S2, ⟨xs.length, by omega, ε, S1, at'.on st br, Stp.refl, by rw [List.drop_zero]; exact q⟩, ?_⟩
  rintro i m σ2 H2 ⟨em, ε2, S2, at2, st2, q2⟩
  by_cases hi : i < xs.length
  · have ed : xs.drop i = xs[i] :: xs.drop (i + 1) := List.drop_eq_getElem_cons hi
    rw [ed] at q2
    obtain ⟨sy, ε3, ea, q3⟩ := q2
    have hG : G H2 := gd _ _ st2.tp at2.br sy
    refine .inr ⟨dw.goes i H2 hi hG, fun σ' H' => ∃ ε' S', At X.K C σ' H' ε' S' ∧ Stp H1 S1 H' S' ∧ forGo tb asg (Stay g) (xs.drop (i + 1)) k ε' S', fun σ' H' hN => ⟨m - 1, by omega, by omega, hN⟩, fun x H3 y => ?_⟩
    obtain ⟨d, hd, rd, hH⟩ := dw.yields i H2 x H3 hi hG y
    rw [List.getElem?_eq_getElem hi] at hd
    cases hd
    have st3 : Stp H2 S2 H3 S2 ∧ Bears X.K H3 S2 := by
      rcases hH with rfl | ⟨T, o, n, rfl⟩
      · exact ⟨Stp.refl, at2.br⟩
      · exact ⟨Stp.newT n, at2.br.newT n⟩
    refine hg x σ2 H3 _ ⟨xs[i], ε2, S2, ε3, rd, at2.on st3.1 st3.2, ea, fun σ4 at4 => ?_⟩
    refine ⟨ε3, S2, _, at4, q3, ?_, ?_, ?_, ?_⟩
    · exact fun ε' S' σ' H' a b c => ⟨ε', S', c, (st2.trans st3.1).trans b, a⟩
    · exact fun d' S' v' H' a b c e => ends.rt d' S' v' H' a (st.trans ((st2.trans st3.1).trans b)) c e
    · exact fun ε' S' σ' H' a b c => ends.nx ε' S' σ' H' a (st.trans ((st2.trans st3.1).trans b)) c
    · exact fun ε' S' σ' H' a b c => ⟨ε', S', c, (st2.trans st3.1).trans b, a⟩
  · have ei : i = xs.length := by omega
    subst ei
    rw [List.drop_length] at q2
    exact .inl ⟨dw.stops H2 (gd _ _ st2.tp at2.br q2.1), ends.nx _ _ _ _ q2.2 (st.trans st2) at2⟩
theorem lift_while {c : Ev → Sto → (Bool → Sto → Prop) → Prop} {tb : EK → Ev → Sto → Prop} : ∀ D σ H, LS X.K C (fun k ε S => ∃ n, whGo c tb n k ε S) D σ H → tWhile (LT X.K C c) (LS X.K C tb) D σ H := by
  rintro D σ H ⟨ε, S, k, at', ⟨n, hm⟩, ends⟩
  refine ⟨fun m σ2 H2 => ∃ ε2 S2, At X.K C σ2 H2 ε2 S2 ∧ Stp H S H2 S2 ∧ whGo c tb m k ε2 S2, ⟨n, ε, S, at', Stp.refl, hm⟩, ?_⟩
  rintro m σ2 H2 ⟨ε2, S2, at2, st2, q2⟩
  cases m with
  | zero => exact q2.elim
  | succ m =>
    refine ⟨ε2, S2, _, at2, q2, fun b S3 H3 q3 st3 b3 => ?_⟩
    cases b with
    | true =>
      rw [if_pos rfl] at q3 ⊢
      refine ⟨fun σ' H' => ∃ ε' S', At X.K C σ' H' ε' S' ∧ Stp H S H' S' ∧ whGo c tb m k ε' S', fun σ' H' hN => ⟨m, Nat.lt_succ_self m, hN⟩, ε2, S3, _, at2.on st3 b3, q3, ?_, ?_, ?_, ?_⟩
      · exact fun ε' S' σ' H' a b c => ⟨ε', S', c, (st2.trans st3).trans b, a⟩
      · exact fun d' S' v' H' a b c e => ends.rt d' S' v' H' a ((st2.trans st3).trans b) c e
      · exact fun ε' S' σ' H' a b c => ends.nx ε' S' σ' H' a ((st2.trans st3).trans b) c
      · exact fun ε' S' σ' H' a b c => ⟨ε', S', c, (st2.trans st3).trans b, a⟩
    | false =>
      rw [if_neg Bool.false_ne_true] at q3 ⊢
      exact ends.nx _ _ _ _ q3 (st2.trans st3) (at2.on st3 b3)
end

/-! ### targets -/
def gNms : List Nat → TGs
  | [] => gNil
  | i :: is => gCons (gName i) (gNms is)
def gT (K : PySem.W.Frag) : MG → TG
  | .nm i => gName i
  | .tp is => gTup K is.length (gNms is)
def setsV : List Nat → List V → L2.St → L2.St
  | i :: is, v :: vs, σ => setsV is vs (σ.set i (some v))
  | _, _, σ => σ
theorem gNms_run : ∀ {is : List Nat} {vs : List V} {σ : L2.St} {H : Hp} {Q : L2.St → Hp → Prop}, is.length = vs.length → Q (setsV is vs σ) H → gNms is vs σ H Q
  | [], [], _, _, _, _, q => ⟨rfl, q⟩
  | i :: is, v :: vs, σ, H, Q, e, q => ⟨v, vs, rfl, gNms_run (by simpa using e) q⟩
  | [], _ :: _, _, _, _, e, _ => by simp at e
  | _ :: _, [], _, _, _, e, _ => by simp at e
theorem sets_ev {K : PySem.W.Frag} {H : Hp} : ∀ {is : List Nat} {vs : List V} {ds : List D} {σ : L2.St} {ε : Ev}, RpL K H vs ds → EvR K H σ ε → EvR K H (setsV is vs σ) (setsE is ds ε)
  | [], vs, ds, σ, ε, _, h => by cases vs <;> cases ds <;> exact h
  | i :: is, _, _, σ, ε, .nil, h => h
  | i :: is, _, _, σ, ε, .cons r t, h => sets_ev (is := is) t (h.set i r)
/-- which slots a target stores -/
def MG.slots : MG → List Nat
  | .nm i => [i]
  | .tp is => is
theorem gT_run {K : PySem.W.Frag} {H : Hp} {tg : MG} {v : V} {d : D} {σ : L2.St} {ε ε' : Ev} (r : Rp K H v d) (h : EvR K H σ ε) (e : asgD tg d ε = some ε') :
    ∃ vs, EvR K H (setsV tg.slots vs σ) ε' ∧ ∀ Q : L2.St → Hp → Prop, Q (setsV tg.slots vs σ) H → gT K tg v σ H Q := by
  cases tg with
  | nm i =>
    cases e
    exact ⟨[v], h.set i r, fun Q q => q⟩
  | tp is =>
    cases d <;> simp only [asgD, reduceCtorEq] at e
    · rename_i ds
      by_cases hl : is.length = ds.length
      · rw [if_pos hl] at e
        cases e
        obtain ⟨a, vs, rfl, ha, rl⟩ := r.tup_inv
        exact ⟨vs, sets_ev rl h, fun Q q => ⟨a, vs, rfl, .of ha, by rw [rl.length]; exact hl.symm, gNms_run (by rw [rl.length]; exact hl) q⟩⟩
      · rw [if_neg hl] at e; cases e
    · rename_i ds
      by_cases hl : is.length = ds.length
      · rw [if_pos hl] at e
        cases e
        cases r with
        | @rot a vs _ ha rl => exact ⟨vs, sets_ev rl h, fun Q q => ⟨a, vs, rfl, ha.sq, by rw [rl.length]; exact hl.symm, gNms_run (by rw [rl.length]; exact hl) q⟩⟩
      · rw [if_neg hl] at e; cases e
theorem wipe_at (σ : L2.St) : ∀ (vs : List Nat) (j : Nat), (wipe σ vs)[j]? = if j ∈ vs then (if j < σ.length then some none else none) else σ[j]?
  | [], j => by simp [wipe]
  | v :: vs, j => by
    unfold wipe
    by_cases hv : v = j
    · subst hv
      by_cases hl : v < σ.length
      · rw [List.getElem?_set_self (by rw [wipe_length]; exact hl)]; simp [hl]
      · rw [List.getElem?_eq_none (by rw [List.length_set, wipe_length]; omega)]; simp [hl]
    · rw [List.getElem?_set_ne hv, wipe_at σ vs j]
      have : (j ∈ v :: vs) ↔ j ∈ vs := by simp [Ne.symm hv]
      simp only [this]
theorem setsV_len : ∀ (is : List Nat) (vs : List V) (σ : L2.St), (setsV is vs σ).length = σ.length
  | [], vs, σ => by cases vs <;> rfl
  | i :: is, [], σ => rfl
  | i :: is, v :: vs, σ => by unfold setsV; rw [setsV_len is vs, List.length_set]
theorem setsV_out : ∀ (is : List Nat) (vs : List V) (σ : L2.St) (j : Nat), j ∉ is → (setsV is vs σ)[j]? = σ[j]?
  | [], vs, σ, j, _ => by cases vs <;> rfl
  | i :: is, [], σ, j, _ => rfl
  | i :: is, v :: vs, σ, j, h => by
    unfold setsV
    rw [setsV_out is vs _ j (fun z => h (List.mem_cons_of_mem _ z)), List.getElem?_set_ne (fun z => h (by rw [z]; exact List.mem_cons_self))]
theorem wipe_sets {is ws : List Nat} {vs : List V} {σ : L2.St} (h : ∀ i ∈ is, i ∈ ws) : wipe (setsV is vs (wipe σ ws)) ws = wipe σ ws := by
  apply List.ext_getElem?
  intro j
  rw [wipe_at, wipe_at, setsV_len, wipe_length]
  by_cases hj : j ∈ ws
  · rw [if_pos hj, if_pos hj]
  · rw [if_neg hj, if_neg hj, setsV_out _ _ _ _ (fun z => hj (h j z)), wipe_at, if_neg hj]

/-! ### comprehensions -/
section
variable {X : Cx} {C C' : Ctx}
theorem lift_lc {wi : Ev → Sto → (List D → List (Addr × List D) → Sto → Prop) → Prop} {tg : MG} {own : List Nat} {mc : Ev → Sto → (Bool → Sto → Prop) → Prop} {me : Ev → Sto → QD → Prop} (hH : C'.H0 = C.H0) (hS : C'.S0 = C.S0) (hs : ∀ i ∈ tg.slots, i ∈ own) :
    ∀ σ H Q, LE X.K C (fun ε S Q => wi ε S fun xs g S1 => lcGo (fun x S2 K => ∃ ε', asgD tg x (wipeE ε own) = some ε' ∧ mc ε' S2 fun k S3 => if k = true then me ε' S3 fun d S4 => K (some d) S4 else K none S3) (Stay g) [] xs S1 fun ys S2 => ∀ p, S2 p = none → Q (.ref p) (S2.upd p (.lst ys))) σ H Q →
      tLc (LI X.K C wi) (gT X.K tg) (LT X.K C' mc) (LE X.K C' me) own σ H Q := by
  rintro σ H Q ⟨ε, S, Q0, at', hm, hQ⟩
  refine ⟨ε, S, _, at', hm, fun J xs g G S1 H1 q dw gd st br => ?_⟩
  intro D nD
  have at1 := at'.on st br
  have nD0 : C.H0 D = none := by
    cases e : C.H0 D with
    | none => rfl
    | some u => exact absurd nD (at1.st.tr D (by rw [e]; exact fun z => nomatch z))
  let Inv2 := fun (i : Nat) (H2 : Hp) => ∃ S2 acc accV, Stp C.H0 C.S0 H2 S2 ∧ Bears X.K H2 S2 ∧ Stp H1 S1 H2 S2 ∧ H2 D = some (.lst accV) ∧ RpL X.K H2 accV acc ∧ S2 D = none ∧
    lcGo (fun x S2 K => ∃ ε', asgD tg x (wipeE ε own) = some ε' ∧ mc ε' S2 fun k S3 => if k = true then me ε' S3 fun d S4 => K (some d) S4 else K none S3) (Stay g) acc (xs.drop i) S2 fun ys S2 => ∀ p, S2 p = none → Q0 (.ref p) (S2.upd p (.lst ys))
  refine ⟨fun i m H2 => i + m = xs.length ∧ Inv2 i H2, ⟨xs.length, by omega, S1, [], [], at1.st.trans (Stp.newT nD), br.newT nD, Stp.newT nD, upd_same, .nil, br.no nD, by rw [List.drop_zero]; exact q⟩, ?_⟩
  rintro i m H2 ⟨em, S2, acc, accV, tp2, b2, st2, hD, ra, nS, q2⟩
  by_cases hi : i < xs.length
  · have ed : xs.drop i = xs[i] :: xs.drop (i + 1) := List.drop_eq_getElem_cons hi
    rw [ed] at q2
    obtain ⟨sy, ε3, ea, q3⟩ := q2
    have hG : G H2 := gd _ _ st2.tp b2 sy
    refine .inr ⟨dw.goes i H2 hi hG, Inv2 (i + 1), fun H' hN => ⟨m - 1, by omega, by omega, hN⟩, fun x H3 y => ?_⟩
    obtain ⟨d, hd, rd, hH3⟩ := dw.yields i H2 x H3 hi hG y
    rw [List.getElem?_eq_getElem hi] at hd
    cases hd
    have st3 : Stp H2 S2 H3 S2 ∧ Bears X.K H3 S2 := by
      rcases hH3 with rfl | ⟨T, o, n, rfl⟩
      · exact ⟨Stp.refl, b2⟩
      · exact ⟨Stp.newT n, b2.newT n⟩
    have ev3 : EvR X.K H3 (wipe σ own) (wipeE ε own) := ((at1.ev.to (st2.trans st3.1).tp).wipe own)
    obtain ⟨vs, ev4, run⟩ := gT_run rd ev3 ea
    refine run _ ⟨wipe_sets hs, ?_⟩
    have hD3 := st3.1.keep D _ hD nS
    refine ⟨ε3, S2, _, ⟨by rw [hH, hS]; exact tp2.trans st3.1, ev4, st3.2⟩, q3, fun b S4 H4 q4 st4 b4 => ?_⟩
    have hD4 := st4.keep D _ hD3.1 hD3.2
    cases b with
    | false =>
      rw [if_neg Bool.false_ne_true] at q4
      refine iteF ?_
      exact ⟨S4, acc, accV, tp2.trans (st3.1.trans st4), b4, st2.trans (st3.1.trans st4), hD4.1, ra.to (st3.1.trans st4).tp, hD4.2, q4⟩
    | true =>
      rw [if_pos rfl] at q4
      refine iteT ?_
      refine ⟨ε3, S4, _, ⟨by rw [hH, hS]; exact tp2.trans (st3.1.trans st4), ev4.to st4.tp, b4⟩, q4, fun e S5 y H5 q5 st5 r5 b5 => ?_⟩
      have hD5 := st5.keep D _ hD4.1 hD4.2
      have stA := st2.trans (st3.1.trans (st4.trans st5))
      have chg : ∀ u, H5 D = some u → Chg u := fun u z => by
        rw [hD5.1] at z
        cases z
        exact ⟨fun _ z => (nomatch z), fun _ _ z => (nomatch z), fun _ z => (nomatch z)⟩
      have tpD : Tp H5 (upd H5 D (.lst (accV ++ [y]))) := Tp.over hD5.1 (chg _ hD5.1)
      have rA := ra.to (st3.1.trans (st4.trans st5)).tp
      refine ⟨accV, hD5.1, by rw [rA.length]; exact q5.1, S5, acc ++ [e], accV ++ [y], (tp2.trans (st3.1.trans (st4.trans st5))).mine nD0 chg, b5.mine hD5.2 chg, stA.mine nD chg, upd_same, ?_, hD5.2, q5.2⟩
      exact (rA.to tpD).app (.cons (r5.to tpD) .nil)
  · have ei : i = xs.length := by omega
    subst ei
    rw [List.drop_length] at q2
    refine .inl ⟨dw.stops H2 (gd _ _ st2.tp b2 q2.1), ?_⟩
    refine hQ _ _ _ _ (q2.2 D nS) (st.trans ⟨st2.tp, st2.tr, fun c u e n => ?_⟩) (.ref D) (fun c o e => ?_)
    · obtain ⟨k1, k2⟩ := st2.keep c u e n
      have ne : c ≠ D := fun z => by rw [z, nD] at e; cases e
      exact ⟨k1, (Sto.upd_ne ne).trans k2⟩
    · by_cases hc : c = D
      · subst hc
        rw [Sto.upd_same] at e
        cases e
        exact ⟨accV, hD, ra⟩
      · rw [Sto.upd_ne hc] at e
        exact b2 c o e
end
end Bay

set_option Elab.async false
set_option linter.all false
set_option maxRecDepth 100000
/-! Bay: sorted. -/
namespace Bay
open PySem PySem.Spec PyProof.Rows L2
/-- a pair of ints that a value is -/
def prK (H : Hp) (v : V) : Int × Int := match v with
  | .ref t => (match H t with
    | some (.tup [.int i, .int j]) => (i, j)
    | _ => (0, 0))
  | _ => (0, 0)
theorem prs_inv {K : PySem.W.Frag} {H : Hp} : ∀ {ps : List (Int × Int)} {vs : List V}, RpL K H vs (ps.map prD) → vs.map (prK H) = ps ∧ ∀ v ∈ vs, ∃ t, v = V.ref t ∧ H t = some (.tup [.int (prK H v).1, .int (prK H v).2])
  | [], vs, r => by cases r; exact ⟨rfl, fun v h => by cases h⟩
  | p :: ps, vs, r => by
    cases r with
    | cons h t =>
      obtain ⟨e1, e2⟩ := prs_inv t
      obtain ⟨a, ws, rfl, ha, r2⟩ := Rp.tup_inv h
      have ew : ws = [V.int p.1, V.int p.2] := RpL.ints_inv (ns := [p.1, p.2]) r2
      subst ew
      have ek : prK H (V.ref a) = p := by unfold prK; simp only [ha]
      refine ⟨by rw [List.map_cons, ek, e1], fun v hv => ?_⟩
      rcases List.mem_cons.mp hv with rfl | hv
      · exact ⟨a, rfl, by rw [ek]; exact ha⟩
      · exact e2 v hv
theorem prs_mk {K : PySem.W.Frag} {H : Hp} : ∀ {vs : List V}, (∀ v ∈ vs, ∃ t, v = V.ref t ∧ H t = some (.tup [.int (prK H v).1, .int (prK H v).2])) → RpL K H vs ((vs.map (prK H)).map prD)
  | [], _ => .nil
  | v :: vs, h => by
    obtain ⟨t, e, ht⟩ := h v (List.mem_cons_self ..)
    refine .cons ?_ (prs_mk fun w hw => h w (List.mem_cons_of_mem _ hw))
    have ht' := ht
    rw [e] at ht' ⊢
    exact .tup ht' (.cons (.int _) (.cons (.int _) .nil))
theorem or_sorted {X : Cx} : CallR X (.builtin "sorted") (LC X.K (bltD .sorted)) := by
  intro pins s σ H vs us Q I rvs h
  obtain ⟨ds, S, Q0, rds, br, q, f⟩ := h
  refine one_of rds rvs (fun e => by subst e; exact q.elim) (fun a b c e => by subst e; exact q.elim) fun d v u e1 e2 e3 r rv => ?_
  subst e1 e2 e3
  have q' : srtD d S Q0 := q
  obtain ⟨a, ws, xs, g, rfl, hs, rl, hq, _⟩ := lst_at r br q'
  rcases hq with ⟨ns, rfl, hn⟩ | ⟨ps, rfl, hp⟩
  · have ew := RpL.ints_inv rl
    subst ew
    exact cr_sortedI pins s σ H _ _ Q I rvs ⟨a, ns, rfl, hs, fun ns' p h1 h2 n => new_list n br RpL.ints (hn ns' h1 h2) f⟩
  · obtain ⟨e1, e2⟩ := prs_inv rl
    refine cr_sortedPO pins s σ H _ _ Q I rvs ⟨a, ws, prK H, rfl, hs, e2, fun ys p h1 h2 n => ?_⟩
    have hm : ∀ v ∈ ys, ∃ t, v = V.ref t ∧ H t = some (.tup [.int (prK H v).1, .int (prK H v).2]) := fun v hv => e2 v (h2.perm.mem_iff.mp hv)
    refine new_list n br (prs_mk hm) (hp (ys.map (prK H)) (by rw [← e1]; exact h2.perm.map _) ?_) f
    rw [List.pairwise_map]
    refine List.Pairwise.imp (fun {x y} hxy => ?_) h1
    have := SrtO.lexB_no.mp hxy
    omega
/-! ### sorted(set(xs)) -/
section
variable {X : Cx} {e : Expr} {te : TE} {p p2 pos pos2 : Pos}
def tSrtS (K : PySem.W.Frag) (te : TE) : TE := fun σ H Q => te σ H fun x H1 => ∃ (l : Addr) (ns : List Int), x = V.ref l ∧ SqL K H1 l (ns.map V.int) ∧ ns.length < 64 ∧
  ∀ (ns' : List Int) (p : Addr), ns'.Pairwise (· < ·) → (∀ k, k ∈ ns' ↔ k ∈ ns) → H1 p = none → Q (.ref p) (upd H1 p (.lst (ns'.map V.int)))
theorem pe_srtS (hc : X.calm = true) (hg : Gl X "sorted") (hm : X.mg "sorted" = none) (hg2 : Gl X "set") (hm2 : X.mg "set" = none) (he : PE X e te)
    (na : starEach [e] X.env = (false, eval e X.env) :: starEach [] X.env) : PE X (.Call (.Name "sorted" p) [.Call (.Name "set" p2) [e] [] pos2] [] pos) (tSrtS X.K te) := by
  refine ⟨fun pins s σ H Q I h => ?_⟩
  refine Call_ (ld_blt I hg hm PyProof.Rows.boot_sorted ?_)
  refine PyProof.Rows.callWith_builtin1 (PyProof.Rows.args_cons ?_ rfl) rfl rfl
  refine Call_ (ld_blt I hg2 hm2 PyProof.Rows.boot_set ?_)
  refine PyProof.Rows.callWith_type1 (PyProof.Rows.args_cons (thn (he.run pins s σ H _ I h) fun v s1 ⟨x, H1, I1, r1, q1⟩ => PyProof.Rows.args_nil ?_) na) na rfl
  obtain ⟨l, ns, ex, hs, h64, q⟩ := q1
  subst ex
  cases r1
  obtain ⟨its, rv, pl, hz⟩ := I1.list hs
  refine set_of_list ns (I1.ok.hd hc) pl.isList (by simpa using rv.ints) (by unfold scanBound; omega) fun h' tk c R le kp => PyProof.Rows.args_nil ?_
  have I2 : Inv X pins σ H1 { s1 with heap := h', toks := tk } := I1.kept kp
  refine sorted_set R (I2.ok.hd hc) (Nat.lt_of_le_of_lt le h64) fun s' p out c2 ns' k g o hp hg hi hso hmem hl => ?_
  have nn : H1 p = none := I2.hok.fresh hp
  have small : (ns'.map V.int).length ≤ sizeLine := by rw [List.length_map, hl, sizeLine_eq]; omega
  have J := I2.call (ch := []) (Un.laid (o := .lst (ns'.map V.int)) k hp nn) (I2.hok.laid k hp ⟨small, out.toList, c2, vals_of_ints hi, hg⟩) (g' := s'.gens) (d' := s'.drawn) (t' := s'.toks) (by rw [g]; exact I2.bare) (fun _ z => nomatch z)
  obtain ⟨sh, sg, sd, st, so⟩ := s'
  dsimp only at o
  subst o
  exact ⟨.ref p, _, J, rfl, q ns' p hso (fun k => (hmem k).trans (by simp)) nn⟩
end
end Bay

set_option Elab.async false
set_option linter.all false
set_option maxRecDepth 100000
namespace Bay
open PySem PySem.Spec PyProof.Rows L2

/-! ### the text, checked -/
def starB : Expr → Bool
  | .Starred .. => true
  | _ => false
def superB : Expr → Bool
  | .Call (.Name _ _) [] [] _ => true
  | _ => false
def sliceB : Expr → Bool
  | .Slice .. => true
  | _ => false
def setB : Expr → Bool
  | .Set .. => true
  | _ => false
section
variable {env : PySem.Env} {e : Expr} {es : List Expr} {pos : Pos}
theorem star_cons (h : starB e = false) : starEach (e :: es) env = (false, eval e env) :: starEach es env := by
  cases e <;> first | rfl | (exact nomatch h)
theorem star_none : ∀ {es : List Expr}, es.all (fun e => !starB e) = true → (backTo pos (starEach es env)).any (·.1) = false
  | [], _ => rfl
  | e :: es, h => by
    rw [List.all_cons, Bool.and_eq_true] at h
    rw [star_cons (by simpa using h.1)]
    show (false || (backTo pos (starEach es env)).any (·.1)) = false
    rw [star_none h.2]; rfl
theorem star_all : ∀ {es : List Expr}, es.all (fun e => !starB e) = true → (backTo pos (starEach es env)).all (fun x => !x.1) = true
  | [], _ => rfl
  | e :: es, h => by
    rw [List.all_cons, Bool.and_eq_true] at h
    rw [star_cons (by simpa using h.1)]
    show (true && (backTo pos (starEach es env)).all fun x => !x.1) = true
    rw [star_all h.2]; rfl
theorem base_id {a : Str} {w : Sem Value} (h : superB e = false) : attributeBase e a env w = w := by
  unfold attributeBase
  split
  · exact nomatch h
  · rfl
theorem plain_ix (h : sliceB e = false) : PlainIx e := by
  intro o i
  cases e <;> first | rfl | (exact nomatch h)
theorem nobeh {op : CmpOp} (h : setB e = false) : behindInMarks op e = false := by
  cases e <;> first | rfl | (exact nomatch h)
theorem fold_id (h : setB e = false) : ∀ x, foldedSetIterable e env x = pure x := by
  intro x
  cases e <;> first | rfl | (exact nomatch h)
end

def B1.nm : B1 → Str
  | .len => "len" | .abs => "abs" | .int => "int" | .repr => "repr" | .str => "str" | .list => "list" | .tuple => "tuple" | .sorted => "sorted" | .sortedSet => "sorted"
  | .isStr => "isinstance" | .isTup => "isinstance" | .isInt => "isinstance" | .isBool => "isinstance" | .dict => "dict" | .sum => "sum" | .max1 => "max" | .min1 => "min" | .max2 => "max" | .min2 => "min" | .all => "all" | .any => "any"
def B1.isT : B1 → Option Str
  | .isStr => some "str" | .isTup => some "tuple" | .isInt => some "int" | .isBool => some "bool"
  | _ => none
def M1.nm : M1 → Str
  | .append => "append" | .extend => "extend" | .pop => "pop" | .popAt => "pop" | .insert => "insert" | .remove => "remove" | .index => "index" | .update => "update" | .join => "join"
  | .partition => "partition" | .split => "split" | .get2 => "get" | .items => "items" | .clear => "clear"
/-- which are covered -/
def B1.has : B1 → Bool
  | .len | .abs | .int | .repr | .str | .list | .tuple | .sorted | .isStr | .isTup | .isInt | .isBool => true
  | _ => false
def M1.has : M1 → Bool
  | .append | .extend | .pop | .popAt | .join => true
  | _ => false
def bltNames : List Str := ["len", "abs", "int", "repr", "str", "list", "tuple", "sorted", "isinstance", "dict", "sum", "max", "min", "all", "any", "range", "enumerate", "zip", "bool", "set"]

structure Tab where
  fns : List Str
  cgs : List Str
  /-- the classes that are caught, asked for -/
  cat : List Str := []
  /-- which defs are called with names, in what order -/
  kws : List (Nat × List Str × List Nat) := []
  /-- in an except suite -/
  hot : Bool := false
def dbgB (x : Str) : Bool := !(x == ("__debug__" : Str)) && !(x == ("__classdict__" : Str)) && !decide (x = ("__name__" : Str))
def visB (sc : Scope) (x : Str) : Bool := match sc.names.lookup x with
  | some .local => true | some .cell => true | some .free => true | _ => false
def glB (sc : Scope) (x : Str) : Bool := match sc.names.lookup x with
  | some .globalImplicit => true | _ => false
def locB (top : Bool) (sc : Scope) (x : Str) : Bool := match sc.names.lookup x with
  | some .local => true | some .cell => top | _ => false
section
variable (T : Tab) (N : List Str)
def ckNm (top : Bool) (sc : Scope) (i : Nat) : Expr → Bool
  | .Name x _ => decide (N[i]? = some x) && locB top sc x
  | _ => false
def ckNms (top : Bool) (sc : Scope) : List Nat → List Expr → Bool
  | [], [] => true
  | i :: is, e :: es => ckNm N top sc i e && ckNms top sc is es
  | _, _ => false
def ckG (top : Bool) (sc : Scope) : MG → Expr → Bool
  | .nm i, e => ckNm N top sc i e
  | .tp is, .Tuple es _ _ => !T.hot && ckNms N top sc is es
  | _, _ => false
def ckKs : List Str → List (Option Expr) → Bool
  | [], [] => true
  | k :: ks, some (.Constant (.str x) _ _) :: r => decide (k = x) && ckKs ks r
  | _, _ => false
def tupB : Expr → Bool
  | .Tuple .. => true
  | _ => false
mutual
def ckE : ME → Scope → Expr → Bool
  | .var i, sc, .Name x _ => decide (N[i]? = some x) && visB sc x && dbgB x
  | .cst (.int k), _, .Constant (.int j) _ _ => decide (k = j)
  | .cst (.str s), _, .Constant (.str t) _ _ => decide (s = t)
  | .cst (.bl a), _, .Constant (.bool b) _ _ => decide (a = b)
  | .cst .non, _, .Constant .none _ _ => true
  | .cg i, sc, .Name x _ => decide (T.cgs[i]? = some x) && glB sc x && dbgB x
  | .add a b, sc, .BinOp l .Add r _ => ckE a sc l && ckE b sc r
  | .sub a b, sc, .BinOp l .Sub r _ => ckE a sc l && ckE b sc r
  | .mul a b, sc, .BinOp l .Mult r _ => ckE a sc l && ckE b sc r
  | .fdv a b, sc, .BinOp l .FloorDiv r _ => ckE a sc l && ckE b sc r
  | .mod a b, sc, .BinOp l .Mod r _ => ckE a sc l && ckE b sc r
  | .pow a b, sc, .BinOp l .Pow r _ => ckE a sc l && ckE b sc r
  | .neg a, sc, .UnaryOp .USub l _ => ckE a sc l
  | .cmp op a b, sc, .Compare l [o] [r] _ => decide (op = o) && ckE a sc l && ckE b sc r && !setB r
  | .cmp2 op op' a b c, sc, .Compare l [o, o'] [r, t] _ => decide (op = o) && decide (op' = o') && ckE a sc l && ckE b sc r && ckE c sc t && !setB t
  | .isN n a, sc, .Compare l [o] [.Constant .none _ _] _ => decide (o = if n then .IsNot else .Is) && ckE a sc l
  | .not a, sc, .UnaryOp .Not l _ => ckE a sc l
  | .and a b, sc, .BoolOp .And (x :: y :: r) p => ckE a sc x && (match r with | [] => ckE b sc y | z :: r => ckE b sc (.BoolOp .And (y :: z :: r) p))
  | .or a b, sc, .BoolOp .Or (x :: y :: r) p => ckE a sc x && (match r with | [] => ckE b sc y | z :: r => ckE b sc (.BoolOp .Or (y :: z :: r) p))
  | .ite c a b, sc, .IfExp t x y _ => ckE c sc t && ckE a sc x && ckE b sc y
  | .tup es, sc, .Tuple xs _ _ => ckEs es sc xs
  | .lst es, sc, .List xs _ => ckEs es sc xs
  | .dicT, _, .Dict [] [] _ => true
  | .dic [] .nil, _, .Dict [] [] _ => true
  | .dic ks es, sc, .Dict kk vv _ => ckKs ks kk && ckEs es sc vv && decide (vv.length = kk.length) && decide (1 ≤ kk.length) && decide (kk.length ≤ 15) && decide ks.Nodup
  | .idx a i, sc, .Subscript x y _ => ckE a sc x && ckE i sc y && !sliceB y
  | .slc a lo hi, sc, .Subscript x (.Slice l h none _) _ => ckE a sc x && ckO lo sc l && ckO hi sc h
  | .xf i f, sc, .Attribute (.Name x _) y _ => decide (N[i]? = some x) && visB sc x && dbgB x && decide (f = y)
  | .xis i c, sc, .Call (.Name z _) [.Name x _, .Name y _] [] _ => decide (z = ("isinstance" : Str)) && glB sc z && decide (N[i]? = some x) && visB sc x && dbgB x && decide (c = y) && glB sc y && dbgB y && decide (c ∈ T.cat)
  | .call f es, sc, .Call (.Name x _) xs [] _ => !T.hot && decide (T.fns[f]? = some x) && glB sc x && dbgB x && ckEs es sc xs
  | .callK f es perm, sc, .Call (.Name x _) [] kws _ => !T.hot && decide (T.fns[f]? = some x) && glB sc x && dbgB x && decide ((f, kws.filterMap (·.arg), perm) ∈ T.kws) && kws.all (·.arg.isSome) && decide (kws.length = perm.length) && ckEs es sc (kws.map (·.value))
  | .blt b es, sc, .Call (.Name x _) xs [] _ => b.has && decide (b.nm = x) && glB sc x && dbgB x && (match b.isT with
    | none => ckEs es sc xs && !xs.isEmpty
    | some T => (match xs with | [y, .Name z _] => decide (z = T) && glB sc z && dbgB z && ckEs es sc [y] | _ => false))
  | .mth m o es, sc, .Call (.Attribute ob x ap) xs [] cp => m.has && decide (m.nm = x) && (ap.endLine == cp.line) && ckE o sc ob && !superB ob && ckEs es sc xs && decide (xs.length < 30)
  | .un .rev a, sc, .Subscript x (.Slice none none (some (.UnaryOp .USub (.Constant (.int j) _ _) _)) _) _ => decide (j = 1) && ckE a sc x
  | .un .lsR a, sc, .Call (.Name l _) [.Call (.Name r _) [x] [] _] [] _ => !T.hot && decide (l = ("list" : Str)) && glB sc l && decide (r = ("range" : Str)) && glB sc r && ckE a sc x && !starB x
  | .un .srtS a, sc, .Call (.Name l _) [.Call (.Name r _) [x] [] _] [] _ => !T.hot && decide (l = ("sorted" : Str)) && glB sc l && decide (r = ("set" : Str)) && glB sc r && ckE a sc x && !starB x
  | .lsZ a b, sc, .Call (.Name l _) [.Call (.Name r _) [x, y] [] _] [] _ => !T.hot && decide (l = ("list" : Str)) && glB sc l && decide (r = ("zip" : Str)) && glB sc r && ckE a sc x && ckE b sc y && !starB x && !starB y
  | .lc elt tg it c own, sc, .ListComp el [⟨t, i, ifs, 0⟩] scope _ => !T.hot && blkC N sc scope own && ckG T N false (relS scope sc) tg t && decide (∀ j ∈ tg.slots, j ∈ own.map (·.2)) && ckI it sc t i && ckE elt (relS scope sc) el && ckC c (relS scope sc) ifs && !setB i
  | _, _, _ => false
def ckEs : MEs → Scope → List Expr → Bool
  | .nil, _, [] => true
  | .cons e r, sc, x :: xs => ckE e sc x && ckEs r sc xs && !starB x
  | _, _, _ => false
def ckO : MO → Scope → Option Expr → Bool
  | .no, _, none => true
  | .yes e, sc, some x => ckE e sc x
  | _, _, _ => false
def ckC : MO → Scope → List Expr → Bool
  | .no, _, [] => true
  | .yes e, sc, [x] => ckE e sc x
  | _, _, _ => false
def ckI : MI → Scope → Expr → Expr → Bool
  | .gen e, sc, _, x => ckE e sc x
  | .rng1 a, sc, _, .Call (.Name x _) [y] [] _ => decide (x = ("range" : Str)) && glB sc x && ckE a sc y && !starB y
  | .rng2 a b, sc, _, .Call (.Name x _) [y, z] [] _ => decide (x = ("range" : Str)) && glB sc x && ckE a sc y && ckE b sc z && !starB y && !starB z
  | .enum a, sc, t, .Call (.Name x _) [y] [] _ => decide (x = ("enumerate" : Str)) && glB sc x && ckE a sc y && !starB y && tupB t
  | .zip2 a b, sc, t, .Call (.Name x _) [y, z] [] _ => decide (x = ("zip" : Str)) && glB sc x && ckE a sc y && ckE b sc z && !starB y && !starB z && tupB t
  | _, _, _, _ => false
end
end
theorem ckEs_star {T : Tab} {N : List Str} {sc : Scope} : ∀ {es : MEs} {xs : List Expr}, ckEs T N es sc xs = true → xs.all (fun e => !starB e) = true
  | .nil, [], _ => rfl
  | .nil, _ :: _, h => by simp [ckEs] at h
  | .cons e r, [], h => by simp [ckEs] at h
  | .cons e r, x :: xs, h => by
    simp only [ckEs, Bool.and_eq_true] at h
    rw [List.all_cons, h.2, ckEs_star h.1.2]
    rfl
end Bay

set_option Elab.async false
set_option linter.all false
set_option maxRecDepth 100000
namespace PySem.W
open PySem PySem.Spec PySem.Calls PyProof.Rows
section
variable {prog : Program} {w : World} {A : Around} {E : Value → Shared → Prop} {s : Shared} {K : Frag} {x D : Addr} {ox : Obj} {od : Option Obj}
/-- .. with a dict of its own or without -/
theorem bay_data {C : Addr} {name : Str} {a g : Value} (i1 : (clsIn K C).isSome = true) (i2 : findIn K (.ref C) name = some (some a)) (i3 : specialIn K a "__get__" = some (some g)) (i4 : takesIn K a = some true) : findObj K C od name = some (.bind g a) := by
  obtain ⟨cd, i1⟩ := Option.isSome_iff_exists.mp i1
  unfold findObj; rw [i1, Option.bind_some, i2, Option.bind_some]; simp [i3, i4]
structure BayIs (K : Frag) (D : Addr) : Prop where
  g : findIn K (.ref D) "__getattribute__" = some (some (.builtin "BaseException.__getattribute__"))
  k : findIn K (.ref D) "__getattr__" = some none
  s : subIn K (.ref D) (.type "BaseException") = some true
  d : hasDictIn K D = true
  a : findIn K (.ref D) "__class__" = some (some (.builtin "object.__class__"))
  n : specialIn K (.builtin "object.__class__") "__get__" = some (some (.builtin "getset_descriptor.__get__"))
  t : takesIn K (.builtin "object.__class__") = some true
  m : mroIn K D (.type "object") = some true
theorem bay_class {Q : Option Value → Shared → Prop} (B : BayIs K D) (X : K.In s.heap) (I : InstAt s.heap x ox D od) (h : Q (some (.ref D)) { s with toks := s.toks + 1 }) : wpAny (model prog w) A (getAttr? (.ref x) "__class__") Q E s := by
  have i0 : findObj K D od "__class__" = some (.bind (.builtin "getset_descriptor.__get__") (.builtin "object.__class__")) := bay_data (by obtain ⟨cd, hc, _⟩ := any_some B.d; rw [hc]; rfl) B.a B.n B.t
  obtain ⟨hp, g, d, t, os⟩ := s
  have l0 := I.type (M := model prog w); have l1 := looks_findIn (M := model prog w) X B.g; have l2 := looks_findIn (M := model prog w) X B.k; have l3 := looks_find (M := model prog w) X I i0
  have sub : Looks (model prog w) hp (isInstance (.ref x) (.type "BaseException")) true := l0.andThen (looks_subIn X B.s)
  have n0 : (false && onTheHeap (Value.builtin "BaseException.__getattribute__")) = false := rfl
  have n2 : (Value.builtin "BaseException.__getattribute__" == Value.builtin "object.__getattribute__") = false := by decide +kernel
  have n1 : (onTheHeap (Value.ref D) && Value.builtin "BaseException.__getattribute__" == Value.builtin "object.__getattribute__") = false := by rw [n2]; rfl
  unfold getAttr? getAttrBy? getAttrBy
  refine wpAny_bind (wpAny_mkText (wpAny_bind (wpAny_attempt (wpAny_holding (wpAny_bind (l0.at (wpAny_bind (l1.at ?_))))))))
  show wpAny _ _ (if (onTheHeap (Value.ref D) && Value.builtin "BaseException.__getattribute__" == Value.builtin "object.__getattribute__") = true then _ else _) _ _ _; rw [n1, if_neg Bool.false_ne_true]
  unfold getAttrByItsOwn hookBefore; refine wpAny_bind ?_
  rw [if_pos (show onTheHeap (Value.ref D) = true from rfl)]; refine l2.at ?_; refine wpAny_bind (wpAny_attempt (wpAny_holding ?_)); unfold callGetattribute
  rw [n0, if_neg Bool.false_ne_true]; unfold boundAndCalled; rw [PySem.F.excAttr_ValueError.ga.bind (.ref x)]; refine wpAny_bind (wpAny_pure ?_)
  show wpAny _ _ (call (.builtin "BaseException.__getattribute__") [.ref x, .str "__class__" t]) _ _ _; refine wpAny_call (codeAny_call_builtin PySem.F.excAttr_ValueError.ga.plain PySem.F.entry_bexc_ga ?_)
  refine @check_slot (model prog w) _ _ ⟨hp, g, d, t + 1, os⟩ "BaseException.__getattribute__" "BaseException" "__getattribute__" (.ref x) [.str "__class__" t] [] _ (by decide +kernel) (by decide +kernel) sub (PySem.F.args_bexc_ga (.ref x) (.str "__class__" t)) ?_
  unfold Builtin.«object.__getattribute__»; refine wpAny_bind (wpAny_of_eq (a := ((Value.ref x : Value), [Value.str "__class__" t])) (by first | rfl | (simp only [slotArgs]; rfl)) ?_)
  refine wpAny_bind (wpAny_pure (wpAny_bind (l0.at (wpAny_bind (l3.at ?_)))))
  show wpAny _ _ (holding [Value.builtin "object.__class__"] (call (.builtin "getset_descriptor.__get__") [.builtin "object.__class__", .ref x, .ref D]) >>= ret) _ _ _; refine wpAny_bind (wpAny_holding (wpAny_call (class_get (s := ⟨hp, g, d, t + 1, os⟩) (ox := ox) (od := od) X I B.m ?_)))
  refine wpAny_pure ?_; show wpAny _ _ (handedOut (.ref D)) _ _ _; rw [handedOut_of (v := .ref D) rfl]
  first
    | exact wpAny_pure (wpAny_pure h)
    | exact wpAny_pure h
    | exact wpAny_pure (wpAny_bind (wpAny_pure (wpAny_pure h)))
theorem bay_kitx (B : BayIs K D) : KitX K (.ref x) (.ref D) (fun h => InstAt h x ox D od) where
  ty := fun _ _ _ I => I.type
  it := fun _ _ X _ => by
    obtain ⟨cdD, hc, _⟩ := any_some B.d
    unfold clsIn at hc
    split at hc
    · rename_i ho
      intro A' Q' E' s' k q
      unfold isType loadHead; exact wpAny_bind (wpAny_loadPart (k _ _ (X _ _ ho)) (wpAny_pure q))
    · cases hc
  ne := fun h tp dd its n sl X htp => by
    obtain ⟨cdD, hc, _⟩ := any_some B.d
    refine Bool.eq_false_iff.mpr fun q => ?_
    have e : D = tp := Value.ref.inj (beq_iff_eq.mp q)
    subst e
    unfold clsIn at hc
    split at hc
    · rename_i ho
      have z := (X _ _ ho).symm.trans htp
      cases z
    · cases hc
  ca := fun X I k => bay_class B X I k
end
end PySem.W
namespace PySem.W
/-- which class is below which -/
structure BayCat (K : Frag) (C : Addr) (D : Addr) (b : Bool) : Prop where
  e : subIn K (.ref D) (.type "BaseException") = some true
  d : hasDictIn K D = true
  t : typeIn K (.ref D) = some (.type "type")
  s : subIn K (.ref C) (.ref D) = some b
theorem BayCat.exm {K : Frag} {C D : Addr} {b : Bool} (h : BayCat K C D b) : exmOne K (.ref C) (.ref D) = some b := exm_ref h.e h.d h.t h.s
theorem BayCat.kit {K : Frag} {C D : Addr} {b : Bool} (h : BayCat K C D b) (hb : C = D → b = true) : kitOne K (.ref C) (.ref D) = some b := by
  unfold kitOne
  split
  · rename_i e
    rw [hb (Value.ref.inj (beq_iff_eq.mp e))]
  · obtain ⟨cd, hc, _⟩ := any_some h.d
    unfold kitCls
    simp only [hc, h.t, h.s, Option.isSome_some, beq_self_eq_true, Bool.and_self, if_true]
end PySem.W

set_option Elab.async false
set_option linter.all false
set_option maxRecDepth 100000
set_option maxHeartbeats 4000000
/-! Bay: an own exception class below ValueError whose __init__ says super().__init__(text), then stores its one thing. -/
namespace PySem
namespace BayX
open PySem.W PySem.Calls PyProof.Rows
abbrev bv (x : Addr) : Obj := { cls := .type "method-wrapper", dict := none, data := .fields #[.builtin "ValueError.__init__", .ref x], slots := #[] }
theorem tyV : typeOf (.builtin "ValueError.__init__") = pure (.type "wrapper_descriptor") := by show builtinType _ = _; rw [builtinType_eq_fast]; kernel_rfl
theorem nacV : (kfb_private% "nameAndClass") (Value.builtin "ValueError.__init__") = (pure (("__init__" : Str), Value.type "ValueError") : Sem (Str × Value)) := by kernel_rfl
section
variable {prog : Program} {w : World} {M : Model} {A : Around} {E : Value → Shared → Prop} {h : Heap} {g : Array GenState} {d : Drawn} {t : Nat} {os : OsState} {s : Shared}
theorem wdV {x C : Addr} {P : Fin → Shared → Prop} (hi : W.Looks M h (isInstance (.ref x) (.type "ValueError")) true) (hq : P (.done (.ret (.ref h.objs.size))) ⟨h.push (bv x), g, d, t, os⟩) :
    wpAny M A (Builtin.«wrapper_descriptor.__get__» ⟨[.builtin "ValueError.__init__", .ref x, .ref C], []⟩) P E ⟨h, g, d, t, os⟩ := by
  unfold Builtin.«wrapper_descriptor.__get__»
  refine wpAny_bind (wpAny_of_eq (a := (.builtin "ValueError.__init__", some (.ref x), some (.ref C))) (by first | rfl | kernel_rfl) ?_)
  show wpAny M A ((kfb_private% "checkInstance") (.builtin "ValueError.__init__") (.ref x) >>= fun _ => newFields "method-wrapper" [.builtin "ValueError.__init__", .ref x] >>= fun r => ret r) P E _
  refine wpAny_bind ?_; show wpAny M A ((kfb_private% "nameAndClass") (.builtin "ValueError.__init__") >>= _) _ E _
  refine wpAny_bind (wpAny_of_eq nacV ?_); show wpAny M A (isInstance (.ref x) (.type "ValueError") >>= _) _ E _
  refine wpAny_bind (hi.at ?_); refine KFB.if_not rfl ?_; refine wpAny_pure ?_
  exact wpAny_bind (wpAny_newObj_type (wpAny_pure hq))
theorem gaV {so D x C : Addr} {l₀ l : List Value} {K : Frag} {name : Str} {tk : Tok} {Q : Fin → Shared → Prop}
    (hso : h.get? so = some (ks_superObj D x C)) (ho : W.Looks (model prog w) h (opaqueClassAbove (.ref C)) none)
    (hC : W.Looks (model prog w) h (mroOf (.ref C)) l₀) (hl : (l₀.dropWhile (· != .ref D)).drop 1 = l) (X : K.In h)
    (hf : alongIn K name l = some (some (.builtin "ValueError.__init__"))) (hx : x ≠ C) (hn : (name == ("__class__" : Str)) = false) (hi : W.Looks (model prog w) h (isInstance (.ref x) (.type "ValueError")) true)
    (hq : Q (.done (.ret (.ref h.objs.size))) ⟨h.push (bv x), g, d, t, os⟩) : wpAny (model prog w) A (Builtin.«super.__getattribute__» ⟨[.ref so, .str name tk], []⟩) Q E ⟨h, g, d, t, os⟩ := by
  have i1 := ESX.slot_wd.lookup
  have i2 : (Value.ref x == Value.ref C) = false := by simp [hx]
  have i3 := tyV
  have i4 : Shared.TypeIs ⟨h, g, d, t, os⟩ (.builtin "ValueError.__init__") "wrapper_descriptor" := tyV
  have i5 : (ks_superObj D x C).data = .fields #[.ref D, .ref x, .ref C] := rfl
  have j0 : (#[.ref D, .ref x, .ref C] : Array Value)[0]? = some (.ref D) := rfl
  have j1 : (#[.ref D, .ref x, .ref C] : Array Value)[1]? = some (.ref x) := rfl
  have j2 : (#[.ref D, .ref x, .ref C] : Array Value)[2]? = some (.ref C) := rfl
  unfold Builtin.«super.__getattribute__»
  repeat (first
    | (with_reducible refine wpAny_field hso i5 j0 ?_) | (with_reducible refine wpAny_field hso i5 j1 ?_) | (with_reducible refine wpAny_field hso i5 j2 ?_)
    | (with_reducible refine ks_wpAny_notOpaque ho ?_)
    | (with_reducible refine Looks.at hC ?_; rw [hl])
    | (refine ks_forIn_along X (fun _ _ => rfl) rfl ?_ hf)
    | (with_reducible refine wpAny_call_entry ESX.slot_wd i4 ESX.entry_wd ?_ (ESX.args_wd _ _ _))
    | (with_reducible refine wdV hi ?_)
    | (with_reducible refine ⟨_, rfl, ?_⟩)
    | (simp only [hn, i2, Bool.or_false, Bool.false_eq_true, if_false])
    | wp_step
    | dsimp only)
  all_goals exact hq
theorem gmV {so D x C : Addr} {l₀ l : List Value} {K : Frag} {name : Str} {pl : Sem Bool} {Q : Value × List Value → Shared → Prop}
    (hso : h.get? so = some (ks_superObj D x C)) (ho : W.Looks (model prog w) h (opaqueClassAbove (.ref C)) none)
    (hC : W.Looks (model prog w) h (mroOf (.ref C)) l₀) (hl : (l₀.dropWhile (· != .ref D)).drop 1 = l) (X : K.In h)
    (hf : alongIn K name l = some (some (.builtin "ValueError.__init__"))) (hx : x ≠ C) (hn : (name == ("__class__" : Str)) = false) (hi : W.Looks (model prog w) h (isInstance (.ref x) (.type "ValueError")) true)
    (hq : Q (.ref h.objs.size, []) ⟨h.push (bv x), g, d, t + 1, os⟩) : wpAny (model prog w) A (getMethod (.ref so) name pl) Q E ⟨h, g, d, t, os⟩ := by
  have i1 := F.ks_slot_super_ga.lookup
  have i2 : ∀ t', (⟨h, g, d, t', os⟩ : Shared).TypeIs (.ref so) "super" := fun _ => ⟨_, hso, rfl⟩
  unfold getMethod; refine wpAny_bind (wpAny_specialOf (i2 _) i1 ?_)
  show wpAny _ _ (if (Manifest.canonical "super.__getattribute__" != "object.__getattribute__") = true then _ else _) _ _ _; rw [if_pos F.ks_canon_super_ga]; unfold getAttr getAttrBy
  refine wpAny_bind (wpAny_bind (wpAny_mkText (wpAny_holding (wpAny_bind (wpAny_typeOf (i2 _) (wpAny_bind (wpAny_of_eq i1 ?_)))))))
  show wpAny _ _ (getAttrByItsOwn (.ref so) (.str name t) (.type "super") (.builtin "super.__getattribute__") true false) _ _ _; unfold getAttrByItsOwn hookBefore callGetattribute boundAndCalled
  refine wpAny_bind (wpAny_of_eq (show (if onTheHeap (.type "super") then typeLookup (.type "super") "__getattr__" else pure none) = pure none from rfl) ?_); refine wpAny_bind (wpAny_attempt (wpAny_holding ?_))
  show wpAny _ _ (bindSpecial (.builtin "super.__getattribute__") (.ref so) >>= _) _ _ _; refine wpAny_bind (wpAny_of_eq (F.ks_slot_super_ga.bind _) ?_)
  refine wpAny_mono (Q := fun v s' => v = .ref h.objs.size ∧ s' = ⟨h.push (bv x), g, d, t + 1, os⟩) (E := fun _ _ => False)
    (wpAny_call_entry F.ks_slot_super_ga (i2 _) F.ks_entry_super_ga (gaV hso ho hC hl X hf hx hn hi ⟨_, rfl, rfl, rfl⟩) (F.ks_gaArgs_super _ _)) (fun v s' hv => ?_) fun _ _ z => z.elim
  obtain ⟨rfl, rfl⟩ := hv
  exact wpAny_pure (wpAny_pure hq)
theorem cwV {pos : Pos} {u x : Addr} {first : List Value} {args : List (Bool × Sem Value)} {Q : Value → Shared → Prop} (hp : args.any (·.1) = false)
    (h : wpAny M A (evalArgs (.ref u) true args []) (fun a s₁ => s₁.heap.get? u = some (bv x) ∧ wpAny M A (call (.ref u) (first ++ a.pos) a.kw) Q E s₁) E s) : wpAny M A (callWith pos (.ref u) first args []) Q E s := by
  unfold callWith
  refine wpAny_bind (wpAny_holding (wpAny_mono h (fun a s₁ z => wpAny_bind (wpAny_standAt ?_)) fun _ _ x => x))
  obtain ⟨ho, hc⟩ := z
  simp only [hp, List.any_nil, Bool.or_false]; refine wpAny_bind (m := keeperOf (.ref u)) ?_; unfold keeperOf; refine wpAny_bind (wpAny_load ho ?_)
  simp only [bv, show (Value.type "method-wrapper" != Value.type "method") = true by decide, show (Value.type "method-wrapper" == Value.type "builtin_function_or_method" || Value.type "method-wrapper" == Value.type "method-wrapper") = true by decide, if_true]
  refine wpAny_pure ?_; exact wpAny_bind (wpAny_mono hc (fun r s₂ hr => wpAny_bind (wpAny_holding (wpAny_point (wpAny_pure hr)))) fun _ _ x => x)
theorem cbV {pos : Pos} {u x : Addr} {first : List Value} {env : Env} {e : Expr} {rest : List Expr} {Q : Value → Shared → Prop}
    (h : wpAny M A (spliced (backTo pos (starEach (e :: rest) env))) (fun vs s₁ => s₁.heap.get? u = some (bv x) ∧ wpAny M A (call (.ref u) (first ++ vs)) Q E s₁) E s)
    (he : starEach (e :: rest) env = (false, eval e env) :: starEach rest env) (hp : (backTo pos (starEach rest env)).any (·.1) = false) : wpAny M A (callWith pos (.ref u) first (backTo pos (starEach (e :: rest) env)) []) Q E s := by
  rw [he] at h ⊢
  refine cwV (x := x) (by show (false || (backTo pos (starEach rest env)).any (·.1)) = false; rw [hp]; rfl) ?_
  exact evalArgs_plain h
end
section
variable {prog : Program} {w : World} {A : Around} {E : Value → Shared → Prop} {h : Heap} {g : Array GenState} {d : Drawn} {t : Nat} {os : OsState}
variable {nm q : Str} {C N : Addr} {bs bm : List Value} {hdct : Bool} {sn : List Str} {sub : List Value} {ab : Bool} {col : Option Bool} {dd : Option Addr} {k0 k1 k2 k3 k5 : Option Value}
theorem callV {u e t0 : Addr} {rest : List Value} {Q : Value → Shared → Prop}
    (hC : h.get? C = some (excClassObj nm q C N bs bm hdct sn sub ab col dd k0 k1 k2 k3 k5 "ValueError.__new__")) (he : h.get? e = some (HandSPX.excO C t0)) (hu : h.get? u = some (bv e)) (hrest : rest.length ≤ sizeLine)
    (hq : ∀ h' t1, (∀ b o, b ≠ e → h.get? b = some o → h'.get? b = some o) → h'.get? e = some (HandSPX.excO C t1) → Q .none ⟨h', g, d, t, os⟩) : wpAny (model prog w) A (call (.ref u) rest) Q E ⟨h, g, d, t, os⟩ := by
  refine wpAny_call (codeAny_of_tree ?_); show wpAny _ A.in1 (callAny (.ref u) ⟨rest, []⟩) _ _ _
  simp only [callAny]; refine wpAny_bind (wpAny_load hu ?_)
  simp only [bv, show (Value.type "method-wrapper" == Value.type "method" || Value.type "method-wrapper" == Value.type "builtin_function_or_method" || Value.type "method-wrapper" == Value.type "method-wrapper") = true by decide, if_true]
  refine W.KFB.if_so (by decide) ?_; refine wpAny_bind (ESX.check_bound F.excBase_ValueError hC he rfl ?_); refine wpAny_bind (wpAny_pure (wpAny_pure ?_))
  refine ⟨Code.quiet_builtin _ (by decide +kernel), codeAny_builtin F.excBase_ValueError.initEntry ?_⟩; rw [Around.under_plainId F.excBase_ValueError.init.plain _]
  wp_walk
  refine hq _ h.objs.size (fun b o hb ho => ?_) ?_
  · rw [Heap.get?_update_other _ _ (Ne.symm hb)]; exact Heap.get?_push_of_some _ ho
  · rw [Heap.get?_update_self _ (Heap.get?_push_of_some _ he) rfl]; rfl
end
end BayX
end PySem

set_option Elab.async false
set_option linter.all false
set_option maxRecDepth 100000
set_option maxHeartbeats 4000000
namespace PySem
namespace BayX
open PySem.W PySem.Calls PyProof.Rows
/-- what the written part says of an own class of exceptions and its __init__ -/
structure ExI (prog : Program) (K : Frag) (C : Addr) (sf : Str) (more : Option (Str × Str)) : Prop where
  ox : L2.OexC K C
  ex : ∃ (fI cc cda : Addr) (name qual : Str) (params : Arguments) (scope : Scope) (dV kV doc pm ct oc ccl cl : Value) (an od cdd cld : Option Addr) (osl ccs csl : Array (Option Value)) (vs : Array Value) (file m : Str) (tf : Tok) (ar : Arg) (body : List Stmt) (p0 p1 p2 p3 p4 p5 : Pos) (j : Nat) (cdC : ClassData) (pl : Sem Bool),
    (∀ env, eval (.Call (.Attribute (.Call (.Name "super" p0) [] [] p1) "__init__" p2) [.Constant (.str m) j p3] [] p4) env = (do
      let ov ← attributeBase (.Call (.Name "super" p0) [] [] p1) "__init__" env (eval (.Call (.Name "super" p0) [] [] p1) env)
      standAt p2.atName
      let (f, first) ← holding [ov] (getMethod ov "__init__" pl)
      callWith p4 f first (backTo p4 (starEach [.Constant (.str m) j p3] env)) [])) ∧
    findIn K (.ref C) "__init__" = some (some (.ref fI)) ∧ typeIn K (.ref fI) = some (.type "function") ∧
    K.lookup fI = some ⟨oc, od, .func (ksFn name qual params body scope dV kV doc pm an (.ref cda) ct cc), osl⟩ ∧ codeIn K (.ref cda) qual = true ∧
    (params.posonlyargs ++ params.args).head? = some ar ∧ ar.arg = sf ∧ K.lookup cda = some ⟨ccl, cdd, .fields vs, ccs⟩ ∧ vs[2]? = some (.str file tf) ∧ ((prog.main.file : Str) == file) = true ∧
    K.lookup cc = some ⟨cl, cld, .cell (some (.ref C)), csl⟩ ∧ clsIn K C = some cdC ∧ mroIn K C (.ref C) = some true ∧ mroIn K C (.type "ValueError") = some true ∧ nsIn K cStatics "thirdparty.any" = some none ∧
    ks_superIn K C C "__init__" = some (some (.builtin "ValueError.__init__")) ∧
    scope.names.lookup ("super" : Str) = some .globalImplicit ∧ scope.names.lookup ("__class__" : Str) = some .free ∧ scope.names.lookup sf = some .local ∧ (∀ x ∈ scope.names, x.2 ≠ .cell) ∧ scope.isCoroutine = false ∧ scope.isGenerator = false ∧ scope.kind = .function ∧
    (prog.main.scope.names.lookup ("super" : Str)).isSome = false ∧
    (∀ (s : Shared) (us : List Value), us.length = (match more with | none => 1 | some _ => 2) → BindsTo s (ksFn name qual params body scope dV kV doc pm an (.ref cda) ct cc) ⟨us, []⟩ ((match more with | none => [sf] | some (g, _) => [sf, g]).zip us)) ∧
    match more with
    | none => body = [.Expr (.Call (.Attribute (.Call (.Name "super" p0) [] [] p1) "__init__" p2) [.Constant (.str m) j p3] [] p4) p5]
    | some (g, f) => g ≠ sf ∧ (sf == ("__debug__" : Str)) = false ∧ (g == ("__debug__" : Str)) = false ∧ scope.names.lookup g = some .local ∧ findIn K (.ref C) f = some none ∧
        ∃ q1 q2 q3 q4, body = [.Expr (.Call (.Attribute (.Call (.Name "super" p0) [] [] p1) "__init__" p2) [.Constant (.str m) j p3] [] p4) p5, .Assign [.Attribute (.Name sf q1) f q2] (.Name g q3) q4]
section
variable {prog : Program} {w : World} {A : Around} {K : Frag} {mg : Str → Option Value} {base hp : Heap} {g : Array GenState} {d : Drawn} {t : Nat} {os : OsState} {C e : Addr} {self : Str}
/-- super().__init__(text) -/
theorem supV {E : Value → Shared → Prop} {m : Str → Option Value} {L fI cc cda t0 : Addr} {name qual : Str} {params : Arguments} {scope : Scope} {dV kV doc pm ct oc ccl cl : Value} {an od cdd cld : Option Addr} {osl ccs csl : Array (Option Value)} {vs : Array Value} {file msg : Str} {tf : Tok} {ar : Arg} {body : List Stmt} {p0 p1 p2 p3 p4 p5 : Pos} {j : Nat} {cdC : ClassData} {pl : Sem Bool} {Q : Flow → Shared → Prop}
    (hev : ∀ env, eval (.Call (.Attribute (.Call (.Name "super" p0) [] [] p1) "__init__" p2) [.Constant (.str msg) j p3] [] p4) env = (do
      let ov ← attributeBase (.Call (.Name "super" p0) [] [] p1) "__init__" env (eval (.Call (.Name "super" p0) [] [] p1) env)
      standAt p2.atName
      let (f, first) ← holding [ov] (getMethod ov "__init__" pl)
      callWith p4 f first (backTo p4 (starEach [.Constant (.str msg) j p3] env)) []))
    (M : L2.Mod K mg base) (hb : ∀ b o, base.get? b = some o → hp.get? b = some o) (ms : mg "super" = none) (T : L2.OexC K C) (lkI : K.lookup fI = some ⟨oc, od, .func (ksFn name qual params body scope dV kV doc pm an (.ref cda) ct cc), osl⟩)
    (har : (params.posonlyargs ++ params.args).head? = some ar) (hse : ar.arg = self) (lkC : K.lookup cda = some ⟨ccl, cdd, .fields vs, ccs⟩) (hvs : vs[2]? = some (.str file tf)) (hfi : ((prog.main.file : Str) == file) = true)
    (lkc : K.lookup cc = some ⟨cl, cld, .cell (some (.ref C)), csl⟩) (hC : clsIn K C = some cdC) (hm1 : mroIn K C (.ref C) = some true) (hm2 : mroIn K C (.type "ValueError") = some true) (hop : nsIn K cStatics "thirdparty.any" = some none)
    (hsu : ks_superIn K C C "__init__" = some (some (.builtin "ValueError.__init__"))) (s1 : scope.names.lookup ("super" : Str) = some .globalImplicit) (s2 : scope.names.lookup ("__class__" : Str) = some .free) (s3 : scope.names.lookup self = some .local) (s4 : scope.kind = .function)
    (htop : (prog.main.scope.names.lookup ("super" : Str)).isSome = false) (he : hp.get? e = some (HandSPX.excO C t0)) (hL : hp.Ns L m) (hv : m self = some (.ref e)) (hLe : L ≠ e)
    (hq : ∀ h' t' t1, (∀ b o, b ≠ e → hp.get? b = some o → h'.get? b = some o) → h'.get? e = some (HandSPX.excO C t1) → Q .next ⟨h', g, d, t', os⟩) :
    _root_.PySem.wpAt (model prog w) A (.func body (ksEnv qual scope L fI (.ref cda) cc)) (exec (.Expr (.Call (.Attribute (.Call (.Name "super" p0) [] [] p1) "__init__" p2) [.Constant (.str msg) j p3] [] p4) p5) (ksEnv qual scope L fI (.ref cda) cc)) Q E ⟨hp, g, d, t, os⟩ := by
  have X : K.In hp := M.kin.keeps hb
  obtain ⟨oD, hD1, hD2⟩ : ∃ oD, hp.get? C = some oD ∧ oD.data = .cls cdC := by
    unfold clsIn at hC
    split at hC
    · rename_i ho
      cases hC
      exact ⟨_, X _ _ ho, rfl⟩
    · cases hC
  have nec : e ≠ C := fun z => by
    subst z
    rw [hD1] at he
    cases he
    cases hD2
  obtain ⟨nm, q, N, bs, bm, sn, sub, ab, col, dd, k0, k1, k2, k3, k5, lkX, hbm⟩ := T.cls
  refine ks_wpAt_Expr_any (ks_wpAt_MethodCall (ks_wpAt_super_base (env := ksEnv qual scope L fI (.ref cda) cc) s1 s2 (by decide) rfl (X _ _ lkI) rfl har rfl (X _ _ lkC) rfl hvs hfi htop ?_) (hev _)) ?_ rfl
  · obtain ⟨mb, h1, h2⟩ := M.blt
    refine ks_loadName_global s4 s1 (loadGlobal_builtin (env := ksEnv qual scope L fI (.ref cda) cc) (M.glob.keeps hb) ms (h1.keeps hb) ((h2 _ (by decide)).trans (by decide +kernel)) ⟨rfl, ?_⟩)
    refine wpAny_loadName_free s4 s2 rfl ⟨_, X _ _ lkc, rfl⟩ ?_
    rw [hse]
    refine wpAny_loadName_local s4 s3 hL hv ?_
    refine ks_wpAny_isType_cls hD1 hD2 ⟨rfl, ?_⟩
    refine ks_wpAny_call_super hD1 hD2 he rfl (fun c z => by cases z) (looks_mroIn X hm1) (fun h2 e2 k2 => ?_)
    have he2 := k2 _ _ he
    have X2 := X.keeps k2
    have hi : W.Looks (model prog w) h2 (isInstance (.ref e) (.type "ValueError")) true := (show W.InstAt h2 e (HandSPX.excO C t0) C none from ⟨he2, rfl, rfl, trivial⟩).type.andThen (looks_mroIn X2 hm2)
    unfold ks_superIn at hsu
    rw [hC] at hsu
    refine gmV e2 (looks_opaque X2 hop) (l₀ := cdC.mro) ((looks_clsIn X2 hC).andThen .now) rfl X2 hsu nec (by decide) hi ?_
    refine cbV (x := e) ?_ rfl rfl
    refine spliced_cons (Calls.Constant_str (k := j) (pos := p3) (spliced_nil ⟨Heap.get?_push_at rfl rfl, ?_⟩))
    have he3 : (h2.push (bv e)).get? e = some (HandSPX.excO C t0) := Heap.get?_push_of_some _ he2
    refine callV (u := h2.objs.size) (e := e) (X2.keeps (fun b o z => Heap.get?_push_of_some _ z) _ _ lkX) he3 (Heap.get?_push_at rfl rfl) (by show 1 ≤ sizeLine; decide) fun h' t1 k' e' => ?_
    exact hq h' _ t1 (fun b o nb z => k' b o nb (Heap.get?_push_of_some _ (k2 b o z))) e'
  · simp [interactive, s4]
theorem init_run0 (I : ExI prog K C self none) (M : L2.Mod K mg base) (ms : mg "super" = none) : ∃ fI, findIn K (.ref C) "__init__" = some (some (.ref fI)) ∧ typeIn K (.ref fI) = some (.type "function") ∧
    ∀ {w : World} {A : Around} {hp : Heap} {g : Array GenState} {d : Drawn} {t : Nat} {os : OsState} {e t0 : Addr} {R : Result → Shared → Prop}, (∀ b o, base.get? b = some o → hp.get? b = some o) → hp.get? e = some (HandSPX.excO C t0) → A.depth < recursionLimit →
      (∀ h' t' t1, (∀ b o, b ≠ e → hp.get? b = some o → h'.get? b = some o) → h'.get? e = some (HandSPX.excO C t1) → R (.ok (.ret .none)) ⟨h', g, d, t', os⟩) → codeAny (model prog w) A (.call (.ref fI) ⟨[.ref e], []⟩) R ⟨hp, g, d, t, os⟩ := by
  obtain ⟨T, fI, cc, cda, name, qual, params, scope, dV, kV, doc, pm, ct, oc, ccl, cl, an, od, cdd, cld, osl, ccs, csl, vs, file, msg, tf, ar, body, p0, p1, p2, p3, p4, p5, j, cdC, pl, hev, e1, e2, e3, e4, e5, e6, e7, e8, e9, e10, e11, e12, e13, e14, e15, s1, s2, s3, s4, s5, s6, s7, s8, hbi, rfl⟩ := I
  refine ⟨fI, e1, e2, fun {w A hp g d t os e t0 R} hb he hroom hq => ?_⟩
  have X : K.In hp := M.kin.keeps hb
  refine ks_codeAny_call_defAt (fd := ksFn name qual params _ scope dV kV doc pm an (.ref cda) ct cc) hroom (X _ _ e3) rfl (M.nolimit.keeps hb) (codeRec_of X e4) rfl (hbi _ _ rfl) s4 (fun y hy => ?_) (fun h0 hn hk => ?_) s5 s6 s7
  · cases hy with
    | head => exact s3
    | tail _ z => cases z
  · refine ks_wpAt_execs_cons ?_
    have hL : h0.Ns hp.objs.size _ := hn
    refine supV (e := e) hev M (fun b o z => hk b o (hb b o z)) ms T e3 e5 e6 e7 e8 e9 e10 e11 e12 e13 e14 e15 s1 s2 s3 s7 s8 (hk _ _ he) hL (by simp [List.lookup]) (fun z => ?_) fun h' t' t1 k' he' => ?_
    · rw [← z] at he
      exact absurd (Heap.lt_size he) (Nat.lt_irrefl _)
    · refine wpAt_of_wpAny (wpAny_execs_nil ?_)
      exact hq h' t' t1 (fun b o nb z => k' b o nb (hk b o z)) he'
theorem init_run1 {gv f : Str} (I : ExI prog K C self (some (gv, f))) (M : L2.Mod K mg base) (ms : mg "super" = none) : ∃ fI, findIn K (.ref C) "__init__" = some (some (.ref fI)) ∧ typeIn K (.ref fI) = some (.type "function") ∧
    ∀ {w : World} {A : Around} {hp : Heap} {g : Array GenState} {d : Drawn} {t : Nat} {os : OsState} {e t0 : Addr} {u : Value} {R : Result → Shared → Prop}, (∀ b o, base.get? b = some o → hp.get? b = some o) → base.get? e = none → hp.get? e = some (HandSPX.excO C t0) → A.depth < recursionLimit →
      (∀ h' t' t1 dx, (∀ b o, b ≠ e → hp.get? b = some o → h'.get? b = some o) → hp.objs.size ≤ dx → dx ≠ e → h'.get? e = some { cls := .ref C, dict := some dx, data := .fields #[.ref t1, .none, .none, .none, .bool false, .none] } →
        h'.Ns1 dx (fun y => if y = f then some u else none) → R (.ok (.ret .none)) ⟨h', g, d, t', os⟩) → codeAny (model prog w) A (.call (.ref fI) ⟨[.ref e, u], []⟩) R ⟨hp, g, d, t, os⟩ := by
  obtain ⟨T, fI, cc, cda, name, qual, params, scope, dV, kV, doc, pm, ct, oc, ccl, cl, an, od, cdd, cld, osl, ccs, csl, vs, file, msg, tf, ar, body, p0, p1, p2, p3, p4, p5, j, cdC, pl, hev, e1, e2, e3, e4, e5, e6, e7, e8, e9, e10, e11, e12, e13, e14, e15, s1, s2, s3, s4, s5, s6, s7, s8, hbi, ne, d1, d2, s9, hno, q1, q2, q3, q4, rfl⟩ := I
  refine ⟨fI, e1, e2, fun {w A hp g d t os e t0 u R} hb hbe he hroom hq => ?_⟩
  have X : K.In hp := M.kin.keeps hb
  refine ks_codeAny_call_defAt (fd := ksFn name qual params _ scope dV kV doc pm an (.ref cda) ct cc) hroom (X _ _ e3) rfl (M.nolimit.keeps hb) (codeRec_of X e4) rfl (hbi _ _ rfl) s4 (fun y hy => ?_) (fun h0 hn hk => ?_) s5 s6 s7
  · cases hy with
    | head => exact s3
    | tail _ z =>
      cases z with
      | head => exact s9
      | tail _ z => cases z
  · have hL : h0.Ns hp.objs.size _ := hn
    have nLe : hp.objs.size ≠ e := fun z => by
      rw [← z] at he
      exact absurd (Heap.lt_size he) (Nat.lt_irrefl _)
    have v1 : ([(self, Value.ref e), (gv, u)] : List (Str × Value)).reverse.lookup self = some (.ref e) := by
      have : (self == gv) = false := by simpa using Ne.symm ne
      simp [List.lookup, this]
    have v2 : ([(self, Value.ref e), (gv, u)] : List (Str × Value)).reverse.lookup gv = some u := by simp [List.lookup]
    refine ks_wpAt_execs_cons (supV (e := e) hev M (fun b o z => hk b o (hb b o z)) ms T e3 e5 e6 e7 e8 e9 e10 e11 e12 e13 e14 e15 s1 s2 s3 s7 s8 (hk _ _ he) hL v1 nLe fun h' t' t1 k' he' => ?_)
    obtain ⟨nm, q, N, bs, bm, sn, sub, ab, col, dd, k0, k1, k2, k3, k5, lkX, hbm⟩ := T.cls
    have hcl : clsIn K C = some { name := nm, bases := bs, mro := .ref C :: bm, ns := N, qualname := q, hasDict := true, slotNames := sn, subclasses := sub, abstract := ab, collection := col, hasDel := false } := by unfold clsIn; rw [lkX] <;> rfl
    have hL' : h'.Ns hp.objs.size (fun y => ([(self, Value.ref e), (gv, u)] : List (Str × Value)).reverse.lookup y) := by
      obtain ⟨oL, es, ep, z, r⟩ := hL
      exact ⟨oL, es, ep, k' _ _ nLe z, r⟩
    have X' : K.In h' := M.kin.keeps fun b o z => k' b o (fun y => by rw [y, hbe] at z; cases z) (hk b o (hb b o z))
    refine ks_wpAt_execs_cons (ks_wpAt_Assign_Attr ?_)
    refine wpAt_of_wpAny (wpAny_Name (wpAny_loadName_local s7 s9 hL' v2 (wpAny_Name (wpAny_loadName_local s7 s3 hL' v1 ?_) d1)) d2)
    refine set_plain X' (ox := HandSPX.excO C t1) (od := none) ⟨he', rfl, rfl, trivial⟩ T.sa ?_
    refine HandSPX.exc_osa X' he' hcl (show HandSPX.refsVE (.ref C :: bm) = true from hbm) rfl hno (fun h2 tk dx k2 dn dne hx hns => ?_)
    refine wpAt_of_wpAny (wpAny_execs_nil ?_)
    refine hq h2 tk t1 dx (fun b o nb z => k2 b o nb (k' b o nb (hk b o z))) ?_ dne hx hns
    obtain ⟨oL, es, ep, z, r⟩ := hL'
    exact Nat.le_of_lt (Nat.lt_of_lt_of_le (Heap.lt_size z) dn)
end
end BayX
end PySem
namespace PySem
namespace BayX
open PySem.W PySem.Calls PyProof.Rows
theorem exI_mk {prog : Program} {K : Frag} {C : Addr} {sf : Str} {more : Option (Str × Str)} {fI cc cda : Addr} {name qual : Str} {params : Arguments} {scope : Scope} {dV kV doc pm ct oc ccl cl : Value} {an od cdd cld : Option Addr} {osl ccs csl : Array (Option Value)} {vs : Array Value} {file m : Str} {tf : Tok} {ar : Arg} {body : List Stmt} {p0 p1 p2 p3 p4 p5 : Pos} {j : Nat} {pl : Sem Bool}
    {nm q : Str} {N : Addr} {bs bm : List Value} {sn : List Str} {sub : List Value} {ab : Bool} {col : Option Bool} {dd : Option Addr} {k0 k1 k2 k3 k5 : Option Value}
    (oL : K.lookup C = some (excClassObj nm q C N bs bm true sn sub ab col dd k0 k1 k2 k3 k5 "ValueError.__new__")) (oM : HandSPX.refsVE bm = true) (o1 : findIn K (.ref C) "__setattr__" = some (some (.builtin "object.__setattr__"))) (o2 : subIn K (.ref C) (.type "BaseException") = some true)
    (o3 : typeIn K (.ref C) = some (.type "type")) (o4 : keepIn K (.ref C) = true)
    (q1 : findIn K (.ref C) "__init__" = some (some (.ref fI))) (q2 : typeIn K (.ref fI) = some (.type "function"))
    (q3 : K.lookup fI = some ⟨oc, od, .func (ksFn name qual params body scope dV kV doc pm an (.ref cda) ct cc), osl⟩) (q4 : codeIn K (.ref cda) qual = true) (q5 : K.lookup cda = some ⟨ccl, cdd, .fields vs, ccs⟩) (q6 : vs[2]? = some (.str file tf)) (q7 : ((prog.main.file : Str) == file) = true)
    (q8 : K.lookup cc = some ⟨cl, cld, .cell (some (.ref C)), csl⟩) (q10 : mroIn K C (.ref C) = some true) (q11 : mroIn K C (.type "ValueError") = some true) (q12 : nsIn K cStatics "thirdparty.any" = some none) (q13 : alongIn K "__init__" bm = some (some (.builtin "ValueError.__init__")))
    (r0 : (params.posonlyargs ++ params.args).head? = some ar) (r1 : ar.arg = sf) (r2 : scope.names.lookup ("super" : Str) = some .globalImplicit) (r3 : scope.names.lookup ("__class__" : Str) = some .free) (r4 : scope.names.lookup sf = some .local) (r5 : ∀ x ∈ scope.names, x.2 ≠ .cell) (r6 : scope.isCoroutine = false) (r7 : scope.isGenerator = false) (r8 : scope.kind = .function)
    (r9 : (prog.main.scope.names.lookup ("super" : Str)).isSome = false)
    (hev : ∀ env, eval (.Call (.Attribute (.Call (.Name "super" p0) [] [] p1) "__init__" p2) [.Constant (.str m) j p3] [] p4) env = (do
      let ov ← attributeBase (.Call (.Name "super" p0) [] [] p1) "__init__" env (eval (.Call (.Name "super" p0) [] [] p1) env)
      standAt p2.atName
      let (f, first) ← holding [ov] (getMethod ov "__init__" pl)
      callWith p4 f first (backTo p4 (starEach [.Constant (.str m) j p3] env)) []))
    (hm : match (generalizing := false) more with
    | none => body = [.Expr (.Call (.Attribute (.Call (.Name "super" p0) [] [] p1) "__init__" p2) [.Constant (.str m) j p3] [] p4) p5]
    | some (g, f) => g ≠ sf ∧ (sf == ("__debug__" : Str)) = false ∧ (g == ("__debug__" : Str)) = false ∧ scope.names.lookup g = some .local ∧ findIn K (.ref C) f = some none ∧
        ∃ q1 q2 q3 q4, body = [.Expr (.Call (.Attribute (.Call (.Name "super" p0) [] [] p1) "__init__" p2) [.Constant (.str m) j p3] [] p4) p5, .Assign [.Attribute (.Name sf q1) f q2] (.Name g q3) q4])
    (hbi : ∀ (kV doc pm ct : Value) (an : Option Addr) (cda cc : Addr) (us : List Value), us.length = (match (generalizing := false) more with | none => 1 | some _ => 2) → bindArgs (ksFn name qual params body scope .none kV doc pm an (.ref cda) ct cc) ⟨us, []⟩ = pure ((match more with | none => [sf] | some (g, _) => [sf, g]).zip us)) (hdV : dV = .none) : ExI prog K C sf more := by
  subst hdV
  have hC : ∃ cdC : ClassData, clsIn K C = some cdC ∧ cdC.mro = .ref C :: bm := ⟨_, by unfold clsIn; rw [oL] <;> rfl, rfl⟩
  obtain ⟨cdC, hC, hmr⟩ := hC
  have q13' : ks_superIn K C C "__init__" = some (some (.builtin "ValueError.__init__")) := by
    unfold ks_superIn
    rw [hC, Option.bind_some, hmr]
    have : (((Value.ref C :: bm).dropWhile (· != .ref C)).drop 1) = bm := by simp [List.dropWhile_cons]
    rw [this]; exact q13
  exact ⟨⟨⟨nm, q, N, bs, bm, sn, sub, ab, col, dd, k0, k1, k2, k3, k5, oL, oM⟩, o1, o2, o3, o4⟩, fI, cc, cda, name, qual, params, scope, .none, kV, doc, pm, ct, oc, ccl, cl, an, od, cdd, cld, osl, ccs, csl, vs, file, m, tf, ar, body, p0, p1, p2, p3, p4, p5, j, cdC, pl,
    hev, q1, q2, q3, q4, r0, r1, q5, q6, q7, q8, hC, q10, q11, q12, q13', r2, r3, r4, r5, r6, r7, r8, r9, fun s us hl => .of_eq (hbi kV doc pm ct an cda cc us hl), hm⟩
end BayX
end PySem

set_option Elab.async false
set_option linter.all false
set_option maxRecDepth 100000
namespace Bay
open PySem PySem.Spec PyProof.Rows L2

/-- a class of exceptions, as the written part has it: made with nothing or with one thing that is its field -/
structure ExK (P : Program) (K : PySem.W.Frag) (mg : Str → Option Value) (cl : Str → Value) (x : Str) (f : Option Str) : Prop where
  mgx : mg x = some (cl x)
  xfc : ∃ A, cl x = .ref A ∧ L2.XfC K A ∧ PySem.W.BayIs K A ∧ ∀ g, f = some g → PySem.W.findIn K (.ref A) g = some none
  /-- what makes one -/
  made : ∀ (X : Cx) (k : Nat), X.prog = P → X.K = K → X.mg = mg → X.calm = true → Room k X.A → 1 ≤ k → Gl X x → (x == ("__debug__" : Str)) = false →
    (f = none → ∀ p pos, PMk X (.Call (.Name x p) [] [] pos) fun _ H Q => Q (cl x) none H) ∧
    ∀ g, f = some g → ∀ e te p pos, starB e = false → PE X e te → PMk X (.Call (.Name x p) [e] [] pos) fun σ H Q => te σ H fun v H1 => ∀ d, H1 d = none → Q (cl x) (some d) (upd H1 d (.xd [(g, v)]))
/-- a def's names at a call with names alone -/
structure KB (fd : FuncData) (ps ks : List Str) (perm : List Nat) : Prop where
  to : ∀ (s : Shared) (ws ws' : List Value), ws.length = ks.length → permL perm ws = some ws' → BindsTo s fd ⟨[], ks.zip ws⟩ (ps.zip ws')
structure Good (X : Cx) (C : Ctx) (T : Tab) (k : Nat) : Prop where
  calm : T.hot = false → X.calm = true
  nd : X.N.Nodup
  room : T.hot = false → Room k X.A
  pos : 1 ≤ k
  un : X.A.units + 65 < cLine
  grd : X.A.guards = some []
  fn : ∀ (i : Nat) (x : Str), T.fns[i]? = some x → ∃ f fd ps, X.mg x = some (.ref f) ∧ PySem.W.keepIn X.K (.ref f) = true ∧ L2.Binds X.K fd ps [] ∧ FnG X.prog X.w X.K X.mg X.base k f fd ps (LF X.K C.cl (C.Γ.ar i) (C.Γ.fn i)) ∧ ∀ ks perm, (i, ks, perm) ∈ T.kws → KB fd ps ks perm
  cg : ∀ (i : Nat) (x : Str), T.cgs[i]? = some x → ∃ u v, X.mg x = some u ∧ RelV v u ∧ ∀ H, Rp X.K H v (C.Γ.cg i)
  blt : ∀ x ∈ bltNames, X.mg x = none
  tk : Takes X fun c d _ H => C.E c d H
  xok : ∀ x S' c od H', C.xw x S' → Stp C.H0 C.S0 H' S' → Bears X.K H' S' → XR X.K C.cl H' c od x → C.E c od H'
  exk : ∀ c ∈ C.Γ.exs, ExK X.prog X.K X.mg C.cl c.1 c.2
  cat : ∀ y ∈ T.cat, X.mg y = some (C.cl y) ∧ (∃ b, C.cl y = .ref b) ∧ ∀ c ∈ C.Γ.exs, PySem.W.exmOne X.K (C.cl c.1) (C.cl y) = some (C.Γ.sub c.1 y) ∧ PySem.W.kitOne X.K (C.cl c.1) (C.cl y) = some (C.Γ.sub c.1 y)
  xa0 : T.hot = false → C.Γ.xa = none
  /-- the caught one: its field, its class -/
  xf : ∀ a x f d, C.Γ.xa = some (a, x) → x.arg = some (f, d) → ∀ e pos m, PE X e (LE X.K C m) → attributeBase e f X.env (eval e X.env) = eval e X.env →
    PE X (.Attribute e f pos) fun σ H Q => LE X.K C m σ H fun v H1 => v = .ref a ∧ Tp C.H0 H1 ∧ ∀ w, Rp X.K H1 w d → Q w H1
  xis : ∀ a x c, C.Γ.xa = some (a, x) → c ∈ T.cat → CallR X (.builtin "isinstance") fun vs H Q => (∃ b, vs = [.ref a, .ref b] ∧ C.cl c = .ref b) ∧ Tp C.H0 H ∧ Q (.bl (C.Γ.sub x.cls c)) H
/-- within a comprehension nothing is raised -/
def Ctx.blk (C : Ctx) : Ctx := { C with xw := XF, E := fun _ _ _ => False }
theorem Good.blk {X : Cx} {C : Ctx} {T : Tab} {k : Nat} (G : Good X C T k) (h : T.hot = false) (s : Shared) (H : Hp) (scope : Scope) (cenv : PySem.Env) (fp : List Addr) : Good (X.blk s H scope cenv fp) C.blk T k where
  calm := G.calm
  nd := G.nd
  room := G.room
  pos := G.pos
  un := G.un
  grd := G.grd
  fn := G.fn
  cg := G.cg
  blt := G.blt
  tk := fun _ _ h => by
    obtain ⟨_, _, _, _, _, _, _, _, _, _, _, _, _, _, _, _, z⟩ := h
    exact z.elim
  xok := fun _ _ _ _ _ h => h.elim
  exk := G.exk
  cat := G.cat
  xa0 := G.xa0
  xf := fun _ _ _ _ z => by rw [show C.blk.Γ.xa = none from G.xa0 h] at z; cases z
  xis := fun _ _ _ z => by rw [show C.blk.Γ.xa = none from G.xa0 h] at z; cases z
section
variable {X : Cx} {C : Ctx} {T : Tab} {k : Nat}
theorem Good.u1 (G : Good X C T k) : X.A.units + 1 < cLine := by have := G.un; omega
theorem Good.u65 (G : Good X C T k) : X.A.units + 65 < cLine := G.un
theorem Good.pass (G : Good X C T k) : Passes (L2.CX X.prog X.w) X C.E := passes_call G.tk fun _ _ _ _ h => h
theorem vis_of {sc : Scope} {x : Str} (h : visB sc x = true) : Vis sc x := by
  unfold visB at h
  unfold Vis
  split at h <;> first | (rename_i e; simp [e]) | cases h
theorem gl_of {X : Cx} {x : Str} (h : glB X.env.scope x = true) : Gl X x := by
  unfold glB at h
  show X.env.scope.names.lookup x = _
  split at h <;> first | assumption | cases h
theorem dbg_of {x : Str} (h : dbgB x = true) : (x == ("__debug__" : Str)) = false ∧ (x == ("__classdict__" : Str)) = false ∧ x ≠ "__name__" := by
  unfold dbgB at h
  simp only [Bool.and_eq_true, Bool.not_eq_true', decide_eq_false_iff_not] at h
  exact ⟨h.1.1, h.1.2, h.2⟩
/-! ### constructs -/
abbrev PEd (X : Cx) (C : Ctx) (e : Expr) (m : Ev → Sto → QD → Prop) : Prop := PE X e (LE X.K C m)
abbrev PTd (X : Cx) (C : Ctx) (e : Expr) (m : Ev → Sto → QD → Prop) : Prop := PT X e (LT X.K C fun ε S Q => m ε S (tstD Q))
abbrev PAd (X : Cx) (C : Ctx) (es : List Expr) (m : Ev → Sto → (List D → Sto → Prop) → Prop) : Prop := PA X es (LA X.K C m)
variable {a b c e : Expr} {pos : Pos} {ma mb mc : Ev → Sto → QD → Prop}
theorem e_var {i : Nat} {x : Str} (h1 : X.N[i]? = some x) (h2 : visB X.env.scope x = true) (h3 : dbgB x = true) : PEd X C (.Name x pos) (fun ε S Q => match lookE ε i with | some d => Q d S | none => False) := by
  obtain ⟨d1, d2, d3⟩ := dbg_of h3
  refine (pe_var h1 (vis_of h2) d1 d2).imp ?_
  rintro σ H Q ⟨ε, S, Q0, at', hm, hQ⟩
  unfold lookE at hm
  cases hd : ε[i]? with
  | none => simp only [hd] at hm
  | some o =>
    cases o with
    | none => simp only [hd] at hm
    | some d =>
      simp only [hd] at hm
      obtain ⟨v, e1, r⟩ := at'.ev.get i d hd
      exact ⟨v, e1, hQ _ _ _ _ hm Stp.refl r at'.br⟩
theorem e_cst {v : V} {d : D} (h : PE X e (tC v)) (r : ∀ H, Rp X.K H v d) : PEd X C e (fun _ S Q => Q d S) := by
  refine h.imp ?_
  rintro σ H Q ⟨ε, S, Q0, at', hm, hQ⟩
  exact hQ _ _ _ _ hm Stp.refl (r H) at'.br
theorem e_bin {op : Operator} {f : D → D → Sto → QD → Prop} (ho : OpR X (binaryOp op) (LR X.K f)) (ha : PEd X C a ma) (hb : PEd X C b mb) : PEd X C (.BinOp a op b pos) (fun ε S Q => ma ε S fun x S1 => mb ε S1 fun y S2 => f x y S2 Q) :=
  (pe_op ho ha hb).imp lift_bin
theorem e_cmp (hu : X.A.units + 65 < cLine) {op : CmpOp} (ha : PEd X C a ma) (hb : PEd X C b mb) (hs : setB b = false) : PEd X C (.Compare a [op] [b] pos) (fun ε S Q => ma ε S fun x S1 => mb ε S1 fun y S2 => cmpD op x y S2 Q) :=
  (pe_cmpR (or_cmp hu op) ha hb (nobeh hs)).imp lift_bin
theorem tst_lift {m : Ev → Sto → QD → Prop} {t : TE} (h : ∀ σ H Q, LE X.K C m σ H Q → t σ H Q) : ∀ σ H Q, LT X.K C (fun ε S Q => m ε S (tstD Q)) σ H Q → tTest t σ H Q := by
  rintro σ H Q ⟨ε, S, Q0, at', hm, hQ⟩
  refine h σ H _ ⟨ε, S, _, at', hm, fun d S' v H' q st r br => ?_⟩
  cases d <;> first | (exact q.elim) | skip
  have e := r.bl_inv
  subst e
  exact ⟨_, rfl, hQ _ _ _ q st br⟩
theorem t_cmp (hu : X.A.units + 65 < cLine) {op : CmpOp} (ha : PEd X C a ma) (hb : PEd X C b mb) (hs : setB b = false) : PTd X C (.Compare a [op] [b] pos) (fun ε S Q => ma ε S fun x S1 => mb ε S1 fun y S2 => cmpD op x y S2 Q) :=
  (pt_cmpR (or_cmp hu op) ha hb (nobeh hs)).imp (tst_lift lift_bin)
theorem lift_chain {op op' : CmpOp} : ∀ σ H Q, LE X.K C (fun ε S Q => ma ε S fun x S1 => mb ε S1 fun y S2 => cmpD op x y S2 (tstD fun k S3 => if k = true then mc ε S3 fun z S4 => cmpD op' y z S4 Q else Q (.bl false) S3)) σ H Q →
    tChain (LR X.K (cmpD op)) (LR X.K (cmpD op')) (LE X.K C ma) (LE X.K C mb) (LE X.K C mc) σ H Q := by
  rintro σ H Q ⟨ε, S, Q0, at', hm, hQ⟩
  refine ⟨ε, S, _, at', hm, fun d S1 v H1 q st r br => ⟨ε, S1, _, at'.on st br, q, fun d2 S2 v2 H2 q2 st2 r2 br2 => ⟨d, d2, S2, _, r.to st2.tp, r2, br2, q2, fun z S3 w H3 q3 st3 r3 br3 => ?_⟩⟩⟩
  cases z <;> first | (exact q3.elim) | skip
  rename_i k
  have e := r3.bl_inv
  subst e
  refine ⟨k, rfl, ?_⟩
  have stA := st.trans (st2.trans st3)
  cases k with
  | false =>
    rw [if_neg Bool.false_ne_true]
    have q3' : Q0 (.bl false) S3 := q3
    exact hQ _ _ _ _ q3' stA (.bl _) br3
  | true =>
    rw [if_pos rfl]
    have q3' : mc ε S3 fun z S4 => cmpD op' d2 z S4 Q0 := q3
    refine ⟨ε, S3, _, (at'.on stA br3), q3', fun z S4 w H4 q4 st4 r4 br4 => ?_⟩
    exact ⟨d2, z, S4, Q0, r2.to (st3.trans st4).tp, r4, br4, q4, fun d' S' v' H' q' st' r' b' => hQ _ _ _ _ q' (stA.trans (st4.trans st')) r' b'⟩
theorem last_mk {op op' : CmpOp} (hs : setB c = false) : lastMarks [op, op'] [b, c] = false := by
  show lastMarks [op'] [c] = false
  exact nobeh hs
theorem e_cmp2 (hu : X.A.units + 65 < cLine) {op op' : CmpOp} (ha : PEd X C a ma) (hb : PEd X C b mb) (hc : PEd X C c mc) (hs : setB c = false) :
    PEd X C (.Compare a [op, op'] [b, c] pos) (fun ε S Q => ma ε S fun x S1 => mb ε S1 fun y S2 => cmpD op x y S2 (tstD fun k S3 => if k = true then mc ε S3 fun z S4 => cmpD op' y z S4 Q else Q (.bl false) S3)) :=
  (pe_chain (or_cmp hu op) (or_cmp hu op') ha hb hc (last_mk hs)).imp lift_chain
theorem t_cmp2 (hu : X.A.units + 65 < cLine) {op op' : CmpOp} (ha : PEd X C a ma) (hb : PEd X C b mb) (hc : PEd X C c mc) (hs : setB c = false) :
    PTd X C (.Compare a [op, op'] [b, c] pos) (fun ε S Q => ma ε S fun x S1 => mb ε S1 fun y S2 => cmpD op x y S2 (tstD fun k S3 => if k = true then mc ε S3 fun z S4 => cmpD op' y z S4 Q else Q (.bl false) S3)) :=
  (pt_chain (or_cmp hu op) (or_cmp hu op') ha hb hc (last_mk hs)).imp (tst_lift lift_chain)
theorem isN_rp {K : PySem.W.Frag} {H : Hp} {v : V} {d : D} (r : Rp K H v d) : decide (v = .non) = isN d := by
  cases r <;> rfl
theorem e_isN {n : Bool} {j : Nat} {pos' : Pos} (ha : PEd X C a ma) : PEd X C (.Compare a [if n then .IsNot else .Is] [.Constant .none j pos'] pos) (fun ε S Q => ma ε S fun x S1 => Q (.bl (if n then !isN x else isN x)) S1) := by
  cases n with
  | false =>
    refine (pe_cmp (pc_isN ha) rfl).imp ?_
    rintro σ H Q ⟨ε, S, Q0, at', hm, hQ⟩
    exact ⟨ε, S, _, at', hm, fun d S1 v H1 q st r br => by
      have e := hQ _ _ _ _ q st (.bl (isN d)) br
      rw [← isN_rp r] at e
      exact e⟩
  | true =>
    refine (pe_cmp (pc_notN ha) rfl).imp ?_
    rintro σ H Q ⟨ε, S, Q0, at', hm, hQ⟩
    exact ⟨ε, S, _, at', hm, fun d S1 v H1 q st r br => by
      have e := hQ _ _ _ _ q st (.bl (!isN d)) br
      rw [← isN_rp r] at e
      exact e⟩
theorem t_isN {n : Bool} {j : Nat} {pos' : Pos} (ha : PEd X C a ma) : PTd X C (.Compare a [if n then .IsNot else .Is] [.Constant .none j pos'] pos) (fun ε S Q => ma ε S fun x S1 => Q (.bl (if n then !isN x else isN x)) S1) := by
  cases n with
  | false =>
    refine (pt_cmp (pc_isN ha) rfl).imp ?_
    rintro σ H Q ⟨ε, S, Q0, at', hm, hQ⟩
    exact ⟨ε, S, _, at', hm, fun d S1 v H1 q st r br => ⟨_, by rw [isN_rp r]; rfl, hQ _ _ _ q st br⟩⟩
  | true =>
    refine (pt_cmp (pc_notN ha) rfl).imp ?_
    rintro σ H Q ⟨ε, S, Q0, at', hm, hQ⟩
    exact ⟨ε, S, _, at', hm, fun d S1 v H1 q st r br => ⟨_, by rw [isN_rp r]; rfl, hQ _ _ _ q st br⟩⟩
theorem e_not (ha : PEd X C a ma) : PEd X C (.UnaryOp .Not a pos) (fun ε S Q => ma ε S (tstD fun k S1 => Q (.bl (!k)) S1)) := by
  refine (pe_not ha).imp ?_
  rintro σ H Q ⟨ε, S, Q0, at', hm, hQ⟩
  refine ⟨ε, S, _, at', hm, fun d S1 v H1 q st r br => ?_⟩
  cases d <;> first | (exact q.elim) | skip
  have e := r.bl_inv
  subst e
  exact ⟨_, rfl, hQ _ _ _ _ q st (.bl _) br⟩
theorem t_not (ha : PTd X C a ma) : PTd X C (.UnaryOp .Not a pos) (fun ε S Q => ma ε S (tstD fun k S1 => Q (.bl (!k)) S1)) := by
  refine (pt_not ha).imp ?_
  rintro σ H Q ⟨ε, S, Q0, at', hm, hQ⟩
  exact ⟨ε, S, _, at', hm, fun b S1 H1 q st br => hQ _ _ _ q st br⟩
theorem lift_andV : ∀ σ H Q, LE X.K C (fun ε S Q => ma ε S (tstD fun k S1 => if k = true then mb ε S1 Q else Q (.bl false) S1)) σ H Q → tAndV (LE X.K C ma) (LE X.K C mb) σ H Q := by
  rintro σ H Q ⟨ε, S, Q0, at', hm, hQ⟩
  refine ⟨ε, S, _, at', hm, fun d S1 v H1 q st r br => ?_⟩
  cases d <;> first | (exact q.elim) | skip
  rename_i k
  have e := r.bl_inv
  subst e
  refine ⟨k, rfl, ?_⟩
  cases k with
  | true => rw [if_pos rfl]; exact ⟨ε, S1, Q0, at'.on st br, q, fun d S2 v2 H2 q2 st2 r2 br2 => hQ _ _ _ _ q2 (st.trans st2) r2 br2⟩
  | false => rw [if_neg Bool.false_ne_true]; exact hQ (.bl false) _ _ _ q st (.bl _) br
theorem lift_orV : ∀ σ H Q, LE X.K C (fun ε S Q => ma ε S (tstD fun k S1 => if k = true then Q (.bl true) S1 else mb ε S1 Q)) σ H Q → tOrV (LE X.K C ma) (LE X.K C mb) σ H Q := by
  rintro σ H Q ⟨ε, S, Q0, at', hm, hQ⟩
  refine ⟨ε, S, _, at', hm, fun d S1 v H1 q st r br => ?_⟩
  cases d <;> first | (exact q.elim) | skip
  rename_i k
  have e := r.bl_inv
  subst e
  refine ⟨k, rfl, ?_⟩
  cases k with
  | false => rw [if_neg Bool.false_ne_true]; exact ⟨ε, S1, Q0, at'.on st br, q, fun d S2 v2 H2 q2 st2 r2 br2 => hQ _ _ _ _ q2 (st.trans st2) r2 br2⟩
  | true => rw [if_pos rfl]; exact hQ (.bl true) _ _ _ q st (.bl _) br
theorem lift_andT : ∀ σ H Q, LT X.K C (fun ε S Q => ma ε S (tstD fun k S1 => if k = true then mb ε S1 (tstD Q) else tstD Q (.bl false) S1)) σ H Q → tAnd (LT X.K C fun ε S Q => ma ε S (tstD Q)) (LT X.K C fun ε S Q => mb ε S (tstD Q)) σ H Q := by
  rintro σ H Q ⟨ε, S, Q0, at', hm, hQ⟩
  refine ⟨ε, S, _, at', hm, fun k S1 H1 q st br => ?_⟩
  cases k with
  | true => rw [if_pos rfl]; exact ⟨ε, S1, Q0, at'.on st br, q, fun d S2 H2 q2 st2 br2 => hQ _ _ _ q2 (st.trans st2) br2⟩
  | false => rw [if_neg Bool.false_ne_true]; exact hQ _ _ _ q st br
theorem lift_orT : ∀ σ H Q, LT X.K C (fun ε S Q => ma ε S (tstD fun k S1 => if k = true then tstD Q (.bl true) S1 else mb ε S1 (tstD Q))) σ H Q → tOr (LT X.K C fun ε S Q => ma ε S (tstD Q)) (LT X.K C fun ε S Q => mb ε S (tstD Q)) σ H Q := by
  rintro σ H Q ⟨ε, S, Q0, at', hm, hQ⟩
  refine ⟨ε, S, _, at', hm, fun k S1 H1 q st br => ?_⟩
  cases k with
  | false => rw [if_neg Bool.false_ne_true]; exact ⟨ε, S1, Q0, at'.on st br, q, fun d S2 H2 q2 st2 br2 => hQ _ _ _ q2 (st.trans st2) br2⟩
  | true => rw [if_pos rfl]; exact hQ _ _ _ q st br
theorem e_ite (hc : PTd X C c mc) (ha : PEd X C a ma) (hb : PEd X C b mb) : PEd X C (.IfExp c a b pos) (fun ε S Q => mc ε S (tstD fun k S1 => if k = true then ma ε S1 Q else mb ε S1 Q)) := by
  refine (pe_ifExp hc ha hb).imp ?_
  rintro σ H Q ⟨ε, S, Q0, at', hm, hQ⟩
  refine ⟨ε, S, _, at', hm, fun k S1 H1 q st br => ?_⟩
  cases k with
  | true => rw [if_pos rfl]; exact ⟨ε, S1, Q0, at'.on st br, q, fun d S2 v2 H2 q2 st2 r2 br2 => hQ _ _ _ _ q2 (st.trans st2) r2 br2⟩
  | false => rw [if_neg Bool.false_ne_true]; exact ⟨ε, S1, Q0, at'.on st br, q, fun d S2 v2 H2 q2 st2 r2 br2 => hQ _ _ _ _ q2 (st.trans st2) r2 br2⟩
/-- a test of any other form -/
theorem t_gen (he : PEd X C e ma) (hf : ∀ whole, isTrue e X.env whole = (do let v ← whole; standAt e.pos; holding [v] (truthy v))) : PTd X C e ma := by
  refine (pt_val he hf).imp ?_
  rintro σ H Q ⟨ε, S, Q0, at', hm, hQ⟩
  refine ⟨ε, S, _, at', hm, fun d S1 v H1 q st r br => ?_⟩
  cases d <;> first | (exact q.elim) | skip
  have e := r.bl_inv
  subst e
  exact ⟨_, rfl, hQ _ _ _ q st br⟩
theorem a_nil : PAd X C [] (fun _ S Q => Q [] S) := by
  refine pa_nil.imp ?_
  rintro σ H Q ⟨ε, S, Q0, at', hm, hQ⟩
  exact hQ _ _ _ _ hm Stp.refl .nil at'.br
theorem a_cons {es : List Expr} {ms : Ev → Sto → (List D → Sto → Prop) → Prop} (he : PEd X C e ma) (hr : PAd X C es ms) (hs : starB e = false) : PAd X C (e :: es) (fun ε S Q => ma ε S fun d S1 => ms ε S1 fun ds S2 => Q (d :: ds) S2) := by
  refine (pa_cons he hr (star_cons hs)).imp ?_
  rintro σ H Q ⟨ε, S, Q0, at', hm, hQ⟩
  refine ⟨ε, S, _, at', hm, fun d S1 v H1 q st r br => ⟨ε, S1, _, at'.on st br, q, fun ds S2 vs H2 q2 st2 r2 br2 => ?_⟩⟩
  exact hQ _ _ _ _ q2 (st.trans st2) (.cons (r.to st2.tp) r2) br2
theorem e_tup {es : List Expr} {x1 : Nat} {ms : Ev → Sto → (List D → Sto → Prop) → Prop} (h : PAd X C es ms) : PEd X C (.Tuple es x1 pos) (fun ε S Q => ms ε S fun ds S1 => ds.length ≤ sizeLine ∧ Q (.tup ds) S1) := by
  refine (pe_tup h).imp ?_
  rintro σ H Q ⟨ε, S, Q0, at', hm, hQ⟩
  refine ⟨ε, S, _, at', hm, fun ds S1 vs H1 q st r br => ⟨by rw [r.length]; exact q.1, fun p n => ?_⟩⟩
  exact new_tup n br r q.2 fun d S' v H' a b c e => hQ _ _ _ _ a (st.trans b) c e
theorem e_lst {es : List Expr} {ms : Ev → Sto → (List D → Sto → Prop) → Prop} (h : PAd X C es ms) : PEd X C (.List es pos) (fun ε S Q => ms ε S fun ds S1 => newL ds S1 Q) := by
  refine (pe_lst h).imp ?_
  rintro σ H Q ⟨ε, S, Q0, at', hm, hQ⟩
  refine ⟨ε, S, _, at', hm, fun ds S1 vs H1 q st r br => ⟨by rw [r.length]; exact q.1, fun p n => ?_⟩⟩
  exact new_list n br r q fun d S' v H' a b c e => hQ _ _ _ _ a (st.trans b) c e
theorem e_dicT : PEd X C (.Dict [] [] pos) (fun _ S Q => ∀ p, S p = none → Q (.ref p) (S.upd p (.dT []))) := by
  refine pe_dnewT.imp ?_
  rintro σ H Q ⟨ε, S, Q0, at', hm, hQ⟩ p n
  exact hQ _ _ _ _ (hm p (at'.br.no n)) (Stp.made n) (.ref p) (at'.br.made n ⟨[], upd_same, .nil⟩)
theorem e_dicK : PEd X C (.Dict [] [] pos) (fun _ S Q => ∀ p, S p = none → Q (.ref p) (S.upd p (.dK []))) := by
  refine pe_dnewK.imp ?_
  rintro σ H Q ⟨ε, S, Q0, at', hm, hQ⟩ p n
  exact hQ _ _ _ _ (hm p (at'.br.no n)) (Stp.made n) (.ref p) (at'.br.made n ⟨[], upd_same, .nil⟩)
theorem e_idx (hu : X.A.units + 1 < cLine) (ha : PEd X C a ma) (hb : PEd X C b mb) (hs : sliceB b = false) : PEd X C (.Subscript a b pos) (fun ε S Q => ma ε S fun x S1 => mb ε S1 fun y S2 => idxD x y S2 Q) :=
  (pe_ix (or_idx hu) ha hb (plain_ix hs)).imp lift_bin
theorem e_neg (ha : PEd X C a ma) : PEd X C (.UnaryOp .USub a pos) (fun ε S Q => ma ε S fun x S1 => negD x S1 Q) := (pe_un or_neg ha).imp lift_un
/-- a slice's parts -/
def LO (K : PySem.W.Frag) (C : Ctx) (m : Ev → Sto → (Option Int → Sto → Prop) → Prop) : TO := fun σ H Q => ∃ ε S Q0, At K C σ H ε S ∧ m ε S Q0 ∧ ∀ o S' H', Q0 o S' → Stp H S H' S' → Bears K H' S' → Q o H'
theorem _root_.L2.PO.imp {X : Cx} {e : Option Expr} {t t' : TO} (h : PO X e t) (i : ∀ σ H Q, t' σ H Q → t σ H Q) : PO X e t' := ⟨fun pins s σ H Q I w => h.run pins s σ H Q I (i _ _ _ w)⟩
theorem o_no : PO X none (LO X.K C fun _ S Q => Q none S) := by
  refine po_none.imp ?_
  rintro σ H Q ⟨ε, S, Q0, at', hm, hQ⟩
  exact hQ _ _ _ hm Stp.refl at'.br
theorem o_yes (ha : PEd X C a ma) : PO X (some a) (LO X.K C fun ε S Q => ma ε S fun d S1 => match d with | .int i => Q (some i) S1 | _ => False) := by
  refine (po_some ha).imp ?_
  rintro σ H Q ⟨ε, S, Q0, at', hm, hQ⟩
  refine ⟨ε, S, _, at', hm, fun d S1 v H1 q st r br => ?_⟩
  cases d <;> first | (exact q.elim) | skip
  have e := r.int_inv
  subst e
  exact ⟨_, rfl, hQ _ _ _ q st br⟩
theorem e_slc {lo hi : Option Expr} {p2 : Pos} {ml mh : Ev → Sto → (Option Int → Sto → Prop) → Prop} (ha : PEd X C a ma) (hl : PO X lo (LO X.K C ml)) (hh : PO X hi (LO X.K C mh)) :
    PEd X C (.Subscript a (.Slice lo hi none p2) pos) (fun ε S Q => ma ε S fun x S1 => ml ε S1 fun l S2 => mh ε S2 fun h S3 => slcD x l h S3 Q) := by
  refine (pe_slice or_slc ha hl hh).imp ?_
  rintro σ H Q ⟨ε, S, Q0, at', hm, hQ⟩
  refine ⟨ε, S, _, at', hm, fun d S1 v H1 q st r br => ⟨ε, S1, _, at'.on st br, q, fun l S2 H2 q2 st2 br2 => ⟨ε, S2, _, at'.on (st.trans st2) br2, q2, fun h S3 H3 q3 st3 br3 => ?_⟩⟩⟩
  exact ⟨d, S3, Q0, r.to (st2.trans st3).tp, br3, q3, fun d' S' v' H' q' st' r' b' => hQ _ _ _ _ q' (st.trans (st2.trans (st3.trans st'))) r' b'⟩
end
end Bay

set_option Elab.async false
set_option linter.all false
set_option maxRecDepth 100000
namespace Bay
open PySem PySem.Spec PyProof.Rows L2
section
variable {X : Cx} {C : Ctx} {T : Tab} {k : Nat} {a b c e : Expr} {pos p : Pos} {ma mb mc : Ev → Sto → QD → Prop} {es : List Expr} {ms : Ev → Sto → (List D → Sto → Prop) → Prop}
/-! ### calls -/
theorem star_1 (hs : (e :: es).all (fun e => !starB e) = true) : starB e = false ∧ es.all (fun e => !starB e) = true := by
  rw [List.all_cons, Bool.and_eq_true] at hs
  exact ⟨by simpa using hs.1, hs.2⟩
theorem lift_call {op : List D → Sto → QD → Prop} : ∀ σ H Q, LE X.K C (fun ε S Q => ms ε S fun ds S1 => op ds S1 Q) σ H Q → (LA X.K C ms) σ H fun vs H1 => LC X.K op vs H1 Q := by
  rintro σ H Q ⟨ε, S, Q0, at', hm, hQ⟩
  exact ⟨ε, S, _, at', hm, fun ds S1 vs H1 q st r br => ⟨ds, S1, Q0, r, br, q, fun d' S' v' H' q' st' r' b' => hQ _ _ _ _ q' (st.trans st') r' b'⟩⟩
theorem e_bltB {id : String} {x : Str} {op : List D → Sto → QD → Prop} (hc : CallR X (.builtin id) (LC X.K op)) (hg : Gl X x) (hm : X.mg x = none) (hv : bootBuiltins x = some (.builtin id)) (hn : x ≠ "__name__") (hd : (x == ("__debug__" : Str)) = false)
    (ha : PAd X C (e :: es) ms) (hs : (e :: es).all (fun e => !starB e) = true) : PEd X C (.Call (.Name x p) (e :: es) [] pos) (fun ε S Q => ms ε S fun ds S1 => op ds S1 Q) :=
  (pe_callB hc hg hm hv ha hn hd (star_cons (star_1 hs).1) (star_none (star_1 hs).2)).imp lift_call
theorem e_bltT {id : String} {x : Str} {op : List D → Sto → QD → Prop} (hc : CallR X (.type id) (LC X.K op)) (hg : Gl X x) (hm : X.mg x = none) (hv : bootBuiltins x = some (.type id)) (hn : x ≠ "__name__") (hd : (x == ("__debug__" : Str)) = false)
    (ha : PAd X C (e :: es) ms) (hs : (e :: es).all (fun e => !starB e) = true) : PEd X C (.Call (.Name x p) (e :: es) [] pos) (fun ε S Q => ms ε S fun ds S1 => op ds S1 Q) :=
  (pe_callTy hc hg hm hv ha hn hd (star_cons (star_1 hs).1) (star_none (star_1 hs).2)).imp lift_call
/-- a built-in's name -/
inductive BV (X : Cx) (b : B1) : Prop
  | fn (id : String) : bootBuiltins b.nm = some (.builtin id) → CallR X (.builtin id) (LC X.K (bltD b)) → BV X b
  | ty (id : String) : bootBuiltins b.nm = some (.type id) → CallR X (.type id) (LC X.K (bltD b)) → BV X b
theorem bv_of (G : Good X C T k) {b : B1} (h : b.has = true) (hi : b.isT = none) : BV X b := by
  cases b <;> first | (cases h; done) | (cases hi; done) | skip
  · exact .fn "len" (by decide +kernel) or_len
  · exact .fn "abs" (by decide +kernel) or_abs
  · exact .ty "int" (by decide +kernel) or_int
  · exact .fn "repr" (by decide +kernel) (or_repr G.u65 G.grd)
  · exact .ty "str" (by decide +kernel) or_str
  · exact .ty "list" (by decide +kernel) or_list
  · exact .ty "tuple" (by decide +kernel) or_tuple
  · exact .fn "sorted" (by decide +kernel) or_sorted
theorem b_nm (b : B1) : b.nm ∈ bltNames := by cases b <;> decide +kernel
theorem e_blt (G : Good X C T k) {b : B1} {x : Str} (h : b.has = true) (hi : b.isT = none) (hx : b.nm = x) (hg : glB X.env.scope x = true) (hd : dbgB x = true) (ha : PAd X C (e :: es) ms) (hs : (e :: es).all (fun e => !starB e) = true) :
    PEd X C (.Call (.Name x p) (e :: es) [] pos) (fun ε S Q => ms ε S fun ds S1 => bltD b ds S1 Q) := by
  subst hx
  obtain ⟨d1, d2, d3⟩ := dbg_of hd
  rcases bv_of G h hi with ⟨id, h1, h2⟩ | ⟨id, h1, h2⟩
  · exact e_bltB h2 (gl_of hg) (G.blt _ (b_nm b)) h1 d3 d1 ha hs
  · exact e_bltT h2 (gl_of hg) (G.blt _ (b_nm b)) h1 d3 d1 ha hs
theorem isT_of {b : B1} {t : Str} (h : b.isT = some t) : ∃ u : String, (b, u) ∈ [(B1.isStr, "str"), (B1.isTup, "tuple"), (B1.isInt, "int"), (B1.isBool, "bool")] ∧ bootBuiltins t = some (.type u) ∧ b.nm = "isinstance" ∧ t ∈ bltNames ∧ ∀ d S Q, bltD b [d] S Q → ∃ k, isKind b d S = some k ∧ Q (.bl k) S := by
  cases b <;> simp only [B1.isT, reduceCtorEq, Option.some.injEq] at h <;> subst h
  · exact ⟨"str", by simp, by decide +kernel, rfl, by decide +kernel, fun _ _ _ h => h⟩
  · exact ⟨"tuple", by simp, by decide +kernel, rfl, by decide +kernel, fun _ _ _ h => h⟩
  · exact ⟨"int", by simp, by decide +kernel, rfl, by decide +kernel, fun _ _ _ h => h⟩
  · exact ⟨"bool", by simp, by decide +kernel, rfl, by decide +kernel, fun _ _ _ h => h⟩
theorem e_isi (G : Good X C T k) {b : B1} {x t : Str} {y : Expr} {p2 : Pos} (hi : b.isT = some t) (hx : b.nm = x) (hg : glB X.env.scope x = true) (hd : dbgB x = true) (hgt : glB X.env.scope t = true) (hdt : dbgB t = true) (ha : PEd X C y ma) (hs : starB y = false) :
    PEd X C (.Call (.Name x p) [y, .Name t p2] [] pos) (fun ε S Q => ma ε S fun d S1 => bltD b [d] S1 Q) := by
  subst hx
  obtain ⟨u, h1, h2, h3, h4, h5⟩ := isT_of hi
  obtain ⟨d1, d2, d3⟩ := dbg_of hd
  obtain ⟨e1, e2, e3⟩ := dbg_of hdt
  have hv : bootBuiltins b.nm = some (.builtin "isinstance") := by rw [h3]; decide +kernel
  refine (pe_callB (or_isi h1) (gl_of hg) (G.blt _ (b_nm b)) hv (pa_cons ha (pa_cons (pe_bltn (gl_of hgt) (G.blt _ h4) h2 (v := .ty u) rfl e3 e1) pa_nil (star_cons rfl)) (star_cons hs)) d3 d1 (star_cons hs) (star_none rfl)).imp ?_
  rintro σ H Q ⟨ε, S, Q0, at', hm, hQ⟩
  refine ⟨ε, S, _, at', hm, fun d S1 v H1 q st r br => ?_⟩
  obtain ⟨kk, z1, z2⟩ := h5 _ _ _ q
  exact ⟨[d, .ty u], S1, Q0, .cons r (.cons (.ty _) .nil), br, ⟨d, kk, rfl, z1, z2⟩, fun d' S' v' H' q' st' r' b' => hQ _ _ _ _ q' (st.trans st') r' b'⟩

/-! ### methods -/
def M1.ty : M1 → String
  | .join | .partition | .split => "str"
  | _ => "list"
def M1.id : M1 → String
  | .append => "list.append" | .extend => "list.extend" | .pop => "list.pop" | .popAt => "list.pop" | .join => "str.join"
  | _ => ""
structure MtOk (X : Cx) (m : M1) : Prop where
  pa : PlainAttrs m.ty
  slot : Slot m.ty m.nm m.id
  tof : typeOf (.builtin m.id) = pure (.type "method_descriptor")
  mr : MtR X m.id (LM X.K (mthD m))
  rc : ∀ x S v H, rcvD m x S → Rp X.K H v x → Bears X.K H S → tyV X.K m.ty v H
theorem rc_list {x : D} {S : Sto} {v : V} {H : Hp} (h : match x with | .ref a => (match S a with | some (.lst _) => True | _ => False) | _ => False) (r : Rp X.K H v x) (br : Bears X.K H S) : tyV X.K "list" v H := by
  cases x <;> first | (exact h.elim) | skip
  rename_i a
  have e := r.ref_inv
  subst e
  cases hS : S a with
  | none => simp only [hS] at h
  | some o =>
    cases o <;> simp only [hS] at h
    obtain ⟨vs, z, _⟩ := at_lst br hS
    exact .inl ⟨rfl, vs, .of z⟩
theorem mt_of {m : M1} (h : m.has = true) : MtOk X m := by
  cases m <;> first | (cases h; done) | skip
  · exact ⟨F.plainAttrs_list, F.slot_list_append, F.type_list_append, or_append, fun x S v H h r b => rc_list (by cases x <;> exact h) r b⟩
  · exact ⟨F.plainAttrs_list, F.slot_list_extend, F.type_list_extend, or_extend, fun x S v H h r b => rc_list (by cases x <;> exact h) r b⟩
  · exact ⟨F.plainAttrs_list, F.slot_list_pop, F.type_list_pop, or_pop, fun x S v H h r b => rc_list (by cases x <;> exact h) r b⟩
  · exact ⟨F.plainAttrs_list, F.slot_list_pop, F.type_list_pop, or_popAt, fun x S v H h r b => rc_list (by cases x <;> exact h) r b⟩
  · refine ⟨F.plainAttrs_str, F.slot_str_join, F.type_str_join, or_join, fun x S v H h r b => ?_⟩
    cases x <;> first | (exact h.elim) | skip
    have e := r.str_inv
    subst e
    rfl
theorem e_mth {ap : Pos} {m : M1} {o : Expr} {nm : Str} {mo : Ev → Sto → QD → Prop} (hm : m.has = true) (hn : m.nm = nm) (ho : PEd X C o mo) (ha : PAd X C (e :: es) ms) (hs : (e :: es).all (fun e => !starB e) = true) (hb : superB o = false) (hl : (ap.endLine == pos.line) = true) (h30 : (e :: es).length < 30) :
    PEd X C (.Call (.Attribute o nm ap) (e :: es) [] pos) (fun ε S Q => mo ε S fun x S1 => rcvD m x S1 ∧ ms ε S1 fun ds S2 => mthD m x ds S2 Q) := by
  subst hn
  have M := mt_of (X := X) hm
  refine (pe_bm M.pa M.slot M.tof M.mr ho ha (base_id hb) ?_ hl (star_cons (star_1 hs).1) (star_none (star_1 hs).2)).imp ?_
  · rw [star_all hs]
    show (true && true && decide ((e :: es).length + 0 + 0 < 30)) = true
    simp only [Bool.true_and, decide_eq_true_eq]
    omega
  · rintro σ H Q ⟨ε, S, Q0, at', hm', hQ⟩
    refine ⟨ε, S, _, at', hm', fun d S1 v H1 q st r br => ⟨M.rc d S1 v H1 q.1 r br, ε, S1, _, at'.on st br, q.2, fun ds S2 vs H2 q2 st2 r2 br2 => ?_⟩⟩
    exact ⟨d, ds, S2, Q0, r.to st2.tp, r2, br2, q2, fun d' S' v' H' q' st' r' b' => hQ _ _ _ _ q' (st.trans (st2.trans st')) r' b'⟩
theorem e_mth0 {ap : Pos} {m : M1} {o : Expr} {nm : Str} {mo : Ev → Sto → QD → Prop} (hm : m.has = true) (hn : m.nm = nm) (ho : PEd X C o mo) (hb : superB o = false) (hl : (ap.endLine == pos.line) = true) :
    PEd X C (.Call (.Attribute o nm ap) [] [] pos) (fun ε S Q => mo ε S fun x S1 => rcvD m x S1 ∧ mthD m x [] S1 Q) := by
  subst hn
  have M := mt_of (X := X) hm
  refine (pe_bm0 M.pa M.slot M.tof M.mr ho (base_id hb) hl).imp ?_
  rintro σ H Q ⟨ε, S, Q0, at', hm', hQ⟩
  refine ⟨ε, S, _, at', hm', fun d S1 v H1 q st r br => ⟨M.rc d S1 v H1 q.1 r br, ?_⟩⟩
  exact ⟨d, [], S1, Q0, r, .nil, br, q.2, fun d' S' v' H' q' st' r' b' => hQ _ _ _ _ q' (st.trans st') r' b'⟩

/-! ### defs -/
theorem lift_def {n : Nat} {f : FnD} {x0 : QX} (G : Good X C T k) (hx : x0 = C.xw) : ∀ σ H Q, LE X.K C (fun ε S Q => ms ε S fun ds S1 => ds.length = n ∧ f ds S1 Q x0) σ H Q → (LA X.K C ms) σ H fun vs H1 => LF X.K C.cl n f vs H1 Q C.E := by
  subst hx
  rintro σ H Q ⟨ε, S, Q0, at', hm, hQ⟩
  refine ⟨ε, S, _, at', hm, fun ds S1 vs H1 q st r br => ⟨by rw [r.length]; exact q.1, ds, S1, Q0, C.xw, r, br, q.2, fun d' S' v' H' q' st' r' b' => hQ _ _ _ _ q' (st.trans st') r' b', fun x S' c od H' hx st' b' xr => ?_⟩⟩
  exact G.xok x S' c od H' hx (at'.st.trans (st.trans st')) b' xr
theorem e_call (G : Good X C T k) (hot : T.hot = false) {f : Nat} {x : Str} (hf : T.fns[f]? = some x) (hg : glB X.env.scope x = true) (hd : dbgB x = true) (ha : PAd X C (e :: es) ms) (hs : (e :: es).all (fun e => !starB e) = true) :
    PEd X C (.Call (.Name x p) (e :: es) [] pos) (fun ε S Q => ms ε S fun ds S1 => ds.length = C.Γ.ar f ∧ C.Γ.fn f ds S1 Q C.xw) := by
  obtain ⟨d1, d2, d3⟩ := dbg_of hd
  obtain ⟨fa, fd, ps, h1, h2, h3, h4, _⟩ := G.fn f x hf
  exact (pe_callG h4 (G.room hot) G.grd (gl_of hg) h1 h2 h3 G.pass ha d1 (star_cons (star_1 hs).1) (star_none (star_1 hs).2)).imp (lift_def G rfl)
theorem e_call0 (G : Good X C T k) (hot : T.hot = false) {f : Nat} {x : Str} (hf : T.fns[f]? = some x) (hg : glB X.env.scope x = true) (hd : dbgB x = true) :
    PEd X C (.Call (.Name x p) [] [] pos) (fun ε S Q => ([] : List D).length = C.Γ.ar f ∧ C.Γ.fn f [] S Q C.xw) := by
  obtain ⟨d1, d2, d3⟩ := dbg_of hd
  obtain ⟨fa, fd, ps, h1, h2, h3, h4, _⟩ := G.fn f x hf
  refine (pe_callG0 h4 (G.room hot) G.grd (gl_of hg) h1 h2 h3 G.pass d1).imp ?_
  rintro σ H Q ⟨ε, S, Q0, at', hm, hQ⟩
  exact ⟨hm.1, [], S, Q0, C.xw, .nil, at'.br, hm.2, hQ, fun x S' c od H' hx st' b' xr => G.xok x S' c od H' hx (at'.st.trans st') b' xr⟩
theorem perm_rp {K : PySem.W.Frag} {H : Hp} {vs : List V} {ds : List D} (r : RpL K H vs ds) : ∀ {perm : List Nat} {ds' : List D}, permL perm ds = some ds' → ∃ vs', permL perm vs = some vs' ∧ RpL K H vs' ds'
  | [], _, h => by cases h; exact ⟨[], rfl, .nil⟩
  | i :: is, ds', h => by
    unfold permL at h
    cases h1 : ds[i]? with
    | none => simp [h1] at h
    | some d =>
      cases h2 : permL is ds with
      | none => simp [h1, h2] at h
      | some l =>
        simp only [h1, h2, Option.some.injEq] at h
        subst h
        obtain ⟨v, e1, r1⟩ := r.get h1
        obtain ⟨vs', e2, r2⟩ := perm_rp r h2
        exact ⟨v :: vs', by unfold permL; rw [e1, e2], .cons r1 r2⟩
theorem perm_val {vs : List V} {us : List Value} (r : Vals vs us) : ∀ {perm : List Nat} {vs' : List V}, permL perm vs = some vs' → ∃ us', permL perm us = some us' ∧ Vals vs' us'
  | [], _, h => by cases h; exact ⟨[], rfl, .nil⟩
  | i :: is, ds', h => by
    unfold permL at h
    cases h1 : vs[i]? with
    | none => simp [h1] at h
    | some d =>
      cases h2 : permL is vs with
      | none => simp [h1, h2] at h
      | some l =>
        simp only [h1, h2, Option.some.injEq] at h
        subst h
        obtain ⟨v, e1, r1⟩ := r.get h1
        obtain ⟨vs', e2, r2⟩ := perm_val r h2
        exact ⟨v :: vs', by unfold permL; rw [e1, e2], .cons r1 r2⟩
theorem kw_all {kws : List Keyword} (h : kws.all (·.arg.isSome) = true) : (backToKw pos (keywordEach kws X.env)).all (·.1.isSome) = true ∧ (backToKw pos (keywordEach kws X.env)).any (·.1.isNone) = false ∧ (backToKw pos (keywordEach kws X.env)).filterMap (·.1) = kws.filterMap (·.arg) := by
  induction kws with
  | nil => exact ⟨rfl, rfl, rfl⟩
  | cons q r ih =>
    obtain ⟨n, v, p⟩ := q
    rw [List.all_cons, Bool.and_eq_true] at h
    obtain ⟨i1, i2, i3⟩ := ih h.2
    have e : backToKw pos (keywordEach (⟨n, v, p⟩ :: r) X.env) = (n, do let v ← eval v X.env; standAt pos; pure v) :: backToKw pos (keywordEach r X.env) := rfl
    rw [e]
    have hn : n.isSome = true := h.1
    have hn2 : n.isNone = false := by cases n <;> simp_all
    refine ⟨by rw [List.all_cons, i1]; simp [hn], by rw [List.any_cons, i2]; simp [hn2], ?_⟩
    rw [List.filterMap_cons, List.filterMap_cons, i3]
theorem kw_len : ∀ {kws : List Keyword}, kws.all (·.arg.isSome) = true → (kws.filterMap (·.arg)).length = kws.length
  | [], _ => rfl
  | ⟨n, v, p⟩ :: l, h => by
    rw [List.all_cons, Bool.and_eq_true] at h
    cases n with
    | none => simp at h
    | some y => rw [List.filterMap_cons]; simp [kw_len h.2]
theorem e_callK (G : Good X C T k) (hot : T.hot = false) {f : Nat} {x : Str} {kws : List Keyword} {perm : List Nat} (hf : T.fns[f]? = some x) (hg : glB X.env.scope x = true) (hd : dbgB x = true) (hk : (f, kws.filterMap (·.arg), perm) ∈ T.kws) (hall : kws.all (·.arg.isSome) = true) (hkl : kws.length = perm.length) (hp : PK X kws (LA X.K C ms)) :
    PEd X C (.Call (.Name x p) [] kws pos) (fun ε S Q => ms ε S fun ds S1 => ds.length = perm.length ∧ ∃ es', permL perm ds = some es' ∧ es'.length = C.Γ.ar f ∧ C.Γ.fn f es' S1 Q C.xw) := by
  obtain ⟨d1, d2, d3⟩ := dbg_of hd
  obtain ⟨fa, fd, ps, h1, h2, h3, h4, h5⟩ := G.fn f x hf
  obtain ⟨k1, k2, k3⟩ := kw_all (X := X) (pos := pos) hall
  refine ⟨fun pins s σ H Q I ⟨ε, S, Q0, at', hm, hQ⟩ => ?_⟩
  refine wpAny_Call_Name_kw (ld_glob I (gl_of hg) h1 ?_ d1)
  refine PySem.W.callWith_KW0 (h₀ := X.base) I.ok.mod.kin h2 k1 ?_ (by rw [k2]; rfl)
  refine thn (hp.run pos pins s σ H _ I ⟨ε, S, _, at', hm, fun ds S1 vs H1 q st r br => (⟨ds, S1, st, r, br, q⟩ : ∃ ds S1, Stp H S H1 S1 ∧ RpL X.K H1 vs ds ∧ Bears X.K H1 S1 ∧ ds.length = perm.length ∧ ∃ es', permL perm ds = some es' ∧ es'.length = C.Γ.ar f ∧ C.Γ.fn f es' S1 Q0 C.xw)⟩) ?_
  rintro us s1 ⟨vs, H1, I1, rv, ds, S1, st, r, br, hl, es', he, hes, hf'⟩
  refine ⟨I1.kIn, ?_⟩
  rw [k3]
  obtain ⟨vs', e2, r2⟩ := perm_rp r he
  obtain ⟨us', e3, r3⟩ := perm_val rv e2
  have hlk : us.length = (kws.filterMap (·.arg)).length := by
    rw [← rv.length, r.length, hl, ← hkl, kw_len hall]
  have hb := (h5 _ _ hk).to s1 us us' hlk e3
  show wpAny _ _ (call (.ref fa) [] ((kws.filterMap (·.arg)).zip us)) _ _ _
  refine wpAny_call (codeAny_mono (after_call (Q := Q) I1 G.pass (h4.go X.A X.stack s1 H1 ⟨[], (kws.filterMap (·.arg)).zip us⟩ us' vs' Q C.E (G.room hot) G.grd I1.env0 hb r3 ?_)) fun r s' hq => ?_)
  · refine ⟨by rw [r2.length]; exact hes, es', S1, Q0, C.xw, r2, br, hf', fun d' S' v' H' q' st' r' b' => hQ _ _ _ _ q' (st.trans st') r' b', fun x S' c od H' hx st' b' xr => ?_⟩
    exact G.xok x S' c od H' hx (at'.st.trans (st.trans st')) b' xr
  · match r, hq with
    | .error e, hq => exact hq
    | .ok (.ret u), hq => exact hq
    | .ok .next, hq => exact hq.elim
    | .ok .brk, hq => exact hq.elim
    | .ok .cont, hq => exact hq.elim
theorem k_nil : PK X [] (LA X.K C fun _ S Q => Q [] S) := ⟨fun pos pins s σ H Q I ⟨ε, S, Q0, at', hm, hQ⟩ => pk_nil.run pos pins s σ H Q I (hQ _ _ _ _ hm Stp.refl .nil at'.br)⟩
theorem k_cons {kw : Keyword} {kws : List Keyword} (he : PEd X C kw.value ma) (hr : PK X kws (LA X.K C ms)) : PK X (kw :: kws) (LA X.K C fun ε S Q => ma ε S fun d S1 => ms ε S1 fun ds S2 => Q (d :: ds) S2) := by
  obtain ⟨n, v, p⟩ := kw
  refine ⟨fun pos pins s σ H Q I ⟨ε, S, Q0, at', hm, hQ⟩ => (pk_cons he hr).run pos pins s σ H Q I ?_⟩
  refine ⟨ε, S, _, at', hm, fun d S1 v H1 q st r br => ⟨ε, S1, _, at'.on st br, q, fun ds S2 vs H2 q2 st2 r2 br2 => ?_⟩⟩
  exact hQ _ _ _ _ q2 (st.trans st2) (.cons (r.to st2.tp) r2) br2
theorem e_cg (G : Good X C T k) {i : Nat} {x : Str} (hi : T.cgs[i]? = some x) (hg : glB X.env.scope x = true) (hd : dbgB x = true) : PEd X C (.Name x pos) (fun _ S Q => Q (C.Γ.cg i) S) := by
  obtain ⟨u, v, h1, h2, h3⟩ := G.cg i x hi
  exact e_cst (pe_glob (gl_of hg) h1 h2 (dbg_of hd).1) h3

/-! ### {k: v, ..} -/
theorem putK_new {κ : Type} [DecidableEq κ] {kvs : List (κ × V)} {kk : κ} {v : V} (h : kk ∉ kvs.map (·.1)) : putK kvs kk v = kvs ++ [(kk, v)] := by
  unfold putK
  rw [if_neg]
  intro z
  obtain ⟨p, hp, e⟩ := List.any_eq_true.mp z
  exact h (List.mem_map.mpr ⟨p, hp, by simpa using e⟩)
theorem mergeK_app : ∀ (more kvs : List (Key × V)), ((kvs ++ more).map (·.1)).Nodup → mergeK kvs more = kvs ++ more
  | [], kvs, _ => by rw [List.append_nil]; rfl
  | p :: r, kvs, h => by
    show mergeK (putK kvs p.1 p.2) r = _
    rw [putK_new, mergeK_app r]
    · simp
    · simpa using h
    · intro z
      rw [List.map_append, List.nodup_append] at h
      exact h.2.2 _ z _ (by simp) rfl
/-- an object of ours is told at last -/
theorem _root_.Bay.Stp.fin {H H1 : Hp} {S S1 : Sto} {p : Addr} {ho : HO} {o : O} (a : Stp H S H1 S1) (n : H p = none) (c : ∀ u, H1 p = some u → Chg u) : Stp H S (L2.upd H1 p ho) (S1.upd p o) := by
  have z := a.mine (ho := ho) n c
  refine ⟨z.tp, z.tr, fun d u e m => ?_⟩
  have ne : d ≠ p := fun y => by rw [y, n] at e; cases e
  exact ⟨(z.keep d u e m).1, (Sto.upd_ne ne).trans (z.keep d u e m).2⟩
theorem _root_.Bay.Bears.fin {K : PySem.W.Frag} {H : Hp} {S : Sto} {p : Addr} {ho : HO} {o : O} (b : Bears K H S) (n : S p = none) (c : ∀ u, H p = some u → Chg u) (q : OB K (L2.upd H p ho) p o) : Bears K (L2.upd H p ho) (S.upd p o) := fun d u e => by
  by_cases h : d = p
  · subst h; rw [Sto.upd_same] at e; cases e; exact q
  · rw [Sto.upd_ne h] at e
    exact b.mine n c d u e
/-- the pairs of a display -/
structure Dsp (X : Cx) (C : Ctx) (ks : List Str) (ms : Ev → Sto → (List D → Sto → Prop) → Prop) (kk : List (Option Expr)) (vv : List Expr) (pos : Pos) : Prop where
  ex : ∃ trs, PPs X pos kk vv trs ∧ ∀ σ H (Q : List V → Hp → Prop) (R : List (V × V) → Hp → Prop), (∀ vs H', vs.length = ks.length → Q vs H' → R ((ks.zip vs).map fun p => (V.str p.1, p.2)) H') → LA X.K C ms σ H Q → tPairs trs σ H R
theorem dsp_nil : Dsp X C [] (fun _ S Q => Q [] S) [] [] pos := ⟨[], pps_nil, fun σ H Q R hR ⟨ε, S, Q0, at', hm, hQ⟩ => hR [] H rfl (hQ _ _ _ _ hm Stp.refl .nil at'.br)⟩
theorem dsp_cons {x : Str} {ks : List Str} {kk : List (Option Expr)} {vv : List Expr} {j : Nat} (ha : PEd X C e ma) (hr : Dsp X C ks ms kk vv pos) :
    Dsp X C (x :: ks) (fun ε S Q => ma ε S fun d S1 => ms ε S1 fun ds S2 => Q (d :: ds) S2) (some (.Constant (.str x) j p) :: kk) (e :: vv) pos := by
  obtain ⟨trs, h1, h2⟩ := hr.ex
  refine ⟨_, pps_cons pe_str ha h1, ?_⟩
  rintro σ H Q R hR ⟨ε, S, Q0, at', hm, hQ⟩
  refine ⟨ε, S, _, at', hm, fun d S1 v H1 q st r br => ?_⟩
  exact h2 σ H1 (fun vs H' => Q (v :: vs) H') _ (fun vs H' hl hq => hR (v :: vs) H' (by rw [List.length_cons, hl, List.length_cons]) hq) ⟨ε, S1, _, at'.on st br, q, fun ds S2 vs H2 q2 st2 r2 b2 => hQ _ _ _ _ q2 (st.trans st2) (.cons (r.to st2.tp) r2) b2⟩
theorem pd_zip {K : PySem.W.Frag} {H : Hp} : ∀ {ks : List Str} {vs : List V} {ds : List D}, RpL K H vs ds → PD K H ((ks.zip vs).map fun p => ((.inr p.1 : Key), p.2)) (dicD ks ds)
  | [], _, _, _ => .nil
  | _ :: _, _, _, .nil => .nil
  | k :: ks, _, _, .cons r t => .cons ⟨rfl, r⟩ (pd_zip t)
theorem e_dic {ks : List Str} {kk : List (Option Expr)} {vv : List Expr} (h : Dsp X C ks ms kk vv pos) (hall : kk.all (·.isSome) = true) (hl : kk.length = vv.length) (h1 : 1 ≤ kk.length) (h15 : kk.length ≤ 15) (hk : ks.length = kk.length) (nd : ks.Nodup) :
    PEd X C (.Dict kk vv pos) (fun ε S Q => ms ε S fun ds S1 => ∀ p, S1 p = none → Q (.ref p) (S1.upd p (.dK (dicD ks ds)))) := by
  obtain ⟨trs, p1, p2⟩ := h.ex
  refine (pe_disp p1 hall hl (fun z => by subst z; simp at h1) h15).imp ?_
  rintro σ H Q ⟨ε, S, Q0, at', hm, hQ⟩ p n
  have at2 := at'.on (Stp.newT n (ho := .dK [])) (at'.br.newT n)
  refine p2 σ _ (fun vs H2 => ∃ ds S2, Stp (upd H p (.dK [])) S H2 S2 ∧ RpL X.K H2 vs ds ∧ Bears X.K H2 S2 ∧ ∀ p, S2 p = none → Q0 (.ref p) (S2.upd p (.dK (dicD ks ds)))) _ ?_ ⟨ε, S, _, at2, hm, fun ds S' vs H' q st r br => ⟨ds, S', st, r, br, q⟩⟩
  rintro vs H2 hvl ⟨ds, S2, st, r, br, q⟩
  obtain ⟨k1, k2⟩ := st.keep p _ upd_same (at'.br.no n)
  have chg : ∀ u, H2 p = some u → Chg u := fun u z => by
    rw [k1] at z
    cases z
    exact ⟨fun _ z => (nomatch z), fun _ _ z => (nomatch z), fun _ z => (nomatch z)⟩
  have hmk : ((ks.zip vs).map fun p => ((.inr p.1 : Key), p.2)).map (·.1) = ks.map .inr := by
    rw [List.map_map]
    show List.map (Sum.inr ∘ Prod.fst) (ks.zip vs) = _
    rw [← List.map_map, List.map_fst_zip (by omega)]
  refine ⟨k1, (ks.zip vs).map fun p => (.inr p.1, p.2), by simp [List.map_map, Function.comp_def, kV], by simp [hvl]; omega, ?_⟩
  rw [mergeK_app _ _ (by
    rw [List.nil_append, hmk]
    exact nd.map _ fun a b ne z => ne (Sum.inr.inj z)), List.nil_append]
  have tpo : Tp H2 (upd H2 p (.dK ((ks.zip vs).map fun p => ((.inr p.1 : Key), p.2)))) := Tp.over k1 (chg _ k1)
  exact hQ _ _ _ _ (q p k2) ((st.own n).fin n chg) (.ref p) (br.fin k2 chg ⟨_, upd_same, (pd_zip r).to tpo⟩)

/-! ### comprehensions -/
theorem ckNm_pg (G : Good X C T k) {i : Nat} {e : Expr} {top : Bool} (hf : top = true → ∀ x, X.fn x = true) (h : ckNm X.N top X.env.scope i e = true) : PG X e (gName i) ∧ ∃ x q, e = .Name x q := by
  unfold ckNm at h
  split at h
  · rename_i x q
    simp only [Bool.and_eq_true, decide_eq_true_eq, locB] at h
    obtain ⟨h1, h2⟩ := h
    refine ⟨?_, x, q, rfl⟩
    split at h2
    · rename_i e; exact pg_name G.nd h1 (.inl e) (.inr e)
    · rename_i e; exact pg_name G.nd h1 (.inr e) (.inl (hf h2 x))
    · cases h2
  · cases h
theorem ckNms_pg (G : Good X C T k) {top : Bool} (hf : top = true → ∀ x, X.fn x = true) : ∀ {is : List Nat} {es : List Expr}, ckNms X.N top X.env.scope is es = true → PGs X es (gNms is) ∧ (assignEach es X.env).length = is.length ∧ (assignEach es X.env).findIdx? (·.1) = none
  | [], [], _ => ⟨pgs_nil, rfl, rfl⟩
  | i :: is, e :: es, h => by
    unfold ckNms at h
    simp only [Bool.and_eq_true] at h
    obtain ⟨h1, x, q, rfl⟩ := ckNm_pg G hf h.1
    obtain ⟨h2, h3, h4⟩ := ckNms_pg G hf h.2
    have e1 : assignEach (.Name x q :: es) X.env = (false, assign (.Name x q) X.env) :: assignEach es X.env := rfl
    refine ⟨pgs_cons h1 h2 (by rw [e1]; rfl), by rw [e1, List.length_cons, h3, List.length_cons], ?_⟩
    rw [e1, List.findIdx?_cons]
    simp [h4]
  | [], _ :: _, h => by simp [ckNms] at h
  | _ :: _, [], h => by simp [ckNms] at h
theorem ckG_pg (G : Good X C T k) {top : Bool} (hf : top = true → ∀ x, X.fn x = true) {tg : MG} {e : Expr} (h : ckG T X.N top X.env.scope tg e = true) : PG X e (gT X.K tg) := by
  unfold ckG at h
  split at h
  · exact (ckNm_pg G hf h).1
  · simp only [Bool.and_eq_true, Bool.not_eq_true'] at h
    obtain ⟨h2, h3, h4⟩ := ckNms_pg G hf h.2
    exact pg_tup (G.calm h.1) h2 h3 h4
  · cases h
/-! ### the caught exception -/
theorem e_xf (G : Good X C T k) {i : Nat} {x f : Str} (h1 : X.N[i]? = some x) (h2 : visB X.env.scope x = true) (h3 : dbgB x = true) :
    PEd X C (.Attribute (.Name x p) f pos) (fun ε S Q => ∃ a x d, C.Γ.xa = some (a, x) ∧ lookE ε i = some (.ref a) ∧ x.arg = some (f, d) ∧ Q d S) := by
  refine ⟨fun pins s σ H Q I ⟨ε, S, Q0, at', ⟨a, y, d, e1, e2, e3, q⟩, hQ⟩ => ?_⟩
  refine (G.xf a y f d e1 e3 (.Name x p) pos _ (e_var (C := C) h1 h2 h3) rfl).run pins s σ H Q I ?_
  refine ⟨ε, S, fun d' S' => d' = .ref a ∧ S' = S, at', by dsimp only; rw [e2]; exact ⟨rfl, rfl⟩, fun d' S' v H' q' st r br => ?_⟩
  obtain ⟨rfl, rfl⟩ := q'
  exact ⟨r.ref_inv, at'.tp.trans st.tp, fun w rw => hQ _ _ _ _ q st rw br⟩
theorem e_xis (G : Good X C T k) {i : Nat} {x c z : Str} {p1 p2 p3 : Pos} (hz : z = "isinstance") (hg : glB X.env.scope z = true) (h1 : X.N[i]? = some x) (h2 : visB X.env.scope x = true) (h3 : dbgB x = true) (g1 : glB X.env.scope c = true) (g2 : dbgB c = true) (hc : c ∈ T.cat) :
    PEd X C (.Call (.Name z p1) [.Name x p2, .Name c p3] [] pos) (fun ε S Q => ∃ a y, C.Γ.xa = some (a, y) ∧ lookE ε i = some (.ref a) ∧ Q (.bl (C.Γ.sub y.cls c)) S) := by
  subst hz
  refine ⟨fun pins s σ H Q I ⟨ε, S, Q0, at', ⟨a, y, e1, e2, q⟩, hQ⟩ => ?_⟩
  obtain ⟨m1, ⟨b, eb⟩, m2⟩ := G.cat c hc
  have cr := G.xis a y c e1 hc
  refine (pe_callB cr (gl_of hg) (G.blt _ (by decide +kernel)) (by decide +kernel) (pa_cons (e_var (C := C) h1 h2 h3) (pa_cons (pe_glob (v := .ref b) (gl_of g1) m1 (by rw [eb]; exact rfl) (dbg_of g2).1) pa_nil (star_cons rfl)) (star_cons rfl)) (by decide) (by decide +kernel) (star_cons rfl) (star_none rfl)).run pins s σ H Q I ?_
  refine ⟨ε, S, fun d' S' => d' = .ref a ∧ S' = S, at', by dsimp only; rw [e2]; exact ⟨rfl, rfl⟩, fun d' S' w H' q' st r br => ?_⟩
  obtain ⟨rfl, rfl⟩ := q'
  exact ⟨⟨b, by rw [r.ref_inv], eb⟩, at'.tp.trans st.tp, hQ _ _ _ _ q st (.bl _) br⟩
end
end Bay

set_option Elab.async false
set_option linter.all false
set_option maxRecDepth 100000
/-! Bay: xs[::-1], list(range(n)), sorted(set(xs)), list(zip(xs, ys)). -/
namespace Bay
open PySem PySem.Spec PyProof.Rows L2
section
variable {X : Cx} {C : Ctx} {T : Tab} {k : Nat} {a b : Expr} {ma mb : Ev → Sto → QD → Prop} {p p1 p2 p3 pos pos2 : Pos} {j : Nat}
theorem e_rev (ha : PEd X C a ma) : PEd X C (.Subscript a (.Slice none none (some (.UnaryOp .USub (.Constant (.int 1) j p1) p2)) p3) pos) (fun ε S Q => ma ε S fun x S1 => unD .rev x S1 Q) := by
  refine (pe_revL ha).imp ?_
  rintro σ H Q ⟨ε, S, Q0, at', hm, hQ⟩
  refine ⟨ε, S, _, at', hm, fun d S1 v H1 q st r br => ?_⟩
  have q' : lstD d S1 fun xs _ => newL xs.reverse S1 Q0 := q
  obtain ⟨l, vs, xs, g, rfl, hs, rl, q2, _⟩ := lst_at r br q'
  exact ⟨l, vs, rfl, hs, fun p n => new_list n br rl.rev q2 fun d' S' v' H' x y z w => hQ _ _ _ _ x (st.trans y) z w⟩
theorem e_lsR (G : Good X C T k) (hot : T.hot = false) (hg : glB X.env.scope "list" = true) (hg2 : glB X.env.scope "range" = true) (ha : PEd X C a ma) (hs : starB a = false) :
    PEd X C (.Call (.Name "list" p) [.Call (.Name "range" p2) [a] [] pos2] [] pos) (fun ε S Q => ma ε S fun x S1 => unD .lsR x S1 Q) := by
  refine (pe_listRg (G.calm hot) (gl_of hg) (G.blt _ (by decide +kernel)) (prg_1 (gl_of hg2) (G.blt _ (by decide +kernel)) ha (star_cons hs)) (star_cons rfl)).imp ?_
  rintro σ H Q ⟨ε, S, Q0, at', hm, hQ⟩
  refine ⟨ε, S, _, at', hm, fun d S1 v H1 q st r br => ?_⟩
  cases d <;> first | (exact q.elim) | skip
  rename_i i
  obtain ⟨⟨i0, i1⟩, q2⟩ := q
  refine ⟨i, r.int_inv, .of_le (Int.le_refl _) i1 (by omega) i0, fun p n => ?_⟩
  refine new_list n br ?_ q2 fun d' S' v' H' x y z w => hQ _ _ _ _ x (st.trans y) z w
  have e : rgV 0 i = (((List.range i.toNat).map fun k : Nat => (k : Int))).map V.int := by
    unfold rgV
    rw [List.map_map, Int.sub_zero]
    refine List.map_congr_left fun k _ => ?_
    show V.int (0 + (k : Int)) = V.int (k : Int)
    rw [Int.zero_add]
  have e2 : ((List.range i.toNat).map fun k : Nat => D.int k) = (((List.range i.toNat).map fun k : Nat => (k : Int))).map D.int := by rw [List.map_map]; rfl
  rw [e, e2]
  exact RpL.ints
theorem e_srtS (G : Good X C T k) (hot : T.hot = false) (hg : glB X.env.scope "sorted" = true) (hg2 : glB X.env.scope "set" = true) (ha : PEd X C a ma) (hs : starB a = false) :
    PEd X C (.Call (.Name "sorted" p) [.Call (.Name "set" p2) [a] [] pos2] [] pos) (fun ε S Q => ma ε S fun x S1 => unD .srtS x S1 Q) := by
  refine (pe_srtS (G.calm hot) (gl_of hg) (G.blt _ (by decide +kernel)) (gl_of hg2) (G.blt _ (by decide +kernel)) ha (star_cons hs)).imp ?_
  rintro σ H Q ⟨ε, S, Q0, at', hm, hQ⟩
  refine ⟨ε, S, _, at', hm, fun d S1 v H1 q st r br => ?_⟩
  have q' : lstD d S1 fun xs _ => ∃ ns : List Int, xs = ns.map .int ∧ ns.length < 64 ∧ ∀ ns' : List Int, ns'.Pairwise (· < ·) → (∀ k, k ∈ ns' ↔ k ∈ ns) → newL (ns'.map .int) S1 Q0 := q
  obtain ⟨l, vs, xs, g, rfl, hs, rl, ⟨ns, rfl, h64, q2⟩, _⟩ := lst_at r br q'
  have ew := RpL.ints_inv rl
  subst ew
  exact ⟨l, ns, rfl, hs, h64, fun ns' p h1 h2 n => new_list n br RpL.ints (q2 ns' h1 h2) fun d' S' v' H' x y z w => hQ _ _ _ _ x (st.trans y) z w⟩
theorem e_lsZ (G : Good X C T k) (hot : T.hot = false) (hg : glB X.env.scope "list" = true) (hg2 : glB X.env.scope "zip" = true) (ha : PEd X C a ma) (hb : PEd X C b mb) (hs : starB a = false) (hs2 : starB b = false) :
    PEd X C (.Call (.Name "list" p) [.Call (.Name "zip" p2) [a, b] [] pos2] [] pos) (fun ε S Q => ma ε S fun x S1 => mb ε S1 fun y S2 => zipD x y S2 Q) := by
  refine (pe_listZip (G.calm hot) (gl_of hg) (G.blt _ (by decide +kernel)) (gl_of hg2) (G.blt _ (by decide +kernel)) (a_cons ha (a_cons hb a_nil hs2) hs) (star_cons hs) (star_none (by simp [hs2])) (star_cons rfl)).imp ?_
  rintro σ H Q ⟨ε, S, Q0, at', hm, hQ⟩
  refine ⟨ε, S, fun ds S2 => match ds with | [d, e] => zipD d e S2 Q0 | _ => False, at', hm, fun ds S2 vs H2 q st r br => ?_⟩
  · match ds, vs, q, r with
    | [d, e], [v, u], q, .cons r1 (.cons r2 .nil) =>
      obtain ⟨l, xs, dx, g, rfl, hx, rx, q1, _⟩ := lst_at r1 br q
      obtain ⟨m, ys, dy, g', rfl, hy, ry, q2, _⟩ := lst_at r2 br q1
      refine ⟨l, m, xs, ys, rfl, hx, hy, fun H3 p refs n0 hp hl ext hpr => ?_⟩
      have e1 := rx.length
      have e2 := ry.length
      have tp : Tp H2 H3 := ⟨fun a x h => ext _ _ h, fun a o u h => ext _ _ h, fun a f h => ext _ _ h⟩
      refine hQ _ _ _ H3 (q2.2 p (br.no n0)) (st.trans ⟨tp, fun a h => ?_, fun a u h s => ⟨ext _ _ h, ?_⟩⟩) (.ref p) fun a o h => ?_
      · cases q : H2 a with
        | none => exact absurd q h
        | some u => rw [ext _ _ q]; exact fun z => nomatch z
      · rw [Sto.upd_ne (fun z => by rw [z, n0] at h; cases h)]; exact s
      · by_cases hap : a = p
        · subst hap
          rw [Sto.upd_same] at h
          cases h
          refine ⟨refs, hp, RpL.of_get (by rw [hl, List.length_map, List.length_zip, e1, e2]) fun i v d h1 h2 => ?_⟩
          obtain ⟨T, x, y, rfl, _, _, g1, g2, g3⟩ := hpr i v h1
          rw [List.getElem?_map] at h2
          obtain ⟨d1, k1, k2⟩ := rx.getV g1
          obtain ⟨d2, k3, k4⟩ := ry.getV g2
          have : (dx.zip dy)[i]? = some (d1, d2) := by
            rw [List.getElem?_zip_eq_some]
            exact ⟨k1, k3⟩
          rw [this] at h2
          cases h2
          exact .tup g3 (.cons (k2.to tp) (.cons (k4.to tp) .nil))
        · rw [Sto.upd_ne hap] at h
          obtain ⟨u, hu, _⟩ := (br a o h).chg
          exact (br a o h).keep tp (by rw [hu]; exact ext _ _ hu)
end
end Bay

set_option Elab.async false
set_option linter.all false
set_option maxRecDepth 100000
namespace Bay
open PySem PySem.Spec PyProof.Rows L2
section
variable {X : Cx} {C : Ctx} {T : Tab} {k : Nat}
theorem pw_of {op : BoolOp} {vs : List Expr} {pos : Pos} {t : TT} (h : PT X (.BoolOp op vs pos) t) : PW X (.BoolOp op vs pos) t := ⟨fun wh pins s σ H Q I h' => h.run pins s σ H Q I h'⟩
theorem t_ite {c a b : Expr} {pos : Pos} {ma mb mc : Ev → Sto → QD → Prop} (hc : PTd X C c mc) (ha : PTd X C a ma) (hb : PTd X C b mb) : PTd X C (.IfExp c a b pos) (fun ε S Q => mc ε S (tstD fun k S1 => if k = true then ma ε S1 Q else mb ε S1 Q)) := by
  refine ⟨fun pins s σ H Q I ⟨ε, S, Q0, at', hm, hQ⟩ => ?_⟩
  show wpAny _ _ (do if ← isTrue c X.env (eval c X.env) then isTrue a X.env (eval a X.env) else isTrue b X.env (eval b X.env)) _ _ _
  refine wpAny_bind (thn (hc.run pins s σ H (fun d H1 => ∃ S1, Stp H S H1 S1 ∧ Bears X.K H1 S1 ∧ if d = true then ma ε S1 (tstD Q0) else mb ε S1 (tstD Q0)) I ⟨ε, S, _, at', hm, fun k S1 H1 q st br => ⟨S1, st, br, q⟩⟩) fun d s1 ⟨H1, I1, S1, st, br, q⟩ => ?_)
  cases d with
  | true => exact ha.run pins s1 σ H1 Q I1 ⟨ε, S1, Q0, at'.on st br, q, fun d S2 H2 q2 st2 br2 => hQ _ _ _ q2 (st.trans st2) br2⟩
  | false => exact hb.run pins s1 σ H1 Q I1 ⟨ε, S1, Q0, at'.on st br, q, fun d S2 H2 q2 st2 br2 => hQ _ _ _ q2 (st.trans st2) br2⟩
/-- what is proved of texts below a size -/
structure Snd (T : Tab) (n : Nat) : Prop where
  E : ∀ m, sizeOf m < n → ∀ X C k (G : Good X C T k) e, ckE T X.N m X.env.scope e = true → PEd X C e (wE C.Γ m C.xw) ∧ PTd X C e (wE C.Γ m C.xw)
  A : ∀ m, sizeOf m < n → ∀ X C k (G : Good X C T k) es, ckEs T X.N m X.env.scope es = true → PAd X C es (wEs C.Γ m C.xw)
  D : ∀ m, sizeOf m < n → ∀ X C k (G : Good X C T k) ks kk es pos, ckKs ks kk = true → ckEs T X.N m X.env.scope es = true → es.length = kk.length → Dsp X C ks (wEs C.Γ m C.xw) kk es pos ∧ ks.length = kk.length ∧ kk.all (·.isSome) = true
  O : ∀ m, sizeOf m < n → ∀ X C k (G : Good X C T k) o, ckO T X.N m X.env.scope o = true → PO X o (LO X.K C (wO C.Γ m C.xw))
  W : ∀ m, sizeOf m < n → ∀ X C k (G : Good X C T k) (kws : List Keyword), ckEs T X.N m X.env.scope (kws.map (·.value)) = true → PK X kws (LA X.K C (wEs C.Γ m C.xw))
  F : ∀ m, sizeOf m < n → ∀ X C k (G : Good X C T k) ifs, ckC T X.N m X.env.scope ifs = true → PTs X ifs (LT X.K C (wC C.Γ m C.xw))
  I : ∀ m, sizeOf m < n → ∀ X C k (G : Good X C T k) t i, ckI T X.N m X.env.scope t i = true → PI X t i (LI X.K C (wI C.Γ m C.xw))
theorem _root_.Bay.Snd.le {n n' : Nat} (h : Snd T n) (l : n' ≤ n) : Snd T n' :=
  ⟨fun m z => h.E m (Nat.lt_of_lt_of_le z l), fun m z => h.A m (Nat.lt_of_lt_of_le z l), fun m z => h.D m (Nat.lt_of_lt_of_le z l), fun m z => h.O m (Nat.lt_of_lt_of_le z l), fun m z => h.W m (Nat.lt_of_lt_of_le z l), fun m z => h.F m (Nat.lt_of_lt_of_le z l), fun m z => h.I m (Nat.lt_of_lt_of_le z l)⟩
set_option hygiene false in
local macro_rules | `(tactic| walk_at "sz") => `(tactic| first | (simp at hn ⊢; omega) | (simp at hn; omega))
set_option hygiene false in
local macro_rules | `(tactic| walk_at "spl") => `(tactic| simp only [Bool.and_eq_true, decide_eq_true_eq, Bool.not_eq_true'] at h)
theorem snd_E {n : Nat} (P : Snd T n) (m : ME) (hn : sizeOf m < n + 1) (X : Cx) (C : Ctx) (k : Nat) (G : Good X C T k) (e : Expr) (h : ckE T X.N m X.env.scope e = true) : PEd X C e (wE C.Γ m C.xw) ∧ PTd X C e (wE C.Γ m C.xw) := by
  unfold ckE at h
  split at h
  · walk_at "spl"; have z := e_var (C := C) (pos := by assumption) h.1.1 h.1.2 h.2; exact ⟨z, t_gen z fun _ => rfl⟩
  · walk_at "spl"; subst h; exact ⟨e_cst pe_int (fun _ => .int _), t_gen (e_cst pe_int fun _ => .int _) fun _ => rfl⟩
  · walk_at "spl"; subst h; exact ⟨e_cst pe_str (fun _ => .str _), t_gen (e_cst pe_str fun _ => .str _) fun _ => rfl⟩
  · walk_at "spl"; subst h; exact ⟨e_cst pe_bl (fun _ => .bl _), t_gen (e_cst pe_bl fun _ => .bl _) fun _ => rfl⟩
  · exact ⟨e_cst pe_non (fun _ => .non), t_gen (e_cst pe_non fun _ => .non) fun _ => rfl⟩
  · walk_at "spl"; have z := e_cg (pos := by assumption) G h.1.1 h.1.2 h.2; exact ⟨z, t_gen z fun _ => rfl⟩
  · walk_at "spl"; have z := e_bin (pos := by assumption) or_add (P.E _ (by walk_at "sz") X C k G _ h.1).1 (P.E _ (by walk_at "sz") X C k G _ h.2).1; exact ⟨z, t_gen z fun _ => rfl⟩
  · walk_at "spl"; have z := e_bin (pos := by assumption) or_sub (P.E _ (by walk_at "sz") X C k G _ h.1).1 (P.E _ (by walk_at "sz") X C k G _ h.2).1; exact ⟨z, t_gen z fun _ => rfl⟩
  · walk_at "spl"; have z := e_bin (pos := by assumption) or_mul (P.E _ (by walk_at "sz") X C k G _ h.1).1 (P.E _ (by walk_at "sz") X C k G _ h.2).1; exact ⟨z, t_gen z fun _ => rfl⟩
  · walk_at "spl"; have z := e_bin (pos := by assumption) or_fdv (P.E _ (by walk_at "sz") X C k G _ h.1).1 (P.E _ (by walk_at "sz") X C k G _ h.2).1; exact ⟨z, t_gen z fun _ => rfl⟩
  · walk_at "spl"; have z := e_bin (pos := by assumption) or_mod (P.E _ (by walk_at "sz") X C k G _ h.1).1 (P.E _ (by walk_at "sz") X C k G _ h.2).1; exact ⟨z, t_gen z fun _ => rfl⟩
  · walk_at "spl"; have z := e_bin (pos := by assumption) or_pow (P.E _ (by walk_at "sz") X C k G _ h.1).1 (P.E _ (by walk_at "sz") X C k G _ h.2).1; exact ⟨z, t_gen z fun _ => rfl⟩
  · have z := e_neg (pos := by assumption) (P.E _ (by walk_at "sz") X C k G _ h).1; exact ⟨z, t_gen z fun _ => rfl⟩
  · walk_at "spl"
    obtain ⟨⟨⟨rfl, h1⟩, h2⟩, h3⟩ := h
    exact ⟨e_cmp G.u65 (P.E _ (by walk_at "sz") X C k G _ h1).1 (P.E _ (by walk_at "sz") X C k G _ h2).1 h3, t_cmp G.u65 (P.E _ (by walk_at "sz") X C k G _ h1).1 (P.E _ (by walk_at "sz") X C k G _ h2).1 h3⟩
  · walk_at "spl"
    obtain ⟨⟨⟨⟨⟨rfl, rfl⟩, h1⟩, h2⟩, h3⟩, h4⟩ := h
    exact ⟨e_cmp2 G.u65 (P.E _ (by walk_at "sz") X C k G _ h1).1 (P.E _ (by walk_at "sz") X C k G _ h2).1 (P.E _ (by walk_at "sz") X C k G _ h3).1 h4, t_cmp2 G.u65 (P.E _ (by walk_at "sz") X C k G _ h1).1 (P.E _ (by walk_at "sz") X C k G _ h2).1 (P.E _ (by walk_at "sz") X C k G _ h3).1 h4⟩
  · walk_at "spl"
    obtain ⟨rfl, h1⟩ := h
    exact ⟨e_isN (P.E _ (by walk_at "sz") X C k G _ h1).1, t_isN (P.E _ (by walk_at "sz") X C k G _ h1).1⟩
  · exact ⟨e_not (P.E _ (by walk_at "sz") X C k G _ h).1, t_not (P.E _ (by walk_at "sz") X C k G _ h).2⟩
  · simp only [Bool.and_eq_true] at h
    obtain ⟨h1, h2⟩ := h
    have z1 := P.E _ (by walk_at "sz") X C k G _ h1
    split at h2
    · have z2 := P.E _ (by walk_at "sz") X C k G _ h2
      exact ⟨(pe_and z1.1 (pe_one z2.1)).imp lift_andV, (pw_and z1.2 (pw_and1 z2.2)).pt.imp lift_andT⟩
    · have z2 := P.E _ (by walk_at "sz") X C k G _ h2
      exact ⟨(pe_and z1.1 z2.1).imp lift_andV, (pw_and z1.2 (pw_of z2.2)).pt.imp lift_andT⟩
  · simp only [Bool.and_eq_true] at h
    obtain ⟨h1, h2⟩ := h
    have z1 := P.E _ (by walk_at "sz") X C k G _ h1
    split at h2
    · have z2 := P.E _ (by walk_at "sz") X C k G _ h2
      exact ⟨(pe_or z1.1 (pe_one z2.1)).imp lift_orV, (pw_or z1.2 (pw_or1 z2.2)).pt.imp lift_orT⟩
    · have z2 := P.E _ (by walk_at "sz") X C k G _ h2
      exact ⟨(pe_or z1.1 z2.1).imp lift_orV, (pw_or z1.2 (pw_of z2.2)).pt.imp lift_orT⟩
  · simp only [Bool.and_eq_true] at h
    obtain ⟨⟨h1, h2⟩, h3⟩ := h
    have z1 := P.E _ (by walk_at "sz") X C k G _ h1
    have z2 := P.E _ (by walk_at "sz") X C k G _ h2
    have z3 := P.E _ (by walk_at "sz") X C k G _ h3
    exact ⟨e_ite z1.2 z2.1 z3.1, t_ite z1.2 z2.2 z3.2⟩
  · have z := e_tup (pos := by assumption) (x1 := by assumption) (P.A _ (by walk_at "sz") X C k G _ h); exact ⟨z, t_gen z fun _ => rfl⟩
  · have z := e_lst (pos := by assumption) (P.A _ (by walk_at "sz") X C k G _ h); exact ⟨z, t_gen z fun _ => rfl⟩
  · have z := e_dicT (C := C) (X := X) (pos := by assumption); exact ⟨z, t_gen z fun _ => rfl⟩
  · have z := e_dicK (C := C) (X := X) (pos := by assumption); exact ⟨z, t_gen z fun _ => rfl⟩
  · walk_at "spl"
    obtain ⟨⟨⟨⟨⟨h1, h2⟩, h3⟩, h4⟩, h5⟩, h6⟩ := h
    obtain ⟨d1, d2, d3⟩ := P.D _ (by walk_at "sz") X C k G _ _ _ (by assumption) h1 h2 h3
    have z := e_dic d1 d3 h3.symm h4 h5 d2 h6
    exact ⟨z, t_gen z fun _ => rfl⟩
  · walk_at "spl"; have z := e_idx (pos := by assumption) G.u1 (P.E _ (by walk_at "sz") X C k G _ h.1.1).1 (P.E _ (by walk_at "sz") X C k G _ h.1.2).1 h.2; exact ⟨z, t_gen z fun _ => rfl⟩
  · rename_i p1 p2; walk_at "spl"; have z := e_slc (pos := p2) (p2 := p1) (P.E _ (by walk_at "sz") X C k G _ h.1.1).1 (P.O _ (by walk_at "sz") X C k G _ h.1.2) (P.O _ (by walk_at "sz") X C k G _ h.2); exact ⟨z, t_gen z fun _ => rfl⟩
  · walk_at "spl"
    obtain ⟨⟨⟨h1, h2⟩, h3⟩, rfl⟩ := h
    refine ⟨e_xf G h1 h2 h3, t_gen (e_xf G h1 h2 h3) fun _ => rfl⟩
  · walk_at "spl"
    obtain ⟨⟨⟨⟨⟨⟨⟨⟨h0, hg⟩, h1⟩, h2⟩, h3⟩, rfl⟩, g1⟩, g2⟩, g3⟩ := h
    exact ⟨e_xis G h0 hg h1 h2 h3 g1 g2 g3, t_gen (e_xis G h0 hg h1 h2 h3 g1 g2 g3) fun _ => rfl⟩
  · rename_i f es x p xs pos
    walk_at "spl"
    obtain ⟨⟨⟨⟨hot, h1⟩, h2⟩, h3⟩, h4⟩ := h
    have hs := ckEs_star h4
    have z4 := P.A _ (by walk_at "sz") X C k G _ h4
    cases xs with
    | nil =>
      cases es with
      | nil => have z := e_call0 (p := p) (pos := pos) G hot h1 h2 h3; exact ⟨z, t_gen z fun _ => rfl⟩
      | cons _ _ => simp [ckEs] at h4
    | cons y ys => have z := e_call (p := p) (pos := pos) G hot h1 h2 h3 z4 hs; exact ⟨z, t_gen z fun _ => rfl⟩
  · rename_i f es perm x p kws pos
    walk_at "spl"
    obtain ⟨⟨⟨⟨⟨⟨⟨hot, h1⟩, h2⟩, h3⟩, h4⟩, h5⟩, h6⟩, h7⟩ := h
    have z := e_callK (p := p) (pos := pos) G hot h1 h2 h3 h4 h5 h6 (P.W _ (by walk_at "sz") X C k G _ h7)
    exact ⟨z, t_gen z fun _ => rfl⟩
  · rename_i b es x p xs pos
    simp only [Bool.and_eq_true, decide_eq_true_eq] at h
    obtain ⟨⟨⟨⟨h0, h1⟩, h2⟩, h3⟩, h4⟩ := h
    cases hb : b.isT with
    | none =>
      simp only [hb, Bool.and_eq_true] at h4
      have z4 := P.A _ (by walk_at "sz") X C k G _ h4.1
      have hs := ckEs_star h4.1
      cases xs with
      | nil => simp at h4
      | cons y ys => have z := e_blt (p := p) (pos := pos) G h0 hb h1 h2 h3 z4 hs; exact ⟨z, t_gen z fun _ => rfl⟩
    | some t =>
      simp only [hb] at h4
      split at h4
      · rename_i y w wp
        simp only [Bool.and_eq_true, decide_eq_true_eq] at h4
        obtain ⟨⟨⟨rfl, h5⟩, h6⟩, h7⟩ := h4
        cases es with
        | nil => simp [ckEs] at h7
        | cons e es =>
          cases es with
          | cons _ _ => simp [ckEs] at h7
          | nil =>
            simp only [ckEs, Bool.and_eq_true, Bool.not_eq_true', and_true] at h7
            have z := e_isi (p := p) (p2 := wp) (pos := pos) G hb h1 h2 h3 h5 h6 (P.E _ (by walk_at "sz") X C k G _ h7.1).1 h7.2
            exact ⟨z, t_gen z fun _ => rfl⟩
      · cases h4
  · rename_i m o es ob x ap xs cp
    walk_at "spl"
    obtain ⟨⟨⟨⟨⟨⟨h0, h1⟩, h2⟩, h3⟩, h4⟩, h5⟩, h6⟩ := h
    have hs := ckEs_star h5
    have z3 := (P.E _ (by walk_at "sz") X C k G _ h3).1
    have z5 := P.A _ (by walk_at "sz") X C k G _ h5
    cases xs with
    | nil =>
      cases es with
      | nil => have z := e_mth0 (ap := ap) (pos := cp) h0 h1 z3 h4 h2; exact ⟨z, t_gen z fun _ => rfl⟩
      | cons _ _ => simp [ckEs] at h5
    | cons y ys => have z := e_mth (ap := ap) (pos := cp) h0 h1 z3 z5 hs h4 h2 h6; exact ⟨z, t_gen z fun _ => rfl⟩
  · rename_i a x i j p1 p2 p3 pos; walk_at "spl"; obtain ⟨rfl, h⟩ := h; have z := e_rev (pos := pos) (p1 := p1) (p2 := p2) (p3 := p3) (j := j) (P.E _ (by walk_at "sz") X C k G _ h).1; exact ⟨z, t_gen z fun _ => rfl⟩
  · walk_at "spl"; obtain ⟨⟨⟨⟨⟨⟨hot, rfl⟩, h1⟩, rfl⟩, h2⟩, h3⟩, h4⟩ := h; exact ⟨e_lsR G hot h1 h2 (P.E _ (by walk_at "sz") X C k G _ h3).1 h4, t_gen (e_lsR G hot h1 h2 (P.E _ (by walk_at "sz") X C k G _ h3).1 h4) fun _ => rfl⟩
  · walk_at "spl"; obtain ⟨⟨⟨⟨⟨⟨hot, rfl⟩, h1⟩, rfl⟩, h2⟩, h3⟩, h4⟩ := h; exact ⟨e_srtS G hot h1 h2 (P.E _ (by walk_at "sz") X C k G _ h3).1 h4, t_gen (e_srtS G hot h1 h2 (P.E _ (by walk_at "sz") X C k G _ h3).1 h4) fun _ => rfl⟩
  · walk_at "spl"; obtain ⟨⟨⟨⟨⟨⟨⟨⟨hot, rfl⟩, h1⟩, rfl⟩, h2⟩, h3⟩, h4⟩, h5⟩, h6⟩ := h; exact ⟨e_lsZ G hot h1 h2 (P.E _ (by walk_at "sz") X C k G _ h3).1 (P.E _ (by walk_at "sz") X C k G _ h4).1 h5 h6, t_gen (e_lsZ G hot h1 h2 (P.E _ (by walk_at "sz") X C k G _ h3).1 (P.E _ (by walk_at "sz") X C k G _ h4).1 h5 h6) fun _ => rfl⟩
  · rename_i elt tg it c own el t i ifs scope pos
    walk_at "spl"
    obtain ⟨⟨⟨⟨⟨⟨⟨hot, h1⟩, h2⟩, h3⟩, h4⟩, h5⟩, h6⟩, h7⟩ := h
    have z := (pe_lc (te := LE X.K C.blk (wE C.Γ elt XF)) (tt := LT X.K C.blk (wC C.Γ c XF)) (pos := pos) (G.calm hot) G.nd (P.I it (by walk_at "sz") X C k G _ _ h4) (blkOk_by h1) (fun s H c cl fp => ckG_pg (G.blk hot ..) (fun z => Bool.noConfusion z) h2) (fun s H cc cl fp => P.F c (by walk_at "sz") _ C.blk _ (G.blk hot ..) _ h6) (fun s H cc cl fp => (P.E elt (by walk_at "sz") _ C.blk _ (G.blk hot ..) _ h5).1) (fold_id h7)).imp (lift_lc (C' := C.blk) rfl rfl h3)
    exact ⟨z, t_gen z fun _ => rfl⟩
  · cases h
theorem snd_A {n : Nat} (P : Snd T n) (m : MEs) (hn : sizeOf m < n + 1) (X : Cx) (C : Ctx) (k : Nat) (G : Good X C T k) (es : List Expr) (h : ckEs T X.N m X.env.scope es = true) : PAd X C es (wEs C.Γ m C.xw) := by
  unfold ckEs at h
  split at h
  · exact a_nil
  · walk_at "spl"; exact a_cons (P.E _ (by walk_at "sz") X C k G _ h.1.1).1 (P.A _ (by walk_at "sz") X C k G _ h.1.2) h.2
  · cases h
theorem snd_D {n : Nat} (P : Snd T n) (m : MEs) (hn : sizeOf m < n + 1) (X : Cx) (C : Ctx) (k : Nat) (G : Good X C T k) (ks : List Str) (kk : List (Option Expr)) (es : List Expr) (pos : Pos) (hk : ckKs ks kk = true) (h : ckEs T X.N m X.env.scope es = true) (hl : es.length = kk.length) :
    Dsp X C ks (wEs C.Γ m C.xw) kk es pos ∧ ks.length = kk.length ∧ kk.all (·.isSome) = true := by
  unfold ckEs at h
  split at h
  · cases kk with
    | nil =>
      cases ks with
      | nil => exact ⟨dsp_nil, rfl, rfl⟩
      | cons _ _ => simp [ckKs] at hk
    | cons _ _ => simp at hl
  · walk_at "spl"
    cases kk with
    | nil => simp at hl
    | cons y ys =>
      cases ks with
      | nil => simp [ckKs] at hk
      | cons x ks =>
        unfold ckKs at hk
        split at hk
        · rename_i e1 e2
          cases e1
        · rename_i e1 e2
          cases e1
          cases e2
          simp only [Bool.and_eq_true, decide_eq_true_eq] at hk
          obtain ⟨rfl, hk⟩ := hk
          obtain ⟨d1, d2, d3⟩ := P.D _ (by walk_at "sz") X C k G _ _ _ pos hk h.1.2 (by simpa using hl)
          refine ⟨dsp_cons (P.E _ (by walk_at "sz") X C k G _ h.1.1).1 d1, by simp [d2], by simp only [List.all_cons, d3]; rfl⟩
        · cases hk
  · cases h
theorem snd_O {n : Nat} (P : Snd T n) (m : MO) (hn : sizeOf m < n + 1) (X : Cx) (C : Ctx) (k : Nat) (G : Good X C T k) (o : Option Expr) (h : ckO T X.N m X.env.scope o = true) : PO X o (LO X.K C (wO C.Γ m C.xw)) := by
  unfold ckO at h
  split at h
  · exact o_no
  · exact o_yes (P.E _ (by walk_at "sz") X C k G _ h).1
  · cases h
theorem snd_W {n : Nat} (P : Snd T n) (m : MEs) (hn : sizeOf m < n + 1) (X : Cx) (C : Ctx) (k : Nat) (G : Good X C T k) (kws : List Keyword) (h : ckEs T X.N m X.env.scope (kws.map (·.value)) = true) : PK X kws (LA X.K C (wEs C.Γ m C.xw)) := by
  cases kws with
  | nil =>
    cases m with
    | nil => exact k_nil
    | cons _ _ => simp [ckEs] at h
  | cons q r =>
    cases m with
    | nil => simp [ckEs] at h
    | cons e es =>
      simp only [List.map_cons, ckEs, Bool.and_eq_true] at h
      exact k_cons (P.E _ (by walk_at "sz") X C k G _ h.1.1).1 (P.W _ (by walk_at "sz") X C k G _ h.1.2)
theorem snd_F {n : Nat} (P : Snd T n) (m : MO) (hn : sizeOf m < n + 1) (X : Cx) (C : Ctx) (k : Nat) (G : Good X C T k) (ifs : List Expr) (h : ckC T X.N m X.env.scope ifs = true) : PTs X ifs (LT X.K C (wC C.Γ m C.xw)) := by
  unfold ckC at h
  split at h
  · refine ⟨fun pins s σ H Q I ⟨ε, S, Q0, at', hm, hQ⟩ => pts_nil.run pins s σ H Q I (hQ _ _ _ hm Stp.refl at'.br)⟩
  · exact pts_one (P.E _ (by walk_at "sz") X C k G _ h).2
  · cases h
theorem snd_I {n : Nat} (P : Snd T n) (m : MI) (hn : sizeOf m < n + 1) (X : Cx) (C : Ctx) (k : Nat) (G : Good X C T k) (t i : Expr) (h : ckI T X.N m X.env.scope t i = true) : PI X t i (LI X.K C (wI C.Γ m C.xw)) := by
  have hr : X.mg "range" = none := G.blt _ (by decide +kernel)
  have he : X.mg "enumerate" = none := G.blt _ (by decide +kernel)
  have hz : X.mg "zip" = none := G.blt _ (by decide +kernel)
  unfold ckI at h
  split at h
  · exact pi_gen (P.E _ (by walk_at "sz") X C k G _ h).1
  · walk_at "spl"
    obtain ⟨⟨⟨rfl, h1⟩, h2⟩, h3⟩ := h
    exact pi_rng1 (gl_of h1) hr (P.E _ (by walk_at "sz") X C k G _ h2).1 (star_cons h3)
  · walk_at "spl"
    obtain ⟨⟨⟨⟨⟨rfl, h1⟩, h2⟩, h3⟩, h4⟩, h5⟩ := h
    exact pi_rng2 (gl_of h1) hr (P.E _ (by walk_at "sz") X C k G _ h2).1 (P.E _ (by walk_at "sz") X C k G _ h3).1 (by rw [star_cons h4, star_cons h5]; rfl) (star_cons h5)
  · walk_at "spl"
    obtain ⟨⟨⟨⟨rfl, h1⟩, h2⟩, h3⟩, h4⟩ := h
    unfold tupB at h4
    split at h4
    · exact pi_enumL (gl_of h1) he (P.E _ (by walk_at "sz") X C k G _ h2).1 (star_cons h3)
    · cases h4
  · walk_at "spl"
    obtain ⟨⟨⟨⟨⟨⟨rfl, h1⟩, h2⟩, h3⟩, h4⟩, h5⟩, h6⟩ := h
    unfold tupB at h6
    split at h6
    · exact pi_zipL (gl_of h1) hz (P.E _ (by walk_at "sz") X C k G _ h2).1 (P.E _ (by walk_at "sz") X C k G _ h3).1 (star_cons h4) (star_cons h5)
    · cases h6
  · cases h
theorem snd_all (T : Tab) : ∀ n, Snd T n
  | 0 => ⟨fun _ z => absurd z (Nat.not_lt_zero _), fun _ z => absurd z (Nat.not_lt_zero _), fun _ z => absurd z (Nat.not_lt_zero _), fun _ z => absurd z (Nat.not_lt_zero _), fun _ z => absurd z (Nat.not_lt_zero _), fun _ z => absurd z (Nat.not_lt_zero _), fun _ z => absurd z (Nat.not_lt_zero _)⟩
  | n + 1 => ⟨snd_E (snd_all T n), snd_A (snd_all T n), snd_D (snd_all T n), snd_O (snd_all T n), snd_W (snd_all T n), snd_F (snd_all T n), snd_I (snd_all T n)⟩
theorem ok_E (G : Good X C T k) {m : ME} {e : Expr} (h : ckE T X.N m X.env.scope e = true) : PEd X C e (wE C.Γ m C.xw) := ((snd_all T _).E m (Nat.lt_succ_self _) X C k G e h).1
theorem ok_T (G : Good X C T k) {m : ME} {e : Expr} (h : ckE T X.N m X.env.scope e = true) : PTd X C e (wE C.Γ m C.xw) := ((snd_all T _).E m (Nat.lt_succ_self _) X C k G e h).2
theorem ok_A (G : Good X C T k) {m : MEs} {es : List Expr} (h : ckEs T X.N m X.env.scope es = true) : PAd X C es (wEs C.Γ m C.xw) := (snd_all T _).A m (Nat.lt_succ_self _) X C k G es h
theorem ok_I (G : Good X C T k) {m : MI} {t i : Expr} (h : ckI T X.N m X.env.scope t i = true) : PI X t i (LI X.K C (wI C.Γ m C.xw)) := (snd_all T _).I m (Nat.lt_succ_self _) X C k G t i h
end
end Bay

set_option Elab.async false
set_option linter.all false
set_option maxRecDepth 100000
namespace Bay
open PySem PySem.Spec PyProof.Rows L2

/-! ### statements: the text, checked -/
def compB : Expr → Bool
  | .ListComp .. => true
  | .SetComp .. => true
  | .DictComp .. => true
  | _ => false
/-- a comprehension that is stored at once -/
def atOnce (sc : Scope) (x : Str) (p : Pos) : Expr → Bool
  | .ListComp _ _ s q => (sc.names.lookup x == some .local) && (p.line == q.line) && !(s.names.any fun y => y.1 == x && (y.2 == .local || y.2 == .cell))
  | _ => false
def lcB : Expr → Bool
  | .ListComp .. => true
  | _ => false
/-- names and values of one line whose stores are swapped -/
def par2 (sc : Scope) (N : List Str) : List Nat → List Expr → List Expr → Bool
  | [i, j], [.Name x p, .Name y q], [a, b] => decide (N[i]? = some x) && decide (N[j]? = some y) && decide (i ≠ j) && decide (x ≠ y) && decide (sc.names.lookup x = some .local) && decide (sc.names.lookup y = some .local) && (q.line == p.line) &&
      !starB a && !starB b && !([a, b].all (foldedForSure 8)) && !([a, b].all (constantsAlone 8))
  | [i, j, l], [.Name x p, .Name y q, .Name z r], [a, b, c] => decide (N[i]? = some x) && decide (N[j]? = some y) && decide (N[l]? = some z) && decide (i ≠ j) && decide (i ≠ l) && decide (j ≠ l) && decide (x ≠ y) && decide (x ≠ z) && decide (y ≠ z) &&
      decide (sc.names.lookup x = some .local) && decide (sc.names.lookup y = some .local) && decide (sc.names.lookup z = some .local) && (q.line == p.line) && (r.line == p.line) &&
      !starB a && !starB b && !starB c && !([a, b, c].all (foldedForSure 8)) && !([a, b, c].all (constantsAlone 8))
  | _, _, _ => false
/-- .. that are not -/
def nopar (sc : Scope) (ts : List Expr) : Expr → Bool
  | .Tuple vs _ _ => !(ts.length == 2 || ts.length == 3) || vs.all (foldedForSure 8) || (ts.any fun | .Name x _ => !(sc.names.lookup x == some .local) | _ => true)
  | _ => true
def docB : Expr → Bool
  | .Constant (.str _) _ _ => true
  | _ => false
/-- in an except suite -/
def Tab.suite (T : Tab) : Tab := { T with hot := true, fns := [], cgs := [] }
def ckName (N : List Str) (sc : Scope) : Option Nat → Option Str → Bool
  | none, none => true
  | some i, some x => decide (N[i]? = some x) && decide (sc.names.lookup x = some .local)
  | _, _ => false
section
variable (N : List Str)
mutual
def ckS : MS → Tab → Scope → Stmt → Bool
  | .skip, _, _, .Pass _ => true
  | .skip, _, _, .Expr e _ => docB e
  | .set i m, T, sc, .Assign [.Name x p] e _ => ckNm N true sc i (.Name x p) && ckE T N m sc e && (lcB e || !compB e)
  | .setT is m, T, sc, .Assign [.Tuple ts _ _] e _ => !T.hot && ckNms N true sc is ts && ckE T N m sc e && nopar sc ts e
  | .par is es, T, sc, .Assign [.Tuple ts _ _] (.Tuple vs _ _) _ => !T.hot && par2 sc N is ts vs && ckEs T N es sc vs
  | .sub o i m, T, sc, .Assign [.Subscript x y _] e _ => ckE T N o sc x && ckE T N i sc y && ckE T N m sc e && !sliceB y
  | .expr m, T, sc, .Expr e _ => ckE T N m sc e && !compB e
  | .ret m, T, sc, .Return (some e) _ => ckE T N m sc e
  | .retN, _, _, .Return none _ => true
  | .ite c a b, T, sc, .If t x y _ => ckE T N c sc t && ckSs a T sc x && ckSs b T sc y
  | .for_ tg it body, T, sc, .For t i x [] _ => !T.hot && ckG T N true sc tg t && ckI T N it sc t i && ckSs body T sc x && !setB i
  | .whl c body, T, sc, .While t x [] _ => ckE T N c sc t && ckSs body T sc x
  | .brk, _, _, .Break _ => true
  | .cont, _, _, .Continue _ => true
  | .rais c f arg, T, sc, .Raise (some (.Call (.Name x _) xs [] _)) none _ => !T.hot && decide (c = x) && glB sc x && dbgB x && (match f, arg, xs with
    | none, .no, [] => true
    | some _, .yes m, [e] => ckE T N m sc e && !starB e
    | _, _, _ => false)
  | .try_ oi c body h, T, sc, .Try b [.ExceptHandler (some (.Name x _)) nm (b0 :: suite) _] [] [] _ => !T.hot && decide (c = x) && decide (c ∈ T.cat) && glB sc x && dbgB x && ckName N sc oi nm && ckSs body T sc b && ckSs h T.suite sc (b0 :: suite)
  | _, _, _, _ => false
def ckSs : MS → Tab → Scope → List Stmt → Bool
  | .skip, _, _, [] => true
  | .seq a b, T, sc, st :: r => ckS a T sc st && ckSs b T sc r
  | _, _, _, _ => false
end
end

/-- what a def's body is walked in -/
structure GoodS (X : Cx) (C : Ctx) (T : Tab) (k : Nat) : Prop where
  G : Good X C T k
  top : ∀ x, X.fn x = true
  fun_ : X.env.scope.kind = .function
  own : PassesOwn (model X.prog X.w) X.A X.env X.xe
  stk : X.stack = X.env :: X.outer
  frm : X.env.frame = some X.env.locals
section
variable {X : Cx} {C : Ctx} {T : Tab} {k : Nat}
theorem GoodS.blkKind (S : GoodS X C T k) : X.env.blockKind = .function := by
  unfold Env.blockKind
  rw [S.fun_]; rfl
theorem swaps_no {e : Expr} {t : Option Expr} {n : Nat} {env : PySem.Env} (h : compB e = false) : swapsWith e t n env = pure false := by
  cases e <;> first | rfl | (exact nomatch h)
theorem swaps_other {e t : Expr} {n : Nat} {env : PySem.Env} (h : ∀ x p, t ≠ .Name x p) : swapsWith e (some t) n env = pure false := by
  unfold swapsWith
  split
  · split
    · rename_i e; cases e
    · rename_i e; cases e; exact absurd rfl (h _ _)
    · rfl
  · rfl
theorem sole_tup {e : Expr} {ts : List Expr} {kt : Nat} {p : Pos} {n : Nat} {env : PySem.Env} : swapsWithSole [.Tuple ts kt p] e n env = pure false := by
  show swapsWith e (some (.Tuple ts kt p)) n env = pure false
  exact swaps_other fun x p z => by cases z
theorem sole_sub {e x y : Expr} {p : Pos} {n : Nat} {env : PySem.Env} : swapsWithSole [.Subscript x y p] e n env = pure false := by
  show swapsWith e (some (.Subscript x y p)) n env = pure false
  exact swaps_other fun x p z => by cases z
theorem swaps_lc {x : Str} {p : Pos} {n : Nat} {e : Expr} (S : GoodS X C T k) (h : lcB e = true) : swapsWith e (some (.Name x p)) n X.env = pure (atOnce X.env.scope x p e) := by
  unfold lcB at h
  split at h
  · unfold swapsWith atOnce
    rw [S.blkKind]
    rfl
  · cases h
end
theorem relV_ref {v : V} {b : Addr} (r : RelV v (.ref b)) : v = .ref b := by
  cases v <;> first | (obtain ⟨t, e⟩ := r; cases e; done) | (cases r; done) | skip
  cases r
  rfl
theorem call_is {X : Cx} {a D c : Addr} {oe : Obj} {od : Option Addr} {pn : List (Addr × Obj)} {b : Bool} (B : PySem.W.BayIs X.K D) (hz : Zc (.ref D) od oe) (hf : ∃ vs, oe.data = .fields vs) (hk : PySem.W.kitOne X.K (.ref D) (.ref c) = some b) (P : Hp → Prop)
    (hd : ∀ H, P H → ∀ d, od = some d → ∃ fs, H d = some (.xd fs)) : CallR (X.suite a ((a, oe) :: pn)) (.builtin "isinstance") fun vs H Q => (∃ e, vs = [.ref a, .ref e] ∧ Value.ref c = .ref e) ∧ P H ∧ Q (.bl b) H := by
  intro pins s σ H xs us Q I r h
  obtain ⟨⟨e, rfl, hce⟩, hp, q⟩ := h
  cases hce
  cases r with
  | cons rx rr =>
    cases rr with
    | cons rt rr =>
      cases rr
      cases rx
      cases rt
      obtain ⟨hget, _⟩ := I.pin (a, oe) (List.mem_append.mpr (.inl List.mem_cons_self))
      obtain ⟨vs, hv⟩ := hf
      obtain ⟨oc, od', oda, osl⟩ := oe
      obtain ⟨h1, h2⟩ := hz
      dsimp only at h1 h2 hv
      subst h1 h2 hv
      cases od' with
      | none =>
        have J : PySem.W.InstAt s.heap a _ D none := ⟨hget, rfl, rfl, trivial⟩
        exact PySem.W.kia_one (PySem.W.bay_kitx B) I.kIn J hk (fun z => nomatch z) fun tk => ⟨.bl b, H, I.kept (t' := tk) fun _ _ z => z, rfl, q⟩
      | some d =>
        obtain ⟨fs, hfs⟩ := hd H hp d rfl
        have hx : ObjOk X.prog X.w H s.heap d (.xd fs) := I.hok d _ hfs
        obtain ⟨mA, ⟨o, es, ep, ho, _⟩, _⟩ := hx
        have J : PySem.W.InstAt s.heap a _ D (some o) := ⟨hget, rfl, rfl, ho⟩
        exact PySem.W.kia_one (PySem.W.bay_kitx B) I.kIn J hk (fun z => nomatch z) fun tk => ⟨.bl b, H, I.kept (t' := tk) fun _ _ z => z, rfl, q⟩
end Bay

set_option Elab.async false
set_option linter.all false
set_option maxRecDepth 100000
namespace Bay
open PySem PySem.Spec PyProof.Rows L2
section
variable {X : Cx} {C : Ctx} {T : Tab} {k : Nat} {K : PySem.W.Frag} {m : Ev → Sto → QD → Prop}
/-! ### what the statements ask -/
theorem lift_asg {te : TE} {g : TG} {asg : D → Ev → Option Ev} (ht : ∀ σ H Q, LE K C m σ H Q → te σ H Q) (hg : ∀ v σ H Q, (∃ d ε S ε', Rp K H v d ∧ At K C σ H ε S ∧ asg d ε = some ε' ∧ ∀ σ', At K C σ' H ε' S → Q σ' H) → g v σ H Q) :
    ∀ D σ H, LS K C (fun k ε S => m ε S fun d S1 => ∃ ε', asg d ε = some ε' ∧ k.nx ε' S1) D σ H → tAsg te g D σ H := by
  rintro D σ H ⟨ε, S, k, at', hm, ends⟩
  refine ht σ H _ ⟨ε, S, _, at', hm, fun d S1 v H1 q st r br => ?_⟩
  obtain ⟨ε', ea, qn⟩ := q
  exact hg v σ H1 _ ⟨d, ε, S1, ε', r, at'.on st br, ea, fun σ' at2 => ends.nx _ _ _ _ qn st at2⟩
theorem hg_of (tg : MG) : ∀ v σ H Q, (∃ d ε S ε', Rp K H v d ∧ At K C σ H ε S ∧ asgD tg d ε = some ε' ∧ ∀ σ', At K C σ' H ε' S → Q σ' H) → gT K tg v σ H Q := by
  rintro v σ H Q ⟨d, ε, S, ε', r, at', e, q⟩
  obtain ⟨vs, ev, run⟩ := gT_run r at'.ev e
  exact run Q (q _ ⟨at'.st, ev, at'.br⟩)
theorem lift_set {te : TE} {i : Nat} (ht : ∀ σ H Q, LE K C m σ H Q → te σ H Q) : ∀ D σ H, LS K C (fun k ε S => m ε S fun d S1 => k.nx (ε.set i (some d)) S1) D σ H → tAsg te (gName i) D σ H := by
  rintro D σ H ⟨ε, S, k, at', hm, ends⟩
  refine ht σ H _ ⟨ε, S, _, at', hm, fun d S1 v H1 q st r br => ?_⟩
  have at1 := at'.on st br
  exact ends.nx _ _ _ _ q st ⟨at1.st, at1.ev.set i r, at1.br⟩
theorem lift_sub {mo mi : Ev → Sto → QD → Prop} : ∀ D σ H, LS K C (fun k ε S => m ε S fun v S1 => mo ε S1 fun x S2 => mi ε S2 fun y S3 => setD x y v S3 fun S4 => k.nx ε S4) D σ H → tAsg (LE K C m) (gSub (LE K C mo) (LE K C mi) (LSet K)) D σ H := by
  rintro D σ H ⟨ε, S, k, at', hm, ends⟩
  refine ⟨ε, S, _, at', hm, fun d S1 v H1 q st r br => ⟨ε, S1, _, at'.on st br, q, fun d2 S2 v2 H2 q2 st2 r2 br2 => ⟨ε, S2, _, at'.on (st.trans st2) br2, q2, fun d3 S3 v3 H3 q3 st3 r3 br3 => ?_⟩⟩⟩
  exact ⟨d2, d3, d, S3, _, r2.to st3.tp, r3, r.to (st2.trans st3).tp, br3, q3, fun S' H' q' st' b' => ends.nx _ _ _ _ q' (st.trans (st2.trans (st3.trans st'))) (at'.on (st.trans (st2.trans (st3.trans st'))) b')⟩
theorem lift_expr : ∀ D σ H, LS K C (fun k ε S => m ε S fun _ S1 => k.nx ε S1) D σ H → tDrop (LE K C m) D σ H := by
  rintro D σ H ⟨ε, S, k, at', hm, ends⟩
  exact ⟨ε, S, _, at', hm, fun d S1 v H1 q st r br => ends.nx _ _ _ _ q st (at'.on st br)⟩
theorem lift_ret : ∀ D σ H, LS K C (fun k ε S => m ε S k.rt) D σ H → tRet (LE K C m) D σ H := by
  rintro D σ H ⟨ε, S, k, at', hm, ends⟩
  exact ⟨ε, S, _, at', hm, fun d S1 v H1 q st r br => ends.rt _ _ _ _ q st r br⟩
theorem lift_if {a b : EK → Ev → Sto → Prop} : ∀ D σ H, LS K C (fun k ε S => m ε S (tstD fun t S1 => if t = true then a k ε S1 else b k ε S1)) D σ H → tIfS (LT K C fun ε S Q => m ε S (tstD Q)) (LS K C a) (LS K C b) D σ H := by
  rintro D σ H ⟨ε, S, k, at', hm, ends⟩
  refine ⟨ε, S, _, at', hm, fun t S1 H1 q st br => ?_⟩
  cases t with
  | true => rw [if_pos rfl]; exact ⟨ε, S1, k, at'.on st br, q, ends.on st⟩
  | false => rw [if_neg Bool.false_ne_true]; exact ⟨ε, S1, k, at'.on st br, q, ends.on st⟩
theorem lift_seq {a b : EK → Ev → Sto → Prop} : ∀ D σ H, LS K C (fun k ε S => a { k with nx := b k } ε S) D σ H → tSeq (LS K C a) (LS K C b) D σ H := by
  rintro D σ H ⟨ε, S, k, at', hm, ends⟩
  exact ⟨ε, S, _, at', hm, fun ε' S' σ' H' q st at2 => ⟨ε', S', k, at2, q, ends.on st⟩, ends.rt, ends.bk, ends.ct⟩
theorem lift_skip : ∀ D σ H, LS K C (fun k ε S => k.nx ε S) D σ H → tNext D σ H := by
  rintro D σ H ⟨ε, S, k, at', hm, ends⟩
  exact ends.nx _ _ _ _ hm Stp.refl at'
theorem lift_par2 {i j : Nat} {ms : Ev → Sto → (List D → Sto → Prop) → Prop} : ∀ D σ H, LS K C (fun k ε S => ms ε S fun ds S1 => ds.length = [i, j].length ∧ k.nx (setsE [i, j] ds ε) S1) D σ H → tPar i j (LA K C ms) D σ H := by
  rintro D σ H ⟨ε, S, k, at', hm, ends⟩
  refine ⟨ε, S, _, at', hm, fun ds S1 vs H1 q st r br => ?_⟩
  have at1 := at'.on st br
  have z := sets_ev (is := [i, j]) r at1.ev
  cases r with
  | nil => exact nomatch q.1
  | cons r1 t =>
    cases t with
    | nil => exact nomatch q.1
    | cons r2 t =>
      cases t with
      | cons _ _ => exact absurd q.1 (by simp)
      | nil => exact ⟨_, _, rfl, ends.nx _ _ _ _ q.2 st ⟨at1.st, z, at1.br⟩⟩
theorem lift_par3 {i j l : Nat} {ms : Ev → Sto → (List D → Sto → Prop) → Prop} : ∀ D σ H, LS K C (fun k ε S => ms ε S fun ds S1 => ds.length = [i, j, l].length ∧ k.nx (setsE [i, j, l] ds ε) S1) D σ H → tPar3 i j l (LA K C ms) D σ H := by
  rintro D σ H ⟨ε, S, k, at', hm, ends⟩
  refine ⟨ε, S, _, at', hm, fun ds S1 vs H1 q st r br => ?_⟩
  have at1 := at'.on st br
  have z := sets_ev (is := [i, j, l]) r at1.ev
  cases r with
  | nil => exact nomatch q.1
  | cons r1 t =>
    cases t with
    | nil => exact nomatch q.1
    | cons r2 t =>
      cases t with
      | nil => exact nomatch q.1
      | cons r3 t =>
        cases t with
        | cons _ _ => exact absurd q.1 (by simp)
        | nil => exact ⟨_, _, _, rfl, ends.nx _ _ _ _ q.2 st ⟨at1.st, z, at1.br⟩⟩
theorem star_any2 {a b : Expr} (h1 : starB a = false) (h2 : starB b = false) : ([a, b].any fun | .Starred .. => true | _ => false) = false := by
  show (starB a || (starB b || false)) = false
  rw [h1, h2]; rfl
theorem star_any3 {a b c : Expr} (h1 : starB a = false) (h2 : starB b = false) (h3 : starB c = false) : ([a, b, c].any fun | .Starred .. => true | _ => false) = false := by
  show (starB a || (starB b || (starB c || false))) = false
  rw [h1, h2, h3]; rfl
theorem swapped2 {x y : Str} {p q tp vp : Pos} {a b : Expr} {kt kv : Nat} (S : GoodS X C T k) (hx : X.env.scope.names.lookup x = some .local) (hy : X.env.scope.names.lookup y = some .local) (ne : x ≠ y) (hl : (q.line == p.line) = true)
    (h1 : starB a = false) (h2 : starB b = false) (h3 : ([a, b].all (foldedForSure 8)) = false) (h4 : ([a, b].all (constantsAlone 8)) = false) :
    swappedStores [.Tuple [.Name x p, .Name y q] kt tp] (.Tuple [a, b] kv vp) X.env = pure (some [x, y]) := by
  have e1 : X.env.kindOf x = some .local := hx
  have e2 : X.env.kindOf y = some .local := hy
  have e3 : [x, y].eraseDups = [x, y] := by
    have : (y == x) = false := by simpa using Ne.symm ne
    simp [List.eraseDups_cons, this]
  unfold swappedStores
  simp only [List.length_cons, List.length_nil, S.blkKind, List.head?_cons, Option.map_some, Option.getD_some, Expr.pos, List.filterMap_cons, List.filterMap_nil, e1, e2, hl, h3, h4, e3]
  simp [e3, hl]
  intro z
  rcases z with z | z
  · exact absurd (show starB a = true from z) (by rw [h1]; simp)
  · exact absurd (show starB b = true from z) (by rw [h2]; simp)
theorem swapped3 {x y z : Str} {p q r tp vp : Pos} {a b c : Expr} {kt kv : Nat} (S : GoodS X C T k) (hx : X.env.scope.names.lookup x = some .local) (hy : X.env.scope.names.lookup y = some .local) (hz : X.env.scope.names.lookup z = some .local) (ne : x ≠ y) (ne2 : x ≠ z) (ne3 : y ≠ z) (hl : (q.line == p.line) = true) (hl2 : (r.line == p.line) = true)
    (h1 : starB a = false) (h2 : starB b = false) (h2' : starB c = false) (h3 : ([a, b, c].all (foldedForSure 8)) = false) (h4 : ([a, b, c].all (constantsAlone 8)) = false) :
    swappedStores [.Tuple [.Name x p, .Name y q, .Name z r] kt tp] (.Tuple [a, b, c] kv vp) X.env = pure (some [x, y, z]) := by
  have e1 : X.env.kindOf x = some .local := hx
  have e2 : X.env.kindOf y = some .local := hy
  have e2' : X.env.kindOf z = some .local := hz
  have e3 : [x, y, z].eraseDups = [x, y, z] := by
    have t1 : (y == x) = false := by simpa using Ne.symm ne
    have t2 : (z == x) = false := by simpa using Ne.symm ne2
    have t3 : (z == y) = false := by simpa using Ne.symm ne3
    simp [List.eraseDups_cons, t1, t2, t3]
  unfold swappedStores
  simp only [List.length_cons, List.length_nil, S.blkKind, List.head?_cons, Option.map_some, Option.getD_some, Expr.pos, List.filterMap_cons, List.filterMap_nil, e1, e2, e2', hl, hl2, h3, h4, e3]
  simp [e3, hl, hl2]
  intro w
  rcases w with w | w | w
  · exact absurd (show starB a = true from w) (by rw [h1]; simp)
  · exact absurd (show starB b = true from w) (by rw [h2]; simp)
  · exact absurd (show starB c = true from w) (by rw [h2']; simp)
/-- stores that are not swapped -/
theorem swapped_no {ts : List Expr} {tp : Pos} {kt : Nat} {e : Expr} (h : nopar X.env.scope ts e = true) (hn : ∀ t ∈ ts, ∃ x p, t = .Name x p) : swappedStores [.Tuple ts kt tp] e X.env = pure none := by
  cases e <;> first | rfl | skip
  · rename_i vs k2 vp
    unfold nopar at h
    unfold swappedStores
    dsimp only at h ⊢
    simp only [Bool.or_eq_true] at h
    rcases h with (h | h) | h
    · have : (!(ts.length == 2 || ts.length == 3) || vs.length != ts.length || X.env.blockKind != .function) = true := by rw [h]; rfl
      rw [if_pos this]
    · rw [h]
      split
      · rfl
      · split
        · rfl
        · split
          · rfl
          · rw [if_pos rfl]
    · have key : (ts.filterMap fun | .Name id pos => if X.env.kindOf id == some NameKind.local && pos.line == (ts.head?.map (·.pos.line)).getD 0 then some id else none | _ => none).length ≠ ts.length := by
        generalize (ts.head?.map (·.pos.line)).getD 0 = line
        clear hn
        induction ts with
        | nil => simp at h
        | cons t ts ih =>
          rw [List.any_cons, Bool.or_eq_true] at h
          have le : ∀ us : List Expr, (us.filterMap fun | .Name id pos => if X.env.kindOf id == some NameKind.local && pos.line == line then some id else none | _ => none).length ≤ us.length := fun us => List.length_filterMap_le _ _
          rcases h with h | h
          · have z := le ts
            rw [List.filterMap_cons]
            split
            · rw [List.length_cons]; omega
            · rename_i b hb
              exfalso
              split at hb
              · split at hb
                · rename_i id pos hc
                  simp only [Bool.and_eq_true] at hc
                  simp only [Bool.not_eq_true'] at h
                  have : (X.env.scope.names.lookup id == some NameKind.local) = true := hc.1
                  rw [this] at h
                  cases h
                · cases hb
              · cases hb
          · have z := ih h
            have z2 := le ts
            rw [List.filterMap_cons]
            split <;> (simp only [List.length_cons]; omega)
      split
      · rfl
      · split
        · rfl
        · rw [if_pos]
          rw [Bool.or_eq_true]
          left
          exact bne_iff_ne.mpr key
/-! ### statements are sound -/
theorem ckNms_names {N : List Str} {top : Bool} {sc : Scope} : ∀ {is : List Nat} {es : List Expr}, ckNms N top sc is es = true → ∀ t ∈ es, ∃ x p, t = .Name x p
  | [], [], _, _, h => nomatch h
  | i :: is, e :: es, h, t, ht => by
    unfold ckNms at h
    rw [Bool.and_eq_true] at h
    rcases List.mem_cons.mp ht with rfl | ht
    · have h1 := h.1
      unfold ckNm at h1
      split at h1
      · exact ⟨_, _, rfl⟩
      · cases h1
    · exact ckNms_names h.2 t ht
  | [], _ :: _, h, _, _ => by simp [ckNms] at h
  | _ :: _, [], h, _, _ => by simp [ckNms] at h
theorem s_set (S : GoodS X C T k) {i : Nat} {m : ME} {x : Str} {p pos : Pos} {e : Expr} (h1 : ckNm X.N true X.env.scope i (.Name x p) = true) (h2 : ckE T X.N m X.env.scope e = true) (h3 : (lcB e || !compB e) = true) :
    PS X (.Assign [.Name x p] e pos) (LS X.K C (wS (.set i m) C.Γ C.xw)) := by
  have h0 := h1
  simp only [ckNm, Bool.and_eq_true, decide_eq_true_eq, locB] at h1
  obtain ⟨g1, g2⟩ := h1
  have hx : Loc X.env.scope x := by
    split at g2
    · rename_i e; exact .inl e
    · rename_i e; exact .inr e
    · cases g2
  have plain : swapsWith e (some (.Name x p)) pos.line X.env = pure false → PS X (.Assign [.Name x p] e pos) (LS X.K C (wS (.set i m) C.Γ C.xw)) := fun sw =>
    (ps_set S.G.nd g1 hx (ok_E S.G h2) sw (.inl (S.top x))).imp (lift_set fun _ _ _ z => z)
  by_cases hl : lcB e = true
  · rw [swaps_lc S hl] at plain
    cases ha : atOnce X.env.scope x p e with
    | false => exact plain (by rw [ha])
    | true =>
      have sw := swaps_lc (x := x) (p := p) (n := pos.line) S hl
      rw [ha] at sw
      clear plain
      have hlo : X.env.scope.names.lookup x = some .local := by
        unfold atOnce at ha
        split at ha
        · simp only [Bool.and_eq_true, beq_iff_eq] at ha
          exact ha.1.1
        · cases ha
      unfold lcB at hl
      split at hl
      · unfold ckE at h2
        split at h2 <;> first | (rename_i e1; cases e1; done) | (rename_i e1 _; cases e1; done) | skip
        · simp only [Bool.and_eq_true, decide_eq_true_eq, Bool.not_eq_true'] at h2
          rename_i q0 _ _ _ elt tg it c own el t iter ifs scope q heq
          cases heq
          obtain ⟨⟨⟨⟨⟨⟨⟨hot, h1⟩, h2⟩, h3⟩, h4⟩, h5⟩, h6⟩, h7⟩ := h2
          exact (ps_setLc (te := LE X.K C.blk (wE C.Γ elt XF)) (tt := LT X.K C.blk (wC C.Γ c XF)) (S.G.calm hot) S.G.nd g1 hlo sw (ok_I S.G h4) (blkOk_by h1) (fun s H cc cl fp => ckG_pg (S.G.blk hot ..) (fun z => Bool.noConfusion z) h2)
            (fun s H cc cl fp => (snd_all T _).F c (Nat.lt_succ_self _) _ C.blk _ (S.G.blk hot ..) _ h6) (fun s H cc cl fp => ok_E (C := C.blk) (S.G.blk hot ..) h5) (fold_id h7)).imp (lift_set (lift_lc (C' := C.blk) rfl rfl h3))
        · cases h2
      · cases hl
  · have hn : compB e = false := by
      cases hc : lcB e with
      | true => exact absurd hc hl
      | false => rw [hc] at h3; simpa using h3
    exact plain (swaps_no hn)
/-! ### raise, try -/
theorem s_rais (S : GoodS X C T k) (hot : T.hot = false) {c : Str} {f : Option Str} {arg : MO} {xs : List Expr} {p cp pos : Pos} (hg : glB X.env.scope c = true) (hd : dbgB c = true) (h : (match f, arg, xs with
    | none, .no, [] => true
    | some _, .yes m, [e] => ckE T X.N m X.env.scope e && !starB e
    | _, _, _ => false) = true) : PS X (.Raise (some (.Call (.Name c p) xs [] cp)) none pos) (LS X.K C (wS (.rais c f arg) C.Γ C.xw)) := by
  refine ⟨fun pins s σ H D I ⟨ε, S0, K, at', ⟨hm, hm2⟩, ends⟩ => ?_⟩
  have ex := S.G.exk _ hm
  obtain ⟨m0, m1⟩ := ex.made X k rfl rfl rfl (S.G.calm hot) (S.G.room hot) S.G.pos (gl_of hg) (dbg_of hd).1
  split at h
  · exact (ps_raise (S.G.calm hot) S.G.tk (m0 rfl p cp)).run pins s σ H D I (S.G.xok _ _ _ _ _ hm2 at'.st at'.br ⟨rfl, rfl⟩)
  · rename_i g m e _
    simp only [Bool.and_eq_true, Bool.not_eq_true'] at h
    refine (ps_raise (S.G.calm hot) S.G.tk (m1 g rfl e _ p cp h.2 (ok_E S.G h.1))).run pins s σ H D I ?_
    refine ⟨ε, S0, _, at', hm2, fun d S1 v H1 q st r br dx n => ?_⟩
    exact S.G.xok _ S1 _ _ _ q (at'.st.trans (st.trans (Stp.newT n))) (br.newT n) ⟨rfl, dx, _, v, rfl, upd_same, by simp, r.to (Tp.fresh n)⟩
  · cases h
/-- a try's body -/
def Ctx.tr (C : Ctx) (n : Nat) (H : Hp) (S : Sto) (xw : QX) (W : WX) : Ctx := { C with xw := xw, H0 := H, S0 := S, E := fun c d H => ∀ σ : L2.St, σ.length = n → W c d σ H }
/-- an except suite, entered at H -/
def Ctx.su (C : Ctx) (H : Hp) (S : Sto) (a : Addr) (x : Ex) : Ctx := { C with xw := XF, E := fun _ _ _ => False, H0 := H, S0 := S, Γ := { C.Γ with xa := some (a, x) } }
theorem GoodS.tr (S : GoodS X C T k) (hot : T.hot = false) {pn : List (Addr × Obj)} {xe : Value → Shared → Prop} {H : Hp} {S0 : Sto} {xw : QX} {W : WX} (tk : Takes (X.tr pn xe) W) (po : PassesOwn (model X.prog X.w) X.A X.env xe)
    (hx : ∀ x S' c od H', xw x S' → Stp H S0 H' S' → Bears X.K H' S' → XR X.K C.cl H' c od x → ∀ σ' : L2.St, σ'.length = X.N.length → W c od σ' H') : GoodS (X.tr pn xe) (C.tr X.N.length H S0 xw W) T k where
  G := {
    calm := S.G.calm
    nd := S.G.nd
    room := S.G.room
    pos := S.G.pos
    un := S.G.un
    grd := S.G.grd
    fn := S.G.fn
    cg := S.G.cg
    blt := S.G.blt
    tk := fun u s' ⟨a, B, sI, pins, σ, H, cls, d, e, I, nb, up, sky, na, os, ag, w⟩ => tk u s' ⟨a, B, sI, pins, σ, H, cls, d, e, I, nb, up, sky, na, os, ag, w σ I.len⟩
    xok := hx
    exk := S.G.exk
    cat := S.G.cat
    xa0 := S.G.xa0
    xf := fun _ _ _ _ z => by rw [show (C.tr X.N.length H S0 xw W).Γ.xa = none from S.G.xa0 hot] at z; cases z
    xis := fun _ _ _ z => by rw [show (C.tr X.N.length H S0 xw W).Γ.xa = none from S.G.xa0 hot] at z; cases z }
  top := S.top
  fun_ := S.fun_
  own := po
  stk := S.stk
  frm := S.frm
theorem GoodS.suite (S : GoodS X C T k) {a : Addr} {oe : Obj} {pn : List (Addr × Obj)} {cls : Value} {od : Option Addr} {x : Ex} {H : Hp} {S' : Sto} (hz : Zc cls od oe) (hf : ∃ vs, oe.data = .fields vs) (hm : (x.cls, x.arg.map (·.1)) ∈ C.Γ.exs) (xr : XR X.K C.cl H cls od x) :
    GoodS (X.suite a ((a, oe) :: pn)) (C.su H S' a x) T.suite k where
  G := {
    calm := fun z => nomatch z
    nd := S.G.nd
    room := fun z => nomatch z
    pos := S.G.pos
    un := S.G.un
    grd := S.G.grd
    fn := fun i x z => by simp [Tab.suite] at z
    cg := fun i x z => by simp [Tab.suite] at z
    blt := S.G.blt
    tk := fun _ _ ⟨_, _, _, _, _, _, _, _, _, _, _, _, _, _, _, _, z⟩ => z.elim
    xok := fun _ _ _ _ _ z => z.elim
    exk := S.G.exk
    cat := S.G.cat
    xa0 := fun z => nomatch z
    xf := fun a' x' f d ha hd e pos m he hb => by
      obtain ⟨e1, e2⟩ : a = a' ∧ x = x' := by
        have z : some (a, x) = some (a', x') := ha
        cases z
        exact ⟨rfl, rfl⟩
      subst e1 e2
      obtain ⟨A, eA, xf, _, hno⟩ := (S.G.exk _ hm).xfc
      obtain ⟨xc, xarg⟩ := xr
      rw [hd] at xarg hno
      obtain ⟨dx, fs, v, ed, hfs, hl, rv⟩ := xarg
      have ec : cls = .ref A := xc.trans eA
      refine (pe_xf xf (hno f rfl) hz hf he hb).imp ?_
      rintro σ H1 Q ⟨ε, S1, Q0, at', hm', hQ⟩
      refine ⟨ε, S1, Q0, at', hm', fun d' S' w H' q' st r b => ?_⟩
      obtain ⟨ew, tp, k2⟩ := hQ _ _ _ _ q' st r b
      exact ⟨ew, ec, dx, fs, v, ed, tp.x _ _ hfs, hl, k2 v (rv.to tp)⟩
    xis := fun a' x' c ha hc => by
      obtain ⟨e1, e2⟩ : a = a' ∧ x = x' := by
        have z : some (a, x) = some (a', x') := ha
        cases z
        exact ⟨rfl, rfl⟩
      subst e1 e2
      obtain ⟨A, eA, _, bi, _⟩ := (S.G.exk _ hm).xfc
      obtain ⟨_, ⟨b, eb⟩, m2⟩ := S.G.cat c hc
      obtain ⟨xc, xarg⟩ := xr
      have ec : cls = .ref A := xc.trans eA
      subst ec
      have kk := (m2 _ hm).2
      rw [eb, eA] at kk
      have z := call_is (X := X) (a := a) (pn := pn) bi hz hf kk (Tp H) (fun H1 tp d ed => by
        cases hxa : x.arg with
        | none =>
          rw [hxa] at xarg
          have xarg' : od = none := xarg
          rw [xarg'] at ed
          cases ed
        | some p =>
          rw [hxa] at xarg
          obtain ⟨dx, fs, v, e1, hfs, _⟩ := xarg
          rw [ed] at e1
          cases e1
          exact ⟨fs, tp.x _ _ hfs⟩)
      rw [show (C.su H S' a x).cl c = .ref b from eb]
      exact z }
  top := S.top
  fun_ := S.fun_
  own := PassesOwn.never
  stk := S.stk
  frm := S.frm
structure SndS (n : Nat) : Prop where
  S : ∀ m, sizeOf m < n → ∀ X C T k (S : GoodS X C T k) st, ckS X.N m T X.env.scope st = true → PS X st (LS X.K C (wS m C.Γ C.xw))
  B : ∀ m, sizeOf m < n → ∀ X C T k (S : GoodS X C T k) sts, ckSs X.N m T X.env.scope sts = true → PSs X sts (LS X.K C (wS m C.Γ C.xw))
/-- the readings of a try's body and suite -/
def tTr (X : Cx) (C : Ctx) (body : MS) : WX → TS := fun W D σ H => ∃ S0 xw, (∀ x S' c od H', xw x S' → Stp H S0 H' S' → Bears X.K H' S' → XR X.K C.cl H' c od x → ∀ σ' : L2.St, σ'.length = X.N.length → W c od σ' H') ∧ LS X.K (C.tr X.N.length H S0 xw W) (wS body C.Γ xw) D σ H
def tSu (X : Cx) (C : Ctx) (h : MS) (a : Addr) (cls : Value) (od : Option Addr) : TS := fun D σ H => ∃ S' x, (x.cls, x.arg.map (·.1)) ∈ C.Γ.exs ∧ XR X.K C.cl H cls od x ∧ LS X.K (C.su H S' a x) (wS h { C.Γ with xa := some (a, x) } XF) D σ H
theorem blank_ev {K : PySem.W.Frag} {H : Hp} {σ : L2.St} {ε : Ev} (h : σ.length = ε.length) : EvR K H σ (ε.map fun _ => none) := by
  refine ⟨by simpa using h, fun i d e => ?_⟩
  rw [List.getElem?_map] at e
  cases hi : ε[i]? with
  | none => simp [hi] at e
  | some o => simp [hi] at e
theorem s_try {n : Nat} (P : SndS n) (S : GoodS X C T k) (hot : T.hot = false) {oi : Option Nat} {nm : Option Str} {c : Str} {body h : MS} (hb : sizeOf body < n) (hh : sizeOf h < n) {b : List Stmt} {b0 : Stmt} {suite : List Stmt} {np pos pos' : Pos} (hc : c ∈ T.cat) (hg : glB X.env.scope c = true) (hd : dbgB c = true) (hn : ckName X.N X.env.scope oi nm = true)
    (h1 : ckSs X.N body T X.env.scope b = true) (h2 : ckSs X.N h T.suite X.env.scope (b0 :: suite) = true) : PS X (.Try b [.ExceptHandler (some (.Name c np)) nm (b0 :: suite) pos'] [] [] pos) (LS X.K C (wS (.try_ oi c body h) C.Γ C.xw)) := by
  obtain ⟨c1, ⟨cb, c2⟩, c3⟩ := S.G.cat c hc
  have names : Names X c (C.cl c) := ⟨gl_of hg, (dbg_of hd).1, .inl c1⟩
  have hbd : ∀ (W : WX) (pn : List (Addr × Obj)) (xe : Value → Shared → Prop), Takes (X.tr pn xe) W → PassesOwn (model X.prog X.w) X.A X.env xe → PSs (X.tr pn xe) b (tTr X C body W) := fun W pn xe tk po =>
    ⟨fun pins s σ H D I ⟨S0, xw, hx, ls⟩ => (P.B body hb _ _ _ _ (S.tr hot tk po hx) b h1).run pins s σ H D I ls⟩
  have hsu : ∀ (a : Addr) (oe : Obj) (cls : Value) (od : Option Addr) (pn : List (Addr × Obj)), Zc cls od oe → (∃ vs, oe.data = .fields vs) → PSs (X.suite a ((a, oe) :: pn)) (b0 :: suite) (tSu X C h a cls od) := fun a oe cls od pn hz hf =>
    ⟨fun pins s σ H D I ⟨S', x, hm, xr, ls⟩ => (P.B h hh _ _ _ _ (S.suite hz hf hm xr) _ h2).run pins s σ H D I ls⟩
  -- what comes behind
  have key : ∀ (D : Ends) (σ : L2.St) (H : Hp) (W : WX), LS X.K C (wS (.try_ oi c body h) C.Γ C.xw) D σ H → σ.length = X.N.length →
      (∀ (x : Ex) (S0 S' : Sto) (cls : Value) (od : Option Addr) (H' : Hp) (ε : Ev) (K : EK), (x.cls, x.arg.map (·.1)) ∈ C.Γ.exs → Stp C.H0 C.S0 H' S' → Bears X.K H' S' → XR X.K C.cl H' cls od x → ε.length = X.N.length → EndR X.K C H' S' K D →
        (if C.Γ.sub x.cls c = true then ∀ a, S' a = none → wS h { C.Γ with xa := some (a, x) } XF (endH oi K) (blank oi a ε) S' else C.xw x S') → ∀ σ' : L2.St, σ'.length = X.N.length → W cls od σ' H') → tTr X C body W D σ H := by
    rintro D σ H W ⟨ε, S0, K, at', hm, ends⟩ hl hk
    refine ⟨S0, _, fun x S' cls od H' hx st br xr σ' hσ => hk x S0 S' cls od H' ε K hx.1 (at'.st.trans st) br xr ?_ (ends.on st) hx.2 σ' hσ, ε, S0, K, ⟨Stp.refl, at'.ev, at'.br⟩, hm, ?_, ends.2, ?_, ?_⟩
    · rw [← at'.ev.len, hl]
    · exact fun ε' S' σ' H' q st a2 => ends.1 ε' S' σ' H' q st ⟨at'.st.trans st, a2.ev, a2.br⟩
    · exact fun ε' S' σ' H' q st a2 => ends.3 ε' S' σ' H' q st ⟨at'.st.trans st, a2.ev, a2.br⟩
    · exact fun ε' S' σ' H' q st a2 => ends.4 ε' S' σ' H' q st ⟨at'.st.trans st, a2.ev, a2.br⟩
  have emx : ∀ (x : Ex) (cls : Value) (od : Option Addr) (H' : Hp), (x.cls, x.arg.map (·.1)) ∈ C.Γ.exs → XR X.K C.cl H' cls od x → PySem.W.exmOne X.K cls (C.cl c) = some (C.Γ.sub x.cls c) := fun x cls od H' hm xr => by
    rw [xr.1]
    exact (c3 _ hm).1
  cases oi with
  | none =>
    cases nm with
    | some _ => simp [ckName] at hn
    | none =>
      refine ⟨fun pins s σ H D I ls => (ps_try_only S.stk S.frm names S.G.tk hbd hsu).run pins s σ H D I (key D σ H _ ls I.len ?_)⟩
      intro x S0 S' cls od H' ε K hm st br xr hl ends hx σ' hσ
      refine ⟨_, emx x cls od H' hm xr, fun z a na => ?_, fun z => ?_⟩
      · rw [if_pos z] at hx
        refine ⟨S', x, hm, xr, blank none a ε, S', K, ⟨Stp.refl, blank_ev (by rw [hσ, hl]), br⟩, hx a (br.no na), ?_, ends.2, ?_, ?_⟩
        · exact fun ε' S' σ' H' q st' a2 => ends.1 ε' S' σ' H' q st' ⟨st.trans st', a2.ev, a2.br⟩
        · exact fun ε' S' σ' H' q st' a2 => ends.3 ε' S' σ' H' q st' ⟨st.trans st', a2.ev, a2.br⟩
        · exact fun ε' S' σ' H' q st' a2 => ends.4 ε' S' σ' H' q st' ⟨st.trans st', a2.ev, a2.br⟩
      · rw [if_neg (by rw [z]; exact Bool.false_ne_true)] at hx
        exact S.G.xok x S' cls od H' hx st br xr
  | some i =>
    cases nm with
    | none => simp [ckName] at hn
    | some x0 =>
      simp only [ckName, Bool.and_eq_true, decide_eq_true_eq] at hn
      refine ⟨fun pins s σ H D I ls => (ps_try_as S.stk S.frm S.G.nd hn.1 hn.2 names S.G.tk hbd hsu).run pins s σ H D I (key D σ H _ ls I.len ?_)⟩
      intro x S0 S' cls od H' ε K hm st br xr hl ends hx σ' hσ
      refine ⟨_, emx x cls od H' hm xr, fun z a na => ?_, fun z => ?_⟩
      · rw [if_pos z] at hx
        refine ⟨S', x, hm, xr, blank (some i) a ε, S', endH (some i) K, ⟨Stp.refl, (blank_ev (by rw [hσ, hl])).set i (.ref a), br⟩, hx a (br.no na), ?_, ends.2, ?_, ?_⟩
        · exact fun ε' S' σ' H' q st' a2 => ends.1 _ S' _ H' q st' ⟨st.trans st', a2.ev.forget i none, a2.br⟩
        · exact fun ε' S' σ' H' q st' a2 => ends.3 _ S' _ H' q st' ⟨st.trans st', a2.ev.forget i none, a2.br⟩
        · exact fun ε' S' σ' H' q st' a2 => ends.4 _ S' _ H' q st' ⟨st.trans st', a2.ev.forget i none, a2.br⟩
      · rw [if_neg (by rw [z]; exact Bool.false_ne_true)] at hx
        exact S.G.xok x S' cls od H' hx st br xr
set_option hygiene false in
local macro_rules | `(tactic| walk_at "sz") => `(tactic| first | (simp at hn ⊢; omega) | (simp at hn; omega))
set_option hygiene false in
local macro_rules | `(tactic| walk_at "spl") => `(tactic| simp only [Bool.and_eq_true, decide_eq_true_eq, Bool.not_eq_true'] at h)
theorem snd_S {n : Nat} (P : SndS n) (m : MS) (hn : sizeOf m < n + 1) (X : Cx) (C : Ctx) (T : Tab) (k : Nat) (S : GoodS X C T k) (st : Stmt) (h : ckS X.N m T X.env.scope st = true) : PS X st (LS X.K C (wS m C.Γ C.xw)) := by
  unfold ckS at h
  split at h
  · exact ps_pass.imp lift_skip
  · unfold docB at h
    split at h
    · exact ps_doc.imp lift_skip
    · cases h
  · walk_at "spl"
    exact s_set S h.1.1 h.1.2 h.2
  · walk_at "spl"
    obtain ⟨⟨⟨hot, h1⟩, h2⟩, h3⟩ := h
    obtain ⟨g1, g2, g3⟩ := ckNms_pg S.G (fun _ => S.top) h1
    exact (ps_asg (ok_E S.G h2) (pg_tup (S.G.calm hot) g1 g2 g3) sole_tup (swapped_no h3 (ckNms_names h1)) rfl).imp (lift_asg (asg := asgD (.tp _)) (fun _ _ _ z => z) (hg_of _))
  · rename_i is es T' sc ts kt tp vs kv vp pos
    walk_at "spl"
    obtain ⟨⟨hot, h1⟩, h2⟩ := h
    unfold par2 at h1
    split at h1
    · simp only [Bool.and_eq_true, decide_eq_true_eq, Bool.not_eq_true'] at h1
      obtain ⟨⟨⟨⟨⟨⟨⟨⟨⟨⟨a1, a2⟩, a3⟩, a4⟩, a5⟩, a6⟩, a7⟩, a8⟩, a9⟩, a10⟩, a11⟩ := h1
      exact (ps_par (S.G.calm hot) S.G.nd a1 a2 a3 a5 a6 (ok_A S.G h2) (swapped2 S a5 a6 a4 a7 a8 a9 a10 a11) sole_tup).imp lift_par2
    · simp only [Bool.and_eq_true, decide_eq_true_eq, Bool.not_eq_true'] at h1
      obtain ⟨⟨⟨⟨⟨⟨⟨⟨⟨⟨⟨⟨⟨⟨⟨⟨⟨⟨a1, a2⟩, a3⟩, a4⟩, a5⟩, a6⟩, a7⟩, a8⟩, a9⟩, a10⟩, a11⟩, a12⟩, a13⟩, a14⟩, a15⟩, a16⟩, a17⟩, a18⟩, a19⟩ := h1
      exact (ps_par3 (S.G.calm hot) S.G.nd a1 a2 a3 a4 a5 a6 a10 a11 a12 (ok_A S.G h2) (swapped3 S a10 a11 a12 a7 a8 a9 a13 a14 a15 a16 a17 a18 a19) sole_tup).imp lift_par3
    · cases h1
  · rename_i y _ e _
    walk_at "spl"
    obtain ⟨⟨⟨h1, h2⟩, h3⟩, h4⟩ := h
    refine (ps_asg (ok_E S.G h3) (pg_sub (ok_E S.G h1) (ok_E S.G h2) (or_set S.G.u1) ?_) sole_sub ?_ rfl).imp lift_sub
    · intro v
      cases y <;> first | rfl | (exact nomatch h4)
    · cases e <;> rfl
  · walk_at "spl"
    exact (ps_expr (ok_E S.G h.1) (swaps_no h.2)).imp lift_expr
  · exact (ps_ret (ok_E S.G h)).imp lift_ret
  · refine ps_retN.imp ?_
    rintro D σ H ⟨ε, S, k, at', hm, ends⟩
    exact ends.rt _ _ _ _ hm Stp.refl .non at'.br
  · walk_at "spl"
    exact (ps_if (ok_T S.G h.1.1) (P.B _ (by walk_at "sz") _ _ _ _ S _ h.1.2) (P.B _ (by walk_at "sz") _ _ _ _ S _ h.2)).imp lift_if
  · walk_at "spl"
    obtain ⟨⟨⟨⟨hot, h1⟩, h2⟩, h3⟩, h4⟩ := h
    exact (ps_for S.own (S.G.calm hot) (ok_I S.G h2) (ckG_pg S.G (fun _ => S.top) h1) (P.B _ (by walk_at "sz") _ _ _ _ S _ h3) (fold_id h4)).imp (lift_for (hg_of _))
  · walk_at "spl"
    exact (ps_while S.own (ok_T S.G h.1) (P.B _ (by walk_at "sz") _ _ _ _ S _ h.2)).imp lift_while
  · refine ps_break.imp ?_
    rintro D σ H ⟨ε, S, k, at', hm, ends⟩
    exact ends.bk _ _ _ _ hm Stp.refl at'
  · refine ps_continue.imp ?_
    rintro D σ H ⟨ε, S, k, at', hm, ends⟩
    exact ends.ct _ _ _ _ hm Stp.refl at'
  · simp only [Bool.and_eq_true, decide_eq_true_eq, Bool.not_eq_true'] at h
    obtain ⟨⟨⟨⟨h1, rfl⟩, h3⟩, h4⟩, h5⟩ := h
    exact s_rais S h1 h3 h4 h5
  · walk_at "spl"
    obtain ⟨⟨⟨⟨⟨⟨⟨h1, rfl⟩, h3⟩, h4⟩, h5⟩, h6⟩, h7⟩, h8⟩ := h
    exact s_try P S h1 (by walk_at "sz") (by walk_at "sz") h3 h4 h5 h6 h7 h8
  · cases h
theorem snd_B {n : Nat} (P : SndS n) (m : MS) (hn : sizeOf m < n + 1) (X : Cx) (C : Ctx) (T : Tab) (k : Nat) (S : GoodS X C T k) (sts : List Stmt) (h : ckSs X.N m T X.env.scope sts = true) : PSs X sts (LS X.K C (wS m C.Γ C.xw)) := by
  unfold ckSs at h
  split at h
  · exact pss_nil.imp lift_skip
  · walk_at "spl"
    exact (pss_cons (P.S _ (by walk_at "sz") _ _ _ _ S _ h.1) (P.B _ (by walk_at "sz") _ _ _ _ S _ h.2)).imp (lift_seq (a := wS _ C.Γ C.xw) (b := wS _ C.Γ C.xw))
  · cases h
theorem snd_allS : ∀ n, SndS n
  | 0 => ⟨fun _ z => absurd z (Nat.not_lt_zero _), fun _ z => absurd z (Nat.not_lt_zero _)⟩
  | n + 1 => ⟨snd_S (snd_allS n), snd_B (snd_allS n)⟩
theorem ok_B (S : GoodS X C T k) {m : MS} {sts : List Stmt} (h : ckSs X.N m T X.env.scope sts = true) : PSs X sts (LS X.K C (wS m C.Γ C.xw)) := (snd_allS _).B m (Nat.lt_succ_self _) X C T k S sts h
end
end Bay

set_option Elab.async false
set_option linter.all false
set_option maxRecDepth 100000
namespace Bay
open PySem PySem.Spec PyProof.Rows L2

/-! ### defs -/
/-- what is no more needed is forgotten -/
def Sub (S' S : Sto) : Prop := ∀ a o, S' a = some o → S a = some o
theorem Sub.refl (S : Sto) : Sub S S := fun _ _ h => h
theorem Sub.trans {A B C : Sto} (h : Sub A B) (g : Sub B C) : Sub A C := fun a o e => g a o (h a o e)
def fwd (Q : QD) : QD := fun d S => ∃ S', Sub S' S ∧ Q d S'
def fwdX (X : QX) : QX := fun x S => ∃ S', Sub S' S ∧ X x S'
/-- the data of the names at the entry -/
def ent (n : Nat) (ds : List D) : Ev := ds.map some ++ List.replicate (n - ds.length) none
/-- a def's body, from its entry -/
def wD (m : MS) (Γ : Sig) (n : Nat) (ds : List D) (S : Sto) (Q : QD) (X : QX) : Prop := wS m Γ (fwdX X) { nx := fun _ S => fwd Q .non S, rt := fwd Q } (ent n ds) S
/-- the module, its defs of level k -/
structure ModG (P : Program) (w : World) (K : PySem.W.Frag) (mg : Str → Option Value) (base : Heap) (cl : Str → Value) (Γ : Sig) (T : Tab) (k : Nat) : Prop where
  hot : T.hot = false
  xa : Γ.xa = none
  pos : 1 ≤ k
  fn : ∀ (i : Nat) (x : Str), T.fns[i]? = some x → ∃ f fd ps, mg x = some (.ref f) ∧ PySem.W.keepIn K (.ref f) = true ∧ L2.Binds K fd ps [] ∧ FnG P w K mg base k f fd ps (LF K cl (Γ.ar i) (Γ.fn i)) ∧ ∀ ks perm, (i, ks, perm) ∈ T.kws → KB fd ps ks perm
  cg : ∀ (i : Nat) (x : Str), T.cgs[i]? = some x → ∃ u v, mg x = some u ∧ RelV v u ∧ ∀ H, Rp K H v (Γ.cg i)
  blt : ∀ x ∈ bltNames, mg x = none
  exk : ∀ c ∈ Γ.exs, ExK P K mg cl c.1 c.2
  cat : ∀ y ∈ T.cat, mg y = some (cl y) ∧ (∃ b, cl y = .ref b) ∧ ∀ c ∈ Γ.exs, PySem.W.exmOne K (cl c.1) (cl y) = some (Γ.sub c.1 y) ∧ PySem.W.kitOne K (cl c.1) (cl y) = some (Γ.sub c.1 y)
section
variable {P : Program} {w : World} {K : PySem.W.Frag} {mg : Str → Option Value} {base : Heap} {cl : Str → Value} {Γ : Sig} {T : Tab} {k : Nat}
theorem ModG.mono {k' : Nat} (M : ModG P w K mg base cl Γ T k) (h : k ≤ k') : ModG P w K mg base cl Γ T k' :=
  { M with
    pos := Nat.le_trans M.pos h
    fn := fun i x e => let ⟨f, fd, ps, a, b, c, d, q⟩ := M.fn i x e; ⟨f, fd, ps, a, b, c, d.mono h, q⟩ }
theorem ent_ev {H : Hp} {N : List Str} {vs : List V} {ds : List D} (r : RpL K H vs ds) : EvR K H (L2.start N vs) (ent N.length ds) := by
  have hl := r.length
  refine ⟨by simp [L2.start, ent, hl], fun i d e => ?_⟩
  unfold ent at e
  by_cases hi : i < ds.length
  · rw [List.getElem?_append_left (by simpa using hi), List.getElem?_map] at e
    cases hd : ds[i]? with
    | none => rw [hd] at e; cases e
    | some d' =>
      rw [hd] at e
      cases e
      obtain ⟨v, hv, rv⟩ := r.get hd
      refine ⟨v, ?_, rv⟩
      unfold L2.start
      rw [List.getElem?_append_left (by simpa [hl] using hi), List.getElem?_map, hv]
      rfl
  · rw [List.getElem?_append_right (by simpa using Nat.le_of_not_lt hi), List.getElem?_replicate] at e
    split at e <;> cases e
theorem def_ok {x qual : Str} {st : Stmt} {f : Addr} {fd : FuncData} {N ps : List Str} {m : MS} {sp : FnD} (M : ModG P w K mg base cl Γ T k) (F : L2.Fun K x qual st f fd) (S : L2.FnScope N ps (defScope st)) (hck : ckSs N m T (defScope st) (defBody st) = true)
    (hsp : ∀ ds S Q X, sp ds S Q X → ds.length = ps.length → wD m Γ N.length ds S Q X) : FnG P w K mg base (k + 1) f fd ps (LF K cl ps.length sp) := by
  refine fnG_of F S (fun vs H Q E h => h.1) fun cdv A out s H vs Q E hr hgd ⟨hl, ds, S0, Q0, X0, r, br, q, fol, xfol⟩ => ?_
  refine ⟨LS K { Γ := Γ, xw := fwdX X0, E := E, H0 := H, S0 := S0, cl := cl } (wS m Γ (fwdX X0)), ?_, ?_⟩
  · refine ok_B (X := cxOf (L2.CX P w) P w K mg base N qual (defScope st) f cdv A out s H E) (C := { Γ := Γ, xw := fwdX X0, E := E, H0 := H, S0 := S0, cl := cl }) (T := T) (k := k) ⟨{
      calm := fun _ => rfl
      nd := S.nd
      room := fun _ => hr
      pos := M.pos
      un := by have := hr.un; show (A.deeper _).units + 65 < cLine; omega
      grd := hgd
      fn := M.fn
      cg := M.cg
      blt := M.blt
      tk := takes_of rfl rfl rfl rfl
      xok := fun x S' c od H' ⟨S2, sub, q2⟩ st b xr => xfol x S2 c od H' q2 (st.sub sub) (b.sub sub) xr
      exk := M.exk
      cat := M.cat
      xa0 := fun _ => M.xa
      xf := fun _ _ _ _ z => by rw [show Γ.xa = none from M.xa] at z; cases z
      xis := fun _ _ _ z => by rw [show Γ.xa = none from M.xa] at z; cases z }, fun _ => rfl, S.kind, passes_of rfl, rfl, rfl⟩ hck
  · refine ⟨ent N.length ds, S0, _, ⟨Stp.refl, ent_ev r, br⟩, hsp ds S0 Q0 X0 q (by rw [← r.length]; exact hl), ?_, ?_, fun _ _ _ _ z => z.elim, fun _ _ _ _ z => z.elim⟩
    · rintro ε S' σ' H' ⟨S2, sub, q2⟩ st at'
      exact fol .non S2 .non H' q2 (st.sub sub) .non (at'.br.sub sub)
    · rintro d S' v H' ⟨S2, sub, q2⟩ st r b
      exact fol d S2 v H' q2 (st.sub sub) r (b.sub sub)
/-- one more def -/
theorem ModG.add {x : Str} {f : Addr} {fd : FuncData} {ps : List Str} {i : Nat} {names : List Str} (M : ModG P w K mg base cl Γ { T with fns := names.take i } k) (hi : names[i]? = some x) (h1 : mg x = some (.ref f)) (h2 : PySem.W.keepIn K (.ref f) = true) (h3 : L2.Binds K fd ps [])
    (h4 : ∀ ks perm, (i, ks, perm) ∈ T.kws → KB fd ps ks perm) (F : FnG P w K mg base (k + 1) f fd ps (LF K cl (Γ.ar i) (Γ.fn i))) : ModG P w K mg base cl Γ { T with fns := names.take (i + 1) } (k + 1) :=
  { M.mono (Nat.le_succ k) with
    fn := fun j y e => by
      have e' : (names.take (i + 1))[j]? = some y := e
      by_cases hj : j = i
      · subst hj
        rw [List.getElem?_take, if_pos (Nat.lt_succ_self _), hi] at e'
        cases e'
        exact ⟨f, fd, ps, h1, h2, h3, F, h4⟩
      · refine (M.mono (Nat.le_succ k)).fn j y ?_
        show (names.take i)[j]? = some y
        rw [List.getElem?_take] at e' ⊢
        split at e'
        · rw [if_pos (by omega)]; exact e'
        · cases e' }
end
end Bay

set_option Elab.async false
set_option linter.all false
set_option maxRecDepth 100000
set_option maxHeartbeats 4000000
namespace Bay
open PySem PySem.Spec PyProof.Rows L2
section
variable {X : Cx} {C : Addr} {self : Str} {x : Str} {k : Nat} {p pos : Pos}
theorem mk_of {pins : List (Addr × Obj)} {σ : L2.St} {H1 : Hp} {Q : XK} {hp h2 : Heap} {g : Array GenState} {d : Drawn} {t t2 : Nat} {os : OsState} {a : Addr} {oe : Obj} {od : Option Addr} {vs : Array Value} {cls : Value} (I1 : Inv X pins σ H1 ⟨hp, g, d, t, os⟩) (T : Raises X cls) (ha : hp.objs.size ≤ a) (k : ∀ b o, b ≠ a → hp.get? b = some o → h2.get? b = some o)
    (he : h2.get? a = some oe) (hz : Zc cls od oe) (hd : oe.data = .fields vs) (hv : vs[1]? = some .none) (q : (od = none ∧ Q cls none H1) ∨ ∃ dx fs mA, od = some dx ∧ hp.objs.size ≤ dx ∧ dx ≠ a ∧ h2.Ns1 dx mA ∧ (∀ f, RelO (fs.lookup f) (mA f)) ∧ Q cls (some dx) (upd H1 dx (.xd fs))) :
    MkP X pins σ Q (.ref a) ⟨h2, g, d, t2, os⟩ := by
  have hn : H1 a = none := I1.hok.fresh ha
  obtain ⟨G, g1, g2'⟩ := restrict h2 fun b => decide (b ≠ a)
  have gk : ∀ b, b ≠ a → G.get? b = h2.get? b := fun b hb => g1 b (decide_eq_true hb)
  have ge : G.get? a = none := g2' a (by simp)
  have nha : ∀ {b : Addr} {o : Obj}, hp.get? b = some o → b ≠ a := fun {b o} z => Nat.ne_of_lt (Nat.lt_of_lt_of_le (Heap.lt_size z) ha)
  have kG : ∀ b o, hp.get? b = some o → G.get? b = some o := fun b o z => by rw [gk b (nha z)]; exact k b o (nha z) z
  have up : ∀ b o, G.get? b = some o → h2.get? b = some o := fun b o z => by
    by_cases hb : b = a
    · rw [hb, ge] at z; cases z
    · rw [← gk b hb]; exact z
  rcases q with ⟨rfl, q⟩ | ⟨dx, fs, mA, rfl, hdx, nda, hns, rel, q⟩
  · exact ⟨a, oe, vs, ⟨G, g, d, t2, os⟩, H1, cls, none, rfl, I1.kept (t' := t2) kG, up, ge, he, hz, hd, hv, hn, rfl, I1.bare, T, q⟩
  · have nsG : G.Ns1 dx mA := hns.at fun o y => (gk dx nda).trans y
    have new : ObjOk X.prog X.w (upd H1 dx (.xd fs)) G dx (.xd fs) := ⟨mA, nsG, rel⟩
    exact ⟨a, oe, vs, ⟨G, g, d, t2, os⟩, _, cls, some dx, rfl, I1.laid (t' := t2) kG hdx new, up, ge, he, hz, hd, hv, by rw [upd_ne (Ne.symm nda)]; exact hn, rfl, I1.bare, T, q⟩
theorem mk_none (T : PySem.BayX.ExI X.prog X.K C self none) (ms : X.mg "super" = none) (hc : X.calm = true) (hr : Room (k + 1) X.A) (hg : Gl X x) (hm : X.mg x = some (.ref C)) (hdb : (x == ("__debug__" : Str)) = false) : PMk X (.Call (.Name x p) [] [] pos) fun _ H Q => Q (.ref C) none H := by
  intro pins s σ H Q I h
  obtain ⟨nm, q, N, bs, bm, sn, sub, ab, col, dd, k0, k1, k2, k3, k5, hC, hbm⟩ := T.ox.cls
  obtain ⟨fI, iC, tI, run⟩ := PySem.BayX.init_run0 T I.ok.mod ms
  refine wpAny_Call_Name_kw (ld_glob I hg hm ?_ hdb)
  refine PySem.W.callWith_K0 I.kIn T.ox.kC ?_
  show wpAny _ _ (call (.ref C) []) _ _ _
  obtain ⟨hp, g, dr, tk, os⟩ := s
  have hget : ((hp.push (PySem.W.kdv_tup [])).push (PySem.HandSPX.excO C hp.objs.size)).get? (hp.objs.size + 1) = some (PySem.HandSPX.excO C hp.objs.size) := by heap_get
  have kk : ∀ b o, hp.get? b = some o → ((hp.push (PySem.W.kdv_tup [])).push (PySem.HandSPX.excO C hp.objs.size)).get? b = some o := fun b o e => Heap.get?_push_of_some _ (Heap.get?_push_of_some _ e)
  refine wpAny_call (PySem.HandSPX.call_own F.excBase_ValueError (fun Y => PySem.HandSPX.refsVE_contains Y bm hbm) (I.kIn _ _ hC) (PySem.W.looks_findIn I.kIn iC) (fun self => PySem.W.bind_fn I.kIn self tI) (Nat.zero_le _)
    (run (fun b o z => kk b o (I.bk b o z)) hget (by have := (hr.make C [] []).dp; omega) fun h' t' t1 k' e' => ?_))
  exact ⟨rfl, mk_of I (raises_own T.ox.exC T.ox.tyC) (Nat.le_succ _) (fun b o nb z => k' b o nb (kk b o z)) e' ⟨rfl, rfl⟩ rfl rfl (.inl ⟨rfl, h⟩)⟩
theorem mk_one {gv f : Str} {e : Expr} {te : TE} (T : PySem.BayX.ExI X.prog X.K C self (some (gv, f))) (ms : X.mg "super" = none) (hc : X.calm = true) (hr : Room (k + 1) X.A) (hg : Gl X x) (hm : X.mg x = some (.ref C)) (hdb : (x == ("__debug__" : Str)) = false) (hs : starB e = false) (he : PE X e te) :
    PMk X (.Call (.Name x p) [e] [] pos) fun σ H Q => te σ H fun v H1 => ∀ d, H1 d = none → Q (.ref C) (some d) (upd H1 d (.xd [(f, v)])) := by
  intro pins s σ H Q I h
  obtain ⟨nm, q, N, bs, bm, sn, sub, ab, col, dd, k0, k1, k2, k3, k5, hC, hbm⟩ := T.ox.cls
  obtain ⟨fI, iC, tI, run⟩ := PySem.BayX.init_run1 T I.ok.mod ms
  refine wpAny_Call_Name_kw (ld_glob I hg hm ?_ hdb)
  have sp : wpAny (model X.prog X.w) X.A (spliced (backTo pos (starEach [e] X.env))) (fun us s1 => ∃ u v H1, us = [u] ∧ RelV v u ∧ Inv X pins σ H1 s1 ∧ ∀ d, H1 d = none → Q (.ref C) (some d) (upd H1 d (.xd [(f, v)]))) X.xe s := by
    rw [star_cons hs]
    exact Calls.spliced_cons (thn (he.run pins s σ H _ I h) fun u s1 ⟨v, H1, I1, ru, q1⟩ => Calls.spliced_nil ⟨u, v, H1, rfl, ru, I1, q1⟩)
  refine PySem.W.callWith_K (h₀ := X.base) I.ok.mod.kin T.ox.kC (thn sp fun us s1 ⟨u, v, H1, eu, ru, I1, q1⟩ => ⟨I1.kIn, ?_⟩) (star_cons hs) rfl
  · show wpAny _ _ (call (.ref C) us) _ _ _
    subst eu
    obtain ⟨hp, g, dr, tk, os⟩ := s1
    have hget : ((hp.push (PySem.W.kdv_tup [u])).push (PySem.HandSPX.excO C hp.objs.size)).get? (hp.objs.size + 1) = some (PySem.HandSPX.excO C hp.objs.size) := by heap_get
    have kk : ∀ b o, hp.get? b = some o → ((hp.push (PySem.W.kdv_tup [u])).push (PySem.HandSPX.excO C hp.objs.size)).get? b = some o := fun b o e => Heap.get?_push_of_some _ (Heap.get?_push_of_some _ e)
    have hbe : X.base.get? (hp.objs.size + 1) = none := by
      cases z : X.base.get? (hp.objs.size + 1) with
      | none => rfl
      | some o =>
        have := Heap.lt_size (I1.bk _ _ z)
        exact absurd this (by show ¬ hp.objs.size + 1 < hp.objs.size; omega)
    refine wpAny_call (PySem.HandSPX.call_own F.excBase_ValueError (fun Y => PySem.HandSPX.refsVE_contains Y bm hbm) (I1.kIn _ _ hC) (PySem.W.looks_findIn I1.kIn iC) (fun self => PySem.W.bind_fn I1.kIn self tI) (by show 1 ≤ sizeLine; decide)
      (run (fun b o z => kk b o (I1.bk b o z)) hbe hget (by have := (hr.make C [u] []).dp; omega) fun h' t' t1 dx k' dn dne e' hns => ?_))
    have hsz : hp.objs.size ≤ ((hp.push (PySem.W.kdv_tup [u])).push (PySem.HandSPX.excO C hp.objs.size)).objs.size := by rw [Heap.size_push, Heap.size_push]; omega
    have hdx : hp.objs.size ≤ dx := Nat.le_trans hsz dn
    refine ⟨rfl, mk_of I1 (raises_own T.ox.exC T.ox.tyC) (Nat.le_succ _) (fun b o nb z => k' b o nb (kk b o z)) e' ⟨rfl, rfl⟩ rfl rfl (.inr ⟨dx, _, _, rfl, hdx, dne, hns, fun y => ?_, q1 dx (I1.hok.fresh hdx)⟩)⟩
    exact relO_put (fs := []) (mA := fun _ => none) ru (fun _ => True.intro) y
end
/-- an own class of exceptions, from the facts of the written part -/
theorem exk_none {K : PySem.W.Frag} {mg : Str → Option Value} {cl : Str → Value} {x sf : Str} {C : Addr} {prog : Program} (hm : mg x = some (.ref C)) (hc : cl x = .ref C) (ms : mg "super" = none) (T : PySem.BayX.ExI prog K C sf none) (hx : L2.XfC K C) (hb : PySem.W.BayIs K C) : ExK prog K mg cl x none where
  mgx := by rw [hm, hc]
  xfc := ⟨C, hc, hx, hb, fun g z => nomatch z⟩
  made := fun X k eP eK em hcl hr hk hg hd => by
    subst eP eK em
    obtain ⟨k, rfl⟩ : ∃ j, k = j + 1 := ⟨k - 1, by omega⟩
    exact ⟨fun _ p pos => by rw [hc]; exact mk_none T ms hcl hr hg hm hd, fun g z => by cases z⟩
theorem exk_one {K : PySem.W.Frag} {mg : Str → Option Value} {cl : Str → Value} {x sf gv f : Str} {C : Addr} {prog : Program} (hm : mg x = some (.ref C)) (hc : cl x = .ref C) (ms : mg "super" = none) (T : PySem.BayX.ExI prog K C sf (some (gv, f))) (hx : L2.XfC K C) (hb : PySem.W.BayIs K C) (hf : PySem.W.findIn K (.ref C) f = some none) : ExK prog K mg cl x (some f) where
  mgx := by rw [hm, hc]
  xfc := ⟨C, hc, hx, hb, fun g z => by cases z; exact hf⟩
  made := fun X k eP eK em hcl hr hk hg hd => by
    subst eP eK em
    obtain ⟨k, rfl⟩ : ∃ j, k = j + 1 := ⟨k - 1, by omega⟩
    refine ⟨fun z => (by cases z), fun g z e te p pos hs he => ?_⟩
    cases z; rw [hc]; exact mk_one T ms hcl hr hg hm hd hs he
end Bay

set_option Elab.async false
set_option linter.all false
set_option maxRecDepth 100000
namespace Bay
open PySem PySem.Spec PyProof.Rows L2

/-! ### the law's def is called with the script -/
/-- the law's promise, in data: it comes to True, raises nothing -/
def Kept (n : Nat) (sp : FnD) : Prop := ∀ ns : List Int, ns.length ≤ n → sp [.rol (ns.map .int)] (fun _ => none) (fun d _ => d = .bl true) XF
theorem kept_lf {K : PySem.W.Frag} {cl : Str → Value} {n : Nat} {sp : FnD} (h : Kept n sp) {H : Hp} {a : Addr} {ns : List Int} (hl : ns.length ≤ n) (hS : FzL K H a (ns.map V.int)) : LF K cl 1 sp [.ref a] H (fun v _ => v = .bl true) fun _ _ _ => False := by
  refine ⟨rfl, [.rol (ns.map .int)], fun _ => none, _, XF, .cons (.rol hS RpL.ints) .nil, fun a o e => (nomatch e), h ns hl, fun d S' v H' q _ r _ => ?_, fun x S' c od H' q => q.elim⟩
  subst q
  exact r.bl_inv
section
variable {P : Program} {w : World} {K : PySem.W.Frag} {mg mb : Str → Option Value} {k : Nat} {fa a : Addr} {n : Nat} {sp : FnD} {s : Shared} {vs : List Value} {ns : List Int}
/-- the law's def keeps its promise -/
def Told (P : Program) (w : World) (K : PySem.W.Frag) (mg : Str → Option Value) (base : Heap) (k : Nat) (fa : Addr) (sp : FnD) : Prop := ∃ fd ps cl, L2.Binds K fd ps [] ∧ FnG P w K mg base k fa fd ps (LF K cl 1 sp)
abbrev ended (s : Shared) : Result → Shared → Prop := fun r s' => r = .ok (.ret (.bool true)) ∧ OldK s.heap s'.heap ∧ s'.os = s.os ∧ AllBare s'.gens
/-- H tells of nothing but (at most) the script -/
theorem law_at (KX : K.In s.heap) (hn : s.heap.Ns mainGlobals mg) (hb : s.heap.Ns builtinsNs mb) (hbb : ∀ x : Str, x ≠ "__name__" → mb x = bootBuiltins x) (hlim : s.heap.NoLimit) (hg : s.gens = #[])
    (ha : s.heap.get? a = some { cls := .type "list", data := .seq vs.toArray }) (hr : Room k callerA) (F : ∀ base : Heap, K.In base → base.Ns mainGlobals mg → Told P w K mg base k fa sp)
    {H : Hp} (hO : ∀ b u, H b = some u → b = a ∧ K.lookup a = none ∧ ∃ o xs, u = .frz o (.lst xs)) (hok : HOk P w H s.heap)
    (hsp : ∀ cl, LF K cl 1 sp [.ref a] H (fun v _ => v = .bl true) fun _ _ _ => False) : codeAny (model P w) callerA (.call (.ref fa) ⟨[.ref a], []⟩) (ended s) s := by
  have free : ∀ {b : Addr} {o : Obj}, s.heap.get? b = some o → (b = a → False) → H b = none := fun {b o} e nb => by
    cases q : H b with
    | none => rfl
    | some u => exact (nb (hO b u q).1).elim
  have dict_ne : ∀ {b : Addr} {o : Obj} {es : Array DictEntry} {ep : Nat}, s.heap.get? b = some o → o.data = .dict es ep → H b = none := fun {b o es ep} e z => free e fun eb => by
    subst eb; rw [ha] at e; cases e; cases (show Data.seq vs.toArray _ = Data.dict es ep from z)
  have ns_of : ∀ {b : Addr} {m : Str → Option Value}, s.heap.Ns b m → (hidT s.heap H).Ns b m := fun {b m} ⟨o, es, ep, e, z, r⟩ => ⟨o, es, ep, hidT_get e (dict_ne e z), z, r⟩
  have kb : K.In (hidT s.heap H) := fun b o e => hidT_get (KX b o e) (by
    cases q : H b with
    | none => rfl
    | some u => obtain ⟨e1, e2, _⟩ := hO b u q; subst e1; rw [e2] at e; cases e)
  have md : Mod K mg (hidT s.heap H) := ⟨kb, ns_of hn, ⟨mb, ns_of hb, hbb⟩, let ⟨mc, h1, h2⟩ := hlim; ⟨mc, ns_of h1, h2⟩⟩
  have env : Env0 P w K mg (hidT s.heap H) callerA [] s H := { frames := rfl, mod := md, bs := fun b o e => of_hidT e, bsz := Nat.le_of_eq (hidT_size _ _), funs := trivial, frf := fun b z => absurd (show b ∈ ([] : List Addr) from z) (by simp), hok := hok, bare := .of_eq hg }
  obtain ⟨fd, ps, cl, hbd, FG⟩ := F _ kb (ns_of hn)
  have hl1 := FG.len _ _ _ _ (hsp cl)
  have hb1 := hbd s [.ref a] KX (by simpa using hl1)
  rw [List.append_nil] at hb1
  refine codeAny_mono (FG.go callerA [] s H ⟨[.ref a], []⟩ [.ref a] [.ref a] _ _ hr rfl env hb1 (.cons rfl .nil) (hsp cl)) fun r s' h => ?_
  match r, h with
  | .error e, h =>
    obtain ⟨_, _, _, _, _, _, _, _, _, _, _, _, z⟩ := h
    exact z.elim
  | .ok .next, h => exact h.elim
  | .ok .brk, h => exact h.elim
  | .ok .cont, h => exact h.elim
  | .ok (.ret u), ⟨v, H', os, bare, un, hok', rv, q⟩ =>
    have q' : v = .bl true := q
    subst q'
    obtain rfl : u = Value.bool true := rv
    refine ⟨rfl, OldK.of_keep fun b o e => ?_, os, bare⟩
    cases z : H b with
    | none => exact un.keep b o e z (fun y => absurd (show b ∈ ([] : List Addr) from y) (by simp)) (by simp)
    | some u =>
      obtain ⟨_, _, ob, xs, rfl⟩ := hO b u z
      obtain ⟨e1, _⟩ := hok b _ z
      obtain ⟨e2, _⟩ := hok' b _ (un.frzs b ob _ z)
      rw [e] at e1; cases e1; exact e2
theorem law_goes (KX : K.In s.heap) (hn : s.heap.Ns mainGlobals mg) (hb : s.heap.Ns builtinsNs mb) (hbb : ∀ x : Str, x ≠ "__name__" → mb x = bootBuiltins x) (hlim : s.heap.NoLimit) (hg : s.gens = #[])
    (ha : s.heap.get? a = some { cls := .type "list", data := .seq vs.toArray }) (hi : IntsAre vs ns) (hl : ns.length ≤ sizeLine) (hr : Room k callerA) (F : ∀ base : Heap, K.In base → base.Ns mainGlobals mg → Told P w K mg base k fa sp)
    (hsp : ∀ cl (H : Hp), FzL K H a (ns.map V.int) → LF K cl 1 sp [.ref a] H (fun v _ => v = .bl true) fun _ _ _ => False) : codeAny (model P w) callerA (.call (.ref fa) ⟨[.ref a], []⟩) (ended s) s := by
  have rv := vals_ints hi
  cases hk : K.lookup a with
  | some o =>
    have e := KX a o hk
    rw [ha] at e; cases e
    exact law_at (H := fun _ => none) KX hn hb hbb hlim hg ha hr F (fun b u z => nomatch z) (fun b u z => nomatch z) (fun cl => hsp cl _ (.inr ⟨_, vs.toArray, _, hk, rfl, rfl, rfl, by rw [List.size_toArray, hi.length]; exact hl, by simpa using rv⟩))
  | none =>
    have self : ∀ b u, (if b = a then some (HO.frz { cls := .type "list", data := .seq vs.toArray } (.lst (ns.map V.int))) else none) = some u → b = a ∧ u = .frz { cls := .type "list", data := .seq vs.toArray } (.lst (ns.map V.int)) := fun b u z => by
      by_cases hb : b = a
      · rw [if_pos hb] at z; cases z; exact ⟨hb, rfl⟩
      · rw [if_neg hb] at z; cases z
    refine law_at (H := fun b => if b = a then some (.frz { cls := .type "list", data := .seq vs.toArray } (.lst (ns.map V.int))) else none) KX hn hb hbb hlim hg ha hr F (fun b u z => ⟨(self b u z).1, hk, _, _, (self b u z).2⟩) (fun b u z => ?_) (fun cl => hsp cl _ (.inl ⟨_, if_pos rfl⟩))
    obtain ⟨rfl, rfl⟩ := self b u z
    exact ⟨ha, by rw [List.length_map]; exact hl, vs, _, rv, ha⟩
end
/-- the goal behind the head -/
theorem walk_bay {l : PySem.W.OpenLaw} {n k : Nat} {q : Program} {loose : List Str} {XP : (Str → Option Value) → Heap → Prop} {YP : World → Heap → Prop} {d : DefRec} {K : Params → PySem.W.Frag} {sp : FnD}
    (hn : l.most = some n) (hn2 : n ≤ sizeLine) (hdf : d.params.defaults = []) (hr : Room k callerA) (hY : ∀ (w : World) (h : Heap), YP w h → (K w.params).In h)
    (F : ∀ (w : World) (mg : Str → Option Value) (fa : Addr) (h : Heap), (K w.params).In h → h.Ns mainGlobals mg → mg d.name = some (.ref fa) → ∀ base : Heap, (K w.params).In base → base.Ns mainGlobals mg → Told l.prog w (K w.params) mg base k fa sp)
    (hsp : Kept n sp) : PySem.W.WalkO q loose XP YP l.row.toRowW d [] (fun f vs => PySem.call f vs) := by
  refine Att.attach_call hn hdf fun w s₀ s₁ mg mb fa o pm cd doc a vs ns G Y ho hd hcd hmg hobj hints hlen hg => ?_
  exact law_goes (hY w _ Y) G.T.g G.T.b G.T.builtins G.T.nolimit hg hobj hints (Nat.le_trans hlen hn2) hr (F w mg fa _ (hY w _ Y) G.T.g hmg) fun cl H hS => kept_lf hsp hlen hS
/-! ### the module's defs, one after another -/
/-- where a def stands -/
structure DefIn (K : PySem.W.Frag) (x : Str) (st : Stmt) : Prop where
  ex : ∃ (f : Addr) (oc : Value) (od an : Option Addr) (kV dc pm cd ct : Value) (osl : Array (Option Value)), PySem.W.nsIn K mainGlobals x = some (some (.ref f)) ∧
    K.lookup f = some ⟨oc, od, .func (PySem.W.fnOf x x (defArgs st) (defBody st) (defScope st) .none kV dc pm an cd ct), osl⟩ ∧ PySem.W.codeIn K cd x = true ∧ PySem.W.keepIn K (.ref f) = true
theorem defIn_mk {K : PySem.W.Frag} {x : Str} {st : Stmt} {f : Addr} {oc : Value} {od an : Option Addr} {kV dc pm cd ct : Value} {osl : Array (Option Value)} (a : PySem.W.nsIn K mainGlobals x = some (some (.ref f)))
    (l : K.lookup f = some ⟨oc, od, .func (PySem.W.fnOf x x (defArgs st) (defBody st) (defScope st) .none kV dc pm an cd ct), osl⟩) (c : PySem.W.codeIn K cd x = true) (k : PySem.W.keepIn K (.ref f) = true) : DefIn K x st := ⟨f, oc, od, an, kV, dc, pm, cd, ct, osl, a, l, c, k⟩
/-- its parameters take what is given -/
def Takes1 (x : Str) (st : Stmt) (ps : List Str) : Prop := ∀ (kV dc pm : Value) (an : Option Addr) (cd ct : Value) (us : List Value), us.length = ps.length → bindArgs (PySem.W.fnOf x x (defArgs st) (defBody st) (defScope st) .none kV dc pm an cd ct) ⟨us, []⟩ = pure (ps.zip us)
def TakesK (x : Str) (st : Stmt) (ps ks : List Str) (perm : List Nat) : Prop := ∀ (kV dc pm : Value) (an : Option Addr) (cd ct : Value) (ws ws' : List Value), ws.length = ks.length → permL perm ws = some ws' → bindArgs (PySem.W.fnOf x x (defArgs st) (defBody st) (defScope st) .none kV dc pm an cd ct) ⟨[], ks.zip ws⟩ = pure (ps.zip ws')
section
variable {P : Program} {w : World} {K : PySem.W.Frag} {mg : Str → Option Value} {base h : Heap} {cl : Str → Value} {Γ : Sig} {T : Tab} {k i : Nat} {x : Str} {st : Stmt} {names N ps : List Str} {m : MS}
theorem ModG.step (M : ModG P w K mg base cl Γ { T with fns := names.take i } k) (D : DefIn K x st) (X : K.In h) (G : h.Ns mainGlobals mg) (hi : names[i]? = some x) (S : L2.FnScope N ps (defScope st)) (hck : ckSs N m { T with fns := names.take i } (defScope st) (defBody st) = true)
    (h1 : Takes1 x st ps) (h2 : ∀ ks perm, (i, ks, perm) ∈ T.kws → TakesK x st ps ks perm) (har : Γ.ar i = ps.length) (hsp : ∀ ds S Q X, Γ.fn i ds S Q X → ds.length = ps.length → wD m Γ N.length ds S Q X) : ModG P w K mg base cl Γ { T with fns := names.take (i + 1) } (k + 1) := by
  obtain ⟨f, oc, od, an, kV, dc, pm, cd, ct, osl, e1, e2, e3, e4⟩ := D.ex
  have F := L2.fun_mk (st := st) e2 e3 e4
  have hb := F.binds (ps := ps) h1
  refine M.add hi (PySem.W.mg_of X G e1) e4 hb (fun ks perm hk => ⟨fun s ws ws' hl hp => .of_eq (h2 ks perm hk kV dc pm an cd ct ws ws' hl hp)⟩) ?_
  rw [har]
  exact def_ok M F S hck hsp
/-- a level that is never reached -/
theorem ModG.stub (M : ModG P w K mg base cl Γ { T with fns := names.take i } k) (D : DefIn K x st) (X : K.In h) (G : h.Ns mainGlobals mg) (hi : names[i]? = some x)
    (h1 : Takes1 x st ps) (h2 : ∀ ks perm, (i, ks, perm) ∈ T.kws → TakesK x st ps ks perm) (hno : ∀ ds S Q X, ¬ Γ.fn i ds S Q X) : ModG P w K mg base cl Γ { T with fns := names.take (i + 1) } (k + 1) := by
  obtain ⟨f, oc, od, an, kV, dc, pm, cd, ct, osl, e1, e2, e3, e4⟩ := D.ex
  have F := L2.fun_mk (st := st) e2 e3 e4
  have hb := F.binds (ps := ps) h1
  refine M.add hi (PySem.W.mg_of X G e1) e4 hb (fun ks perm hk => ⟨fun s ws ws' hl hp => .of_eq (h2 ks perm hk kV dc pm an cd ct ws ws' hl hp)⟩) ⟨fun vs H Q E z => ?_, fun A out s H args us vs Q E _ _ _ _ _ z => ?_⟩
  · obtain ⟨_, ds, S, Q0, X0, _, _, q, _⟩ := z
    exact (hno _ _ _ _ q).elim
  · obtain ⟨_, ds, S, Q0, X0, _, _, q, _⟩ := z
    exact (hno _ _ _ _ q).elim
theorem ModG.told {fa : Addr} (M : ModG P w K mg base cl Γ T k) (hi : T.fns[i]? = some x) (hfa : mg x = some (.ref fa)) (har : Γ.ar i = 1) : Told P w K mg base k fa (Γ.fn i) := by
  obtain ⟨f, fd, ps, h1, h2, h3, h4, _⟩ := M.fn i x hi
  rw [hfa] at h1
  cases h1
  rw [har] at h4
  exact ⟨fd, ps, cl, h3, h4⟩
end
end Bay

set_option Elab.async false
set_option linter.all false
set_option maxRecDepth 100000
namespace Bay
open PySem PySem.Spec PyProof.Rows L2
/-! ### words for the proofs about defs -/
theorem fwd_of {Q : QD} {d : D} {S : Sto} (h : Q d S) : fwd Q d S := ⟨S, Sub.refl S, h⟩
theorem lc_pure {f : D → Sto → (Option D → Sto → Prop) → Prop} {g : Sto → Prop} {S : Sto} (hg : g S) (p : D → Bool) (h : D → D) {Q : List D → Sto → Prop} : ∀ {xs acc : List D}, (∀ x ∈ xs, ∀ K, (if p x = true then K (some (h x)) S else K none S) → f x S K) → acc.length + xs.length ≤ sizeLine → Q (acc ++ (xs.filter p).map h) S → lcGo f g acc xs S Q
  | [], acc, _, _, q => ⟨hg, by simpa using q⟩
  | x :: xs, acc, hf, hl, q => by
    rw [List.length_cons] at hl
    refine ⟨hg, hf x (List.mem_cons_self ..) _ ?_⟩
    have hf' : ∀ y ∈ xs, ∀ K, (if p y = true then K (some (h y)) S else K none S) → f y S K := fun y hy => hf y (List.mem_cons_of_mem _ hy)
    cases hp : p x with
    | true =>
      rw [if_pos rfl]
      refine ⟨by omega, lc_pure hg p h hf' (by simp; omega) ?_⟩
      rw [List.filter_cons, hp, if_pos rfl, List.map_cons] at q
      simpa using q
    | false =>
      rw [if_neg Bool.false_ne_true]
      refine lc_pure hg p h hf' (by omega) ?_
      rw [List.filter_cons, hp, if_neg Bool.false_ne_true] at q
      exact q
/-! ### steps -/
def iteS (k : Bool) (a b : Ev → Sto → Prop) (ε : Ev) (S : Sto) : Prop := if k = true then a ε S else b ε S
theorem iteS_t {a b : Ev → Sto → Prop} {ε : Ev} {S : Sto} : iteS true a b ε S = a ε S := rfl
theorem iteS_f {a b : Ev → Sto → Prop} {ε : Ev} {S : Sto} : iteS false a b ε S = b ε S := rfl
theorem iteS_of {k : Bool} {a b : Ev → Sto → Prop} {ε : Ev} {S : Sto} (h1 : k = true → a ε S) (h2 : k = false → b ε S) : iteS k a b ε S := by
  cases k
  · exact h2 rfl
  · exact h1 rfl
section
variable {Γ : Sig} {X : QX} {K : EK} {ε : Ev} {S : Sto} {a b h : MS} {e c o i : ME} {n : Nat} {is : List Nat} {es : MEs} {tg : MG} {it : MI}
theorem S_seq : wS (.seq a b) Γ X K ε S = wS a Γ X { K with nx := wS b Γ X K } ε S := rfl
theorem S_skip : wS .skip Γ X K ε S = K.nx ε S := rfl
theorem S_set : wS (.set n e) Γ X K ε S = wE Γ e X ε S fun d S1 => K.nx (ε.set n (some d)) S1 := rfl
theorem S_setT : wS (.setT is e) Γ X K ε S = wE Γ e X ε S fun d S1 => ∃ ε', asgD (.tp is) d ε = some ε' ∧ K.nx ε' S1 := rfl
theorem S_par : wS (.par is es) Γ X K ε S = wEs Γ es X ε S fun ds S1 => ds.length = is.length ∧ K.nx (setsE is ds ε) S1 := rfl
theorem S_sub : wS (.sub o i e) Γ X K ε S = wE Γ e X ε S fun v S1 => wE Γ o X ε S1 fun x S2 => wE Γ i X ε S2 fun y S3 => setD x y v S3 fun S4 => K.nx ε S4 := rfl
theorem S_expr : wS (.expr e) Γ X K ε S = wE Γ e X ε S fun _ S1 => K.nx ε S1 := rfl
theorem S_ret : wS (.ret e) Γ X K ε S = wE Γ e X ε S K.rt := rfl
theorem S_retN : wS .retN Γ X K ε S = K.rt .non S := rfl
theorem S_ite : wS (.ite c a b) Γ X K ε S = wE Γ c X ε S (tstD fun k S1 => iteS k (wS a Γ X K) (wS b Γ X K) ε S1) := rfl
theorem S_for : wS (.for_ tg it a) Γ X K ε S = wI Γ it X ε S fun xs g S1 => forGo (wS a Γ X) (asgD tg) (Stay g) xs K ε S1 := rfl
theorem S_brk : wS .brk Γ X K ε S = K.bk ε S := rfl
theorem S_cont : wS .cont Γ X K ε S = K.ct ε S := rfl
/-- a while, one turn -/
theorem S_whl : wS (.whl c a) Γ X K ε S = ∃ m, whGo (fun ε S Q => wE Γ c X ε S (tstD Q)) (wS a Γ X) m K ε S := rfl
theorem W_go {cc : Ev → Sto → (Bool → Sto → Prop) → Prop} {tb : EK → Ev → Sto → Prop} : whGo cc tb (n + 1) K ε S = cc ε S fun b S1 => iteS b (tb { nx := whGo cc tb n K, rt := K.rt, bk := K.nx, ct := whGo cc tb n K }) K.nx ε S1 := rfl
theorem T_bl {k : Bool} {Q : Bool → Sto → Prop} : tstD Q (.bl k) S = Q k S := rfl
variable {Q : QD} {d : D} {j m : Int}
theorem B_len : bltD .len [d] S Q = lenD d S fun n => Q (.int n) S := rfl
theorem B_abs : bltD .abs [.int j] S Q = Q (.int (if j < 0 then -j else j)) S := rfl
theorem B_int : bltD .int [.int j] S Q = Q (.int j) S := rfl
theorem B_intB {k : Bool} : bltD .int [.bl k] S Q = Q (.int (if k then 1 else 0)) S := rfl
theorem B_list : bltD .list [d] S Q = seqD d S fun xs => newL xs S Q := rfl
theorem B_tuple : bltD .tuple [d] S Q = tupD d S fun e => Q e S := rfl
theorem C_lt : cmpD .Lt (.int j) (.int m) S Q = Q (.bl (decide (j < m))) S := rfl
theorem C_le : cmpD .LtE (.int j) (.int m) S Q = Q (.bl (decide (j ≤ m))) S := rfl
theorem C_gt : cmpD .Gt (.int j) (.int m) S Q = Q (.bl (decide (m < j))) S := rfl
theorem C_ge : cmpD .GtE (.int j) (.int m) S Q = Q (.bl (decide (m ≤ j))) S := rfl
theorem C_eqI : cmpD .Eq (.int j) (.int m) S Q = Q (.bl (decide (j = m))) S := rfl
theorem C_neI : cmpD .NotEq (.int j) (.int m) S Q = Q (.bl (!decide (j = m))) S := rfl
theorem C_eqS {x y : Str} : cmpD .Eq (.str x) (.str y) S Q = Q (.bl (decide (x = y))) S := rfl
theorem C_neS {x y : Str} : cmpD .NotEq (.str x) (.str y) S Q = Q (.bl (!decide (x = y))) S := rfl
theorem A_int : addD (.int j) (.int m) S Q = Q (.int (j + m)) S := rfl
theorem U_int : subD (.int j) (.int m) S Q = Q (.int (j - m)) S := rfl
theorem M_int : mulD (.int j) (.int m) S Q = (CMul j m ∧ Q (.int (j * m)) S) := rfl
theorem F_int : fdvD (.int j) (.int m) S Q = (CDiv j m ∧ Q (.int (j / m)) S) := rfl
theorem O_int : modD (.int j) (.int m) S Q = (0 < m ∧ Q (.int (j % m)) S) := rfl
theorem P_int : powD (.int j) (.int m) S Q = (CPow j m ∧ Q (.int (j ^ m.toNat)) S) := rfl
theorem N_int : negD (.int j) S Q = Q (.int (-j)) S := rfl
/-! a list beside [] -/
theorem vw_ints : ∀ xs : List Int, VwL S (xs.map .int) (xs.map PyData.int)
  | [] => .nil
  | x :: xs => .cons (.int x) (vw_ints xs)
theorem vw_strs : ∀ xs : List Str, VwL S (xs.map .str) (xs.map PyData.str)
  | [] => .nil
  | x :: xs => .cons (.str x) (vw_strs xs)
theorem ne_nil {p r : Addr} {xs : List D} {ts : List PyData} (h1 : S p = some (.lst xs)) (h2 : S r = some (.lst [])) (hv : VwL S xs ts) (hs : SeqAt.shaped (.list ts) = true) (q : Q (.bl (!xs.isEmpty)) S) : cmpD .NotEq (.ref p) (.ref r) S Q := by
  refine ⟨.list ts, .list [], .lst h1 hv, .lst h2 .nil, hs, by decide, ?_⟩
  cases hv with
  | nil => exact q
  | cons _ _ => exact q
theorem eq_nil {p r : Addr} {xs : List D} {ts : List PyData} (h1 : S p = some (.lst xs)) (h2 : S r = some (.lst [])) (hv : VwL S xs ts) (hs : SeqAt.shaped (.list ts) = true) (q : Q (.bl xs.isEmpty) S) : cmpD .Eq (.ref p) (.ref r) S Q := by
  refine ⟨.list ts, .list [], .lst h1 hv, .lst h2 .nil, hs, by decide, ?_⟩
  cases hv with
  | nil => exact q
  | cons _ _ => exact q
theorem shaped_ints (xs : List Int) : SeqAt.shaped (.list (xs.map PyData.int)) = true := by
  have h1 : ∀ xs : List Int, PyData.canLayAll0 (xs.map PyData.int) = true := fun xs => by
    induction xs with
    | nil => rfl
    | cons x xs ih => show (true && PyData.canLayAll0 (xs.map PyData.int)) = true; rw [ih]; rfl
  have h2 : ∀ xs : List Int, PyData.depthAll (xs.map PyData.int) = 0 := fun xs => by
    induction xs with
    | nil => rfl
    | cons x xs ih => show max 0 (PyData.depthAll (xs.map PyData.int)) = 0; rw [ih]; rfl
  show (PyData.canLayAll0 (xs.map PyData.int) && decide (PyData.depthAll (xs.map PyData.int) + 1 ≤ 64)) = true
  rw [h1, h2]; rfl
end
end Bay

set_option Elab.async false
set_option linter.all false
set_option maxRecDepth 100000
namespace Bay
open PySem PySem.Spec PyProof.Rows L2
/-! ### the urn that the laws draw from -/
def urnO (l : Addr) (s t : Int) : O := .dK [(.inr "deep", .ref l), (.inr "state", .int s), (.inr "turn", .int t)]
def urnM : Int := 2305843009213693951
structure Urn (S : Sto) (a l : Addr) : Prop where
  ex : ∃ s t, S a = some (urnO l s t) ∧ 0 ≤ s ∧ s < urnM
  deep : ∃ xs : List Int, S l = some (.lst (xs.map .int)) ∧ (∀ x ∈ xs, 0 ≤ x) ∧ xs.length ≤ 100
theorem Urn.ne {S : Sto} {a l : Addr} (u : Urn S a l) : a ≠ l := fun e => by
  obtain ⟨s, t, h1, _⟩ := u.ex
  obtain ⟨xs, h2, _⟩ := u.deep
  rw [e, h2] at h1
  cases h1
/-- the urn is drawn from, the rest stays -/
structure UrnTo (S S' : Sto) (a l : Addr) : Prop where
  u : Urn S' a l
  o : ∀ b, b ≠ a → b ≠ l → S' b = S b
/-- the same, with things made that may be forgotten -/
structure UrnF (S S' : Sto) (a l : Addr) : Prop where
  u : Urn S' a l
  o : ∀ b o, b ≠ a → b ≠ l → S b = some o → S' b = some o
theorem UrnF.fwd {S S' : Sto} {a l : Addr} {Q : QD} {d : D} (h : UrnF S S' a l) (q : ∀ S2, UrnTo S S2 a l → Q d S2) : fwd Q d S' := by
  refine ⟨fun b => if b = a ∨ b = l then S' b else S b, fun b o e => ?_, q _ ⟨⟨?_, ?_⟩, fun b h1 h2 => by rw [if_neg (by simp [h1, h2])]⟩⟩
  · dsimp only at e
    by_cases hb : b = a ∨ b = l
    · rw [if_pos hb] at e; exact e
    · rw [if_neg hb] at e
      simp only [not_or] at hb
      exact h.o b o hb.1 hb.2 e
  · obtain ⟨s, t, h1, h2⟩ := h.u.ex
    exact ⟨s, t, by rw [if_pos (.inl rfl)]; exact h1, h2⟩
  · obtain ⟨xs, h1, h2⟩ := h.u.deep
    exact ⟨xs, by rw [if_pos (.inr rfl)]; exact h1, h2⟩
theorem idx_dK {S : Sto} {a : Addr} {i d : D} {kvs : List (Key × D)} {k : Key} {Q : QD} (h : S a = some (.dK kvs)) (hk : keyD i = some k) (hv : valD kvs k = some d) (q : Q d S) : idxD (.ref a) i S Q := by
  show (match S a with | some (.lst xs) => _ | some (.dK kvs) => _ | some (.dT kvs) => _ | _ => False)
  rw [h]
  exact ⟨k, d, hk, hv, q⟩
theorem set_dK {S : Sto} {a : Addr} {i v : D} {kvs : List (Key × D)} {k : Key} {Q : Sto → Prop} (h : S a = some (.dK kvs)) (hk : keyD i = some k) (hl : kvs.length < sizeLine) (q : Q (S.upd a (.dK (putD kvs k v)))) : setD (.ref a) i v S Q := by
  show (match S a with | some (.lst xs) => _ | some (.dK kvs) => _ | some (.dT kvs) => _ | _ => False)
  rw [h]
  exact ⟨k, hk, hl, q⟩
theorem m_pop {S : Sto} {a : Addr} {xs : List D} {d : D} {Q : QD} (h : S a = some (.lst xs)) (hd : xs[xs.length - 1]? = some d) (q : Q d (S.upd a (.lst xs.dropLast))) : rcvD .pop (.ref a) S ∧ mthD .pop (.ref a) [] S Q := by
  constructor
  · show (match S a with | some (.lst _) => True | _ => False)
    rw [h]; trivial
  · show (match S a with | some (.lst xs) => _ | _ => False)
    rw [h]
    exact ⟨d, hd, q⟩
theorem m_append {S' : Sto} {a : Addr} {xs : List D} {d : D} {Q : QD} (h : S' a = some (.lst xs)) (hl : xs.length < sizeLine) (q : Q .non (S'.upd a (.lst (xs ++ [d])))) : mthD .append (.ref a) [d] S' Q := by
  show (match S' a with | some (.lst xs) => _ | _ => False)
  rw [h]
  exact ⟨hl, q⟩
theorem r_append {S : Sto} {a : Addr} {xs : List D} (h : S a = some (.lst xs)) : rcvD .append (.ref a) S := by
  show (match S a with | some (.lst _) => True | _ => False)
  rw [h]; trivial
def sp_take : FnD := fun ds S Q X => match ds with
  | [.ref a, .int many] => ∃ l, Urn S a l ∧ many < 2 ^ 30 ∧ ∀ S' (k : Int), UrnTo S S' a l → 0 ≤ k → (k < many ∨ (k = 0 ∧ many < 2)) → Q (.int k) S'
  | _ => False
def bTake : MS := (.seq (.ite (.cmp .Lt (.var 1) (.cst (.int 2))) (.seq (.ret (.cst (.int 0)))
.skip) .skip)
(.seq (.ite (.cmp .NotEq (.idx (.var 0) (.cst (.str "deep"))) (.lst .nil)) (.seq (.set 2 (.mth .pop (.idx (.var 0) (.cst (.str "deep"))) .nil))
(.seq (.ite (.cmp .GtE (.var 2) (.var 1)) (.seq (.expr (.mth .append (.idx (.var 0) (.cst (.str "deep"))) (.cons (.fdv (.var 2) (.var 1)) .nil)))
.skip) .skip)
(.seq (.ret (.mod (.blt .int (.cons (.var 2) .nil)) (.var 1)))
.skip))) .skip)
(.seq (.sub (.var 0) (.cst (.str "turn")) (.add (.idx (.var 0) (.cst (.str "turn"))) (.cst (.int 1))))
(.seq (.set 3 (.mod (.blt .int (.cons (.add (.mul (.idx (.var 0) (.cst (.str "state"))) (.cst (.int 2862933555777941757))) (.mul (.cst (.int 3037000493)) (.idx (.var 0) (.cst (.str "turn"))))) .nil)) (.cst (.int 2305843009213693951))))
(.seq (.sub (.var 0) (.cst (.str "state")) (.var 3))
(.seq (.ret (.mod (.blt .int (.cons (.fdv (.mod (.blt .int (.cons (.add (.mul (.var 3) (.var 3)) (.mul (.cst (.int 362436069)) (.var 3))) .nil)) (.cst (.int 2305843009213693921))) (.cst (.int 4194304))) .nil)) (.var 1)))
.skip))))))
section
variable {Γ : Sig}
theorem ok_take : ∀ ds S Q X, sp_take ds S Q X → ds.length = 2 → wD bTake Γ 4 ds S Q X := by
  intro ds S Q X h hl
  match ds, hl, h with
  | [.ref a, .int many], _, ⟨l, u, hm, hq⟩ =>
    obtain ⟨s, t, h1, hs0, hs1⟩ := u.ex
    obtain ⟨xs, h2, hx, hxl⟩ := u.deep
    unfold wD bTake
    simp only [S_seq, S_ite, wE, lookE, ent, List.map_cons, List.map_nil, List.length_cons, List.length_nil, List.cons_append, List.nil_append, List.replicate, List.getElem?_cons_zero, List.getElem?_cons_succ, C_lt, T_bl]
    refine iteS_of (fun h => ?_) fun h => ?_
    · simp only [S_seq, S_ret, wE]
      have h' : many < 2 := of_decide_eq_true h
      exact fwd_of (hq S 0 ⟨u, fun _ _ _ => rfl⟩ (Int.le_refl _) (.inr ⟨rfl, h'⟩))
    have hm2 : ¬ many < 2 := of_decide_eq_false h
    have jm : (0 : Int) < many := by omega
    simp only [S_skip, S_seq, S_ite, wE, wEs, lookE, List.getElem?_cons_zero, List.getElem?_cons_succ]
    refine idx_dK h1 rfl rfl ⟨by decide, fun p hp => ?_⟩
    have pa : p ≠ a := fun e => by rw [e, h1] at hp; cases hp
    have pl : p ≠ l := fun e => by rw [e, h2] at hp; cases hp
    have al := u.ne
    refine ne_nil (xs := xs.map .int) (by rw [Sto.upd_ne (Ne.symm pl)]; exact h2) Sto.upd_same (vw_ints xs) (shaped_ints xs) ?_
    have g1 : (S.upd p (.lst [])) a = some (urnO l s t) := by rw [Sto.upd_ne (Ne.symm pa)]; exact h1
    have g2 : (S.upd p (.lst [])) l = some (.lst (xs.map .int)) := by rw [Sto.upd_ne (Ne.symm pl)]; exact h2
    have g3 : ∀ b o, S b = some o → (S.upd p (.lst [])) b = some o := fun b o e => by rw [Sto.upd_ne fun z => by rw [z, hp] at e; cases e]; exact e
    generalize S.upd p (.lst []) = S1 at g1 g2 g3
    simp only [T_bl]
    refine iteS_of (fun h => ?_) fun h => ?_
    · -- from the deep ones
      rcases List.eq_nil_or_concat xs with rfl | ⟨ys, y, rfl⟩
      · simp at h
      simp only [S_seq, S_set, S_ite, S_skip, wE, wEs, lookE, List.getElem?_cons_zero, List.getElem?_cons_succ]
      refine idx_dK g1 rfl rfl (m_pop g2 (d := .int y) (by simp) ?_)
      have y0 : 0 ≤ y := hx y (by simp)
      have yl : ys.length ≤ 99 := by simp at hxl; omega
      have e1 : ((ys ++ [y]).map D.int).dropLast = ys.map D.int := by simp
      rw [List.concat_eq_append] at g2 ⊢
      rw [e1]
      have k1 : (S1.upd l (.lst (ys.map D.int))) a = some (urnO l s t) := by rw [Sto.upd_ne al]; exact g1
      have k2 : (S1.upd l (.lst (ys.map D.int))) l = some (.lst (ys.map D.int)) := Sto.upd_same
      have k3 : ∀ b o, b ≠ a → b ≠ l → S b = some o → (S1.upd l (.lst (ys.map D.int))) b = some o := fun b o _ n e => by rw [Sto.upd_ne n]; exact g3 b o e
      generalize S1.upd l (.lst (ys.map D.int)) = S2 at k1 k2 k3
      have hys : ∀ x ∈ ys, 0 ≤ x := fun x hxx => hx x (by simp [hxx])
      -- the answer
      have done : ∀ (S3 : Sto) (K : EK), K.rt = fwd Q → UrnF S S3 a l → wS (.ret (.mod (.blt .int (.cons (.var 2) .nil)) (.var 1))) Γ (fwdX X) K [some (.ref a), some (.int many), some (.int y), none] S3 := fun S3 K hK hS => by
        simp only [S_seq, S_ret, wE, wEs, lookE, List.getElem?_cons_zero, List.getElem?_cons_succ, B_int]
        rw [hK]
        exact ⟨jm, hS.fwd fun S4 h4 => hq S4 _ h4 (Int.emod_nonneg _ (by omega)) (.inl (Int.emod_lt_of_pos _ jm))⟩
      simp only [List.set_cons_zero, List.set_cons_succ, List.getElem?_cons_zero, List.getElem?_cons_succ, C_ge, T_bl]
      refine iteS_of (fun h => ?_) fun h => ?_
      · simp only [S_seq, S_expr, S_skip, wE, wEs, lookE, List.getElem?_cons_zero, List.getElem?_cons_succ]
        refine idx_dK k1 rfl rfl ⟨r_append k2, ⟨jm, by omega⟩, ?_⟩
        refine m_append k2 (by rw [List.length_map]; show ys.length < 16777216; omega) ?_
        refine done _ _ rfl ⟨⟨⟨s, t, by rw [Sto.upd_ne al]; exact k1, hs0, hs1⟩, ys ++ [y / many], by rw [Sto.upd_same]; simp, fun x hxx => ?_, by simp; omega⟩, fun b o h1 h2 e => by rw [Sto.upd_ne h2]; exact k3 b o h1 h2 e⟩
        simp only [List.mem_append, List.mem_singleton] at hxx
        rcases hxx with hxx | rfl
        · exact hys x hxx
        · exact Int.ediv_nonneg y0 (by omega)
      · simp only [S_skip, S_seq]
        exact done _ _ rfl ⟨⟨⟨s, t, k1, hs0, hs1⟩, ys, k2, hys, by omega⟩, k3⟩
    · have ex : xs = [] := by
        cases xs with
        | nil => rfl
        | cons x xs => simp at h
      subst ex
      simp only [S_skip, S_seq, S_sub, S_set, wE, wEs, lookE, List.getElem?_cons_zero, List.getElem?_cons_succ]
      refine idx_dK g1 rfl rfl ?_
      simp only [A_int]
      refine set_dK g1 rfl (by show 3 < 16777216; decide) ?_
      have k1 : (S1.upd a (.dK (putD [(.inr "deep", .ref l), (.inr "state", .int s), (.inr "turn", .int t)] (.inr "turn") (.int (t + 1))))) a = some (urnO l s (t + 1)) := by rw [Sto.upd_same]; rfl
      have k2 : (S1.upd a (.dK (putD [(.inr "deep", .ref l), (.inr "state", .int s), (.inr "turn", .int t)] (.inr "turn") (.int (t + 1))))) l = some (.lst []) := by rw [Sto.upd_ne (Ne.symm al)]; exact g2
      have k3 : ∀ b o, b ≠ a → b ≠ l → S b = some o → (S1.upd a (.dK (putD [(.inr "deep", .ref l), (.inr "state", .int s), (.inr "turn", .int t)] (.inr "turn") (.int (t + 1))))) b = some o := fun b o n _ e => by rw [Sto.upd_ne n]; exact g3 b o e
      generalize S1.upd a (.dK (putD [(.inr "deep", .ref l), (.inr "state", .int s), (.inr "turn", .int t)] (.inr "turn") (.int (t + 1)))) = S2 at k1 k2 k3
      refine idx_dK k1 rfl rfl ?_
      simp only [M_int]
      refine ⟨.inr (by decide), idx_dK k1 rfl rfl ⟨.inl (by decide), ?_⟩⟩
      simp only [A_int, B_int, O_int]
      refine ⟨by decide, ?_⟩
      have r0 : 0 ≤ (s * 2862933555777941757 + 3037000493 * (t + 1)) % 2305843009213693951 := Int.emod_nonneg _ (by decide)
      have r1 : (s * 2862933555777941757 + 3037000493 * (t + 1)) % 2305843009213693951 < 2305843009213693951 := Int.emod_lt_of_pos _ (by decide)
      generalize (s * 2862933555777941757 + 3037000493 * (t + 1)) % 2305843009213693951 = r at r0 r1
      simp only [List.set_cons_zero, List.set_cons_succ, List.getElem?_cons_zero, List.getElem?_cons_succ]
      refine set_dK k1 rfl (by show 3 < 16777216; decide) ?_
      have j1 : (S2.upd a (.dK (putD [(.inr "deep", .ref l), (.inr "state", .int s), (.inr "turn", .int (t + 1))] (.inr "state") (.int r)))) a = some (urnO l r (t + 1)) := by rw [Sto.upd_same]; rfl
      have j2 : (S2.upd a (.dK (putD [(.inr "deep", .ref l), (.inr "state", .int s), (.inr "turn", .int (t + 1))] (.inr "state") (.int r)))) l = some (.lst []) := by rw [Sto.upd_ne (Ne.symm al)]; exact k2
      have j3 : ∀ b o, b ≠ a → b ≠ l → S b = some o → (S2.upd a (.dK (putD [(.inr "deep", .ref l), (.inr "state", .int s), (.inr "turn", .int (t + 1))] (.inr "state") (.int r)))) b = some o := fun b o n m e => by rw [Sto.upd_ne n]; exact k3 b o n m e
      generalize S2.upd a (.dK (putD [(.inr "deep", .ref l), (.inr "state", .int s), (.inr "turn", .int (t + 1))] (.inr "state") (.int r))) = S3 at j1 j2 j3
      simp only [S_ret, wE, wEs, lookE, List.getElem?_cons_zero, List.getElem?_cons_succ, M_int, A_int, B_int, O_int, F_int]
      refine ⟨.inl ⟨by omega, by omega⟩, .inl (by decide), by decide, ⟨by decide, by decide⟩, jm, ?_⟩
      have fin : UrnF S S3 a l := ⟨⟨⟨r, t + 1, j1, r0, r1⟩, [], j2, fun x z => by simp at z, by decide⟩, j3⟩
      exact fin.fwd fun S4 h4 => hq S4 _ h4 (Int.emod_nonneg _ (by omega)) (.inl (Int.emod_lt_of_pos _ jm))
/-- a sequence's items; not the urn's own list -/
def SeqOf (S : Sto) (l : Addr) (c : D) (xs : List D) : Prop := (∃ p, c = .ref p ∧ p ≠ l ∧ S p = some (.lst xs)) ∨ c = .tup xs ∨ c = .rot xs
theorem SeqOf.to {S S' : Sto} {a l : Addr} {c : D} {xs : List D} (h : SeqOf S l c xs) (u : Urn S a l) (t : UrnTo S S' a l) : SeqOf S' l c xs := by
  rcases h with ⟨p, rfl, n, e⟩ | h
  · refine .inl ⟨p, rfl, n, ?_⟩
    rw [t.o p (fun z => by obtain ⟨s, tt, q, _⟩ := u.ex; rw [z, q] at e; cases e) n]; exact e
  · exact .inr h
theorem SeqOf.len {S : Sto} {l : Addr} {c : D} {xs : List D} {Q : Nat → Prop} (h : SeqOf S l c xs) (q : Q xs.length) : lenD c S Q := by
  rcases h with ⟨p, rfl, n, e⟩ | rfl | rfl
  · show (match S p with | some (.lst xs) => Q xs.length | _ => False)
    rw [e]; exact q
  · exact q
  · exact q
theorem SeqOf.idx {S : Sto} {l : Addr} {c : D} {xs : List D} {Q : QD} {i : Int} {d : D} (h : SeqOf S l c xs) (hi : atI xs i = some d) (q : Q d S) : idxD c (.int i) S Q := by
  rcases h with ⟨p, rfl, n, e⟩ | rfl | rfl
  · show (match S p with | some (.lst xs) => _ | some (.dK kvs) => _ | some (.dT kvs) => _ | _ => False)
    rw [e]; exact ⟨d, hi, q⟩
  · exact ⟨d, hi, q⟩
  · exact ⟨d, hi, q⟩
theorem at_in {xs : List D} {k : Int} (h0 : 0 ≤ k) (h1 : k < xs.length) : ∃ d, atI xs k = some d ∧ d ∈ xs := by
  obtain ⟨n, rfl⟩ := Int.eq_ofNat_of_zero_le h0
  have hn : n < xs.length := by omega
  exact ⟨xs[n], atI_nat (List.getElem?_eq_getElem hn), List.getElem_mem hn⟩
theorem UrnTo.f {S S' : Sto} {a l : Addr} (t : UrnTo S S' a l) : UrnF S S' a l := ⟨t.u, fun b o h1 h2 e => by rw [t.o b h1 h2]; exact e⟩
def sp_pick : FnD := fun ds S Q X => match ds with
  | [.ref a, c] => ∃ l xs, Urn S a l ∧ SeqOf S l c xs ∧ xs ≠ [] ∧ xs.length < 2 ^ 30 ∧ ∀ S' d, UrnTo S S' a l → d ∈ xs → Q d S'
  | _ => False
def bPick (n : Nat) : MS := (.seq (.ret (.idx (.var 1) (.call n (.cons (.var 0) (.cons (.blt .len (.cons (.var 1) .nil)) .nil)))))
.skip)
theorem ok_pick {n : Nat} (hT : Γ.fn n = sp_take) (hA : Γ.ar n = 2) : ∀ ds S Q X, sp_pick ds S Q X → ds.length = 2 → wD (bPick n) Γ 2 ds S Q X := by
  intro ds S Q X h hl
  match ds, hl, h with
  | [.ref a, c], _, ⟨l, xs, u, hs, hne, hlen, hq⟩ =>
    unfold wD bPick
    simp only [S_seq, S_ret, wE, wEs, lookE, ent, List.map_cons, List.map_nil, List.length_cons, List.length_nil, List.cons_append, List.nil_append, List.replicate, List.getElem?_cons_zero, List.getElem?_cons_succ, B_len, hT, hA]
    refine hs.len ⟨trivial, l, u, by omega, fun S' k t k0 k1 => ?_⟩
    have hp : 0 < xs.length := List.length_pos_iff.mpr hne
    obtain ⟨d, e1, e2⟩ := at_in (xs := xs) k0 (by rcases k1 with z | ⟨rfl, _⟩ <;> omega)
    exact (hs.to u t).idx e1 (t.f.fwd fun S2 t2 => hq S2 d t2 e2)
/-- .. with one list that is handed on -/
theorem UrnF.fwdL {S S' : Sto} {a l r : Addr} {ys : List D} {Q : QD} (h : UrnF S S' a l) (hr : S' r = some (.lst ys)) (ra : r ≠ a) (rl : r ≠ l) (q : ∀ S2, UrnTo S S2 a l → Q (.ref r) (S2.upd r (.lst ys))) : Bay.fwd Q (.ref r) S' := by
  obtain ⟨S2, sub, t⟩ := h.fwd (Q := fun _ S2 => UrnTo S S2 a l) (d := .non) fun S2 t => t
  refine ⟨S2.upd r (.lst ys), fun b o e => ?_, q S2 t⟩
  by_cases hb : b = r
  · subst hb
    rw [Sto.upd_same] at e
    rw [hr]; exact e
  · rw [Sto.upd_ne hb] at e
    exact sub b o e
theorem Urn.made {S : Sto} {a l q : Addr} {o : O} (u : Urn S a l) (n : S q = none) : Urn (S.upd q o) a l := by
  obtain ⟨s, t, h1, h2⟩ := u.ex
  obtain ⟨xs, h3, h4⟩ := u.deep
  exact ⟨⟨s, t, by rw [Sto.upd_ne (Sto.ne h1 n)]; exact h1, h2⟩, ⟨xs, by rw [Sto.upd_ne (Sto.ne h3 n)]; exact h3, h4⟩⟩
theorem Urn.wrote {S : Sto} {a l q : Addr} {o : O} (u : Urn S a l) (qa : q ≠ a) (ql : q ≠ l) : Urn (S.upd q o) a l := by
  obtain ⟨s, t, h1, h2⟩ := u.ex
  obtain ⟨xs, h3, h4⟩ := u.deep
  exact ⟨⟨s, t, by rw [Sto.upd_ne (Ne.symm qa)]; exact h1, h2⟩, ⟨xs, by rw [Sto.upd_ne (Ne.symm ql)]; exact h3, h4⟩⟩
theorem Urn.apart {S : Sto} {a l q : Addr} (u : Urn S a l) (n : S q = none) : q ≠ a ∧ q ≠ l := by
  obtain ⟨s, t, h1, h2⟩ := u.ex
  obtain ⟨xs, h3, h4⟩ := u.deep
  exact ⟨fun e => (by rw [e, h1] at n; cases n), fun e => (by rw [e, h3] at n; cases n)⟩
/-- data without addresses, that may be shown and compared -/
def Pur (d : D) : Prop := ∃ t, (∀ S, Vw S d t) ∧ t.canLay0 = true ∧ t.depth ≤ 60
theorem Pur.list : ∀ {xs : List D}, (∀ x ∈ xs, Pur x) → ∃ ts, (∀ S, VwL S xs ts) ∧ PyData.canLayAll0 ts = true ∧ PyData.depthAll ts ≤ 60
  | [], _ => ⟨[], fun _ => .nil, rfl, Nat.zero_le _⟩
  | x :: xs, h => by
    obtain ⟨t, a1, a2, a3⟩ := h x (List.mem_cons_self ..)
    obtain ⟨ts, b1, b2, b3⟩ := Pur.list fun y hy => h y (List.mem_cons_of_mem _ hy)
    refine ⟨t :: ts, fun S => .cons (a1 S) (b1 S), ?_, ?_⟩
    · show (PyData.canLay0 t && PyData.canLayAll0 ts) = true
      rw [a2, b2]; rfl
    · show max (PyData.depth t) (PyData.depthAll ts) ≤ 60
      omega
theorem Pur.shp {ts : List PyData} (h1 : PyData.canLayAll0 ts = true) (h2 : PyData.depthAll ts ≤ 60) : SeqAt.shaped (.list ts) = true := by
  show (PyData.canLayAll0 ts && decide (PyData.depthAll ts + 1 ≤ 64)) = true
  rw [h1, decide_eq_true (by omega)]; rfl
theorem pur_int (i : Int) : Pur (.int i) := ⟨.int i, fun _ => .int i, rfl, Nat.zero_le _⟩
theorem SeqOf.seq {S : Sto} {l : Addr} {c : D} {xs : List D} {Q : List D → Prop} (h : SeqOf S l c xs) (q : Q xs) : seqD c S Q := by
  rcases h with ⟨p, rfl, n, e⟩ | rfl | rfl
  · show (match S p with | some (.lst xs) => Q xs | _ => False)
    rw [e]; exact q
  · exact q
  · exact q
theorem m_popAt {S' : Sto} {a : Addr} {xs : List D} {d : D} {Q : QD} {k : Nat} (h : S' a = some (.lst xs)) (hk : (k : Int) < 2 ^ 63) (hd : xs[k]? = some d) (q : Q d (S'.upd a (.lst (xs.eraseIdx k)))) : mthD .popAt (.ref a) [.int k] S' Q := by
  show (match S' a with | some (.lst xs) => _ | _ => False)
  rw [h]
  exact ⟨k, d, rfl, hk, hd, q⟩
theorem r_popAt {S : Sto} {a : Addr} {xs : List D} (h : S a = some (.lst xs)) : rcvD .popAt (.ref a) S := by
  show (match S a with | some (.lst _) => True | _ => False)
  rw [h]; trivial
theorem take_out {α : Type} {zs : List α} {j : Nat} (hj : j < zs.length) : ([zs[j]] ++ zs.eraseIdx j).Perm zs := by
  have e : zs = zs.take j ++ zs[j] :: zs.drop (j + 1) := by rw [← List.drop_eq_getElem_cons hj, List.take_append_drop]
  rw [List.eraseIdx_eq_take_drop_succ]
  have h := (List.perm_middle (a := zs[j]) (l₁ := zs.take j) (l₂ := zs.drop (j + 1))).symm
  rw [← e] at h
  exact h
/-- a new list with the items in some order -/
def sp_mixed : FnD := fun ds S Q X => match ds with
  | [.ref a, c] => ∃ l xs, Urn S a l ∧ SeqOf S l c xs ∧ (∀ x ∈ xs, Pur x) ∧ xs.length < 2 ^ 20 ∧ ∀ S' S2 p ys, S p = none → UrnTo S S2 a l → S' = S2.upd p (.lst ys) → ys.Perm xs → Q (.ref p) S'
  | _ => False
def bMixed (n : Nat) : MS := (.seq (.par [2, 3] (.cons (.blt .list (.cons (.var 1) .nil)) (.cons (.lst .nil) .nil)))
(.seq (.whl (.cmp .NotEq (.var 2) (.lst .nil)) (.seq (.expr (.mth .append (.var 3) (.cons (.mth .popAt (.var 2) (.cons (.call n (.cons (.var 0) (.cons (.blt .len (.cons (.var 2) .nil)) .nil))) .nil)) .nil)))
.skip))
(.seq (.ret (.var 3))
.skip)))
theorem ok_mixed {n : Nat} (hT : Γ.fn n = sp_take) (hA : Γ.ar n = 2) : ∀ ds S Q X, sp_mixed ds S Q X → ds.length = 2 → wD (bMixed n) Γ 4 ds S Q X := by
  intro ds S Q X h hl
  match ds, hl, h with
  | [.ref a, c], _, ⟨l, xs, u, hs, hpur, hlen, hq⟩ =>
    unfold wD bMixed
    simp only [S_seq, S_par, S_ret, S_whl, wE, wEs, lookE, ent, List.map_cons, List.map_nil, List.length_cons, List.length_nil, List.cons_append, List.nil_append, List.replicate, List.getElem?_cons_zero, List.getElem?_cons_succ, B_list]
    refine hs.seq ⟨by show xs.length ≤ 16777216; omega, fun p hp => ⟨by decide, fun r hr => ⟨trivial, ?_⟩⟩⟩
    simp only [setsE, List.set_cons_zero, List.set_cons_succ]
    obtain ⟨us, ut, ua, _⟩ := u.ex
    obtain ⟨dd, ul, _⟩ := u.deep
    have pa : p ≠ a := fun e => by rw [e, ua] at hp; cases hp
    have pl : p ≠ l := fun e => by rw [e, ul] at hp; cases hp
    have rp : r ≠ p := fun e => by rw [e, Sto.upd_same] at hr; cases hr
    have hr0 : S r = none := by rw [Sto.upd_ne rp] at hr; exact hr
    have ra : r ≠ a := fun e => by rw [e, ua] at hr0; cases hr0
    have rl : r ≠ l := fun e => by rw [e, ul] at hr0; cases hr0
    -- the turns
    have turns : ∀ (m : Nat) (zs ys : List D) (S1 : Sto), zs.length = m → (ys ++ zs).Perm xs → Urn S1 a l → S1 p = some (.lst zs) → S1 r = some (.lst ys) → (∀ b o, b ≠ a → b ≠ l → S b = some o → S1 b = some o) →
        whGo (fun ε S Q => wE Γ (.cmp .NotEq (.var 2) (.lst .nil)) (fwdX X) ε S (tstD Q)) (wS (.seq (.expr (.mth .append (.var 3) (.cons (.mth .popAt (.var 2) (.cons (.call n (.cons (.var 0) (.cons (.blt .len (.cons (.var 2) .nil)) .nil))) .nil)) .nil))) .skip) Γ (fwdX X)) (m + 1)
          { nx := wS (.seq (.ret (.var 3)) .skip) Γ (fwdX X) { nx := fun _ S => fwd Q .non S, rt := fwd Q }, rt := fwd Q } [some (.ref a), some c, some (.ref p), some (.ref r)] S1 := by
      intro m
      induction m with
      | zero =>
        intro zs ys S1 hm hperm uu hp1 hr1 hfr
        have : zs = [] := List.eq_nil_of_length_eq_zero hm
        subst this
        simp only [W_go, wE, wEs, lookE, List.getElem?_cons_zero, List.getElem?_cons_succ]
        refine ⟨by decide, fun q hqn => ?_⟩
        refine ne_nil (by rw [Sto.upd_ne (Sto.ne hp1 hqn)]; exact hp1) Sto.upd_same .nil (by decide) ?_
        simp only [T_bl, List.isEmpty_nil, Bool.not_true, iteS_f, S_seq, S_ret, wE, lookE, List.getElem?_cons_zero, List.getElem?_cons_succ]
        refine UrnF.fwdL ⟨uu.made hqn, fun b o h1 h2 e => by rw [Sto.upd_ne (Sto.ne (hfr b o h1 h2 e) hqn)]; exact hfr b o h1 h2 e⟩ (by rw [Sto.upd_ne (Sto.ne hr1 hqn)]; exact hr1) ra rl fun S2 t => ?_
        exact hq _ S2 r ys hr0 t rfl (by simpa using hperm)
      | succ m ih =>
        intro zs ys S1 hm hperm uu hp1 hr1 hfr
        have hz : ∀ x ∈ zs, Pur x := fun x hx => hpur x (hperm.subset (List.mem_append_right _ hx))
        obtain ⟨ts, v1, v2, v3⟩ := Pur.list hz
        have hzl : zs.length ≤ xs.length := by have := hperm.length_eq; simp at this; omega
        have hyl : ys.length ≤ xs.length := by have := hperm.length_eq; simp at this; omega
        rw [W_go]
        simp only [wE, wEs, lookE, List.getElem?_cons_zero, List.getElem?_cons_succ]
        refine ⟨by decide, fun q hqn => ?_⟩
        obtain ⟨qa, ql⟩ := uu.apart hqn
        refine ne_nil (xs := zs) (ts := ts) (by rw [Sto.upd_ne (Sto.ne hp1 hqn)]; exact hp1) Sto.upd_same (v1 _) (Pur.shp v2 v3) ?_
        have hne : zs.isEmpty = false := by cases zs with | nil => simp at hm | cons _ _ => rfl
        simp only [T_bl, hne, Bool.not_false, iteS_t, S_seq, S_expr, S_skip, wE, wEs, lookE, List.getElem?_cons_zero, List.getElem?_cons_succ, B_len, hT, hA]
        have uq := uu.made (o := .lst []) hqn
        have hp2 : (S1.upd q (.lst [])) p = some (.lst zs) := by rw [Sto.upd_ne (Sto.ne hp1 hqn)]; exact hp1
        have hr2 : (S1.upd q (.lst [])) r = some (.lst ys) := by rw [Sto.upd_ne (Sto.ne hr1 hqn)]; exact hr1
        have hf2 : ∀ b o, b ≠ a → b ≠ l → S b = some o → (S1.upd q (.lst [])) b = some o := fun b o h1 h2 e => by rw [Sto.upd_ne (Sto.ne (hfr b o h1 h2 e) hqn)]; exact hfr b o h1 h2 e
        generalize S1.upd q (.lst []) = S2 at uq hp2 hr2 hf2
        refine ⟨r_append hr2, r_popAt hp2, ?_⟩
        refine SeqOf.len (l := l) (.inl ⟨p, rfl, pl, hp2⟩) ⟨rfl, l, uq, by omega, fun S3 k t k0 k1 => ?_⟩
        obtain ⟨j, rfl⟩ := Int.eq_ofNat_of_zero_le k0
        have hj : j < zs.length := by rcases k1 with z | ⟨z, _⟩ <;> omega
        have hp3 : S3 p = some (.lst zs) := by rw [t.o p pa pl]; exact hp2
        have hr3 : S3 r = some (.lst ys) := by rw [t.o r ra rl]; exact hr2
        refine m_popAt hp3 (by omega) (List.getElem?_eq_getElem hj) ?_
        refine m_append (xs := ys) (by rw [Sto.upd_ne rp]; exact hr3) (by show ys.length < 16777216; omega) ?_
        refine ih (zs.eraseIdx j) (ys ++ [zs[j]]) _ (by rw [List.length_eraseIdx]; simp [hj]; omega) ?_ ((t.u.wrote pa pl).wrote ra rl) (by rw [Sto.upd_ne (Ne.symm rp)]; exact Sto.upd_same) Sto.upd_same fun b o h1 h2 e => ?_
        · refine List.Perm.trans ?_ hperm
          rw [List.append_assoc]
          refine List.Perm.append_left _ ?_
          exact take_out hj
        · have nb : ∀ {c : Addr}, S c = none → b ≠ c := fun {c} hc z => by rw [z, hc] at e; cases e
          rw [Sto.upd_ne (nb hr0), Sto.upd_ne (nb hp), t.o b h1 h2]
          exact hf2 b o h1 h2 e
    refine ⟨xs.length + 1, turns xs.length xs [] _ rfl (by simp) ((u.made hp).made hr) (by rw [Sto.upd_ne (Ne.symm rp)]; exact Sto.upd_same) Sto.upd_same fun b o h1 h2 e => ?_⟩
    have nb : ∀ {c : Addr}, S c = none → b ≠ c := fun {c} hc z => by rw [z, hc] at e; cases e
    rw [Sto.upd_ne (nb hr0), Sto.upd_ne (nb hp)]
    exact e
end
end Bay

set_option Elab.async false
set_option linter.all false
set_option maxRecDepth 100000
namespace Bay
open PySem PySem.Spec PyProof.Rows L2
theorem cut_to {α : Type} (xs : List α) (k : Nat) : cutL xs none (some (k : Int)) = xs.take k := by
  unfold cutL
  rw [HT.sIx_none, HT.sIx_nat, List.drop_zero, Nat.sub_zero]
  by_cases h : k ≤ xs.length
  · rw [Nat.min_eq_left h]
  · rw [Nat.min_eq_right (by omega), List.take_of_length_le (Nat.le_refl _), List.take_of_length_le (by omega)]
theorem slc_rol {xs : List D} {k : Nat} {S : Sto} {Q : QD} (h : newL (xs.take k) S Q) : slcD (.rol xs) none (some (k : Int)) S Q := by
  show newL (cutL xs none (some (k : Int))) S Q
  rw [cut_to]; exact h
theorem src_lst {S : Sto} {p : Addr} {xs : List D} {Q : List D → List (Addr × List D) → Prop} (h : S p = some (.lst xs)) (q : Q xs [(p, xs)]) : srcD (.ref p) S Q := by
  show (match S p with | some (.lst xs) => Q xs [(p, xs)] | _ => False)
  rw [h]; exact q
theorem stay1 {S : Sto} {p : Addr} {xs : List D} (h : S p = some (.lst xs)) : Stay [(p, xs)] S := fun q hq => by
  cases hq with
  | head => exact h
  | tail _ z => cases z
theorem len_lst {S : Sto} {p : Addr} {xs : List D} {Q : Nat → Prop} (h : S p = some (.lst xs)) (q : Q xs.length) : lenD (.ref p) S Q := by
  show (match S p with | some (.lst xs) => Q xs.length | _ => False)
  rw [h]; exact q
theorem add_lst {S : Sto} {p r : Addr} {xs ys : List D} {Q : QD} (h1 : S p = some (.lst xs)) (h2 : S r = some (.lst ys)) (q : newL (xs ++ ys) S Q) : addD (.ref p) (.ref r) S Q := by
  show (match S p, S r with | some (.lst xs), some (.lst ys) => newL (xs ++ ys) S Q | _, _ => False)
  rw [h1, h2]; exact q
def bU2 : MS := (.seq (.set 3 (.add (.mul (.cst (.int 2)) (.blt .abs (.cons (.var 2) .nil))) (.blt .int (.cons (.cmp .Lt (.var 2) (.cst (.int 0))) .nil))))
(.seq (.sub (.var 1) (.cst (.str "state")) (.mod (.blt .int (.cons (.add (.mul (.add (.add (.idx (.var 1) (.cst (.str "state"))) (.var 3)) (.cst (.int 1))) (.cst (.int 2862933555777941757))) (.cst (.int 3037000493))) .nil)) (.cst (.int 2305843009213693951))))
.skip))
def bU1 : MS := (.seq (.ite (.cmp .GtE (.blt .abs (.cons (.var 2) .nil)) (.pow (.cst (.int 10)) (.cst (.int 18)))) (.seq (.sub (.var 1) (.cst (.str "deep")) (.add (.lst (.cons (.blt .abs (.cons (.var 2) .nil)) .nil)) (.idx (.var 1) (.cst (.str "deep")))))
.skip) .skip) bU2)
def bUrn (c : Int) : MS := (.seq (.set 1 (.dic ["deep", "state", "turn"] (.cons (.lst .nil) (.cons (.add (.cst (.int c)) (.blt .len (.cons (.slc (.var 0) .no (.yes (.cst (.int 63)))) .nil))) (.cons (.cst (.int 0)) .nil)))))
(.seq (.for_ (.nm 2) (.gen (.slc (.var 0) .no (.yes (.cst (.int 63))))) bU1)
(.seq (.ret (.var 1))
.skip)))
/-- a new urn -/
def sp_urn : FnD := fun ds S Q X => match ds with
  | [.rol xs] => ∃ ns : List Int, xs = ns.map .int ∧ ∀ S' a l, S a = none → S l = none → UrnTo S S' a l → Q (.ref a) S'
  | _ => False
section
variable {Γ : Sig} {X : QX}
/-- while the urn is filled -/
structure Fill (S S1 : Sto) (a r : Addr) (cs : List Int) (m : Nat) : Prop where
  a0 : S a = none
  ra : r ≠ a
  ex : ∃ l s t, ∃ xs : List Int, S l = none ∧ l ≠ r ∧ l ≠ a ∧ S1 a = some (urnO l s t) ∧ 0 ≤ s ∧ s < urnM ∧ S1 l = some (.lst (xs.map .int)) ∧ (∀ x ∈ xs, 0 ≤ x) ∧ xs.length + m ≤ 63
  r1 : S1 r = some (.lst (cs.map .int))
  fr : ∀ b o, S b = some o → S1 b = some o
theorem fill_2 {S S1 : Sto} {a r : Addr} {cs : List Int} {m : Nat} {K : EK} {d : D} {x : Int} {o3 : Option D} (h : Fill S S1 a r cs m) (hk : ∀ S2 o3, Fill S S2 a r cs m → K.nx [some d, some (.ref a), some (.int x), o3] S2) : wS bU2 Γ X K [some d, some (.ref a), some (.int x), o3] S1 := by
  obtain ⟨l, s, t, xs, l0, lr, la, g1, s0, s1, g2, hx, hm⟩ := h.ex
  unfold bU2
  simp only [S_seq, S_set, S_sub, S_skip, wE, wEs, lookE, List.getElem?_cons_zero, List.getElem?_cons_succ, List.set_cons_zero, List.set_cons_succ, B_abs, M_int, C_lt, B_intB, A_int]
  refine ⟨.inl (by decide), ?_⟩
  refine idx_dK g1 rfl rfl ?_
  simp only [A_int, M_int, B_int, O_int]
  refine ⟨.inr (by decide), by decide, ?_⟩
  generalize hr : ((s + (2 * (if x < 0 then -x else x) + (if decide (x < 0) = true then 1 else 0)) + 1) * 2862933555777941757 + 3037000493) % 2305843009213693951 = r'
  have r0 : 0 ≤ r' := by rw [← hr]; exact Int.emod_nonneg _ (by decide)
  have r1 : r' < 2305843009213693951 := by rw [← hr]; exact Int.emod_lt_of_pos _ (by decide)
  refine set_dK g1 rfl (by show 3 < 16777216; decide) (hk _ _ ⟨h.a0, h.ra, ⟨l, r', t, xs, l0, lr, la, by rw [Sto.upd_same]; rfl, r0, r1, by rw [Sto.upd_ne la]; exact g2, hx, hm⟩, by rw [Sto.upd_ne h.ra]; exact h.r1, fun b o e => by rw [Sto.upd_ne (Sto.ne e h.a0)]; exact h.fr b o e⟩)
theorem fill_1 {S S1 : Sto} {a r : Addr} {cs : List Int} {m : Nat} {K : EK} {d : D} {x : Int} {o3 : Option D} (h : Fill S S1 a r cs (m + 1)) (hk : ∀ S2 o3, Fill S S2 a r cs m → K.nx [some d, some (.ref a), some (.int x), o3] S2) : wS bU1 Γ X K [some d, some (.ref a), some (.int x), o3] S1 := by
  obtain ⟨l, s, t, xs, l0, lr, la, g1, s0, s1, g2, hx, hm⟩ := h.ex
  unfold bU1
  simp only [S_seq, S_ite, wE, wEs, lookE, List.getElem?_cons_zero, List.getElem?_cons_succ, B_abs, P_int, C_ge, T_bl]
  refine ⟨⟨by decide, by decide, by decide⟩, iteS_of (fun _ => ?_) fun _ => ?_⟩
  · simp only [S_seq, S_sub, S_skip, wE, wEs, lookE, List.getElem?_cons_zero, List.getElem?_cons_succ, B_abs]
    refine ⟨by show 1 ≤ 16777216; decide, fun p hp => ?_⟩
    have pa : p ≠ a := fun e => by rw [e, g1] at hp; cases hp
    have pl : p ≠ l := fun e => by rw [e, g2] at hp; cases hp
    have pr : p ≠ r := fun e => by rw [e, h.r1] at hp; cases hp
    refine idx_dK (by rw [Sto.upd_ne (Ne.symm pa)]; exact g1) rfl rfl (add_lst (xs := [.int (if x < 0 then -x else x)]) (ys := xs.map .int) Sto.upd_same (by rw [Sto.upd_ne (Ne.symm pl)]; exact g2) ⟨by simp; show xs.length + 1 ≤ 16777216; omega, fun q hq => ?_⟩)
    have qp : q ≠ p := fun e => by rw [e, Sto.upd_same] at hq; cases hq
    have hq0 : S1 q = none := by rw [Sto.upd_ne qp] at hq; exact hq
    have qa : q ≠ a := fun e => by rw [e, g1] at hq0; cases hq0
    have qr : q ≠ r := fun e => by rw [e, h.r1] at hq0; cases hq0
    have ag : ∀ {b : Addr}, S1 b = none → S b = none := fun {b} hb => by
      cases e : S b with
      | none => rfl
      | some o => rw [h.fr b o e] at hb; cases hb
    refine set_dK (kvs := [(.inr "deep", .ref l), (.inr "state", .int s), (.inr "turn", .int t)]) (by rw [Sto.upd_ne (Ne.symm qa), Sto.upd_ne (Ne.symm pa)]; exact g1) rfl (by show 3 < 16777216; decide) (fill_2 ⟨h.a0, h.ra, ⟨q, s, t, (if x < 0 then -x else x) :: xs, ag hq0, qr, qa, by rw [Sto.upd_same]; rfl, s0, s1, by rw [Sto.upd_ne qa, Sto.upd_same]; rfl, fun y hy => ?_, by rw [List.length_cons]; omega⟩, ?_, fun b o e => ?_⟩ hk)
    · rcases List.mem_cons.mp hy with rfl | hy
      · split <;> omega
      · exact hx y hy
    · rw [Sto.upd_ne h.ra, Sto.upd_ne (Ne.symm qr), Sto.upd_ne (Ne.symm pr)]; exact h.r1
    · rw [Sto.upd_ne (Sto.ne e h.a0), Sto.upd_ne (Sto.ne (h.fr b o e) hq0), Sto.upd_ne (Sto.ne (h.fr b o e) hp)]; exact h.fr b o e
  · simp only [S_skip]
    exact fill_2 ⟨h.a0, h.ra, ⟨l, s, t, xs, l0, lr, la, g1, s0, s1, g2, hx, by omega⟩, h.r1, h.fr⟩ hk
theorem fill_go {S : Sto} {a r : Addr} {cs : List Int} {K : EK} {d : D} (hk : ∀ S2 o2 o3, Fill S S2 a r cs 0 → K.nx [some d, some (.ref a), o2, o3] S2) : ∀ (rest : List Int) (S1 : Sto) (o2 o3 : Option D), Fill S S1 a r cs rest.length → forGo (wS bU1 Γ X) (asgD (.nm 2)) (Stay [(r, cs.map .int)]) (rest.map .int) K [some d, some (.ref a), o2, o3] S1
  | [], S1, o2, o3, h => ⟨stay1 h.r1, hk S1 o2 o3 h⟩
  | x :: rest, S1, o2, o3, h => ⟨stay1 h.r1, _, rfl, fill_1 (K := { nx := forGo (wS bU1 Γ X) (asgD (.nm 2)) (Stay [(r, cs.map .int)]) (rest.map .int) K, rt := K.rt, bk := K.nx, ct := _ }) h fun S2 o3 h2 => fill_go hk rest S2 (some (.int x)) o3 h2⟩
theorem ok_urn {c : Int} (c0 : 0 ≤ c) (c1 : c < 1000000000) : ∀ ds S Q X, sp_urn ds S Q X → ds.length = 1 → wD (bUrn c) Γ 4 ds S Q X := by
  intro ds S Q X h hl
  match ds, hl, h with
  | [.rol xs], _, ⟨ns, e0, hq⟩ =>
    subst e0
    unfold wD bUrn
    have tk : ((ns.map D.int).take 63) = (ns.take 63).map .int := by rw [List.map_take]
    have tl : (ns.take 63).length ≤ 63 := by rw [List.length_take]; omega
    generalize ns.take 63 = cs at tk tl
    simp only [S_seq, S_set, S_for, wE, wEs, wI, wO, lookE, ent, List.map_cons, List.map_nil, List.length_cons, List.length_nil, List.cons_append, List.nil_append, List.replicate, List.getElem?_cons_zero, List.getElem?_cons_succ, B_len]
    refine ⟨by decide, fun l hl => ?_⟩
    refine slc_rol (k := 63) ⟨by rw [tk, List.length_map]; show cs.length ≤ 16777216; omega, fun p hp => ?_⟩
    rw [tk]
    refine len_lst Sto.upd_same ?_
    simp only [A_int, List.length_map]
    intro a ha
    have lp : l ≠ p := Sto.ne Sto.upd_same hp
    have ap : a ≠ p := fun e => by rw [e, Sto.upd_same] at ha; cases ha
    have ha2 : (S.upd l (.lst [])) a = none := by rw [Sto.upd_ne ap] at ha; exact ha
    have al : a ≠ l := fun e => by rw [e, Sto.upd_same] at ha2; cases ha2
    have ha0 : S a = none := by rw [Sto.upd_ne al] at ha2; exact ha2
    simp only [List.set_cons_zero, List.set_cons_succ]
    refine slc_rol (k := 63) ⟨by rw [tk, List.length_map]; show cs.length ≤ 16777216; omega, fun r hr => ?_⟩
    rw [tk]
    refine src_lst Sto.upd_same ?_
    have ra : r ≠ a := fun e => by rw [e, Sto.upd_same] at hr; cases hr
    have hr2 : ((S.upd l (.lst [])).upd p (.lst (cs.map D.int))) r = none := by rw [Sto.upd_ne ra] at hr; exact hr
    have rp : r ≠ p := fun e => by rw [e, Sto.upd_same] at hr2; cases hr2
    have hr3 : (S.upd l (.lst [])) r = none := by rw [Sto.upd_ne rp] at hr2; exact hr2
    have rl : r ≠ l := fun e => by rw [e, Sto.upd_same] at hr3; cases hr3
    have hr4 : S r = none := by rw [Sto.upd_ne rl] at hr3; exact hr3
    have hp2 : S p = none := by rw [Sto.upd_ne (Ne.symm lp)] at hp; exact hp
    refine fill_go (S := S) (a := a) (r := r) (cs := cs) (fun S2 o2 o3 h2 => ?_) cs _ _ _ ⟨ha0, ra, ⟨l, c + cs.length, 0, [], hl, Ne.symm rl, Ne.symm al, by rw [Sto.upd_ne (Ne.symm ra), Sto.upd_same]; rfl, by omega, by unfold urnM; omega, ?_, fun x z => by simp at z, by simpa using tl⟩, Sto.upd_same, fun b o e => ?_⟩
    · obtain ⟨l, s, t, xs, l0, lr, la, g1, s0, s1, g2, hx, hm⟩ := h2.ex
      simp only [S_seq, S_ret, wE, lookE, List.getElem?_cons_zero, List.getElem?_cons_succ]
      exact UrnF.fwd (a := a) (l := l) ⟨⟨⟨s, t, g1, s0, s1⟩, xs, g2, hx, by omega⟩, fun b o _ _ e => h2.fr b o e⟩ fun S3 t3 => hq S3 a l ha0 l0 t3
    · rw [Sto.upd_ne (Ne.symm rl), Sto.upd_ne (Ne.symm al), Sto.upd_ne lp, Sto.upd_same]; rfl
    · rw [Sto.upd_ne (Sto.ne e hr4), Sto.upd_ne (Sto.ne e ha0), Sto.upd_ne (Sto.ne e hp2), Sto.upd_ne (Sto.ne e hl)]; exact e
theorem pur_str {x : Str} (h : PyData.strOk x = true) : Pur (.str x) := ⟨.str x, fun _ => .str x, h, Nat.zero_le _⟩
def pool1 : List Str := ["red", "tan", "sky", "a", "b", "c", "up", "few", "odd", "by", "both", "main", "less", "off", "ofx", "pair"]
def pool2 : List Str := ["kind", "rank", "fuller", "abcdefgh", "z", "onl", "nones", "lin", "bookish", "o", "kindsa", "zzzzz"]
theorem pool_ok : (pool1 ++ pool2).all (fun x => PyData.strOk x && decide (x.length ≤ 8)) = true := by decide +kernel
def esOf : List Str → MEs
  | [] => .nil
  | x :: xs => .cons (.cst (.str x)) (esOf xs)
theorem wEs_of {ε : Ev} {S : Sto} : ∀ {xs : List Str} {Q : List D → Sto → Prop}, Q (xs.map .str) S → wEs Γ (esOf xs) X ε S Q
  | [], _, h => h
  | x :: xs, Q, h => wEs_of (xs := xs) (Q := fun ds S2 => Q (.str x :: ds) S2) h
def bNames (n : Nat) : MS := (.seq (.set 2 (.lst (esOf pool1))) (.seq (.set 2 (.add (.var 2) (.lst (esOf pool2))))
(.seq (.ret (.slc (.call n (.cons (.var 0) (.cons (.var 2) .nil))) .no (.yes (.var 1))))
.skip)))
theorem Sub.made {S S1 : Sto} {p : Addr} {o : O} (h : Sub S S1) (n : S1 p = none) : Sub S (S1.upd p o) := fun b u e => by rw [Sto.upd_ne (Sto.ne (h b u e) n)]; exact h b u e
theorem Sub.none {S S1 : Sto} (h : Sub S S1) {p : Addr} (n : S1 p = Option.none) : S p = Option.none := by
  cases e : S p with
  | none => rfl
  | some o => rw [h p o e] at n; cases n
theorem slc_lst {S : Sto} {p : Addr} {xs : List D} {k : Nat} {Q : QD} (e : S p = some (.lst xs)) (h : newL (xs.take k) S Q) : slcD (.ref p) Option.none (some (k : Int)) S Q := by
  show (match S p with | some (.lst xs) => newL (cutL xs Option.none (some (k : Int))) S Q | _ => False)
  rw [e]
  show newL (cutL xs Option.none (some (k : Int))) S Q
  rw [cut_to]; exact h
/-- some names, each at most once -/
def sp_names : FnD := fun ds S Q X => match ds with
  | [.ref a, .int many] => ∃ l, Urn S a l ∧ 0 ≤ many ∧ ∀ (S' S2 : Sto) (p : Addr) (zs : List D), S p = none → UrnTo S S2 a l → S' = S2.upd p (.lst (zs.take many.toNat)) → zs.Perm ((pool1 ++ pool2).map .str) → Q (.ref p) S'
  | _ => False
theorem ok_names {n : Nat} (hT : Γ.fn n = sp_mixed) (hA : Γ.ar n = 2) : ∀ ds S Q X, sp_names ds S Q X → ds.length = 2 → wD (bNames n) Γ 3 ds S Q X := by
  intro ds S Q X h hl
  match ds, hl, h with
  | [.ref a, .int many], _, ⟨l, u, m0, hq⟩ =>
    obtain ⟨k, rfl⟩ := Int.eq_ofNat_of_zero_le m0
    unfold wD bNames
    simp only [S_seq, S_set, wE, wEs, lookE, ent, List.map_cons, List.map_nil, List.length_cons, List.length_nil, List.cons_append, List.nil_append, List.replicate, List.getElem?_cons_zero, List.getElem?_cons_succ]
    refine wEs_of ⟨by decide, fun p hp => ?_⟩
    simp only [List.set_cons_zero, List.set_cons_succ, List.getElem?_cons_zero, List.getElem?_cons_succ]
    have b1 : Sub S (S.upd p (.lst (pool1.map .str))) := (Sub.refl S).made hp
    have u1 := u.made (o := .lst (pool1.map .str)) hp
    have e1 : (S.upd p (.lst (pool1.map .str))) p = some (.lst (pool1.map .str)) := Sto.upd_same
    generalize S.upd p (.lst (pool1.map .str)) = S1 at b1 u1 e1
    refine wEs_of ⟨by decide, fun r hr => ?_⟩
    refine add_lst (xs := pool1.map .str) (ys := pool2.map .str) (by rw [Sto.upd_ne (Sto.ne e1 hr)]; exact e1) Sto.upd_same ⟨by decide, fun v hv => ?_⟩
    have b2 := b1.made (o := .lst (pool2.map .str)) hr
    have u2 := u1.made (o := .lst (pool2.map .str)) hr
    generalize S1.upd r (.lst (pool2.map .str)) = S2 at b2 u2 hv
    simp only [S_seq, S_ret, wE, wEs, wO, lookE, List.set_cons_zero, List.set_cons_succ, List.getElem?_cons_zero, List.getElem?_cons_succ, hT, hA]
    rw [← List.map_append]
    have b3 := b2.made (o := .lst ((pool1 ++ pool2).map .str)) hv
    have u3 := u2.made (o := .lst ((pool1 ++ pool2).map .str)) hv
    have e3 : (S2.upd v (.lst ((pool1 ++ pool2).map .str))) v = some (.lst ((pool1 ++ pool2).map .str)) := Sto.upd_same
    have vl := (u2.apart hv).2
    generalize S2.upd v (.lst ((pool1 ++ pool2).map .str)) = S3 at b3 u3 e3
    refine ⟨rfl, l, (pool1 ++ pool2).map .str, u3, .inl ⟨v, rfl, vl, e3⟩, fun x hx => ?_, by decide, ?_⟩
    · obtain ⟨y, hy, rfl⟩ := List.mem_map.mp hx
      have := List.all_eq_true.mp pool_ok y hy
      simp only [Bool.and_eq_true] at this
      exact pur_str this.1
    · rintro S' S4 w ys hw t rfl hperm
      obtain ⟨wa, wl⟩ := u3.apart hw
      have e4 : (S4.upd w (.lst ys)) w = some (.lst ys) := Sto.upd_same
      refine slc_lst e4 ⟨?_, fun z hz => ?_⟩
      · have := hperm.length_eq
        rw [List.length_take, this]
        exact Nat.le_trans (Nat.min_le_right _ _) (by decide)
      have u5 : Urn (S4.upd w (.lst ys)) a l := t.u.wrote wa wl
      obtain ⟨za, zl⟩ := u5.apart hz
      have zw : z ≠ w := fun e => by rw [e, e4] at hz; cases hz
      have hz0 : S z = none := by
        rw [Sto.upd_ne zw, t.o z za zl] at hz
        exact b3.none hz
      refine UrnF.fwdL (a := a) (l := l) ⟨u5.made hz, fun b o h1 h2 e => ?_⟩ Sto.upd_same za zl fun S5 t5 => hq _ S5 z ys hz0 t5 (by simp) hperm
      have e' := b3 b o e
      have bw : b ≠ w := Sto.ne e' hw
      have : (S4.upd w (.lst ys)) b = some o := by rw [Sto.upd_ne bw, t.o b h1 h2]; exact e'
      rw [Sto.upd_ne (Sto.ne this hz)]
      exact this
end
end Bay

set_option Elab.async false
set_option linter.all false
set_option maxRecDepth 100000
/-! Cay: values without addresses; what bears them in a store. -/
namespace Cay
open PySem PySem.Spec PyProof.Rows L2 Bay

inductive P where
  | non
  | bl (b : Bool)
  | int (i : Int)
  | str (x : Str)
  | ty (n : String)
  | tup (xs : List P)
  | rot (xs : List P)
  | rol (xs : List P)
  | lst (xs : List P)
  | dK (kvs : List (Key × P))
  | dT (kvs : List (List Key × P))
  | opq
instance : Inhabited P := ⟨.non⟩

mutual
/-- no list, no dict within -/
def pure : P → Bool
  | .tup xs => pureL xs
  | .rot xs => pureL xs
  | .rol xs => pureL xs
  | .lst _ => false
  | .dK _ => false
  | .dT _ => false
  | .opq => false
  | _ => true
def pureL : List P → Bool
  | [] => true
  | x :: xs => pure x && pureL xs
end
def spure : P → Bool
  | .lst xs => pureL xs
  | .dK kvs => pureL (kvs.map (·.2))
  | .dT kvs => pureL (kvs.map (·.2))
  | v => pure v
theorem pureL_iff : ∀ {xs : List P}, pureL xs = true ↔ ∀ x ∈ xs, pure x = true
  | [] => by simp [pureL]
  | x :: xs => by simp [pureL, pureL_iff (xs := xs)]
@[simp] theorem pureL_nil : pureL [] = true := (rfl)
@[simp] theorem pureL_cons {x : P} {xs : List P} : pureL (x :: xs) = (pure x && pureL xs) := (rfl)
@[simp] theorem pureL_app {xs ys : List P} : pureL (xs ++ ys) = (pureL xs && pureL ys) := by
  rw [Bool.eq_iff_iff]
  simp only [Bool.and_eq_true, pureL_iff, List.mem_append]
  exact ⟨fun h => ⟨fun x hx => h x (.inl hx), fun x hx => h x (.inr hx)⟩, fun h x hx => hx.elim (h.1 x) (h.2 x)⟩
theorem pureL_map {α : Type} {f : α → P} {xs : List α} (h : ∀ x ∈ xs, pure (f x) = true) : pureL (xs.map f) = true := by
  rw [pureL_iff]
  intro x hx
  obtain ⟨y, hy, rfl⟩ := List.mem_map.mp hx
  exact h y hy
theorem pureL_sub {xs ys : List P} (h : pureL xs = true) (s : ∀ y ∈ ys, y ∈ xs) : pureL ys = true := pureL_iff.mpr fun y hy => pureL_iff.mp h y (s y hy)

abbrev Fp := Addr → Prop
/-- what a store bears that is not looked into: the laws' drawing thing -/
structure Opq where
  rep : Sto → D → Fp → Prop
  frame : ∀ {S S' : Sto} {d : D} {F : Fp}, rep S d F → (∀ a o, F a → S a = some o → S' a = some o) → rep S' d F
  al : ∀ {S : Sto} {d : D} {F : Fp}, rep S d F → ∀ a, F a → S a ≠ none
  ref : ∀ {S : Sto} {d : D} {F : Fp}, rep S d F → ∃ a, d = .ref a
  std : ∀ {S : Sto} {a : Addr} {F : Fp}, rep S (.ref a) F → S a ≠ none

mutual
inductive Rv (O : Opq) (S : Sto) : Fp → P → D → Prop
  | non {F : Fp} : Rv O S F .non .non
  | bl {F : Fp} (b : Bool) : Rv O S F (.bl b) (.bl b)
  | int {F : Fp} (i : Int) : Rv O S F (.int i) (.int i)
  | str {F : Fp} (x : Str) : Rv O S F (.str x) (.str x)
  | ty {F : Fp} (n : String) : Rv O S F (.ty n) (.ty n)
  | tup {F : Fp} {vs : List P} {ds : List D} : RvL O S F vs ds → Rv O S F (.tup vs) (.tup ds)
  | rot {F : Fp} {vs : List P} {ds : List D} : RvL O S F vs ds → Rv O S F (.rot vs) (.rot ds)
  | rol {F : Fp} {vs : List P} {ds : List D} : RvL O S F vs ds → Rv O S F (.rol vs) (.rol ds)
  | lst {F : Fp} {a : Addr} {vs : List P} {ds : List D} : F a → S a = some (.lst ds) → RvL O S (fun b => F b ∧ b ≠ a) vs ds → Rv O S F (.lst vs) (.ref a)
  | dK {F : Fp} {a : Addr} {kvs : List (Key × P)} {kds : List (Key × D)} : F a → S a = some (.dK kds) → kvs.map (·.1) = kds.map (·.1) → RvL O S (fun b => F b ∧ b ≠ a) (kvs.map (·.2)) (kds.map (·.2)) → Rv O S F (.dK kvs) (.ref a)
  | dT {F : Fp} {a : Addr} {kvs : List (List Key × P)} {kds : List (List Key × D)} : F a → S a = some (.dT kds) → kvs.map (·.1) = kds.map (·.1) → RvL O S (fun b => F b ∧ b ≠ a) (kvs.map (·.2)) (kds.map (·.2)) → Rv O S F (.dT kvs) (.ref a)
  | opq {F : Fp} {d : D} {G : Fp} : O.rep S d G → (∀ a, G a → F a) → Rv O S F .opq d
inductive RvL (O : Opq) (S : Sto) : Fp → List P → List D → Prop
  | nil {F : Fp} : RvL O S F [] []
  | cons {F : Fp} {v : P} {d : D} {vs : List P} {ds : List D} : Rv O S F v d → RvL O S F vs ds → RvL O S F (v :: vs) (d :: ds)
end
section
variable {O : Opq} {S S' : Sto} {F G : Fp}
mutual
theorem Rv.to : ∀ {F G : Fp} {v : P} {d : D}, (∀ a o, F a → S a = some o → S' a = some o) → (∀ a, F a → G a) → Rv O S F v d → Rv O S' G v d
  | _, _, _, _, _, _, .non => .non
  | _, _, _, _, _, _, .bl b => .bl b
  | _, _, _, _, _, _, .int i => .int i
  | _, _, _, _, _, _, .str x => .str x
  | _, _, _, _, _, _, .ty n => .ty n
  | _, _, _, _, hf, hg, .tup h => .tup (RvL.to hf hg h)
  | _, _, _, _, hf, hg, .rot h => .rot (RvL.to hf hg h)
  | _, _, _, _, hf, hg, .rol h => .rol (RvL.to hf hg h)
  | _, _, _, _, hf, hg, .lst fa e h => .lst (hg _ fa) (hf _ _ fa e) (RvL.to (fun a o z => hf a o z.1) (fun a z => ⟨hg a z.1, z.2⟩) h)
  | _, _, _, _, hf, hg, .dK fa e k h => .dK (hg _ fa) (hf _ _ fa e) k (RvL.to (fun a o z => hf a o z.1) (fun a z => ⟨hg a z.1, z.2⟩) h)
  | _, _, _, _, hf, hg, .dT fa e k h => .dT (hg _ fa) (hf _ _ fa e) k (RvL.to (fun a o z => hf a o z.1) (fun a z => ⟨hg a z.1, z.2⟩) h)
  | _, _, _, _, hf, hg, .opq r s => .opq (O.frame r fun a o ga e => hf a o (s a ga) e) fun a ga => hg a (s a ga)
theorem RvL.to : ∀ {F G : Fp} {vs : List P} {ds : List D}, (∀ a o, F a → S a = some o → S' a = some o) → (∀ a, F a → G a) → RvL O S F vs ds → RvL O S' G vs ds
  | _, _, _, _, _, _, .nil => .nil
  | _, _, _, _, hf, hg, .cons h t => .cons (Rv.to hf hg h) (RvL.to hf hg t)
end
theorem Rv.mono (hg : ∀ a, F a → G a) {v : P} {d : D} (h : Rv O S F v d) : Rv O S G v d := h.to (fun _ _ _ e => e) hg
theorem RvL.mono (hg : ∀ a, F a → G a) {v : List P} {d : List D} (h : RvL O S F v d) : RvL O S G v d := h.to (fun _ _ _ e => e) hg
mutual
theorem Rv.pu : ∀ {v : P} {d : D}, pure v = true → Rv O S F v d → Rv O S' G v d
  | _, _, _, .non => .non
  | _, _, _, .bl b => .bl b
  | _, _, _, .int i => .int i
  | _, _, _, .str x => .str x
  | _, _, _, .ty n => .ty n
  | _, _, p, .tup h => .tup (RvL.pu p h)
  | _, _, p, .rot h => .rot (RvL.pu p h)
  | _, _, p, .rol h => .rol (RvL.pu p h)
  | _, _, p, .lst _ _ _ => nomatch p
  | _, _, p, .dK _ _ _ _ => nomatch p
  | _, _, p, .dT _ _ _ _ => nomatch p
  | _, _, p, .opq _ _ => nomatch p
theorem RvL.pu : ∀ {vs : List P} {ds : List D}, pureL vs = true → RvL O S F vs ds → RvL O S' G vs ds
  | _, _, _, .nil => .nil
  | _, _, p, .cons h t => by
    rw [pureL_cons, Bool.and_eq_true] at p
    exact .cons (Rv.pu p.1 h) (RvL.pu p.2 t)
end
theorem RvL.length : ∀ {vs : List P} {ds : List D}, RvL O S F vs ds → vs.length = ds.length
  | _, _, .nil => rfl
  | _, _, .cons _ t => by rw [List.length_cons, List.length_cons, RvL.length t]
theorem RvL.get : ∀ {vs : List P} {ds : List D} {i : Nat} {v : P}, RvL O S F vs ds → vs[i]? = some v → ∃ d, ds[i]? = some d ∧ Rv O S F v d
  | _, _, _, _, .nil, e => by simp at e
  | _, _, 0, _, .cons r _, e => by simp at e; subst e; exact ⟨_, rfl, r⟩
  | _, _, i + 1, d, .cons _ t, e => by
    obtain ⟨v, h1, h2⟩ := RvL.get (i := i) (v := d) t (by simpa using e)
    exact ⟨v, by simpa using h1, h2⟩
theorem RvL.app : ∀ {vs ws : List P} {ds es : List D}, RvL O S F vs ds → RvL O S F ws es → RvL O S F (vs ++ ws) (ds ++ es)
  | _, _, _, _, .nil, s => s
  | _, _, _, _, .cons r t, s => .cons r (RvL.app t s)
theorem RvL.take : ∀ {vs : List P} {ds : List D} (n : Nat), RvL O S F vs ds → RvL O S F (vs.take n) (ds.take n)
  | _, _, 0, _ => .nil
  | _, _, _ + 1, .nil => .nil
  | _, _, n + 1, .cons r t => .cons r (RvL.take n t)
theorem RvL.drop : ∀ {vs : List P} {ds : List D} (n : Nat), RvL O S F vs ds → RvL O S F (vs.drop n) (ds.drop n)
  | _, _, 0, r => r
  | _, _, _ + 1, .nil => .nil
  | _, _, n + 1, .cons _ t => RvL.drop n t
theorem RvL.set {v : P} {d : D} (q : Rv O S F v d) : ∀ {vs : List P} {ds : List D} (i : Nat), RvL O S F vs ds → RvL O S F (vs.set i v) (ds.set i d)
  | _, _, _, .nil => .nil
  | _, _, 0, .cons _ t => .cons q t
  | _, _, i + 1, .cons r t => .cons r (RvL.set q i t)
theorem RvL.erase : ∀ {vs : List P} {ds : List D} (i : Nat), RvL O S F vs ds → RvL O S F (vs.eraseIdx i) (ds.eraseIdx i)
  | _, _, _, .nil => .nil
  | _, _, 0, .cons _ t => t
  | _, _, i + 1, .cons r t => .cons r (RvL.erase i t)
theorem RvL.dropLast : ∀ {vs : List P} {ds : List D}, RvL O S F vs ds → RvL O S F vs.dropLast ds.dropLast
  | _, _, .nil => .nil
  | _, _, .cons _ .nil => .nil
  | _, _, .cons r (.cons r2 t) => .cons r (RvL.dropLast (.cons r2 t))
theorem RvL.rev {vs : List P} {ds : List D} (r : RvL O S F vs ds) : RvL O S F vs.reverse ds.reverse := by
  have go : ∀ {vs : List P} {ds : List D}, RvL O S F vs ds → ∀ {ws : List P} {es : List D}, RvL O S F ws es → RvL O S F (vs.reverseAux ws) (ds.reverseAux es) := by
    intro vs
    induction vs with
    | nil => intro ds r ws es q; cases r; exact q
    | cons v vs ih =>
      intro ds r ws es q
      cases r with
      | cons h t => exact ih t (.cons h q)
  exact go r .nil
theorem RvL.rep (n : Nat) {vs : List P} {ds : List D} (r : RvL O S F vs ds) : RvL O S F (List.replicate n vs).flatten (List.replicate n ds).flatten := by
  induction n with
  | zero => exact .nil
  | succ n ih => rw [List.replicate_succ, List.replicate_succ, List.flatten_cons, List.flatten_cons]; exact r.app ih
theorem RvL.ints : ∀ {ns : List Int}, RvL O S F (ns.map P.int) (ns.map D.int)
  | [] => .nil
  | n :: ns => .cons (.int n) RvL.ints
theorem RvL.strs : ∀ {ns : List Str}, RvL O S F (ns.map P.str) (ns.map D.str)
  | [] => .nil
  | n :: ns => .cons (.str n) RvL.strs
theorem RvL.strs_inv : ∀ {ns : List Str} {ds : List D}, RvL O S F (ns.map P.str) ds → ds = ns.map D.str
  | [], ds, r => by cases r; rfl
  | n :: ns, ds, r => by
    cases r with
    | cons h t => cases h; rw [RvL.strs_inv t]; rfl
end
end Cay

set_option Elab.async false
set_option linter.all false
set_option maxRecDepth 100000
/-! Cay: what must hold of values, with no store in sight. -/
namespace Cay
open PySem PySem.Spec PyProof.Rows L2 Bay

abbrev VEv := List (Option (P × Bool))
structure VEx where
  cls : Str
  arg : Option (Str × P)
abbrev VX := VEx → Prop
abbrev VFn := List P → (P → List P → Prop) → VX → Prop

/-! ### values as trees -/
mutual
def toT : P → Option PyData
  | .non => some .none
  | .bl b => some (.bool b)
  | .int i => some (.int i)
  | .str x => some (.str x)
  | .tup xs => (toTL xs).map .tuple
  | .rot xs => (toTL xs).map .tuple
  | .rol xs => (toTL xs).map .list
  | .lst xs => (toTL xs).map .list
  | _ => none
def toTL : List P → Option (List PyData)
  | [] => some []
  | x :: xs => match toT x, toTL xs with
    | some t, some ts => some (t :: ts)
    | _, _ => none
end
/-! ### operations -/
def szL (xs : List P) : Prop := xs.length ≤ sizeLine
def addP : P → P → (P → Prop) → Prop
  | .int i, .int j, Q => Q (.int (i + j))
  | .str x, .str y, Q => x.length + y.length ≤ sizeLine ∧ Q (.str (x ++ y))
  | .tup xs, .tup ys, Q => xs.length + ys.length ≤ sizeLine ∧ Q (.tup (xs ++ ys))
  | .lst xs, .lst ys, Q => xs.length + ys.length ≤ sizeLine ∧ Q (.lst (xs ++ ys))
  | _, _, _ => False
def subP : P → P → (P → Prop) → Prop
  | .int i, .int j, Q => Q (.int (i - j))
  | _, _, _ => False
def mulP : P → P → (P → Prop) → Prop
  | .int i, .int j, Q => CMul i j ∧ Q (.int (i * j))
  | .tup xs, .int k, Q => (-1000 ≤ k ∧ k ≤ 1000 ∧ xs.length ≤ 1000) ∧ Q (.tup (repL xs k))
  | .str x, .int k, Q => (-(2 ^ 63) < k ∧ k < 2 ^ 63) ∧ x.length * k.toNat ≤ 1000000 ∧ Q (.str ⟨(repL x.cps.toList k).toArray⟩)
  | .lst xs, .int k, Q => (-(2 ^ 63) ≤ k ∧ k < 2 ^ 63) ∧ xs.length * k.toNat ≤ sizeLine ∧ Q (.lst (repL xs k))
  | _, _, _ => False
def fdvP : P → P → (P → Prop) → Prop
  | .int i, .int j, Q => CDiv i j ∧ Q (.int (i / j))
  | _, _, _ => False
def modP : P → P → (P → Prop) → Prop
  | .int i, .int j, Q => 0 < j ∧ Q (.int (i % j))
  | _, _, _ => False
def powP : P → P → (P → Prop) → Prop
  | .int i, .int j, Q => CPow i j ∧ Q (.int (i ^ j.toNat))
  | _, _, _ => False
def negP : P → (P → Prop) → Prop
  | .int i, Q => Q (.int (-i))
  | _, _ => False
def sEqP : P → P → Option Bool
  | .int i, .int j => some (decide (i = j))
  | .str x, .str y => some (decide (x = y))
  | .bl a, .bl b => some (decide (a = b))
  | .non, .non => some true
  | .non, .int _ => some false | .int _, .non => some false
  | .non, .str _ => some false | .str _, .non => some false
  | .non, .bl _ => some false | .bl _, .non => some false
  | .int _, .str _ => some false | .str _, .int _ => some false
  | .bl _, .str _ => some false | .str _, .bl _ => some false
  | _, _ => none
def eqP (v w : P) (Q : Bool → Prop) : Prop :=
  match sEqP v w with
  | some b => Q b
  | none => ∃ t u, toT v = some t ∧ toT w = some u ∧ SeqAt.shaped t = true ∧ SeqAt.shaped u = true ∧ Q (PyData.eqv t u)
def keyP : P → Option Key
  | .int i => some (.inl i)
  | .str x => some (.inr x)
  | _ => none
def keysP : List P → Option (List Key)
  | [] => some []
  | d :: ds => match keyP d, keysP ds with
    | some k, some ks => some (k :: ks)
    | _, _ => none
def keyTP : P → Option (List Key)
  | .tup ds => keysP ds
  | _ => none
section
variable {κ : Type} [DecidableEq κ]
def valP (kvs : List (κ × P)) (k : κ) : Option P := (kvs.find? fun kv => decide (kv.1 = k)).map (·.2)
def putP (kvs : List (κ × P)) (k : κ) (v : P) : List (κ × P) :=
  if (kvs.any fun kv => decide (kv.1 = k)) = true then kvs.map (fun kv => if kv.1 = k then (kv.1, v) else kv) else kvs ++ [(k, v)]
end
def memP (d : P) (xs : List P) (Q : Bool → Prop) : Prop :=
  ∃ t us, toT d = some t ∧ toTL xs = some us ∧ SeqAt.shaped t = true ∧ SeqAt.shaped (.list us) = true ∧ Q (us.any fun z => PyData.eqv z t)
def inP : P → P → (Bool → Prop) → Prop
  | .str x, .str y, Q => ∃ c : Nat, x = ⟨#[c]⟩ ∧ Q (decide (c ∈ y.cps.toList))
  | d, .tup xs, Q => memP d xs Q
  | d, .rot xs, Q => memP d xs Q
  | d, .rol xs, Q => memP d xs Q
  | d, .lst xs, Q => memP d xs Q
  | d, .dK kvs, Q => ∃ k, keyP d = some k ∧ Q (valP kvs k).isSome
  | d, .dT kvs, Q => ∃ k, keyTP d = some k ∧ Q (valP kvs k).isSome
  | _, _, _ => False
def intsP : List P → Option (List Int)
  | [] => some []
  | .int i :: r => match intsP r with
    | some ns => some (i :: ns)
    | none => none
  | _ :: _ => none
def ltP : P → P → (Bool → Prop) → Prop
  | .int i, .int j, Q => Q (decide (i < j))
  | .tup xs, .tup ys, Q => ∃ ns ms, intsP xs = some ns ∧ intsP ys = some ms ∧ Q (HT.lexLt ns ms)
  | _, _, _ => False
def leP : P → P → (Bool → Prop) → Prop
  | .int i, .int j, Q => Q (decide (i ≤ j))
  | _, _, _ => False
def gtP : P → P → (Bool → Prop) → Prop
  | .int i, .int j, Q => Q (decide (j < i))
  | _, _, _ => False
def geP : P → P → (Bool → Prop) → Prop
  | .int i, .int j, Q => Q (decide (j ≤ i))
  | _, _, _ => False
def cmpP : CmpOp → P → P → (P → Prop) → Prop
  | .Eq, d, e, Q => eqP d e fun b => Q (.bl b)
  | .NotEq, d, e, Q => eqP d e fun b => Q (.bl (!b))
  | .Lt, d, e, Q => ltP d e fun b => Q (.bl b)
  | .LtE, d, e, Q => leP d e fun b => Q (.bl b)
  | .Gt, d, e, Q => gtP d e fun b => Q (.bl b)
  | .GtE, d, e, Q => geP d e fun b => Q (.bl b)
  | .In, d, e, Q => inP d e fun b => Q (.bl b)
  | .NotIn, d, e, Q => inP d e fun b => Q (.bl (!b))
  | _, _, _, _ => False
def isNP : P → Bool
  | .non => true
  | _ => false
def idxLP (xs : List P) : P → (P → Prop) → Prop
  | .int i, Q => ∃ d, atI xs i = some d ∧ Q d
  | _, _ => False
def idxP : P → P → (P → Prop) → Prop
  | .tup xs, i, Q => idxLP xs i Q
  | .rot xs, i, Q => idxLP xs i Q
  | .rol xs, i, Q => idxLP xs i Q
  | .lst xs, i, Q => idxLP xs i Q
  | .str x, .int i, Q => x.length ≤ sizeLine ∧ ∃ c, atI x.cps.toList i = some c ∧ Q (.str ⟨#[c]⟩)
  | .dK kvs, i, Q => ∃ k d, keyP i = some k ∧ valP kvs k = some d ∧ Q d
  | .dT kvs, i, Q => ∃ k d, keyTP i = some k ∧ valP kvs k = some d ∧ Q d
  | _, _, _ => False
def slcP : P → Option Int → Option Int → (P → Prop) → Prop
  | .tup xs, lo, hi, Q => Q (.tup (cutL xs lo hi))
  | .rol xs, lo, hi, Q => (cutL xs lo hi).length ≤ sizeLine ∧ Q (.lst (cutL xs lo hi))
  | .lst xs, lo, hi, Q => (cutL xs lo hi).length ≤ sizeLine ∧ Q (.lst (cutL xs lo hi))
  | .str x, lo, hi, Q => x.length ≤ sizeLine ∧ Q (.str ⟨(cutL x.cps.toList lo hi).toArray⟩)
  | _, _, _, _ => False
/-- a[i] = v -/
def setP : P → P → P → (P → Prop) → Prop
  | .lst xs, i, v, Q => ∃ k j, i = .int k ∧ ixN xs.length k = some j ∧ Q (.lst (xs.set j v))
  | .dK kvs, i, v, Q => ∃ k, keyP i = some k ∧ kvs.length < sizeLine ∧ Q (.dK (putP kvs k v))
  | .dT kvs, i, v, Q => ∃ k, keyTP i = some k ∧ kvs.length < sizeLine ∧ Q (.dT (putP kvs k v))
  | _, _, _, _ => False
def charsP (x : Str) : List P := x.cps.toList.map fun c => .str ⟨#[c]⟩
def srcP : P → (List P → Prop) → Prop
  | .tup xs, Q => Q xs
  | .rot xs, Q => Q xs
  | .rol xs, Q => Q xs
  | .str x, Q => Q (charsP x)
  | .lst xs, Q => Q xs
  | _, _ => False
def lstP : P → (List P → Prop) → Prop
  | .rol xs, Q => Q xs
  | .lst xs, Q => Q xs
  | _, _ => False
def seqP : P → (List P → Prop) → Prop
  | .tup xs, Q => Q xs
  | .rot xs, Q => Q xs
  | .rol xs, Q => Q xs
  | .lst xs, Q => Q xs
  | _, _ => False
def tupP : P → (P → Prop) → Prop
  | .tup xs, Q => Q (.tup xs)
  | .rol xs, Q => Q (.tup xs)
  | .lst xs, Q => Q (.tup xs)
  | _, _ => False
def lenP : P → (Nat → Prop) → Prop
  | .tup xs, Q => Q xs.length
  | .rot xs, Q => Q xs.length
  | .rol xs, Q => Q xs.length
  | .str x, Q => x.length ≤ sizeLine ∧ Q x.length
  | .lst xs, Q => Q xs.length
  | _, _ => False
def isKindP (b : B1) : P → Option Bool
  | .non => some false
  | .bl _ => some (match b with | .isInt => true | .isBool => true | _ => false)
  | .int _ => some (match b with | .isInt => true | _ => false)
  | .str _ => some (match b with | .isStr => true | _ => false)
  | .tup _ => some (match b with | .isTup => true | _ => false)
  | .rot _ => some (match b with | .isTup => true | _ => false)
  | .rol _ => some false
  | .lst _ => some false
  | .dK _ => some false
  | .dT _ => some false
  | _ => none
def prP (p : Int × Int) : P := .tup [.int p.1, .int p.2]
def srtP (v : P) (Q : P → Prop) : Prop := lstP v fun xs => xs.length ≤ sizeLine ∧
  ((∃ ns : List Int, xs = ns.map .int ∧ ∀ ns' : List Int, ns'.Perm ns → ns'.Pairwise (· ≤ ·) → Q (.lst (ns'.map .int))) ∨
    ∃ ps : List (Int × Int), xs = ps.map prP ∧ ∀ ps' : List (Int × Int), ps'.Perm ps → ps'.Pairwise (fun p q => p.1 < q.1 ∨ (p.1 = q.1 ∧ p.2 ≤ q.2)) → Q (.lst (ps'.map prP)))
def unP : U1 → P → (P → Prop) → Prop
  | .rev, v, Q => lstP v fun xs => xs.length ≤ sizeLine ∧ Q (.lst xs.reverse)
  | .lsR, .int j, Q => (0 ≤ j ∧ j ≤ 16777216) ∧ Q (.lst ((List.range j.toNat).map fun i : Nat => .int i))
  | .lsR, _, _ => False
  | .srtS, v, Q => lstP v fun xs => ∃ ns : List Int, xs = ns.map .int ∧ ns.length < 64 ∧ ∀ ns' : List Int, ns'.Pairwise (· < ·) → (∀ k, k ∈ ns' ↔ k ∈ ns) → Q (.lst (ns'.map .int))
def zipP (v w : P) (Q : P → Prop) : Prop := lstP v fun xs => lstP w fun ys => xs.length ≤ sizeLine ∧ Q (.lst ((xs.zip ys).map fun p => .tup [p.1, p.2]))
def bltP : B1 → List P → (P → Prop) → Prop
  | .len, [d], Q => lenP d fun n => Q (.int n)
  | .abs, [.int i], Q => Q (.int (if i < 0 then -i else i))
  | .int, [.int i], Q => Q (.int i)
  | .int, [.bl b], Q => Q (.int (if b then 1 else 0))
  | .repr, [d], Q => ∃ t, toT d = some t ∧ t.showable = true ∧ t.depth ≤ 60 ∧ t.shown.length ≤ sizeLine ∧ Q (.str t.shown)
  | .str, [.int i], Q => i.natAbs.log2 < 1920 ∧ Q (.str (toString i))
  | .list, [d], Q => seqP d fun xs => xs.length ≤ sizeLine ∧ Q (.lst xs)
  | .tuple, [d], Q => tupP d Q
  | .sorted, [d], Q => srtP d Q
  | .isStr, [d], Q => ∃ b, isKindP .isStr d = some b ∧ Q (.bl b)
  | .isTup, [d], Q => ∃ b, isKindP .isTup d = some b ∧ Q (.bl b)
  | .isInt, [d], Q => ∃ b, isKindP .isInt d = some b ∧ Q (.bl b)
  | .isBool, [d], Q => ∃ b, isKindP .isBool d = some b ∧ Q (.bl b)
  | _, _, _ => False
/-- a method that changes what it is asked of: what it gives, what is left -/
def mutP : M1 → P → List P → (P → P → Prop) → Prop
  | .append, .lst xs, [d], Q => xs.length < sizeLine ∧ Q .non (.lst (xs ++ [d]))
  | .extend, .lst xs, [.lst ys], Q => xs.length + ys.length ≤ sizeLine ∧ Q .non (.lst (xs ++ ys))
  | .pop, .lst xs, [], Q => ∃ d, xs[xs.length - 1]? = some d ∧ Q d (.lst xs.dropLast)
  | .popAt, .lst xs, [.int i], Q => ∃ (k : Nat) (d : P), i = k ∧ (k : Int) < 2 ^ 63 ∧ xs[k]? = some d ∧ Q d (.lst (xs.eraseIdx k))
  | _, _, _, _ => False
def joinP : P → List P → (P → Prop) → Prop
  | .str z, [d], Q => ∃ ys : List Str, seqP d (fun xs => xs = ys.map .str) ∧ (ys.map (·.length)).sum + ys.length * z.length ≤ 16777216 ∧ Q (.str (Str.join z ys))
  | _, _, _ => False

/-! ### who is who -/
def nthE : MEs → Nat → Option ME
  | .nil, _ => none
  | .cons e _, 0 => some e
  | .cons _ r, n + 1 => nthE r n
def varOf : ME → Option Nat
  | .var x => some x
  | _ => none
def vl : ME → List Nat
  | .var x => [x]
  | _ => []
def isMut : M1 → Bool
  | .append => true | .extend => true | .pop => true | .popAt => true
  | _ => false
def keepsB : B1 → Bool
  | .list => true | .tuple => true | .sorted => true | .sortedSet => true | .dict => true | .max1 => true | .min1 => true | .max2 => true | .min2 => true
  | _ => false
/-- the positions that a def changes; whether what it gives shares with nothing -/
structure IO where
  at_ : Nat → List Nat
  fr : Nat → Bool := fun _ => false
instance : CoeFun IO (fun _ => Nat → List Nat) := ⟨IO.at_⟩
section
variable (io : IO)
mutual
/-- the names that a value may share with -/
def al : ME → List Nat
  | .var i => [i]
  | .add a b => al a ++ al b
  | .mul a _ => al a
  | .and _ b => al b
  | .or _ b => al b
  | .ite _ a b => al a ++ al b
  | .tup es => als [] 0 es
  | .lst es => als [] 0 es
  | .dic _ es => als [] 0 es
  | .idx a _ => al a
  | .slc a _ _ => al a
  | .call f es => if io.fr f = true then [] else als (io f) 0 es
  | .callK _ es _ => als [] 0 es
  | .blt b es => if keepsB b then als [] 0 es else []
  | .mth _ o _ => al o
  | .un u a => if u = .rev then al a else []
  | .lsZ a b => al a ++ al b
  | .lc elt _ _ _ own => (al elt).filter fun i => !(own.map (·.2)).contains i
  | _ => []
def als (skip : List Nat) : Nat → MEs → List Nat
  | _, .nil => []
  | k, .cons e r => (if skip.contains k then [] else al e) ++ als skip (k + 1) r
end
def alI : MI → List Nat
  | .gen e => al io e
  | .enum e => al io e
  | .zip2 a b => al io a ++ al io b
  | _ => []
mutual
/-- the names whose things are changed -/
def mu : ME → List Nat
  | .add a b => mu a ++ mu b
  | .sub a b => mu a ++ mu b
  | .mul a b => mu a ++ mu b
  | .fdv a b => mu a ++ mu b
  | .mod a b => mu a ++ mu b
  | .pow a b => mu a ++ mu b
  | .neg a => mu a
  | .cmp _ a b => mu a ++ mu b
  | .cmp2 _ _ a b c => mu a ++ mu b ++ mu c
  | .isN _ a => mu a
  | .not a => mu a
  | .and a b => mu a ++ mu b
  | .or a b => mu a ++ mu b
  | .ite c a b => mu c ++ mu a ++ mu b
  | .tup es => mus [] 0 es
  | .lst es => mus [] 0 es
  | .dic _ es => mus [] 0 es
  | .idx a i => mu a ++ mu i
  | .slc a lo hi => mu a ++ muO lo ++ muO hi
  | .call f es => mus (io f) 0 es
  | .callK _ es _ => mus [] 0 es
  | .blt _ es => mus [] 0 es
  | .mth m o es => (if isMut m then vl o else mu o) ++ mus [] 0 es
  | .un _ a => mu a
  | .lsZ a b => mu a ++ mu b
  | .lc elt _ it c own => muI it ++ muO c ++ mu elt
  | _ => []
def mus (tk : List Nat) : Nat → MEs → List Nat
  | _, .nil => []
  | k, .cons e r => (if tk.contains k then vl e else mu e) ++ mus tk (k + 1) r
def muO : MO → List Nat
  | .no => []
  | .yes e => mu e
def muI : MI → List Nat
  | .gen e => mu e
  | .rng1 e => mu e
  | .rng2 a b => mu a ++ mu b
  | .enum e => mu e
  | .zip2 a b => mu a ++ mu b
end
def muS : MS → List Nat
  | .seq a b => muS a ++ muS b
  | .set _ e => mu io e
  | .setT _ e => mu io e
  | .par _ es => mus io [] 0 es
  | .sub o i e => mu io e ++ vl o ++ mu io i
  | .expr e => mu io e
  | .ret e => mu io e
  | .ite c a b => mu io c ++ muS a ++ muS b
  | .for_ _ it b => muI io it ++ muS b
  | .whl c b => mu io c ++ muS b
  | .rais _ _ a => muO io a
  | .try_ _ _ b h => muS b ++ muS h
  | _ => []
end
/-- the root of the value is new -/
def rf : ME → Bool
  | .add _ _ => true
  | .mul _ _ => true
  | .lst _ => true
  | .dic _ _ => true
  | .dicT => true
  | .slc _ _ _ => true
  | .blt .list _ => true
  | .blt .sorted _ => true
  | .un _ _ => true
  | .lsZ _ _ => true
  | .lc _ _ _ _ _ => true
  | _ => false
def disj (a b : List Nat) : Bool := a.all fun i => !b.contains i

/-! ### names and what they hold -/
def vlook (ε : VEv) (i : Nat) : Option P := match ε[i]? with
  | some (some (v, _)) => some v
  | _ => none
def vown (ε : VEv) (i : Nat) : Option P := match ε[i]? with
  | some (some (v, true)) => some v
  | _ => none
/-- the names among some that may share -/
def live (ε : VEv) (als : List Nat) : List Nat := als.filter fun i => match ε[i]? with
  | some (some (v, _)) => !pure v
  | _ => true
def demote : List Nat → VEv → VEv
  | [], ε => ε
  | i :: is, ε => demote is (match ε[i]? with
    | some (some (v, _)) => ε.set i (some (v, false))
    | _ => ε)
/-- nothing is shared -/
def sole (r : Bool) (as : List Nat) (v : P) (ε : VEv) : Bool := pure v || (r && spure v) || (live ε as).isEmpty
def asg1 (x : Nat) (r : Bool) (as : List Nat) (v : P) (ε : VEv) : VEv :=
  if sole r as v ε = true then ε.set x (some (v, true)) else (demote (live ε as) ε).set x (some (v, false))
/-- several names, one thing of several parts -/
def asgL (ok : Bool) : List Nat → List P → VEv → VEv
  | x :: xs, v :: vs, ε => asgL ok xs vs (ε.set x (some (v, ok || pure v)))
  | _, _, ε => ε
def unT : P → Option (List P)
  | .tup vs => some vs
  | .rot vs => some vs
  | _ => none
def one1 (vs : List P) : Bool := decide ((vs.filter fun v => !pure v).length ≤ 1)
def asgT (is : List Nat) (as : List Nat) (v : P) (ε : VEv) : Option VEv := match unT v with
  | some vs => if is.length = vs.length then some (if pure v then asgL true is vs ε else if (live ε as).isEmpty && one1 vs then asgL true is vs ε else asgL false is vs (demote (live ε as) ε)) else none
  | none => none
def vasg (tg : MG) (as : List Nat) (v : P) (ε : VEv) : Option VEv := match tg with
  | .nm i => some (asg1 i false as v ε)
  | .tp is => asgT is as v ε
/-- a for's target: what is not pure is shared -/
def vasgF (tg : MG) (v : P) (ε : VEv) : Option VEv := match tg with
  | .nm i => some (ε.set i (some (v, pure v)))
  | .tp is => match unT v with
    | some vs => if is.length = vs.length then some (asgL false is vs ε) else none
    | none => none
def vwipe (ε : VEv) : List Nat → VEv
  | [] => ε
  | v :: vs => (vwipe ε vs).set v none
def ioNames : List Nat → MEs → Option (List Nat)
  | [], _ => some []
  | p :: ps, es => match (nthE es p).bind varOf, ioNames ps es with
    | some x, some xs => some (x :: xs)
    | _, _ => none
def ioFix : List Nat → List Nat → VEv → List P → Option (List P)
  | p :: ps, x :: xs, ε, vs => match vown ε x with
    | some v => ioFix ps xs ε (vs.set p v)
    | none => none
  | _, _, _, vs => some vs
def ioSet : List Nat → List P → VEv → Option VEv
  | [], [], ε => some ε
  | x :: xs, u :: us, ε => ioSet xs us (ε.set x (some (u, true)))
  | _, _, _ => none
def ioOut : List Nat → VEv → Option (List P)
  | [], _ => some []
  | x :: xs, ε => match vown ε x, ioOut xs ε with
    | some v, some vs => some (v :: vs)
    | _, _ => none

/-! ### the walk -/
structure VSig where
  fn : Nat → VFn
  ar : Nat → Nat
  io : IO
  cg : Nat → P
  exs : List (Str × Option Str) := []
  sub : Str → Str → Bool := fun x c => decide (x = c)
  /-- in an except suite: where the caught one is, and what -/
  xa : Option (Nat × VEx) := none
def ofD : D → P
  | .bl b => .bl b
  | .int i => .int i
  | .str x => .str x
  | .ty n => .ty n
  | _ => .non
def vtst (Q : Bool → VEv → Prop) : P → VEv → Prop := fun v ε => match v with
  | .bl b => Q b ε
  | _ => False
/-- the names of an inner block as they were, the others as they are -/
def vbk (own : List Nat) : Nat → VEv → VEv → VEv
  | _, [], _ => []
  | k, a :: ε, b :: ε4 => (if own.contains k = true then a else b) :: vbk own (k + 1) ε ε4
  | k, a :: ε, [] => (if own.contains k = true then a else none) :: vbk own (k + 1) ε []
def vlcGo (f : P → VEv → (Option P → VEv → Prop) → Prop) : List P → List P → VEv → (List P → VEv → Prop) → Prop
  | acc, [], ε, Q => Q acc ε
  | acc, x :: xs, ε, Q => f x ε fun r ε1 => match r with
    | some d => acc.length < sizeLine ∧ vlcGo f (acc ++ [d]) xs ε1 Q
    | none => vlcGo f acc xs ε1 Q
/-- what is stored shares with nothing -/
def stOK (io : IO) (m : M1) (es : MEs) (vs : List P) : Bool := match m with
  | .append => pureL vs || (als io [] 0 es).isEmpty
  | .extend => vs.all spure || (als io [] 0 es).isEmpty
  | _ => true
def xaFree (x : Option (Nat × VEx)) (own : List Nat) : Bool := match x with
  | none => true
  | some (i, _) => !own.contains i
section
variable (V : VSig)
mutual
def vE : ME → VX → VEv → (P → VEv → Prop) → Prop
  | .var i, _, ε, Q => match vlook ε i with
    | some v => Q v ε
    | none => False
  | .cst d, _, ε, Q => Q (ofD d) ε
  | .cg i, _, ε, Q => Q (V.cg i) ε
  | .add a b, X, ε, Q => vE a X ε fun x ε1 => vE b X ε1 fun y ε2 => addP x y fun z => Q z ε2
  | .sub a b, X, ε, Q => vE a X ε fun x ε1 => vE b X ε1 fun y ε2 => subP x y fun z => Q z ε2
  | .mul a b, X, ε, Q => vE a X ε fun x ε1 => vE b X ε1 fun y ε2 => mulP x y fun z => Q z ε2
  | .fdv a b, X, ε, Q => vE a X ε fun x ε1 => vE b X ε1 fun y ε2 => fdvP x y fun z => Q z ε2
  | .mod a b, X, ε, Q => vE a X ε fun x ε1 => vE b X ε1 fun y ε2 => modP x y fun z => Q z ε2
  | .pow a b, X, ε, Q => vE a X ε fun x ε1 => vE b X ε1 fun y ε2 => powP x y fun z => Q z ε2
  | .neg a, X, ε, Q => vE a X ε fun x ε1 => negP x fun z => Q z ε1
  | .cmp op a b, X, ε, Q => vE a X ε fun x ε1 => vE b X ε1 fun y ε2 => cmpP op x y fun z => Q z ε2
  | .cmp2 op op' a b c, X, ε, Q => vE a X ε fun x ε1 => vE b X ε1 fun y ε2 => cmpP op x y fun r => vtst (fun k ε3 => if k = true then vE c X ε3 fun z ε4 => cmpP op' y z fun q => Q q ε4 else Q (.bl false) ε3) r ε2
  | .isN n a, X, ε, Q => vE a X ε fun x ε1 => Q (.bl (if n then !isNP x else isNP x)) ε1
  | .not a, X, ε, Q => vE a X ε (vtst fun k ε1 => Q (.bl (!k)) ε1)
  | .and a b, X, ε, Q => vE a X ε (vtst fun k ε1 => if k = true then vE b X ε1 Q else Q (.bl false) ε1)
  | .or a b, X, ε, Q => vE a X ε (vtst fun k ε1 => if k = true then Q (.bl true) ε1 else vE b X ε1 Q)
  | .ite c a b, X, ε, Q => vE c X ε (vtst fun k ε1 => if k = true then vE a X ε1 Q else vE b X ε1 Q)
  | .tup es, X, ε, Q => vEs es X ε fun vs ε1 => vs.length ≤ sizeLine ∧ Q (.tup vs) ε1
  | .lst es, X, ε, Q => vEs es X ε fun vs ε1 => vs.length ≤ sizeLine ∧ Q (.lst vs) ε1
  | .dic ks es, X, ε, Q => vEs es X ε fun vs ε1 => Q (.dK ((ks.zip vs).map fun p => (.inr p.1, p.2))) ε1
  | .dicT, _, ε, Q => Q (.dT []) ε
  | .idx a i, X, ε, Q => vE a X ε fun x ε1 => vE i X ε1 fun y ε2 => idxP x y fun z => Q z ε2
  | .slc a lo hi, X, ε, Q => vE a X ε fun x ε1 => vO lo X ε1 fun l ε2 => vO hi X ε2 fun h ε3 => slcP x l h fun z => Q z ε3
  | .call f es, X, ε, Q => vEs es X ε fun vs ε1 => vs.length = V.ar f ∧ ∃ xs vs', ioNames (V.io f) es = some xs ∧ ioFix (V.io f) xs ε1 vs = some vs' ∧
      V.fn f vs' (fun r us => ∃ ε2, ioSet xs us ε1 = some ε2 ∧ Q r ε2) X
  | .callK f es perm, X, ε, Q => vEs es X ε fun vs ε1 => V.io f = [] ∧ vs.length = perm.length ∧ ∃ vs', permL perm vs = some vs' ∧ vs'.length = V.ar f ∧ V.fn f vs' (fun r _ => Q r ε1) X
  | .xf i f, _, ε, Q => ∃ x v, V.xa = some (i, x) ∧ x.arg = some (f, v) ∧ Q v ε
  | .xis i c, _, ε, Q => ∃ x, V.xa = some (i, x) ∧ Q (.bl (V.sub x.cls c)) ε
  | .blt b es, X, ε, Q => vEs es X ε fun vs ε1 => bltP b vs fun z => Q z ε1
  | .mth m o es, X, ε, Q => if isMut m = true then (match varOf o with
      | some x => ∃ v, vown ε x = some v ∧ (∃ xs, v = .lst xs) ∧ vEs es X ε fun vs ε1 => stOK V.io m es vs = true ∧ ∃ u, vown ε1 x = some u ∧ mutP m u vs fun r w => Q r (ε1.set x (some (w, true)))
      | none => False)
      else m = .join ∧ vE o X ε fun x ε1 => (∃ z, x = .str z) ∧ vEs es X ε1 fun vs ε2 => joinP x vs fun z => Q z ε2
  | .un u a, X, ε, Q => vE a X ε fun x ε1 => unP u x fun z => Q z ε1
  | .lsZ a b, X, ε, Q => vE a X ε fun x ε1 => vE b X ε1 fun y ε2 => zipP x y fun z => Q z ε2
  | .lc elt tg it c own, X, ε, Q => xaFree V.xa (own.map (·.2)) = true ∧ vI it X ε fun xs ε1 =>
      vlcGo (fun x ε K => pure x = true ∧ ∃ ε2, vasg tg [] x (vwipe ε (own.map (·.2))) = some ε2 ∧ vC c (fun _ => False) ε2 fun k ε3 => if k = true then vE elt (fun _ => False) ε3 fun v ε4 => K (some v) (vbk (own.map (·.2)) 0 ε ε4) else K none (vbk (own.map (·.2)) 0 ε ε3)) [] xs ε1 fun ys ε5 => Q (.lst ys) ε5
def vEs : MEs → VX → VEv → (List P → VEv → Prop) → Prop
  | .nil, _, ε, Q => Q [] ε
  | .cons e r, X, ε, Q => vE e X ε fun v ε1 => vEs r X ε1 fun vs ε2 => Q (v :: vs) ε2
def vO : MO → VX → VEv → (Option Int → VEv → Prop) → Prop
  | .no, _, ε, Q => Q none ε
  | .yes e, X, ε, Q => vE e X ε fun v ε1 => match v with
    | .int i => Q (some i) ε1
    | _ => False
def vC : MO → VX → VEv → (Bool → VEv → Prop) → Prop
  | .no, _, ε, Q => Q true ε
  | .yes e, X, ε, Q => vE e X ε (vtst Q)
def vI : MI → VX → VEv → (List P → VEv → Prop) → Prop
  | .rng1 a, X, ε, Q => vE a X ε fun v ε1 => match v with
    | .int j => (-rngS ≤ j ∧ j < rngS) ∧ Q ((List.range j.toNat).map fun i : Nat => .int i) ε1
    | _ => False
  | .rng2 a b, X, ε, Q => vE a X ε fun v ε1 => vE b X ε1 fun w ε2 => match v, w with
    | .int i, .int j => (-rngS ≤ i ∧ i < rngS ∧ -rngS ≤ j ∧ j < rngS) ∧ Q ((List.range (j - i).toNat).map fun k : Nat => .int (i + k)) ε2
    | _, _ => False
  | .enum a, X, ε, Q => vE a X ε fun v ε1 => lstP v fun xs => Q (xs.zipIdx.map fun p => .tup [.int p.2, p.1]) ε1
  | .zip2 a b, X, ε, Q => vE a X ε fun v ε1 => vE b X ε1 fun w ε2 => lstP v fun xs => lstP w fun ys => Q ((xs.zip ys).map fun p => .tup [p.1, p.2]) ε2
  | .gen e, X, ε, Q => vE e X ε fun v ε1 => srcP v fun xs => Q xs ε1
end
end
structure VK where
  nx : VEv → Prop
  /-- the mark: the value shares with nothing -/
  rt : Bool → P → VEv → Prop
  bk : VEv → Prop := fun _ => False
  ct : VEv → Prop := fun _ => False
def vforGo (tb : VK → VEv → Prop) (asg : P → VEv → Option VEv) : List P → VK → VEv → Prop
  | [], K, ε => K.nx ε
  | x :: xs, K, ε => ∃ ε', asg x ε = some ε' ∧ tb { nx := vforGo tb asg xs K, rt := K.rt, bk := K.nx, ct := vforGo tb asg xs K } ε'
def vwhGo (c : VEv → (Bool → VEv → Prop) → Prop) (tb : VK → VEv → Prop) : Nat → VK → VEv → Prop
  | 0, _, _ => False
  | n + 1, K, ε => c ε fun b ε1 => if b = true then tb { nx := vwhGo c tb n K, rt := K.rt, bk := K.nx, ct := vwhGo c tb n K } ε1 else K.nx ε1
/-- what a for walks shares with nothing -/
def soleI (it : MI) (xs : List P) : Bool := pureL xs && (match it with
  | .gen e => rf e
  | .enum e => rf e
  | .zip2 a b => rf a && rf b
  | _ => true)
def parOK (io : IO) (ε : VEv) : MEs → List P → Bool
  | .cons e r, v :: vs => sole (rf e) (al io e) v ε && parOK io ε r vs
  | _, _ => true
/-- a name that owns -/
def ownV (ε : VEv) : ME → Bool
  | .var i => (vown ε i).isSome
  | _ => false
def frEs (io : IO) (ε : VEv) : MEs → List P → Bool
  | .cons e r, v :: vs => (sole (rf e) (al io e) v ε || ownV ε e) && frEs io ε r vs
  | _, _ => true
def frOK (io : IO) (ε : VEv) : ME → P → Bool
  | .tup es, .tup vs => frEs io ε es vs
  | e, v => sole (rf e) (al io e) v ε || ownV ε e
def vendH (oi : Option Nat) (K : VK) : VK := match oi with
  | none => K
  | some i => { nx := fun ε => K.nx (ε.set i none), rt := K.rt, bk := fun ε => K.bk (ε.set i none), ct := fun ε => K.ct (ε.set i none) }
def tupM : ME → Option MEs
  | .tup es => some es
  | _ => none
def vS : MS → VSig → VX → VK → VEv → Prop
  | .skip, _, _, K, ε => K.nx ε
  | .seq a b, V, X, K, ε => vS a V X { K with nx := vS b V X K } ε
  | .set i e, V, X, K, ε => vE V e X ε fun v ε1 => K.nx (asg1 i (rf e) (al V.io e) v ε1)
  | .setT is e, V, X, K, ε => match tupM e with
    | some es => vEs V es X ε fun vs ε1 => vs.length ≤ sizeLine ∧ if parOK V.io ε1 es vs = true then vs.length = is.length ∧ K.nx (asgL true is vs ε1) else ∃ ε2, asgT is (als V.io [] 0 es) (.tup vs) ε1 = some ε2 ∧ K.nx ε2
    | none => vE V e X ε fun v ε1 => ∃ ε2, asgT is (al V.io e) v ε1 = some ε2 ∧ K.nx ε2
  | .par is es, V, X, K, ε => vEs V es X ε fun vs ε1 => vs.length = is.length ∧ parOK V.io ε1 es vs = true ∧ K.nx (asgL true is vs ε1)
  | .sub o i e, V, X, K, ε => vE V e X ε fun v ε1 => (pure v || (al V.io e).isEmpty) = true ∧ (match varOf o with
      | some x => ∃ w, vown ε1 x = some w ∧ vE V i X ε1 fun y ε2 => ∃ u, vown ε2 x = some u ∧ setP u y v fun z => K.nx (ε2.set x (some (z, true)))
      | none => False)
  | .expr e, V, X, K, ε => vE V e X ε fun _ ε1 => K.nx ε1
  | .ret e, V, X, K, ε => vE V e X ε fun v ε1 => K.rt (frOK V.io ε1 e v) v ε1
  | .retN, _, _, K, ε => K.rt true .non ε
  | .ite c a b, V, X, K, ε => vE V c X ε (vtst fun k ε1 => if k = true then vS a V X K ε1 else vS b V X K ε1)
  | .for_ tg it body, V, X, K, ε => vI V it X ε fun xs ε1 => vforGo (vS body V X) (vasgF tg) xs K (if soleI it xs then ε1 else demote (live ε1 (alI V.io it)) ε1)
  | .whl c body, V, X, K, ε => ∃ n, vwhGo (fun ε Q => vE V c X ε (vtst Q)) (vS body V X) n K ε
  | .brk, _, _, K, ε => K.bk ε
  | .cont, _, _, K, ε => K.ct ε
  | .rais cls f arg, V, X, K, ε => (cls, f) ∈ V.exs ∧ match f, arg with
    | some f, .yes e => vE V e X ε fun v _ => pure v = true ∧ X ⟨cls, some (f, v)⟩
    | none, .no => X ⟨cls, none⟩
    | _, _ => False
  | .try_ oi cls body h, V, X, K, ε => (match oi with | some i => decide (i < ε.length) | none => true) = true ∧ vS body V (fun x => (x.cls, x.arg.map (·.1)) ∈ V.exs ∧
      if V.sub x.cls cls = true then vS h { V with xa := oi.map fun i => (i, x) } (fun _ => False) (vendH oi K) (ε.map fun _ => none) else X x) K ε
end Cay

set_option Elab.async false
set_option linter.all false
set_option maxRecDepth 100000
/-! Cay: the operations are sound. -/
namespace Cay
open PySem PySem.Spec PyProof.Rows L2 Bay
section
variable {Ω : Opq} {S S' : Sto} {F G : Fp}
/-- a value that is no container, anywhere -/
def Anyw (Ω : Opq) (v : P) (d : D) : Prop := ∀ (S : Sto) (F : Fp), Rv Ω S F v d
theorem Rv.anyw {v : P} {d : D} (p : pure v = true) (h : Rv Ω S F v d) : Anyw Ω v d := fun _ _ => h.pu p
theorem Rv.noref {v : P} {d : D} (p : pure v = true) (h : Rv Ω S F v d) (a : Addr) : d ≠ .ref a := by
  cases h <;> first | (intro z; cases z; done) | (cases p; done)
/-- what an operation gives -/
structure OpR (Ω : Opq) (S S' : Sto) (F : Fp) (z : P) (dz : D) (nw : Bool) : Prop where
  ex : ∀ a o, S a = some o → S' a = some o
  rv : ∃ G : Fp, Rv Ω S' G z dz ∧ ∀ a, G a → S' a ≠ none ∧ (S a = none ∨ F a)
  rt : nw = true → ∀ a, dz = .ref a → S a = none
theorem OpR.pu {z : P} {dz : D} {nw : Bool} (p : pure z = true) (h : Rv Ω S G z dz) : OpR Ω S S F z dz nw :=
  ⟨fun _ _ e => e, ⟨fun _ => False, h.pu p, fun _ z => z.elim⟩, fun _ a e => absurd e (h.noref p a)⟩
theorem OpR.any {z : P} {dz : D} {nw : Bool} (p : pure z = true) (h : Anyw Ω z dz) : OpR Ω S S F z dz nw := .pu p (h S F)
theorem OpR.part {z : P} {dz : D} (al : ∀ a, F a → S a ≠ none) (h : Rv Ω S F z dz) : OpR Ω S S F z dz false :=
  ⟨fun _ _ e => e, ⟨F, h, fun a fa => ⟨al a fa, .inr fa⟩⟩, fun z => nomatch z⟩
theorem up_ex {p : Addr} {o : O} (n : S p = none) : ∀ a u, S a = some u → (S.upd p o) a = some u := fun a u e => by rw [Sto.upd_ne (Sto.ne e n)]; exact e
/-- a new list -/
theorem OpR.new {vs : List P} {ds : List D} {p : Addr} {nw : Bool} (al : ∀ a, F a → S a ≠ none) (n : S p = none) (r : RvL Ω S F vs ds) : OpR Ω S (S.upd p (.lst ds)) F (.lst vs) (.ref p) nw :=
  ⟨up_ex n, ⟨fun a => F a ∨ a = p, .lst (.inr rfl) Sto.upd_same (r.to (fun a o _ e => up_ex n a o e) fun a fa => ⟨.inl fa, fun z => al a fa (z ▸ n)⟩), fun a h => by
    rcases h with h | rfl
    · refine ⟨?_, .inr h⟩
      cases e : S a with
      | none => exact absurd e (al a h)
      | some o => rw [up_ex n a o e]; exact fun z => nomatch z
    · exact ⟨by rw [Sto.upd_same]; exact (fun z => nomatch z), .inl n⟩⟩, fun _ a e => by cases e; exact n⟩
theorem OpR.newK {kvs : List (Key × P)} {kds : List (Key × D)} {p : Addr} {nw : Bool} (al : ∀ a, F a → S a ≠ none) (n : S p = none) (hk : kvs.map (·.1) = kds.map (·.1)) (r : RvL Ω S F (kvs.map (·.2)) (kds.map (·.2))) : OpR Ω S (S.upd p (.dK kds)) F (.dK kvs) (.ref p) nw :=
  ⟨up_ex n, ⟨fun a => F a ∨ a = p, .dK (.inr rfl) Sto.upd_same hk (r.to (fun a o _ e => up_ex n a o e) fun a fa => ⟨.inl fa, fun z => al a fa (z ▸ n)⟩), fun a h => by
    rcases h with h | rfl
    · refine ⟨?_, .inr h⟩
      cases e : S a with
      | none => exact absurd e (al a h)
      | some o => rw [up_ex n a o e]; exact fun z => nomatch z
    · exact ⟨by rw [Sto.upd_same]; exact (fun z => nomatch z), .inl n⟩⟩, fun _ a e => by cases e; exact n⟩
theorem OpR.newT {p : Addr} {nw : Bool} (n : S p = none) : OpR Ω S (S.upd p (.dT [])) F (.dT []) (.ref p) nw :=
  ⟨up_ex n, ⟨fun a => a = p, .dT rfl Sto.upd_same rfl .nil, fun a h => by
    subst h
    exact ⟨by rw [Sto.upd_same]; exact (fun z => nomatch z), .inl n⟩⟩, fun _ a e => by cases e; exact n⟩
variable {x y : P} {d e : D} {Q : P → Prop} {Q' : QD} {nw : Bool}
theorem add_ok (al : ∀ a, F a → S a ≠ none) (hx : Rv Ω S F x d) (hy : Rv Ω S F y e) (h : addP x y Q) (k : ∀ z dz S', Q z → OpR Ω S S' F z dz true → Q' dz S') : addD d e S Q' := by
  unfold addP at h
  split at h
  · cases hx; cases hy; exact k _ _ _ h (.any rfl fun _ _ => .int _)
  · cases hx; cases hy; exact ⟨h.1, k _ _ _ h.2 (.any rfl fun _ _ => .str _)⟩
  · cases hx with | tup hx => cases hy with | tup hy =>
    refine ⟨by rw [← hx.length, ← hy.length]; exact h.1, k _ _ _ h.2 ?_⟩
    exact ⟨fun _ _ e => e, ⟨F, .tup (hx.app hy), fun a fa => ⟨al a fa, .inr fa⟩⟩, fun _ a z => nomatch z⟩
  · cases hx with | lst f1 e1 hx => cases hy with | lst f2 e2 hy =>
    replace hx := hx.mono (G := F) fun _ z => z.1
    replace hy := hy.mono (G := F) fun _ z => z.1
    show (match S _, S _ with | some (.lst xs), some (.lst ys) => newL (xs ++ ys) S Q' | _, _ => False)
    rw [e1, e2]
    refine ⟨by rw [List.length_append, ← hx.length, ← hy.length]; exact h.1, fun p n => k _ _ _ h.2 (.new al n (hx.app hy))⟩
  · exact h.elim
theorem sub_ok (hx : Rv Ω S F x d) (hy : Rv Ω S F y e) (h : subP x y Q) (k : ∀ z dz S', Q z → pure z = true → OpR Ω S S' F z dz nw → Q' dz S') : subD d e S Q' := by
  unfold subP at h
  split at h
  · cases hx; cases hy; exact k _ _ _ h rfl (.any rfl fun _ _ => .int _)
  · exact h.elim
theorem mul_ok (al : ∀ a, F a → S a ≠ none) (hx : Rv Ω S F x d) (hy : Rv Ω S F y e) (h : mulP x y Q) (k : ∀ z dz S', Q z → OpR Ω S S' F z dz true → Q' dz S') : mulD d e S Q' := by
  unfold mulP at h
  split at h
  · cases hx; cases hy; exact ⟨h.1, k _ _ _ h.2 (.any rfl fun _ _ => .int _)⟩
  · cases hx with | tup hx =>
    cases hy
    obtain ⟨⟨h2, h3, h4⟩, q⟩ := h
    refine ⟨⟨h2, h3, by rw [← hx.length]; exact h4⟩, k _ _ _ q ?_⟩
    · exact ⟨fun _ _ e => e, ⟨F, .tup (hx.rep _), fun a fa => ⟨al a fa, .inr fa⟩⟩, fun _ a z => nomatch z⟩
  · cases hx; cases hy; exact ⟨h.1, h.2.1, k _ _ _ h.2.2 (.any rfl fun _ _ => .str _)⟩
  · cases hx with | lst f1 e1 hx =>
    cases hy
    replace hx := hx.mono (G := F) fun _ z => z.1
    show (match S _ with | some (.lst xs) => _ | _ => False)
    rw [e1]
    obtain ⟨h1, h2, q⟩ := h
    refine ⟨h1, by rw [← hx.length]; exact h2, ?_, fun p n => k _ _ _ q (.new al n (hx.rep _))⟩
    unfold repL
    rw [← (hx.rep _).length]
    have : ∀ (n : Nat) (l : List P), (List.replicate n l).flatten.length = l.length * n := fun n l => by
      induction n with
      | zero => simp
      | succ n ih => rw [List.replicate_succ, List.flatten_cons, List.length_append, ih, Nat.mul_succ]; omega
    rw [this]; exact h2
  · exact h.elim
theorem fdv_ok (hx : Rv Ω S F x d) (hy : Rv Ω S F y e) (h : fdvP x y Q) (k : ∀ z dz S', Q z → pure z = true → OpR Ω S S' F z dz nw → Q' dz S') : fdvD d e S Q' := by
  unfold fdvP at h
  split at h
  · cases hx; cases hy; exact ⟨h.1, k _ _ _ h.2 rfl (.any rfl fun _ _ => .int _)⟩
  · exact h.elim
theorem mod_ok (hx : Rv Ω S F x d) (hy : Rv Ω S F y e) (h : modP x y Q) (k : ∀ z dz S', Q z → pure z = true → OpR Ω S S' F z dz nw → Q' dz S') : modD d e S Q' := by
  unfold modP at h
  split at h
  · cases hx; cases hy; exact ⟨h.1, k _ _ _ h.2 rfl (.any rfl fun _ _ => .int _)⟩
  · exact h.elim
theorem pow_ok (hx : Rv Ω S F x d) (hy : Rv Ω S F y e) (h : powP x y Q) (k : ∀ z dz S', Q z → pure z = true → OpR Ω S S' F z dz nw → Q' dz S') : powD d e S Q' := by
  unfold powP at h
  split at h
  · cases hx; cases hy; exact ⟨h.1, k _ _ _ h.2 rfl (.any rfl fun _ _ => .int _)⟩
  · exact h.elim
theorem neg_ok (hx : Rv Ω S F x d) (h : negP x Q) (k : ∀ z dz S', Q z → pure z = true → OpR Ω S S' F z dz nw → Q' dz S') : negD d S Q' := by
  unfold negP at h
  split at h
  · cases hx; exact k _ _ _ h rfl (.any rfl fun _ _ => .int _)
  · exact h.elim
mutual
theorem toT_ok : ∀ {F : Fp} {v : P} {d : D} {t : PyData}, Rv Ω S F v d → toT v = some t → Vw S d t
  | _, _, _, _, .non, e => by cases e; exact .non
  | _, _, _, _, .bl b, e => by cases e; exact .bl b
  | _, _, _, _, .int i, e => by cases e; exact .int i
  | _, _, _, _, .str x, e => by cases e; exact .str x
  | _, _, _, _, .ty n, e => nomatch e
  | _, .tup vs, _, _, .tup h, e => by
    rw [toT] at e
    cases q : toTL vs with
    | none => rw [q] at e; cases e
    | some ts => rw [q] at e; cases e; exact .tup (toTL_ok h q)
  | _, .rot vs, _, _, .rot h, e => by
    rw [toT] at e
    cases q : toTL vs with
    | none => rw [q] at e; cases e
    | some ts => rw [q] at e; cases e; exact .rot (toTL_ok h q)
  | _, .rol vs, _, _, .rol h, e => by
    rw [toT] at e
    cases q : toTL vs with
    | none => rw [q] at e; cases e
    | some ts => rw [q] at e; cases e; exact .rol (toTL_ok h q)
  | _, .lst vs, _, _, .lst f a h, e => by
    rw [toT] at e
    cases q : toTL vs with
    | none => rw [q] at e; cases e
    | some ts => rw [q] at e; cases e; exact .lst a (toTL_ok h q)
  | _, _, _, _, .dK _ _ _ _, e => nomatch e
  | _, _, _, _, .dT _ _ _ _, e => nomatch e
  | _, _, _, _, .opq _ _, e => nomatch e
theorem toTL_ok : ∀ {F : Fp} {vs : List P} {ds : List D} {ts : List PyData}, RvL Ω S F vs ds → toTL vs = some ts → VwL S ds ts
  | _, _, _, _, .nil, e => by cases e; exact .nil
  | _, v :: vs, _, _, .cons h r, e => by
    rw [toTL] at e
    cases q : toT v with
    | none => rw [q] at e; cases e
    | some t =>
      cases q2 : toTL vs with
      | none => rw [q, q2] at e; cases e
      | some ts => rw [q, q2] at e; cases e; exact .cons (toT_ok h q) (toTL_ok r q2)
end
theorem sEq_ok (hx : Rv Ω S F x d) (hy : Rv Ω S F y e) : sEq d e = sEqP x y := by
  cases hx <;> cases hy <;> first | rfl | (rename_i r _ ; obtain ⟨a, rfl⟩ := Ω.ref r; rfl) | (rename_i r _ _ _; obtain ⟨a, rfl⟩ := Ω.ref r; rfl) | (rename_i r _ _ _ _; obtain ⟨a, rfl⟩ := Ω.ref r; rfl) | skip
  all_goals first
    | (rename_i r1 _ _ _ r2 _; obtain ⟨a, rfl⟩ := Ω.ref r1; obtain ⟨b, rfl⟩ := Ω.ref r2; rfl)
    | (have := Ω.ref ‹Ω.rep _ _ _›; obtain ⟨a, rfl⟩ := this; rfl)
theorem eq_ok {Qb : Bool → Prop} (hx : Rv Ω S F x d) (hy : Rv Ω S F y e) (h : eqP x y Qb) : eqD d e S Qb := by
  unfold eqD
  unfold eqP at h
  rw [sEq_ok hx hy]
  split
  · rename_i b hb; rw [hb] at h; exact h
  · rename_i hb; rw [hb] at h
    obtain ⟨t, u, h1, h2, h3, h4, q⟩ := h
    exact ⟨t, u, toT_ok hx h1, toT_ok hy h2, h3, h4, q⟩
theorem key_ok {k : Key} (hx : Rv Ω S F x d) (h : keyP x = some k) : keyD d = some k := by
  cases hx <;> first | exact h | (cases h; done)
theorem keys_ok : ∀ {xs : List P} {ds : List D} {k : List Key}, RvL Ω S F xs ds → keysP xs = some k → keysD ds = some k
  | _, _, _, .nil, h => h
  | x :: xs, _, _, .cons r t, h => by
    rw [keysP] at h
    rw [keysD]
    cases q : keyP x with
    | none => rw [q] at h; cases h
    | some k =>
      cases q2 : keysP xs with
      | none => rw [q, q2] at h; cases h
      | some ks => rw [q, q2] at h; rw [key_ok r q, keys_ok t q2]; exact h
theorem keyT_ok {k : List Key} (hx : Rv Ω S F x d) (h : keyTP x = some k) : keyT d = some k := by
  cases hx <;> first | exact keys_ok ‹_› h | (cases h; done)
theorem mem_ok {xs : List P} {ds : List D} {Qb : Bool → Prop} (hx : Rv Ω S F x d) (hy : RvL Ω S F xs ds) (h : memP x xs Qb) : memD d ds S Qb := by
  obtain ⟨t, us, h1, h2, h3, h4, q⟩ := h
  exact ⟨t, us, toT_ok hx h1, toTL_ok hy h2, h3, h4, q⟩
section
variable {κ : Type} [DecidableEq κ]
theorem val_ok {k : κ} : ∀ {kvs : List (κ × P)} {kds : List (κ × D)}, kvs.map (·.1) = kds.map (·.1) → RvL Ω S F (kvs.map (·.2)) (kds.map (·.2)) → (valP kvs k = none ∧ valD kds k = none) ∨ ∃ v d, valP kvs k = some v ∧ valD kds k = some d ∧ Rv Ω S F v d
  | [], [], _, _ => .inl ⟨rfl, rfl⟩
  | [], _ :: _, e, _ => by simp at e
  | _ :: _, [], e, _ => by simp at e
  | (k1, v) :: kvs, (k2, d) :: kds, e, r => by
    simp only [List.map_cons, List.cons.injEq] at e
    obtain ⟨rfl, e2⟩ := e
    cases r with
    | cons h t =>
      unfold valP valD
      rw [List.find?_cons, List.find?_cons]
      by_cases hk : k1 = k
      · right
        exact ⟨v, d, by simp [hk], by simp [hk], h⟩
      · have := val_ok (k := k) e2 t
        simpa [hk, valP, valD] using this
theorem put_ok {k : κ} {v : P} {d : D} {kvs : List (κ × P)} {kds : List (κ × D)} (e : kvs.map (·.1) = kds.map (·.1)) (r : RvL Ω S F (kvs.map (·.2)) (kds.map (·.2))) (h : Rv Ω S F v d) :
    (putP kvs k v).map (·.1) = (putD kds k d).map (·.1) ∧ RvL Ω S F ((putP kvs k v).map (·.2)) ((putD kds k d).map (·.2)) := by
  have ha : ∀ {kvs : List (κ × P)} {kds : List (κ × D)}, kvs.map (·.1) = kds.map (·.1) → (kvs.any fun kv => decide (kv.1 = k)) = (kds.any fun kv => decide (kv.1 = k)) := by
    intro kvs kds e
    have e1 : (kvs.any fun kv => decide (kv.1 = k)) = (kvs.map (·.1)).any fun z => decide (z = k) := by rw [List.any_map]; rfl
    have e2 : (kds.any fun kv => decide (kv.1 = k)) = (kds.map (·.1)).any fun z => decide (z = k) := by rw [List.any_map]; rfl
    rw [e1, e2, e]
  unfold putP putD
  rw [ha e]
  split
  · clear ha
    constructor
    · rw [List.map_map, List.map_map]
      have a1 : (kvs.map ((fun x => x.1) ∘ fun kv => if kv.1 = k then (kv.1, v) else kv)) = kvs.map (·.1) := by
        apply List.map_congr_left; intro kv _; show (if kv.1 = k then (kv.1, v) else kv).1 = kv.1; split <;> rfl
      have a2 : (kds.map ((fun x => x.1) ∘ fun kv => if kv.1 = k then (kv.1, d) else kv)) = kds.map (·.1) := by
        apply List.map_congr_left; intro kv _; show (if kv.1 = k then (kv.1, d) else kv).1 = kv.1; split <;> rfl
      rw [a1, a2, e]
    · rename_i hany
      clear hany
      induction kvs generalizing kds with
      | nil => cases kds with
        | nil => exact .nil
        | cons _ _ => simp at e
      | cons p kvs ih => cases kds with
        | nil => simp at e
        | cons q kds =>
          simp only [List.map_cons, List.cons.injEq] at e
          rw [List.map_cons, List.map_cons] at r
          cases r with
          | cons h1 t =>
            rw [List.map_cons, List.map_cons, List.map_cons, List.map_cons]
            refine .cons ?_ (ih e.2 t)
            rw [e.1]
            split
            · exact h
            · exact h1
  · rw [List.map_append, List.map_append, List.map_append, List.map_append, e]
    exact ⟨rfl, r.app (.cons h .nil)⟩
end
theorem in_ok {Qb : Bool → Prop} (hx : Rv Ω S F x d) (hy : Rv Ω S F y e) (h : inP x y Qb) : inD d e S Qb := by
  have hx0 := hx
  cases hy with
  | str y => cases hx <;> first | exact h | exact h.elim
  | tup hy => cases hx <;> first | exact mem_ok hx0 hy h | (obtain ⟨a, rfl⟩ := Ω.ref ‹Ω.rep _ _ _›; exact mem_ok hx0 hy h)
  | rot hy => cases hx <;> first | exact mem_ok hx0 hy h | (obtain ⟨a, rfl⟩ := Ω.ref ‹Ω.rep _ _ _›; exact mem_ok hx0 hy h)
  | rol hy => cases hx <;> first | exact mem_ok hx0 hy h | (obtain ⟨a, rfl⟩ := Ω.ref ‹Ω.rep _ _ _›; exact mem_ok hx0 hy h)
  | @lst _ a vs ds f e hy =>
    replace hy := hy.mono (G := F) fun _ z => z.1
    have g : memP x vs Qb := by cases hx <;> exact h
    have g2 := mem_ok hx0 hy g
    have : ∀ d, memD d ds S Qb → inD d (.ref a) S Qb := fun d z => by
      cases d <;> (show (match S a with | some (.lst xs) => _ | some (.dK kvs) => _ | some (.dT kvs) => _ | _ => False); rw [e]; exact z)
    exact this d g2
  | @dK _ a kvs kds f e hk r =>
    replace r := r.mono (G := F) fun _ z => z.1
    have g : ∃ k, keyP x = some k ∧ Qb (valP kvs k).isSome := by cases hx <;> exact h
    obtain ⟨k, g1, g2⟩ := g
    have g3 : (valP kvs k).isSome = (valD kds k).isSome := by
      rcases val_ok (k := k) hk r with ⟨a1, a2⟩ | ⟨v, d, a1, a2, _⟩ <;> rw [a1, a2] <;> rfl
    rw [g3] at g2
    have g4 := key_ok hx0 g1
    cases d <;> (show (match S a with | some (.lst xs) => _ | some (.dK kvs) => _ | some (.dT kvs) => _ | _ => False); rw [e]; exact ⟨k, g4, g2⟩)
  | @dT _ a kvs kds f e hk r =>
    replace r := r.mono (G := F) fun _ z => z.1
    have g : ∃ k, keyTP x = some k ∧ Qb (valP kvs k).isSome := by cases hx <;> exact h
    obtain ⟨k, g1, g2⟩ := g
    have g3 : (valP kvs k).isSome = (valD kds k).isSome := by
      rcases val_ok (k := k) hk r with ⟨a1, a2⟩ | ⟨v, d, a1, a2, _⟩ <;> rw [a1, a2] <;> rfl
    rw [g3] at g2
    have g4 := keyT_ok hx0 g1
    cases d <;> (show (match S a with | some (.lst xs) => _ | some (.dK kvs) => _ | some (.dT kvs) => _ | _ => False); rw [e]; exact ⟨k, g4, g2⟩)
  | opq r s => cases hx <;> exact h.elim
  | _ => cases hx <;> exact h.elim
theorem ints_ok : ∀ {xs : List P} {ds : List D} {ns : List Int}, RvL Ω S F xs ds → intsP xs = some ns → intsOf ds = some ns
  | _, _, _, .nil, h => h
  | .int i :: xs, _, ns, .cons (.int _) t, h => by
    rw [intsP] at h
    rw [intsOf]
    cases q : intsP xs with
    | none => rw [q] at h; cases h
    | some ks => rw [q] at h; rw [ints_ok t q]; exact h
theorem lt_ok {Qb : Bool → Prop} (hx : Rv Ω S F x d) (hy : Rv Ω S F y e) (h : ltP x y Qb) : ltD d e Qb := by
  unfold ltP at h
  split at h
  · cases hx; cases hy; exact h
  · cases hx with | tup hx => cases hy with | tup hy =>
    obtain ⟨ns, ms, h1, h2, q⟩ := h
    exact ⟨ns, ms, ints_ok hx h1, ints_ok hy h2, q⟩
  · exact h.elim
theorem cmp_ok {op : CmpOp} (hx : Rv Ω S F x d) (hy : Rv Ω S F y e) (h : cmpP op x y Q) (k : ∀ z dz S', Q z → pure z = true → OpR Ω S S' F z dz nw → Q' dz S') : cmpD op d e S Q' := by
  have kb : ∀ b, Q (.bl b) → Q' (.bl b) S := fun b q => k _ _ _ q rfl (.any rfl fun _ _ => .bl _)
  have mono : ∀ {g : (Bool → Prop) → Prop}, g (fun b => Q (.bl b)) → (g (fun b => Q (.bl b)) → cmpD op d e S Q') → cmpD op d e S Q' := fun a f => f a
  have ki : ∀ {R T : Bool → Prop}, (∀ b, R b → T b) → eqP x y R → eqP x y T := fun f z => by
    unfold eqP at *
    split at z
    · exact f _ z
    · obtain ⟨t, u, h1, h2, h3, h4, q⟩ := z; exact ⟨t, u, h1, h2, h3, h4, f _ q⟩
  have km : ∀ {v : P} {xs : List P} {R T : Bool → Prop}, (∀ b, R b → T b) → memP v xs R → memP v xs T := fun f z => by
    obtain ⟨t, u, h1, h2, h3, h4, q⟩ := z; exact ⟨t, u, h1, h2, h3, h4, f _ q⟩
  have kn : ∀ {v w : P} {R T : Bool → Prop}, (∀ b, R b → T b) → inP v w R → inP v w T := fun f z => by
    unfold inP at *
    split at z
    · obtain ⟨c, h1, q⟩ := z; exact ⟨c, h1, f _ q⟩
    · exact km f z
    · exact km f z
    · exact km f z
    · exact km f z
    · obtain ⟨c, h1, q⟩ := z; exact ⟨c, h1, f _ q⟩
    · obtain ⟨c, h1, q⟩ := z; exact ⟨c, h1, f _ q⟩
    · exact z
  have kl : ∀ {R T : Bool → Prop}, (∀ b, R b → T b) → ltP x y R → ltP x y T := fun f z => by
    unfold ltP at *
    split at z
    · exact f _ z
    · obtain ⟨ns, ms, h1, h2, q⟩ := z; exact ⟨ns, ms, h1, h2, f _ q⟩
    · exact z
  cases op <;> first | exact h.elim | skip
  case Eq => exact eq_ok hx hy (ki kb h)
  case NotEq => exact eq_ok hx hy (ki (fun b q => kb (!b) q) h)
  case Lt => exact lt_ok hx hy (kl kb h)
  case LtE => 
    have h' : leP x y fun b => Q (.bl b) := h
    unfold leP at h'; split at h'
    · cases hx; cases hy; exact kb _ h'
    · exact h'.elim
  case Gt => 
    have h' : gtP x y fun b => Q (.bl b) := h
    unfold gtP at h'; split at h'
    · cases hx; cases hy; exact kb _ h'
    · exact h'.elim
  case GtE => 
    have h' : geP x y fun b => Q (.bl b) := h
    unfold geP at h'; split at h'
    · cases hx; cases hy; exact kb _ h'
    · exact h'.elim
  case In => exact in_ok hx hy (kn kb h)
  case NotIn => exact in_ok hx hy (kn (fun b q => kb (!b) q) h)
theorem at_ok {xs : List P} {ds : List D} {i : Int} {v : P} (r : RvL Ω S F xs ds) (h : atI xs i = some v) : ∃ d, atI ds i = some d ∧ Rv Ω S F v d := by
  unfold atI at *
  rw [← r.length]
  cases q : ixN xs.length i with
  | none => rw [q] at h; cases h
  | some j => rw [q] at h; exact r.get h
theorem idxL_ok {xs : List P} {ds : List D} (al : ∀ a, F a → S a ≠ none) (r : RvL Ω S F xs ds) (hy : Rv Ω S F y e) (h : idxLP xs y Q) (k : ∀ z dz S', Q z → OpR Ω S S' F z dz false → Q' dz S') : idxL ds e S Q' := by
  unfold idxLP at h
  split at h
  · cases hy
    obtain ⟨v, h1, q⟩ := h
    obtain ⟨d, h2, rv⟩ := at_ok r h1
    exact ⟨d, h2, k _ _ _ q (.part al rv)⟩
  · exact h.elim
theorem idx_ok (al : ∀ a, F a → S a ≠ none) (hx : Rv Ω S F x d) (hy : Rv Ω S F y e) (h : idxP x y Q) (k : ∀ z dz S', Q z → OpR Ω S S' F z dz false → Q' dz S') : idxD d e S Q' := by
  cases hx with
  | tup hx => exact idxL_ok al hx hy h k
  | rot hx => exact idxL_ok al hx hy h k
  | rol hx => exact idxL_ok al hx hy h k
  | @lst _ a vs ds f e1 hx =>
    replace hx := hx.mono (G := F) fun _ z => z.1
    show (match S a with | some (.lst xs) => _ | some (.dK kvs) => _ | some (.dT kvs) => _ | _ => False)
    rw [e1]
    exact idxL_ok al hx hy h k
  | str x => 
    cases hy <;> first | exact h.elim | skip
    obtain ⟨h1, c, h2, q⟩ := h
    exact ⟨h1, c, h2, k _ _ _ q (.any rfl fun _ _ => .str _)⟩
  | @dK _ a kvs kds f e1 hk r =>
    replace r := r.mono (G := F) fun _ z => z.1
    obtain ⟨c, v, h1, h2, q⟩ := h
    show (match S a with | some (.lst xs) => _ | some (.dK kvs) => _ | some (.dT kvs) => _ | _ => False)
    rw [e1]
    rcases val_ok (k := c) hk r with ⟨a1, a2⟩ | ⟨v2, d, a1, a2, rv⟩
    · rw [a1] at h2; cases h2
    · rw [a1] at h2; cases h2
      exact ⟨c, d, key_ok hy h1, a2, k _ _ _ q (.part al rv)⟩
  | @dT _ a kvs kds f e1 hk r =>
    replace r := r.mono (G := F) fun _ z => z.1
    obtain ⟨c, v, h1, h2, q⟩ := h
    show (match S a with | some (.lst xs) => _ | some (.dK kvs) => _ | some (.dT kvs) => _ | _ => False)
    rw [e1]
    rcases val_ok (k := c) hk r with ⟨a1, a2⟩ | ⟨v2, d, a1, a2, rv⟩
    · rw [a1] at h2; cases h2
    · rw [a1] at h2; cases h2
      exact ⟨c, d, keyT_ok hy h1, a2, k _ _ _ q (.part al rv)⟩
  | _ => exact h.elim
theorem cut_len {xs : List P} {ds : List D} {lo hi : Option Int} (r : RvL Ω S F xs ds) : RvL Ω S F (cutL xs lo hi) (cutL ds lo hi) := by
  unfold cutL
  rw [← r.length]
  exact (r.drop _).take _
theorem slc_ok {lo hi : Option Int} (al : ∀ a, F a → S a ≠ none) (hx : Rv Ω S F x d) (h : slcP x lo hi Q) (k : ∀ z dz S', Q z → OpR Ω S S' F z dz true → Q' dz S') : slcD d lo hi S Q' := by
  cases hx with
  | tup hx => exact k _ _ _ h ⟨fun _ _ e => e, ⟨F, .tup (cut_len hx), fun a fa => ⟨al a fa, .inr fa⟩⟩, fun _ a z => nomatch z⟩
  | rol hx => exact ⟨by rw [← (cut_len hx).length]; exact h.1, fun p n => k _ _ _ h.2 (.new al n (cut_len hx))⟩
  | @lst _ a vs ds f e1 hx =>
    replace hx := hx.mono (G := F) fun _ z => z.1
    show (match S a with | some (.lst xs) => newL (cutL xs lo hi) S Q' | _ => False)
    rw [e1]
    exact ⟨by rw [← (cut_len hx).length]; exact h.1, fun p n => k _ _ _ h.2 (.new al n (cut_len hx))⟩
  | str x => exact ⟨h.1, k _ _ _ h.2 (.any rfl fun _ _ => .str _)⟩
  | _ => exact h.elim
theorem seq_ok {R : List P → Prop} {R' : List D → Prop} (hx : Rv Ω S F x d) (h : seqP x R) (k : ∀ xs ds, R xs → RvL Ω S F xs ds → R' ds) : seqD d S R' := by
  cases hx with
  | tup hx => exact k _ _ h hx
  | rot hx => exact k _ _ h hx
  | rol hx => exact k _ _ h hx
  | @lst _ a vs ds f e1 hx =>
    replace hx := hx.mono (G := F) fun _ z => z.1
    show (match S a with | some (.lst xs) => R' xs | _ => False)
    rw [e1]; exact k _ _ h hx
  | _ => exact h.elim
theorem chars_ok {x : Str} : RvL Ω S F (charsP x) (chars x) := by
  unfold charsP chars
  induction x.cps.toList with
  | nil => exact .nil
  | cons c l ih => exact .cons (.str _) ih
theorem src_ok {R : List P → Prop} {R' : List D → List (Addr × List D) → Prop} (hx : Rv Ω S F x d) (h : srcP x R) (k : ∀ xs ds g, R xs → RvL Ω S F xs ds → (g = [] ∨ ∃ a, d = .ref a ∧ F a ∧ S a = some (.lst ds) ∧ g = [(a, ds)]) → R' ds g) : srcD d S R' := by
  cases hx with
  | tup hx => exact k _ _ _ h hx (.inl rfl)
  | rot hx => exact k _ _ _ h hx (.inl rfl)
  | rol hx => exact k _ _ _ h hx (.inl rfl)
  | str x => exact k _ _ _ h chars_ok (.inl rfl)
  | @lst _ a vs ds f e1 hx =>
    replace hx := hx.mono (G := F) fun _ z => z.1
    show (match S a with | some (.lst xs) => R' xs [(a, xs)] | _ => False)
    rw [e1]; exact k _ _ _ h hx (.inr ⟨a, rfl, f, e1, rfl⟩)
  | _ => exact h.elim
theorem lst_ok {R : List P → Prop} {R' : List D → List (Addr × List D) → Prop} (hx : Rv Ω S F x d) (h : lstP x R) (k : ∀ xs ds g, R xs → RvL Ω S F xs ds → (g = [] ∨ ∃ a, d = .ref a ∧ F a ∧ S a = some (.lst ds) ∧ g = [(a, ds)]) → R' ds g) : lstD d S R' := by
  cases hx with
  | rol hx => exact k _ _ _ h hx (.inl rfl)
  | @lst _ a vs ds f e1 hx =>
    replace hx := hx.mono (G := F) fun _ z => z.1
    show (match S a with | some (.lst xs) => R' xs [(a, xs)] | _ => False)
    rw [e1]; exact k _ _ _ h hx (.inr ⟨a, rfl, f, e1, rfl⟩)
  | _ => exact h.elim
theorem len_ok {R : Nat → Prop} (hx : Rv Ω S F x d) (h : lenP x R) : lenD d S R := by
  cases hx with
  | tup hx => show R _; rw [← hx.length]; exact h
  | rot hx => show R _; rw [← hx.length]; exact h
  | rol hx => show R _; rw [← hx.length]; exact h
  | str x => exact h
  | @lst _ a vs ds f e1 hx =>
    replace hx := hx.mono (G := F) fun _ z => z.1
    show (match S a with | some (.lst xs) => R xs.length | _ => False)
    rw [e1]; show R _; rw [← hx.length]; exact h
  | _ => exact h.elim
theorem kind_ok {b : B1} {k : Bool} (hx : Rv Ω S F x d) (h : isKindP b x = some k) : isKind b d S = some k := by
  cases hx with
  | @lst _ a vs ds f e1 hx =>
    show (match S a with | some (.lst _) => some false | some (.dK _) => some false | some (.dT _) => some false | _ => none) = some k; rw [e1]; exact h
  | @dK _ a kvs kds f e1 hk r => show (match S a with | some (.lst _) => some false | some (.dK _) => some false | some (.dT _) => some false | _ => none) = some k; rw [e1]; exact h
  | @dT _ a kvs kds f e1 hk r => show (match S a with | some (.lst _) => some false | some (.dK _) => some false | some (.dT _) => some false | _ => none) = some k; rw [e1]; exact h
  | opq _ _ => cases h
  | ty _ => cases h
  | _ => exact h
theorem one_inv {v : P} {ds : List D} (h : RvL Ω S F [v] ds) : ∃ d, ds = [d] ∧ Rv Ω S F v d := by
  cases h with | cons r t => cases t; exact ⟨_, rfl, r⟩
theorem prs_ok : ∀ {ps : List (Int × Int)} {ds : List D}, RvL Ω S F (ps.map prP) ds → ds = ps.map Bay.prD
  | [], ds, r => by cases r; rfl
  | p :: ps, ds, r => by
    cases r with
    | cons h t =>
      have h' : Rv Ω S F (.tup [.int p.1, .int p.2]) _ := h
      cases h' with
      | tup q =>
        cases q with
        | cons q1 q =>
          cases q with
          | cons q2 q =>
            cases q1; cases q2; cases q
            rw [prs_ok t]; rfl
theorem prs_rv : ∀ {ps : List (Int × Int)}, RvL Ω S F (ps.map prP) (ps.map Bay.prD)
  | [] => .nil
  | p :: ps => .cons (.tup (.cons (.int _) (.cons (.int _) .nil))) prs_rv
theorem ints_inv : ∀ {ns : List Int} {ds : List D}, RvL Ω S F (ns.map P.int) ds → ds = ns.map D.int
  | [], ds, r => by cases r; rfl
  | n :: ns, ds, r => by
    cases r with
    | cons h t => cases h; rw [ints_inv t]; rfl
theorem nodup_len : ∀ {l m : List Int}, l.Nodup → (∀ x ∈ l, x ∈ m) → l.length ≤ m.length
  | [], m, _, _ => Nat.zero_le _
  | x :: l, m, hn, hs => by
    obtain ⟨h1, h2⟩ := List.nodup_cons.mp hn
    have hx := hs x (List.mem_cons_self ..)
    have := nodup_len (m := m.erase x) h2 fun y hy => (List.mem_erase_of_ne (a := y) (b := x) (by rintro rfl; exact h1 hy)).mpr (hs y (List.mem_cons_of_mem _ hy))
    rw [List.length_erase_of_mem hx] at this
    have hp : 0 < m.length := List.length_pos_of_mem hx
    rw [List.length_cons]
    omega
theorem srt_ok (hx : Rv Ω S F x d) (h : srtP x Q) (k : ∀ z dz S', Q z → OpR Ω S S' (fun _ => False) z dz true → Q' dz S') : srtD d S Q' := by
  refine lst_ok hx h fun xs ds g q r _ => ?_
  obtain ⟨hl, q⟩ := q
  rcases q with ⟨ns, rfl, q⟩ | ⟨ps, rfl, q⟩
  · rw [ints_inv r]
    refine .inl ⟨ns, rfl, fun ns' h1 h2 => ⟨?_, fun p n => k _ _ _ (q ns' h1 h2) (.new (fun _ z => z.elim) n .ints)⟩⟩
    rw [List.length_map] at hl ⊢
    rw [h1.length_eq]; exact hl
  · rw [prs_ok r]
    refine .inr ⟨ps, rfl, fun ps' h1 h2 => ⟨?_, fun p n => k _ _ _ (q ps' h1 h2) (.new (fun _ z => z.elim) n prs_rv)⟩⟩
    rw [List.length_map] at hl ⊢
    rw [h1.length_eq]; exact hl
theorem rev_ok (al : ∀ a, F a → S a ≠ none) (hx : Rv Ω S F x d) (h : unP .rev x Q) (k : ∀ z dz S', Q z → OpR Ω S S' F z dz true → Q' dz S') : unD .rev d S Q' := by
  have h' : lstP x fun xs => xs.length ≤ sizeLine ∧ Q (.lst xs.reverse) := h
  show lstD d S fun xs _ => newL xs.reverse S Q'
  exact lst_ok hx h' fun xs ds g q r _ => ⟨by rw [List.length_reverse, ← r.length]; exact q.1, fun p n => k _ _ _ q.2 (.new al n r.rev)⟩
theorem lsR_ok (hx : Rv Ω S F x d) (h : unP .lsR x Q) (k : ∀ z dz S', Q z → OpR Ω S S' (fun _ => False) z dz true → Q' dz S') : unD .lsR d S Q' := by
  cases x <;> first | (exact h.elim) | skip
  rename_i j
  cases hx
  obtain ⟨⟨h0, h1⟩, q⟩ := h
  refine ⟨⟨h0, h1⟩, by rw [List.length_map, List.length_range, sizeLine_eq]; omega, fun p n => k _ _ _ q (.new (fun _ z => z.elim) n ?_)⟩
  have e1 : ((List.range j.toNat).map fun i : Nat => P.int i) = (((List.range j.toNat).map fun i : Nat => (i : Int))).map P.int := by rw [List.map_map]; rfl
  have e2 : ((List.range j.toNat).map fun i : Nat => D.int i) = (((List.range j.toNat).map fun i : Nat => (i : Int))).map D.int := by rw [List.map_map]; rfl
  rw [e1, e2]
  exact .ints
theorem srtS_ok (hx : Rv Ω S F x d) (h : unP .srtS x Q) (k : ∀ z dz S', Q z → OpR Ω S S' (fun _ => False) z dz true → Q' dz S') : unD .srtS d S Q' := by
  have h' : lstP x fun xs => ∃ ns : List Int, xs = ns.map .int ∧ ns.length < 64 ∧ ∀ ns' : List Int, ns'.Pairwise (· < ·) → (∀ k, k ∈ ns' ↔ k ∈ ns) → Q (.lst (ns'.map .int)) := h
  show lstD d S fun xs _ => ∃ ns : List Int, xs = ns.map .int ∧ ns.length < 64 ∧ ∀ ns' : List Int, ns'.Pairwise (· < ·) → (∀ k, k ∈ ns' ↔ k ∈ ns) → newL (ns'.map .int) S Q'
  refine lst_ok hx h' fun xs ds g q r _ => ?_
  obtain ⟨ns, rfl, h64, q⟩ := q
  rw [ints_inv r]
  refine ⟨ns, rfl, h64, fun ns' h1 h2 => ⟨?_, fun p n => k _ _ _ (q ns' h1 h2) (.new (fun _ z => z.elim) n .ints)⟩⟩
  have : ns'.length ≤ ns.length := nodup_len (h1.imp fun h => Int.ne_of_lt h) fun x hx => (h2 x).mp hx
  rw [List.length_map, sizeLine_eq]; omega
theorem zip_rv : ∀ {xs ys : List P} {ds es : List D}, RvL Ω S F xs ds → RvL Ω S F ys es → RvL Ω S F ((xs.zip ys).map fun p => .tup [p.1, p.2]) ((ds.zip es).map fun p => .tup [p.1, p.2])
  | [], _, _, _, .nil, _ => .nil
  | _ :: _, [], _, _, .cons _ _, .nil => .nil
  | _ :: _, _ :: _, _, _, .cons h t, .cons h' t' => .cons (.tup (.cons h (.cons h' .nil))) (zip_rv t t')
theorem lsZ_ok (al : ∀ a, F a → S a ≠ none) (hx : Rv Ω S F x d) (hy : Rv Ω S F y e) (h : zipP x y Q) (k : ∀ z dz S', Q z → OpR Ω S S' F z dz true → Q' dz S') : zipD d e S Q' := by
  refine lst_ok hx h fun xs ds g q r _ => lst_ok hy q fun ys es g' q2 r2 _ => ⟨?_, fun p n => k _ _ _ q2.2 (.new al n (zip_rv r r2))⟩
  rw [List.length_map, List.length_zip, ← r.length]
  have := q2.1
  omega
theorem blt_ok {b : B1} {vs : List P} {ds : List D} (al : ∀ a, F a → S a ≠ none) (hx : RvL Ω S F vs ds) (h : bltP b vs Q) (k : ∀ z dz S', Q z → OpR Ω S S' F z dz (b == .list || b == .sorted) → (keepsB b = false → pure z = true) → Q' dz S') : bltD b ds S Q' := by
  unfold bltP at h
  split at h
  · obtain ⟨_, rfl, r⟩ := one_inv hx
    exact len_ok r (by
      rename_i d _
      have : ∀ n, Q (.int n) → Q' (.int n) S := fun n q => k _ _ _ q (.any rfl fun _ _ => .int _) fun _ => rfl
      cases d <;> first | exact h.elim | exact this _ h | exact ⟨h.1, this _ h.2⟩)
  · obtain ⟨_, rfl, r⟩ := one_inv hx; cases r
    exact k _ _ _ h (.any rfl fun _ _ => .int _) fun _ => rfl
  · obtain ⟨_, rfl, r⟩ := one_inv hx; cases r
    exact k _ _ _ h (.any rfl fun _ _ => .int _) fun _ => rfl
  · obtain ⟨_, rfl, r⟩ := one_inv hx; cases r
    exact k _ _ _ h (.any rfl fun _ _ => .int _) fun _ => rfl
  · obtain ⟨_, rfl, r⟩ := one_inv hx
    obtain ⟨t, h1, h2, h3, h4, q⟩ := h
    exact ⟨t, toT_ok r h1, h2, h3, h4, k _ _ _ q (.any rfl fun _ _ => .str _) fun _ => rfl⟩
  · obtain ⟨_, rfl, r⟩ := one_inv hx; cases r
    exact ⟨h.1, k _ _ _ h.2 (.any rfl fun _ _ => .str _) fun _ => rfl⟩
  · obtain ⟨_, rfl, r⟩ := one_inv hx
    refine seq_ok r h fun xs ds q rr => ⟨by rw [← rr.length]; exact q.1, fun p n => k _ _ _ q.2 (.new al n rr) fun z => nomatch z⟩
  · obtain ⟨_, rfl, r⟩ := one_inv hx
    cases r with
    | tup hq => exact k _ _ _ h (.part al (.tup hq)) fun z => nomatch z
    | rol hq => exact k _ _ _ h (.part al (.tup hq)) fun z => nomatch z
    | @lst _ a vs ds f e1 hq =>
      replace hq := hq.mono (G := F) fun _ z => z.1
      show (match S a with | some (.lst xs) => Q' (.tup xs) S | _ => False)
      rw [e1]; exact k _ _ _ h (.part al (.tup hq)) fun z => nomatch z
    | _ => exact h.elim
  · obtain ⟨_, rfl, r⟩ := one_inv hx
    refine srt_ok r h fun z dz S' q o => k z dz S' q ?_ fun z => nomatch z
    obtain ⟨G, rv, z2⟩ := o.rv
    exact ⟨o.ex, ⟨G, rv, fun a ga => ⟨(z2 a ga).1, (z2 a ga).2.imp id fun z => z.elim⟩⟩, o.rt⟩
  all_goals first
    | exact h.elim
    | (obtain ⟨_, rfl, r⟩ := one_inv hx
       obtain ⟨b, h1, q⟩ := h
       exact ⟨b, kind_ok r h1, k _ _ _ q (.any rfl fun _ _ => .bl _) fun _ => rfl⟩)
theorem join_ok {vs : List P} {ds : List D} (hx : Rv Ω S F x d) (hy : RvL Ω S F vs ds) (h : joinP x vs Q) (k : ∀ z dz S', Q z → pure z = true → OpR Ω S S' F z dz nw → Q' dz S') : mthD .join d ds S Q' := by
  unfold joinP at h
  split at h
  · cases hx; obtain ⟨_, rfl, r⟩ := one_inv hy
    obtain ⟨ys, h1, h2, q⟩ := h
    refine ⟨ys, seq_ok r h1 fun xs ds e rr => ?_, h2, k _ _ _ q rfl (.any rfl fun _ _ => .str _)⟩
    subst e
    exact rr.strs_inv
  · exact h.elim
end
end Cay

set_option Elab.async false
set_option linter.all false
set_option maxRecDepth 100000
/-! Cay: names that hold values, borne by names that hold data. -/
namespace Cay
open PySem PySem.Spec PyProof.Rows L2 Bay

/-- what must stay; what stands; where things may come from -/
structure Cx where
  Keep : Addr → O → Prop
  B : Fp
  Src : Fp
structure Er (Ω : Opq) (C : Cx) (S : Sto) (ε : VEv) (ε' : Ev) (Fs : Nat → Fp) : Prop where
  len : ε.length = ε'.length
  rep : ∀ i v b, ε[i]? = some (some (v, b)) → ∃ d, ε'[i]? = some (some d) ∧ Rv Ω S (Fs i) v d
  al : ∀ i a, Fs i a → S a ≠ none
  pf : ∀ i v b, ε[i]? = some (some (v, b)) → pure v = true → ∀ a, ¬ Fs i a
  own : ∀ i v, ε[i]? = some (some (v, true)) → ∀ j, j ≠ i → ∀ a, Fs i a → ¬ Fs j a
  kp : ∀ a o, C.Keep a o → S a = some o
  okp : ∀ i v, ε[i]? = some (some (v, true)) → ∀ a o, Fs i a → ¬ C.Keep a o
  bs : ∀ a, C.B a → S a ≠ none
  src : ∀ i a, Fs i a → C.Src a
  fr : ∀ a, S a = none → C.Src a
def OwnAt (ε : VEv) (i : Nat) : Prop := ∃ v, ε[i]? = some (some (v, true))
/-- from one state to a later one, by things of some names changed -/
structure StepE (S : Sto) (ε : VEv) (Fs : Nat → Fp) (m : List Nat) (S1 : Sto) (ε1 : VEv) (Fs1 : Nat → Fp) : Prop where
  gr : ∀ i a, Fs i a → Fs1 i a
  gs : ∀ i a, Fs1 i a → Fs i a ∨ S a = none
  nm : ∀ i a, i ∉ m → Fs1 i a → Fs i a
  fl : ∀ (i : Nat) (v : P) (b : Bool), ε1[i]? = some (some (v, b)) → ∃ v0 : P, ε[i]? = some (some (v0, b))
  kp : ∀ a o, S a = some o → (∀ i, i ∈ m → OwnAt ε i → ¬ Fs i a) → S1 a = some o
  alo : ∀ a, S a ≠ none → S1 a ≠ none
/-- a value with its data -/
structure ResE (Ω : Opq) (S : Sto) (as : List Nat) (r : Bool) (S1 : Sto) (Fs1 : Nat → Fp) (F : Fp) (v : P) (d : D) : Prop where
  rv : Rv Ω S1 F v d
  fa : ∀ a, F a → S1 a ≠ none
  fo : ∀ a, F a → (S a = none ∧ ∀ j, ¬ Fs1 j a) ∨ ∃ i, i ∈ as ∧ Fs1 i a
  rt : r = true → ∀ a, d = .ref a → S a = none ∧ ∀ j, ¬ Fs1 j a
structure ResL (Ω : Opq) (S : Sto) (as : List Nat) (S1 : Sto) (Fs1 : Nat → Fp) (F : Fp) (vs : List P) (ds : List D) : Prop where
  rv : RvL Ω S1 F vs ds
  fa : ∀ a, F a → S1 a ≠ none
  fo : ∀ a, F a → (S a = none ∧ ∀ j, ¬ Fs1 j a) ∨ ∃ i, i ∈ as ∧ Fs1 i a
section
variable {Ω : Opq} {C : Cx} {S S1 S2 S3 : Sto} {ε ε1 ε2 ε3 : VEv} {ε' : Ev} {Fs Fs1 Fs2 Fs3 : Nat → Fp} {m m1 m2 as bs : List Nat} {F G : Fp} {v w : P} {d e : D} {vs ws : List P} {ds es : List D} {r nw : Bool}
theorem StepE.refl : StepE S ε Fs [] S ε Fs := ⟨fun _ _ h => h, fun _ _ h => .inl h, fun _ _ _ h => h, fun _ _ _ h => ⟨_, h⟩, fun _ _ h _ => h, fun _ h => h⟩
theorem StepE.trans (a : StepE S ε Fs m1 S1 ε1 Fs1) (b : StepE S1 ε1 Fs1 m2 S2 ε2 Fs2) : StepE S ε Fs (m1 ++ m2) S2 ε2 Fs2 := by
  refine ⟨fun i x h => b.gr i x (a.gr i x h), fun i x h => ?_, fun i x n h => ?_, fun i v f h => ?_, fun x o h n => ?_, fun x h => b.alo x (a.alo x h)⟩
  · rcases b.gs i x h with h | h
    · exact a.gs i x h
    · right
      cases e : S x with
      | none => rfl
      | some o => exact absurd h (a.alo x (by rw [e]; exact fun z => nomatch z))
  · rw [List.mem_append, not_or] at n
    exact a.nm i x n.1 (b.nm i x n.2 h)
  · obtain ⟨v1, h1⟩ := b.fl i v f h
    exact a.fl i v1 f h1
  · refine b.kp x o (a.kp x o h fun i hi => n i (List.mem_append_left _ hi)) fun i hi ow fi => ?_
    obtain ⟨v1, h1⟩ := ow
    obtain ⟨v0, h0⟩ := a.fl i v1 true h1
    rcases a.gs i x fi with z | z
    · exact n i (List.mem_append_right _ hi) ⟨v0, h0⟩ z
    · rw [z] at h; cases h
theorem StepE.to (a : StepE S ε Fs m1 S1 ε1 Fs1) (h : ∀ i, i ∈ m1 → i ∈ m2) : StepE S ε Fs m2 S1 ε1 Fs1 :=
  ⟨a.gr, a.gs, fun i x n z => a.nm i x (fun q => n (h i q)) z, a.fl, fun x o e n => a.kp x o e fun i hi => n i (h i hi), a.alo⟩
theorem Er.none_of (_ : Er Ω C S ε ε' Fs) (st : StepE S ε Fs m S1 ε1 Fs1) {a : Addr} (h : S1 a = none) : S a = none := by
  cases e : S a with
  | none => rfl
  | some o => exact absurd h (st.alo a (by rw [e]; exact fun z => nomatch z))
/-- the store grows by new things alone -/
theorem Er.ext (E : Er Ω C S ε ε' Fs) (h : ∀ a o, S a = some o → S1 a = some o) : Er Ω C S1 ε ε' Fs := by
  have hn : ∀ a, S a ≠ none → S1 a ≠ none := fun a n => by
    cases e : S a with
    | none => exact absurd e n
    | some o => rw [h a o e]; exact fun z => nomatch z
  exact { E with
    rep := fun i v b e => let ⟨d, h1, h2⟩ := E.rep i v b e; ⟨d, h1, h2.to (fun a o _ e => h a o e) fun _ z => z⟩
    al := fun i a f => hn a (E.al i a f)
    kp := fun a o k => h a o (E.kp a o k)
    bs := fun a b => hn a (E.bs a b)
    fr := fun a n => E.fr a (by
      cases e : S a with
      | none => rfl
      | some o => exact absurd n (hn a (by rw [e]; exact fun z => nomatch z))) }
theorem StepE.ext (h : ∀ a o, S a = some o → S1 a = some o) : StepE S ε Fs [] S1 ε Fs :=
  ⟨fun _ _ h => h, fun _ _ h => .inl h, fun _ _ _ h => h, fun _ _ _ h => ⟨_, h⟩, fun a o e _ => h a o e, fun a n => by
    cases e : S a with
    | none => exact absurd e n
    | some o => rw [h a o e]; exact fun z => nomatch z⟩
/-- a value outlives a later step -/
theorem ResE.keep (E1 : Er Ω C S1 ε1 ε' Fs1) (a : ResE Ω S as r S1 Fs1 F v d) (b : StepE S1 ε1 Fs1 m S2 ε2 Fs2) (dj : ∀ i, i ∈ as → i ∉ m) : ResE Ω S as r S2 Fs2 F v d := by
  have kept : ∀ x o, F x → S1 x = some o → S2 x = some o := fun x o fx e => b.kp x o e fun i hi ⟨u, ow⟩ fi => by
    rcases a.fo x fx with ⟨_, z⟩ | ⟨j, hj, z⟩
    · exact z i fi
    · have ne : j ≠ i := fun q => dj j hj (q ▸ hi)
      exact E1.own i u ow j ne x fi z
  refine ⟨a.rv.to kept fun _ z => z, fun x fx => b.alo x (a.fa x fx), fun x fx => ?_, fun hr x ex => ?_⟩
  · rcases a.fo x fx with ⟨z1, z⟩ | ⟨j, hj, z⟩
    · refine .inl ⟨z1, fun j fj => ?_⟩
      rcases b.gs j x fj with q | q
      · exact z j q
      · exact a.fa x fx q
    · exact .inr ⟨j, hj, b.gr j x z⟩
  · obtain ⟨z1, z⟩ := a.rt hr x ex
    refine ⟨z1, fun j fj => ?_⟩
    rcases b.gs j x fj with q | q
    · exact z j q
    · subst ex
      have : ∀ {v}, Rv Ω S1 F v (.ref x) → S1 x ≠ none := fun h => by
        cases h with
        | lst _ e _ => rw [e]; exact fun z => nomatch z
        | dK _ e _ _ => rw [e]; exact fun z => nomatch z
        | dT _ e _ _ => rw [e]; exact fun z => nomatch z
        | opq rr _ => exact Ω.std rr
      exact this a.rv q
theorem ResL.keep (E1 : Er Ω C S1 ε1 ε' Fs1) (a : ResL Ω S as S1 Fs1 F vs ds) (b : StepE S1 ε1 Fs1 m S2 ε2 Fs2) (dj : ∀ i, i ∈ as → i ∉ m) : ResL Ω S as S2 Fs2 F vs ds := by
  have kept : ∀ x o, F x → S1 x = some o → S2 x = some o := fun x o fx e => b.kp x o e fun i hi ⟨u, ow⟩ fi => by
    rcases a.fo x fx with ⟨_, z⟩ | ⟨j, hj, z⟩
    · exact z i fi
    · have ne : j ≠ i := fun q => dj j hj (q ▸ hi)
      exact E1.own i u ow j ne x fi z
  refine ⟨a.rv.to kept fun _ z => z, fun x fx => b.alo x (a.fa x fx), fun x fx => ?_⟩
  rcases a.fo x fx with ⟨z1, z⟩ | ⟨j, hj, z⟩
  · refine .inl ⟨z1, fun j fj => ?_⟩
    rcases b.gs j x fj with q | q
    · exact z j q
    · exact a.fa x fx q
  · exact .inr ⟨j, hj, b.gr j x z⟩
theorem ResE.to (a : ResE Ω S as r S1 Fs1 F v d) (h : ∀ i, i ∈ as → i ∈ bs) : ResE Ω S bs r S1 Fs1 F v d :=
  ⟨a.rv, a.fa, fun x fx => (a.fo x fx).imp id fun ⟨i, h1, h2⟩ => ⟨i, h i h1, h2⟩, a.rt⟩
/-- seen from an earlier state -/
theorem ResE.back (st : StepE S ε Fs m S1 ε1 Fs1) (a : ResE Ω S1 as r S2 Fs2 F v d) : ResE Ω S as r S2 Fs2 F v d := by
  have hn : ∀ x, S1 x = none → S x = none := fun x h => by
    cases e : S x with
    | none => rfl
    | some o => exact absurd h (st.alo x (by rw [e]; exact fun z => nomatch z))
  exact ⟨a.rv, a.fa, fun x fx => (a.fo x fx).imp (fun z => ⟨hn x z.1, z.2⟩) id, fun hr x ex => ⟨hn x (a.rt hr x ex).1, (a.rt hr x ex).2⟩⟩
theorem ResL.back (st : StepE S ε Fs m S1 ε1 Fs1) (a : ResL Ω S1 as S2 Fs2 F vs ds) : ResL Ω S as S2 Fs2 F vs ds := by
  have hn : ∀ x, S1 x = none → S x = none := fun x h => by
    cases e : S x with
    | none => rfl
    | some o => exact absurd h (st.alo x (by rw [e]; exact fun z => nomatch z))
  exact ⟨a.rv, a.fa, fun x fx => (a.fo x fx).imp (fun z => ⟨hn x z.1, z.2⟩) id⟩
theorem ResE.pu {dz : D} (p : pure v = true) (h : Rv Ω S1 G v dz) : ResE Ω S as r S1 Fs1 (fun _ => False) v dz :=
  ⟨h.pu p, fun _ z => z.elim, fun _ z => z.elim, fun _ a e => absurd e (h.noref p a)⟩
theorem ResE.lst (a : ResE Ω S as r S1 Fs1 F v d) : ResL Ω S as S1 Fs1 F [v] [d] := ⟨.cons a.rv .nil, a.fa, a.fo⟩
theorem ResL.cons (a : ResE Ω S as r S1 Fs1 F v d) (b : ResL Ω S bs S1 Fs1 G vs ds) : ResL Ω S (as ++ bs) S1 Fs1 (fun x => F x ∨ G x) (v :: vs) (d :: ds) :=
  ⟨.cons (a.rv.mono fun _ => .inl) (b.rv.mono fun _ => .inr), fun x h => h.elim (a.fa x) (b.fa x), fun x h => by
    rcases h with h | h
    · exact (a.fo x h).imp id fun ⟨i, h1, h2⟩ => ⟨i, List.mem_append_left _ h1, h2⟩
    · exact (b.fo x h).imp id fun ⟨i, h1, h2⟩ => ⟨i, List.mem_append_right _ h1, h2⟩⟩
/-- what an operation gives, out of things that are held -/
theorem ResE.op (al : ∀ x, F x → S1 x ≠ none) (fo : ∀ x, F x → (S x = none ∧ ∀ j, ¬ Fs1 j x) ∨ ∃ i, i ∈ as ∧ Fs1 i x) (E1 : Er Ω C S1 ε1 ε' Fs1) (st : StepE S ε Fs m S1 ε1 Fs1) (o : OpR Ω S1 S2 F v d nw) : ∃ G, ResE Ω S as nw S2 Fs1 G v d := by
  obtain ⟨G, rv, hg⟩ := o.rv
  refine ⟨G, rv, fun a ga => (hg a ga).1, fun a ga => ?_, fun h a e => ?_⟩
  · rcases (hg a ga).2 with n | f
    · exact .inl ⟨(by
        cases e : S a with
        | none => rfl
        | some o => exact absurd n (st.alo a (by rw [e]; exact fun z => nomatch z))), fun j fj => E1.al j a fj n⟩
    · exact fo a f
  · have n := o.rt h a e
    exact ⟨by
      cases e : S a with
      | none => rfl
      | some o => exact absurd n (st.alo a (by rw [e]; exact fun z => nomatch z)), fun j fj => E1.al j a fj n⟩
end
end Cay

set_option Elab.async false
set_option linter.all false
set_option maxRecDepth 100000
/-! Cay: what is asked of the text; the defs that are called. -/
namespace Cay
open PySem PySem.Spec PyProof.Rows L2 Bay

section
variable (io : IO)
def ioVars : List Nat → MEs → List Nat
  | [], _ => []
  | p :: ps, es => (match (nthE es p).bind varOf with | some x => [x] | none => []) ++ ioVars ps es
def nodupB (l : List Nat) : Bool := decide l.Nodup
def tgIn (tg : MG) (own : List Nat) : Bool := match tg with
  | .nm i => own.contains i
  | .tp is => is.all own.contains
def litD : D → Bool
  | .non => true | .bl _ => true | .int _ => true | .str _ => true | .ty _ => true
  | _ => false
mutual
def okE : ME → Bool
  | .cst d => litD d
  | .add a b => okE a && okE b && disj (al io a) (mu io b)
  | .sub a b => okE a && okE b && disj (al io a) (mu io b)
  | .mul a b => okE a && okE b && disj (al io a) (mu io b)
  | .fdv a b => okE a && okE b && disj (al io a) (mu io b)
  | .mod a b => okE a && okE b && disj (al io a) (mu io b)
  | .pow a b => okE a && okE b && disj (al io a) (mu io b)
  | .neg a => okE a
  | .cmp _ a b => okE a && okE b && disj (al io a) (mu io b)
  | .cmp2 _ _ a b c => okE a && okE b && okE c && disj (al io a) (mu io b) && disj (al io b) (mu io c)
  | .isN _ a => okE a
  | .not a => okE a
  | .and a b => okE a && okE b
  | .or a b => okE a && okE b
  | .ite c a b => okE c && okE a && okE b
  | .tup es => okEs [] 0 es
  | .lst es => okEs [] 0 es
  | .dic ks es => okEs [] 0 es
  | .idx a i => okE a && okE i && disj (al io a) (mu io i)
  | .slc a lo hi => okE a && okO lo && okO hi && disj (al io a) (muO io lo ++ muO io hi)
  | .call f es => okEs (io f) 0 es && nodupB (io f) && nodupB (ioVars (io f) es) && disj (als io (io f) 0 es) (ioVars (io f) es)
  | .callK _ es _ => okEs [] 0 es
  | .blt _ es => okEs [] 0 es
  | .mth m o es => if isMut m then (varOf o).isSome && okEs [] 0 es else okE o && okEs [] 0 es && disj (al io o) (mus io [] 0 es)
  | .un _ a => okE a
  | .lsZ a b => okE a && okE b && disj (al io a) (mu io b)
  | .lc elt tg it c own => okI it && okO c && okE elt && tgIn tg (own.map (·.2)) && disj (own.map (·.2)) (muO io c ++ mu io elt) && disj (alI io it) (muO io c ++ mu io elt) && disj ((al io elt).filter fun i => !(own.map (·.2)).contains i) (muO io c ++ mu io elt)
  | _ => true
def okEs (sk : List Nat) : Nat → MEs → Bool
  | _, .nil => true
  | k, .cons e r => (if sk.contains k then (varOf e).isSome else okE e && disj (al io e) (mus io sk (k + 1) r)) && okEs sk (k + 1) r
def okO : MO → Bool
  | .no => true
  | .yes e => okE e
def okI : MI → Bool
  | .gen e => okE e
  | .rng1 e => okE e
  | .rng2 a b => okE a && okE b
  | .enum e => okE e
  | .zip2 a b => okE a && okE b && disj (al io a) (mu io b)
end
end
theorem disj_iff {a b : List Nat} (h : disj a b = true) : ∀ i, i ∈ a → i ∉ b := by
  intro i hi hb
  unfold disj at h
  rw [List.all_eq_true] at h
  have := h i hi
  simp [hb] at this
def Rx (Ω : Opq) (x : VEx) (x' : Ex) : Prop := x'.cls = x.cls ∧ ((x.arg = none ∧ x'.arg = none) ∨ ∃ f v d, x.arg = some (f, v) ∧ x'.arg = some (f, d) ∧ pure v = true ∧ Anyw Ω v d)
structure PostF (Ω : Opq) (io : List Nat) (fr : Bool) (S : Sto) (ds : List D) (Fs : Nat → Fp) (r : P) (us : List P) (d : D) (S' : Sto) (Fs' : Nat → Fp) (G : Fp) : Prop where
  len : us.length = io.length
  out : ∀ (k p : Nat) (u : P), io[k]? = some p → us[k]? = some u → ∃ dp, ds[p]? = some dp ∧ Rv Ω S' (Fs' p) u dp
  gr : ∀ p a, p ∈ io → Fs p a → Fs' p a
  gs : ∀ p a, p ∈ io → Fs' p a → Fs p a ∨ S a = none
  al : ∀ p a, p ∈ io → Fs' p a → S' a ≠ none
  dj : ∀ p q a, p ∈ io → q ∈ io → p ≠ q → Fs' p a → ¬ Fs' q a
  kp : ∀ a o, S a = some o → (∀ i, i ∈ io → ¬ Fs i a) → S' a = some o
  alo : ∀ a, S a ≠ none → S' a ≠ none
  pu : ∀ (k p : Nat) (u : P), io[k]? = some p → us[k]? = some u → pure u = true → ∀ a, ¬ Fs' p a
  rv : Rv Ω S' G r d
  ga : ∀ a, G a → S' a ≠ none
  go : ∀ a, G a → (S a = none ∧ ∀ p, p ∈ io → ¬ Fs' p a) ∨ (fr = false ∧ ∃ j, j ∉ io ∧ Fs j a)
/-- a def over values as a def over data -/
def lift (Ω : Opq) (io : List Nat) (fr : Bool) (sp : VFn) : FnD := fun ds S Q X => ∃ (vs : List P) (Fs : Nat → Fp) (Qv : P → List P → Prop) (Xv : VX),
  vs.length = ds.length ∧ (∀ (i : Nat) (v : P), vs[i]? = some v → ∃ d, ds[i]? = some d ∧ Rv Ω S (Fs i) v d) ∧ (∀ i a, Fs i a → S a ≠ none) ∧ (∀ i, i ∈ io → i < vs.length ∧ ∀ j, j ≠ i → ∀ a, Fs i a → ¬ Fs j a) ∧ (∀ (i : Nat) (v : P), i ∈ io → vs[i]? = some v → pure v = true → ∀ a, ¬ Fs i a) ∧ sp vs Qv Xv ∧
  (∀ r us d S' Fs' G, Qv r us → PostF Ω io fr S ds Fs r us d S' Fs' G → Q d S') ∧
  (∀ x x' S', Xv x → Rx Ω x x' → (∀ a o, S a = some o → (∀ i, i ∈ io → ¬ Fs i a) → S' a = some o) → (∀ a, S a ≠ none → S' a ≠ none) → X x' S')
structure SigR (Ω : Opq) (V : VSig) (Γ : Sig) : Prop where
  ar : Γ.ar = V.ar
  fn : ∀ f ds S Q X, lift Ω (V.io f) (V.io.fr f) (V.fn f) ds S Q X → Γ.fn f ds S Q X
  cg : ∀ i, pure (V.cg i) = true ∧ Anyw Ω (V.cg i) (Γ.cg i)
  exs : Γ.exs = V.exs
  sub : Γ.sub = V.sub
/-- the caught one -/
def XaR (Ω : Opq) (V : VSig) (Γ : Sig) (ε' : Ev) : Prop := ∀ i x, V.xa = some (i, x) → ∃ a x', Γ.xa = some (a, x') ∧ Rx Ω x x' ∧ lookE ε' i = some (.ref a)
/-- what may be raised -/
def XR (Ω : Opq) (C : Cx) (X : VX) (X' : QX) : Prop := ∀ x x' S1, X x → Rx Ω x x' → (∀ a o, C.Keep a o → S1 a = some o) → (∀ a, C.B a → S1 a ≠ none) → X' x' S1
section
variable {Ω : Opq} {C : Cx} {S S1 S2 : Sto} {ε ε1 ε2 : VEv} {ε' : Ev} {Fs Fs1 Fs2 : Nat → Fp} {m as : List Nat} {F G : Fp} {v w : P} {d e : D} {vs ws : List P} {ds : List D} {r : Bool} {io xs : List Nat} {es : MEs} {us : List P}
theorem look_ok (E : Er Ω C S ε ε' Fs) {i : Nat} (h : vlook ε i = some v) : ∃ b d, ε[i]? = some (some (v, b)) ∧ ε'[i]? = some (some d) ∧ lookE ε' i = some d ∧ Rv Ω S (Fs i) v d := by
  unfold vlook at h
  split at h
  · rename_i u b e
    cases h
    obtain ⟨d, h1, h2⟩ := E.rep i v b e
    exact ⟨b, d, e, h1, by unfold lookE; rw [h1], h2⟩
  · cases h
theorem own_ok (E : Er Ω C S ε ε' Fs) {i : Nat} (h : vown ε i = some v) : ∃ d, ε[i]? = some (some (v, true)) ∧ ε'[i]? = some (some d) ∧ lookE ε' i = some d ∧ Rv Ω S (Fs i) v d := by
  unfold vown at h
  split at h
  · rename_i u e
    cases h
    obtain ⟨d, h1, h2⟩ := E.rep i v true e
    exact ⟨d, e, h1, by unfold lookE; rw [h1], h2⟩
  · cases h
theorem ioNames_ok : ∀ {io : List Nat} {xs : List Nat}, ioNames io es = some xs → xs.length = io.length ∧ ioVars io es = xs ∧ ∀ (k p : Nat), io[k]? = some p → ∃ x : Nat, xs[k]? = some x ∧ nthE es p = some (.var x)
  | [], xs, h => by cases h; exact ⟨rfl, rfl, fun k p z => by simp at z⟩
  | p :: ps, xs, h => by
    rw [ioNames] at h
    cases q : (nthE es p).bind varOf with
    | none => rw [q] at h; cases h
    | some x =>
      cases q2 : ioNames ps es with
      | none => rw [q, q2] at h; cases h
      | some ys =>
        rw [q, q2] at h
        cases h
        obtain ⟨h1, h2, h3⟩ := ioNames_ok q2
        refine ⟨by simp [h1], by rw [ioVars, q, h2]; rfl, fun k p' z => ?_⟩
        cases k with
        | zero =>
          simp at z
          subst z
          refine ⟨x, rfl, ?_⟩
          cases e : nthE es p with
          | none => rw [e] at q; cases q
          | some ee =>
            rw [e] at q
            cases ee <;> first | (cases q; rfl) | (cases q; done)
        | succ k => simpa using h3 k p' (by simpa using z)
theorem ioFix_ok : ∀ {io xs : List Nat} {vs vs' : List P}, xs.length = io.length → io.Nodup → ioFix io xs ε vs = some vs' → vs'.length = vs.length ∧ (∀ j, j ∉ io → vs'[j]? = vs[j]?) ∧ ∀ (k p x : Nat), io[k]? = some p → xs[k]? = some x → ∃ v, vown ε x = some v ∧ (p < vs.length → vs'[p]? = some v)
  | [], [], vs, vs', _, _, h => by cases h; exact ⟨rfl, fun _ _ => rfl, fun k p x z => by simp at z⟩
  | [], _ :: _, _, _, e, _, _ => by simp at e
  | _ :: _, [], _, _, e, _, _ => by simp at e
  | p :: ps, x :: xs, vs, vs', e, nd, h => by
    rw [ioFix] at h
    cases q : vown ε x with
    | none => rw [q] at h; cases h
    | some v =>
      rw [q] at h
      rw [List.nodup_cons] at nd
      obtain ⟨h1, h2, h3⟩ := ioFix_ok (by simpa using e) nd.2 h
      refine ⟨by rw [h1, List.length_set], fun j hj => ?_, fun k p' x' z1 z2 => ?_⟩
      · rw [List.mem_cons, not_or] at hj
        rw [h2 j hj.2, List.getElem?_set_ne (Ne.symm hj.1)]
      · cases k with
        | zero =>
          simp at z1 z2
          subst z1 z2
          refine ⟨v, q, fun hp => ?_⟩
          rw [h2 p nd.1, List.getElem?_set_self (by simpa using hp)]
        | succ k =>
          obtain ⟨u, g1, g2⟩ := h3 k p' x' (by simpa using z1) (by simpa using z2)
          exact ⟨u, g1, fun hp => g2 (by simpa using hp)⟩
theorem ioSet_ok : ∀ {xs : List Nat} {us : List P} {ε ε2 : VEv}, xs.Nodup → ioSet xs us ε = some ε2 → xs.length = us.length ∧ ε2.length = ε.length ∧ (∀ j, j ∉ xs → ε2[j]? = ε[j]?) ∧ ∀ (k x : Nat) (u : P), xs[k]? = some x → us[k]? = some u → x < ε.length → ε2[x]? = some (some (u, true))
  | [], [], ε, ε2, _, h => by cases h; exact ⟨rfl, rfl, fun _ _ => rfl, fun k x u z => by simp at z⟩
  | [], _ :: _, _, _, _, h => nomatch h
  | _ :: _, [], _, _, _, h => nomatch h
  | x :: xs, u :: us, ε, ε2, nd, h => by
    rw [ioSet] at h
    rw [List.nodup_cons] at nd
    obtain ⟨h1, h2, h3, h4⟩ := ioSet_ok nd.2 h
    refine ⟨by simp [h1], by rw [h2, List.length_set], fun j hj => ?_, fun k x' u' z1 z2 hx => ?_⟩
    · rw [List.mem_cons, not_or] at hj
      rw [h3 j hj.2, List.getElem?_set_ne (Ne.symm hj.1)]
    · cases k with
      | zero =>
        simp at z1 z2
        subst z1 z2
        rw [h3 x nd.1, List.getElem?_set_self hx]
      | succ k => exact h4 k x' u' (by simpa using z1) (by simpa using z2) (by simpa using hx)
mutual
theorem pure_same : ∀ {F G : Fp} {v w : P} {d : D}, Rv Ω S F v d → Rv Ω S1 G w d → pure v = true → pure w = true
  | _, _, _, _, _, .non, h, p => by cases h with | non => rfl | opq r _ => exact nomatch (Ω.ref r)
  | _, _, _, _, _, .bl b, h, p => by cases h with | bl => rfl | opq r _ => exact nomatch (Ω.ref r)
  | _, _, _, _, _, .int i, h, p => by cases h with | int => rfl | opq r _ => exact nomatch (Ω.ref r)
  | _, _, _, _, _, .str x, h, p => by cases h with | str => rfl | opq r _ => exact nomatch (Ω.ref r)
  | _, _, _, _, _, .ty n, h, p => by cases h with | ty => rfl | opq r _ => exact nomatch (Ω.ref r)
  | _, _, _, _, _, .tup a, h, p => by cases h with | tup b => exact pureL_same a b p | opq r _ => exact nomatch (Ω.ref r)
  | _, _, _, _, _, .rot a, h, p => by cases h with | rot b => exact pureL_same a b p | opq r _ => exact nomatch (Ω.ref r)
  | _, _, _, _, _, .rol a, h, p => by cases h with | rol b => exact pureL_same a b p | opq r _ => exact nomatch (Ω.ref r)
theorem pureL_same : ∀ {F G : Fp} {vs ws : List P} {ds : List D}, RvL Ω S F vs ds → RvL Ω S1 G ws ds → pureL vs = true → pureL ws = true
  | _, _, _, _, _, .nil, h, p => by cases h; rfl
  | _, _, _, _, _, .cons a r, h, p => by
    cases h with
    | cons b s =>
      rw [pureL_cons, Bool.and_eq_true] at p ⊢
      exact ⟨pure_same a b p.1, pureL_same r s p.2⟩
end
end
end Cay

set_option Elab.async false
set_option linter.all false
set_option maxRecDepth 100000
/-! Cay: expressions are sound. -/
namespace Cay
open PySem PySem.Spec PyProof.Rows L2 Bay
structure ResA (Ω : Opq) (io : IO) (ε' : Ev) (S : Sto) (as sk : List Nat) (k : Nat) (es : MEs) (S1 : Sto) (Fs1 : Nat → Fp) (F : Nat → Fp) (vs : List P) (ds : List D) : Prop where
  len : vs.length = ds.length
  var : ∀ (j x : Nat), (k + j) ∈ sk → nthE es j = some (.var x) → ∃ d : D, ds[j]? = some d ∧ ε'[x]? = some (some d)
  rv : ∀ (j : Nat) (v : P), (k + j) ∉ sk → vs[j]? = some v → ∃ d : D, ds[j]? = some d ∧ Rv Ω S1 (F j) v d
  fa : ∀ j a, F j a → S1 a ≠ none
  fo : ∀ j a, F j a → (S a = none ∧ ∀ i, ¬ Fs1 i a) ∨ ∃ i, i ∈ as ∧ Fs1 i a
  has : ∀ (j : Nat) (v : P), vs[j]? = some v → (nthE es j).isSome = true
  dj : ∀ i j a, i ≠ j → F i a → F j a → ∃ k, k ∈ as ∧ Fs1 k a
  rt : ∀ (j : Nat) (e : ME) (a : Addr), (k + j) ∉ sk → nthE es j = some e → rf e = true → ds[j]? = some (.ref a) → S a = none ∧ ∀ i, ¬ Fs1 i a
  fe : ∀ (j : Nat) (e : ME) (a : Addr), (k + j) ∉ sk → nthE es j = some e → F j a → (S a = none ∧ ∀ i, ¬ Fs1 i a) ∨ ∃ i, i ∈ al io e ∧ Fs1 i a
def QE (Ω : Opq) (C : Cx) (ε' : Ev) (S : Sto) (ε : VEv) (Fs : Nat → Fp) (m as : List Nat) (r : Bool) (Q : P → VEv → Prop) (Q' : QD) : Prop :=
  ∀ v ε1 d S1 Fs1 F, Q v ε1 → Er Ω C S1 ε1 ε' Fs1 → StepE S ε Fs m S1 ε1 Fs1 → ResE Ω S as r S1 Fs1 F v d → Q' d S1
section
variable {Ω : Opq} {C : Cx} {S S1 S2 : Sto} {ε ε1 ε2 : VEv} {ε' : Ev} {Fs Fs1 Fs2 : Nat → Fp} {m as bs : List Nat} {F G : Fp} {v w : P} {d e : D} {vs ws : List P} {ds : List D} {r nw : Bool} {io xs : List Nat} {es : MEs} {us : List P}
theorem RvL.of_get : ∀ {vs : List P} {ds : List D}, vs.length = ds.length → (∀ (j : Nat) (v : P), vs[j]? = some v → ∃ d : D, ds[j]? = some d ∧ Rv Ω S F v d) → RvL Ω S F vs ds
  | [], [], _, _ => .nil
  | [], _ :: _, e, _ => by simp at e
  | _ :: _, [], e, _ => by simp at e
  | v :: vs, d :: ds, e, h => by
    obtain ⟨d', h1, h2⟩ := h 0 v rfl
    simp at h1
    subst h1
    exact .cons h2 (RvL.of_get (by simpa using e) fun j w hw => by simpa using h (j + 1) w (by simpa using hw))
theorem ResA.toL {F : Nat → Fp} {iof : IO} (a : ResA Ω iof ε' S as [] 0 es S1 Fs1 F vs ds) : ResL Ω S as S1 Fs1 (fun x => ∃ j, F j x) vs ds :=
  ⟨RvL.of_get a.len fun j v hv => by
    obtain ⟨d, h1, h2⟩ := a.rv j v (by simp) hv
    exact ⟨d, h1, h2.mono fun x hx => ⟨j, hx⟩⟩, fun x ⟨j, h⟩ => a.fa j x h, fun x ⟨j, h⟩ => a.fo j x h⟩
theorem StepE.nonew (st : StepE S ε Fs m S1 ε1 Fs1) {a : Addr} (n : S1 a = none) : S a = none := by
  cases e : S a with
  | none => rfl
  | some o => exact absurd n (st.alo a (by rw [e]; exact fun z => nomatch z))
theorem OpR.alo {S' : Sto} {z : P} {dz : D} (o : OpR Ω S S' F z dz nw) : ∀ a u, S a = some u → S' a = some u := o.ex
/-- behind operands the operation, behind it the rest -/
theorem QE.op {Q : P → VEv → Prop} {Q' : QD} (q : QE Ω C ε' S ε Fs m as r Q Q') (E1 : Er Ω C S1 ε1 ε' Fs1) (st : StepE S ε Fs m S1 ε1 Fs1)
    (fo : ∀ x, F x → (S x = none ∧ ∀ j, ¬ Fs1 j x) ∨ ∃ i, i ∈ as ∧ Fs1 i x) (fa : ∀ x, F x → S1 x ≠ none) (nr : nw = r) : ∀ z dz S', Q z ε1 → OpR Ω S1 S' F z dz nw → Q' dz S' := by
  subst nr
  intro z dz S' qz o
  obtain ⟨G, re⟩ := ResE.op fa fo E1 st o
  refine q z ε1 dz S' Fs1 G qz (E1.ext o.ex) ?_ re
  have := st.trans (StepE.ext (ε := ε1) (Fs := Fs1) o.ex)
  rwa [List.append_nil] at this
theorem two_fo {F1 F2 : Fp} (a : ResE Ω S as r S1 Fs1 F1 v d) {bs : List Nat} {r' : Bool} {w : P} {e : D} (b : ResE Ω S bs r' S1 Fs1 F2 w e) : (∀ x, F1 x ∨ F2 x → S1 x ≠ none) ∧ ∀ x, F1 x ∨ F2 x → (S x = none ∧ ∀ j, ¬ Fs1 j x) ∨ ∃ i, i ∈ as ++ bs ∧ Fs1 i x :=
  ⟨fun x h => h.elim (a.fa x) (b.fa x), fun x h => by
    rcases h with h | h
    · exact (a.fo x h).imp id fun ⟨i, h1, h2⟩ => ⟨i, List.mem_append_left _ h1, h2⟩
    · exact (b.fo x h).imp id fun ⟨i, h1, h2⟩ => ⟨i, List.mem_append_right _ h1, h2⟩⟩
theorem ResE.out (a : ResE Ω S as r S1 Fs1 F v d) (h : pure v = true) {bs : List Nat} {r' : Bool} : ResE Ω S bs r' S1 Fs1 (fun _ => False) v d := .pu h a.rv
end
section
variable {Ω : Opq} {V : VSig} {Γ : Sig} (sg : SigR Ω V Γ)
def SndE (Ω : Opq) (V : VSig) (Γ : Sig) (e : ME) : Prop := ∀ {C : Cx} {ε' : Ev} {X : VX} {X' : QX} {ε : VEv} {S : Sto} {Fs : Nat → Fp} {Q : P → VEv → Prop} {Q' : QD}, Er Ω C S ε ε' Fs → XaR Ω V Γ ε' → okE V.io e = true → vE V e X ε Q → XR Ω C X X' → QE Ω C ε' S ε Fs (mu V.io e) (al V.io e) (rf e) Q Q' → wE Γ e X' ε' S Q'
def SndEs (Ω : Opq) (V : VSig) (Γ : Sig) (es : MEs) : Prop := ∀ {C : Cx} {ε' : Ev} {X : VX} {X' : QX} {ε : VEv} {S : Sto} {Fs : Nat → Fp} {Q : List P → VEv → Prop} {Q' : List D → Sto → Prop} (sk : List Nat) (k : Nat), Er Ω C S ε ε' Fs → XaR Ω V Γ ε' → okEs V.io sk k es = true → vEs V es X ε Q → XR Ω C X X' →
  (∀ vs ε1 ds S1 Fs1 F, Q vs ε1 → Er Ω C S1 ε1 ε' Fs1 → StepE S ε Fs (mus V.io sk k es) S1 ε1 Fs1 → ResA Ω V.io ε' S (als V.io sk k es) sk k es S1 Fs1 F vs ds → Q' ds S1) → wEs Γ es X' ε' S Q'
def SndO (Ω : Opq) (V : VSig) (Γ : Sig) (o : MO) : Prop := ∀ {C : Cx} {ε' : Ev} {X : VX} {X' : QX} {ε : VEv} {S : Sto} {Fs : Nat → Fp} {Q : Option Int → VEv → Prop} {Q' : Option Int → Sto → Prop}, Er Ω C S ε ε' Fs → XaR Ω V Γ ε' → okO V.io o = true → vO V o X ε Q → XR Ω C X X' →
  (∀ k ε1 S1 Fs1, Q k ε1 → Er Ω C S1 ε1 ε' Fs1 → StepE S ε Fs (muO V.io o) S1 ε1 Fs1 → Q' k S1) → wO Γ o X' ε' S Q'
def SndC (Ω : Opq) (V : VSig) (Γ : Sig) (o : MO) : Prop := ∀ {C : Cx} {ε' : Ev} {X : VX} {X' : QX} {ε : VEv} {S : Sto} {Fs : Nat → Fp} {Q : Bool → VEv → Prop} {Q' : Bool → Sto → Prop}, Er Ω C S ε ε' Fs → XaR Ω V Γ ε' → okO V.io o = true → vC V o X ε Q → XR Ω C X X' →
  (∀ k ε1 S1 Fs1, Q k ε1 → Er Ω C S1 ε1 ε' Fs1 → StepE S ε Fs (muO V.io o) S1 ε1 Fs1 → Q' k S1) → wC Γ o X' ε' S Q'
/-- the lists that are walked stand -/
def Stands (S : Sto) (F : Fp) (g : List (Addr × List D)) : Prop := ∀ p ∈ g, F p.1 ∧ S p.1 = some (.lst p.2)
def SndI (Ω : Opq) (V : VSig) (Γ : Sig) (it : MI) : Prop := ∀ {C : Cx} {ε' : Ev} {X : VX} {X' : QX} {ε : VEv} {S : Sto} {Fs : Nat → Fp} {Q : List P → VEv → Prop} {Q' : List D → List (Addr × List D) → Sto → Prop}, Er Ω C S ε ε' Fs → XaR Ω V Γ ε' → okI V.io it = true → vI V it X ε Q → XR Ω C X X' →
  (∀ vs ε1 ds g S1 Fs1 F, Q vs ε1 → Er Ω C S1 ε1 ε' Fs1 → StepE S ε Fs (muI V.io it) S1 ε1 Fs1 → ResL Ω S (alI V.io it) S1 Fs1 F vs ds → Stands S1 F g → (soleI it vs = true → ∀ x, F x → S x = none ∧ ∀ j, ¬ Fs1 j x) → Q' ds g S1) → wI Γ it X' ε' S Q'
theorem bool_ok {Ω : Opq} {S : Sto} {F : Fp} {v : P} {d : D} {ε : VEv} {Q : Bool → VEv → Prop} {Q' : Bool → Sto → Prop} (h : vtst Q v ε) (rv : Rv Ω S F v d) (k : ∀ b, Q b ε → Q' b S) : tstD Q' d S := by
  cases rv <;> first | exact k _ h | exact h.elim
/-- a binary operation -/
theorem snd_bin {a b e : ME} {op : P → P → (P → Prop) → Prop} {opD : D → D → Sto → QD → Prop} (nw : Bool) (ia : SndE Ω V Γ a) (ib : SndE Ω V Γ b)
    (hv : ∀ X ε Q, vE V e X ε Q = vE V a X ε fun x ε1 => vE V b X ε1 fun y ε2 => op x y fun z => Q z ε2)
    (hw : ∀ X ε S Q, wE Γ e X ε S Q = wE Γ a X ε S fun x S1 => wE Γ b X ε S1 fun y S2 => opD x y S2 Q)
    (hok : okE V.io e = true → okE V.io a = true ∧ okE V.io b = true ∧ disj (al V.io a) (mu V.io b) = true) (hm : mu V.io e = mu V.io a ++ mu V.io b) (hr : rf e = nw)
    (hop : ∀ {S : Sto} {F : Fp} {x y : P} {d dd : D} {Q : P → Prop} {Q' : QD}, (∀ z, F z → S z ≠ none) → Rv Ω S F x d → Rv Ω S F y dd → op x y Q → (∀ z dz S', Q z → (pure z = true ∨ (al V.io e = al V.io a ++ al V.io b)) → OpR Ω S S' F z dz nw → Q' dz S') → opD d dd S Q') : SndE Ω V Γ e := by
  intro C ε' X X' ε S Fs Q Q' E xa ok h xr q
  rw [hv] at h
  rw [hw]
  obtain ⟨o1, o2, o3⟩ := hok ok
  refine ia E xa o1 h xr fun x ε1 d S1 Fs1 F1 h1 E1 st1 r1 => ?_
  refine ib E1 xa o2 h1 xr fun y ε2 dd S2 Fs2 F2 h2 E2 st2 r2 => ?_
  have k1 := r1.keep E1 st2 (disj_iff o3)
  have k2 := r2.back st1
  have st := st1.trans st2
  rw [← hm] at st
  obtain ⟨fa, fo⟩ := two_fo k1 k2
  refine hop (F := fun z => F1 z ∨ F2 z) fa (k1.rv.mono fun _ => .inl) (k2.rv.mono fun _ => .inr) h2 fun z dz S' qz hz o => ?_
  subst hr
  rcases hz with hz | hz
  · obtain ⟨G, rv, _⟩ := o.rv
    refine q z ε2 dz S' Fs2 _ qz (E2.ext o.ex) ?_ (.pu hz rv)
    have := st.trans (StepE.ext (ε := ε2) (Fs := Fs2) o.ex)
    rwa [List.append_nil] at this
  · exact QE.op q E2 st (by rw [hz]; exact fo) fa rfl z dz S' qz o
end
end Cay

set_option Elab.async false
set_option linter.all false
set_option maxRecDepth 100000
/-! Cay: expressions, one by one. -/
namespace Cay
open PySem PySem.Spec PyProof.Rows L2 Bay
theorem and3 {a b c : Bool} (h : (a && b && c) = true) : a = true ∧ b = true ∧ c = true := by
  rw [Bool.and_eq_true, Bool.and_eq_true] at h; exact ⟨h.1.1, h.1.2, h.2⟩
theorem and2 {a b : Bool} (h : (a && b) = true) : a = true ∧ b = true := by rwa [Bool.and_eq_true] at h
section
variable {Ω : Opq} {V : VSig} {Γ : Sig} {a b c i : ME} {es : MEs} {op op' : CmpOp}
theorem snd_add (ia : SndE Ω V Γ a) (ib : SndE Ω V Γ b) : SndE Ω V Γ (.add a b) :=
  snd_bin (e := .add a b) true ia ib (fun _ _ _ => rfl) (fun _ _ _ _ => rfl) (fun h => and3 h) rfl rfl fun al hx hy h k => add_ok al hx hy h fun z dz S' q o => k z dz S' q (.inr rfl) o
theorem snd_sub (ia : SndE Ω V Γ a) (ib : SndE Ω V Γ b) : SndE Ω V Γ (.sub a b) :=
  snd_bin (e := .sub a b) false ia ib (fun _ _ _ => rfl) (fun _ _ _ _ => rfl) (fun h => and3 h) rfl rfl fun al hx hy h k => sub_ok hx hy h fun z dz S' q p o => k z dz S' q (.inl p) o
theorem snd_fdv (ia : SndE Ω V Γ a) (ib : SndE Ω V Γ b) : SndE Ω V Γ (.fdv a b) :=
  snd_bin (e := .fdv a b) false ia ib (fun _ _ _ => rfl) (fun _ _ _ _ => rfl) (fun h => and3 h) rfl rfl fun al hx hy h k => fdv_ok hx hy h fun z dz S' q p o => k z dz S' q (.inl p) o
theorem snd_mod (ia : SndE Ω V Γ a) (ib : SndE Ω V Γ b) : SndE Ω V Γ (.mod a b) :=
  snd_bin (e := .mod a b) false ia ib (fun _ _ _ => rfl) (fun _ _ _ _ => rfl) (fun h => and3 h) rfl rfl fun al hx hy h k => mod_ok hx hy h fun z dz S' q p o => k z dz S' q (.inl p) o
theorem snd_pow (ia : SndE Ω V Γ a) (ib : SndE Ω V Γ b) : SndE Ω V Γ (.pow a b) :=
  snd_bin (e := .pow a b) false ia ib (fun _ _ _ => rfl) (fun _ _ _ _ => rfl) (fun h => and3 h) rfl rfl fun al hx hy h k => pow_ok hx hy h fun z dz S' q p o => k z dz S' q (.inl p) o
theorem snd_cmp (ia : SndE Ω V Γ a) (ib : SndE Ω V Γ b) : SndE Ω V Γ (.cmp op a b) :=
  snd_bin (e := .cmp op a b) (op := cmpP op) (opD := cmpD op) false ia ib (fun _ _ _ => rfl) (fun _ _ _ _ => rfl) (fun h => and3 h) rfl rfl fun al hx hy h k => cmp_ok hx hy h fun z dz S' q p o => k z dz S' q (.inl p) o
theorem snd_mul (ia : SndE Ω V Γ a) (ib : SndE Ω V Γ b) : SndE Ω V Γ (.mul a b) := by
  intro C ε' X X' ε S Fs Q Q' E xa ok h xr q
  obtain ⟨o1, o2, o3⟩ := and3 (show (okE V.io a && okE V.io b && disj (al V.io a) (mu V.io b)) = true from ok)
  refine ia E xa o1 h xr fun x ε1 d S1 Fs1 F1 h1 E1 st1 r1 => ?_
  refine ib E1 xa o2 h1 xr fun y ε2 dd S2 Fs2 F2 h2 E2 st2 r2 => ?_
  have k1 := r1.keep E1 st2 (disj_iff o3)
  have st := st1.trans st2
  have py : pure y = true := by
    have h' : mulP x y fun z => Q z ε2 := h2
    unfold mulP at h'
    split at h' <;> first | rfl | exact h'.elim
  exact mul_ok (F := F1) k1.fa k1.rv (r2.rv.pu py) h2 (QE.op q E2 st k1.fo k1.fa rfl)
theorem snd_var {x : Nat} : SndE Ω V Γ (.var x) := by
  intro C ε' X X' ε S Fs Q Q' E xa ok h xr q
  show match lookE ε' x with | some d => Q' d S | none => False
  have h' : (match vlook ε x with | some v => Q v ε | none => False) := h
  cases e : vlook ε x with
  | none => rw [e] at h'; exact h'.elim
  | some v =>
    rw [e] at h'
    obtain ⟨b, d, h1, h2, h3, h4⟩ := look_ok E e
    rw [h3]
    exact q v ε d S Fs (Fs x) h' E .refl ⟨h4, E.al x, fun a fa => .inr ⟨x, List.mem_singleton.mpr rfl, fa⟩, fun z => nomatch z⟩
theorem QE.pu {C : Cx} {ε' : Ev} {S : Sto} {ε : VEv} {Fs : Nat → Fp} {m as : List Nat} {r : Bool} {Q : P → VEv → Prop} {Q' : QD} {v : P} {ε1 : VEv} {d : D} {S1 : Sto} {Fs1 : Nat → Fp} {G : Fp} (q : QE Ω C ε' S ε Fs m as r Q Q') (h : Q v ε1) (E1 : Er Ω C S1 ε1 ε' Fs1) (st : StepE S ε Fs m S1 ε1 Fs1) (p : pure v = true) (rv : Rv Ω S1 G v d) : Q' d S1 :=
  q v ε1 d S1 Fs1 _ h E1 st (.pu p rv)
theorem of_ok {d : D} : (d = .non ∨ (∃ b, d = .bl b) ∨ (∃ i, d = .int i) ∨ (∃ x, d = .str x) ∨ ∃ n, d = .ty n) → pure (ofD d) = true ∧ Anyw Ω (ofD d) d := fun h => by
  rcases h with rfl | ⟨b, rfl⟩ | ⟨b, rfl⟩ | ⟨b, rfl⟩ | ⟨b, rfl⟩
  · exact ⟨rfl, fun _ _ => .non⟩
  · exact ⟨rfl, fun _ _ => .bl _⟩
  · exact ⟨rfl, fun _ _ => .int _⟩
  · exact ⟨rfl, fun _ _ => .str _⟩
  · exact ⟨rfl, fun _ _ => .ty _⟩
theorem snd_cst {d : D} : SndE Ω V Γ (.cst d) := by
  intro C ε' X X' ε S Fs Q Q' E xa ok h xr q
  have ok' : litD d = true := ok
  obtain ⟨p, r⟩ := of_ok (Ω := Ω) (d := d) (by
    cases d <;> first | (cases ok'; done) | exact .inl rfl | exact .inr (.inl ⟨_, rfl⟩) | exact .inr (.inr (.inl ⟨_, rfl⟩)) | exact .inr (.inr (.inr (.inl ⟨_, rfl⟩))) | exact .inr (.inr (.inr (.inr ⟨_, rfl⟩))))
  exact q.pu (v := ofD d) (G := fun _ => False) h E .refl p (r _ _)
theorem snd_cg (sg : SigR Ω V Γ) {x : Nat} : SndE Ω V Γ (.cg x) := by
  intro C ε' X X' ε S Fs Q Q' E xa ok h xr q
  exact q.pu (v := V.cg x) (G := fun _ => False) h E .refl (sg.cg x).1 ((sg.cg x).2 _ _)
theorem snd_neg (ia : SndE Ω V Γ a) : SndE Ω V Γ (.neg a) := by
  intro C ε' X X' ε S Fs Q Q' E xa ok h xr q
  refine ia E xa ok h xr fun x ε1 d S1 Fs1 F1 h1 E1 st1 r1 => ?_
  exact neg_ok (nw := false) r1.rv h1 fun z dz S' qz p o => by
    obtain ⟨G, rv, _⟩ := o.rv
    refine q.pu qz (E1.ext o.ex) ?_ p rv
    have := st1.trans (StepE.ext (ε := ε1) (Fs := Fs1) o.ex)
    rwa [List.append_nil] at this
theorem snd_un {u : U1} (ia : SndE Ω V Γ a) : SndE Ω V Γ (.un u a) := by
  intro C ε' X X' ε S Fs Q Q' E xa ok h xr q
  refine ia E xa ok h xr fun x ε1 d S1 Fs1 F1 h1 E1 st1 r1 => ?_
  have hr : rf (.un u a) = true := rfl
  cases u with
  | rev => exact rev_ok r1.fa r1.rv h1 (QE.op q E1 st1 (fun x hx => r1.fo x hx) r1.fa hr.symm)
  | lsR => exact lsR_ok r1.rv h1 (QE.op q E1 st1 (fun _ z => z.elim) (fun _ z => z.elim) hr.symm)
  | srtS => exact srtS_ok r1.rv h1 (QE.op q E1 st1 (fun _ z => z.elim) (fun _ z => z.elim) hr.symm)
theorem snd_lsZ (ia : SndE Ω V Γ a) (ib : SndE Ω V Γ b) : SndE Ω V Γ (.lsZ a b) :=
  snd_bin (e := .lsZ a b) true ia ib (fun _ _ _ => rfl) (fun _ _ _ _ => rfl) (fun h => and3 h) rfl rfl fun al hx hy h k => lsZ_ok al hx hy h fun z dz S' q o => k z dz S' q (.inr rfl) o
theorem isN_ok {S : Sto} {F : Fp} {x : P} {d : D} (h : Rv Ω S F x d) : isN d = isNP x := by
  cases h <;> first | rfl | (obtain ⟨a, rfl⟩ := Ω.ref ‹Ω.rep _ _ _›; rfl)
theorem snd_isN {n : Bool} (ia : SndE Ω V Γ a) : SndE Ω V Γ (.isN n a) := by
  intro C ε' X X' ε S Fs Q Q' E xa ok h xr q
  refine ia E xa ok h xr fun x ε1 d S1 Fs1 F1 h1 E1 st1 r1 => ?_
  rw [isN_ok r1.rv]
  exact q.pu (G := fun _ => False) h1 E1 st1 rfl (.bl _)
theorem snd_not (ia : SndE Ω V Γ a) : SndE Ω V Γ (.not a) := by
  intro C ε' X X' ε S Fs Q Q' E xa ok h xr q
  refine ia E xa ok h xr fun x ε1 d S1 Fs1 F1 h1 E1 st1 r1 => ?_
  exact bool_ok h1 r1.rv fun b hb => q.pu (G := fun _ => False) hb E1 st1 rfl (.bl _)
theorem snd_and (ia : SndE Ω V Γ a) (ib : SndE Ω V Γ b) : SndE Ω V Γ (.and a b) := by
  intro C ε' X X' ε S Fs Q Q' E xa ok h xr q
  obtain ⟨o1, o2⟩ := and2 (show (okE V.io a && okE V.io b) = true from ok)
  refine ia E xa o1 h xr fun x ε1 d S1 Fs1 F1 h1 E1 st1 r1 => ?_
  refine bool_ok h1 r1.rv fun b' hb => ?_
  cases b' with
  | true =>
    rw [if_pos rfl] at hb ⊢
    refine ib E1 xa o2 hb xr fun y ε2 dd S2 Fs2 F2 h2 E2 st2 r2 => ?_
    exact q y ε2 dd S2 Fs2 F2 h2 E2 (st1.trans st2) ⟨r2.rv, r2.fa, fun x hx => (r2.fo x hx).imp (fun z => ⟨st1.nonew z.1, z.2⟩) id, fun z => nomatch z⟩
  | false =>
    rw [if_neg Bool.false_ne_true] at hb ⊢
    exact q.pu (G := fun _ => False) hb E1 (st1.to fun i hi => List.mem_append_left _ hi) rfl (.bl _)
/-- the second one's value is given on -/
theorem ResE.off {S S1 S2 : Sto} {ε ε1 : VEv} {Fs Fs1 Fs2 : Nat → Fp} {m as bs : List Nat} {F : Fp} {v : P} {d : D} {r : Bool} (st : StepE S ε Fs m S1 ε1 Fs1) (a : ResE Ω S1 as r S2 Fs2 F v d) (h : ∀ i, i ∈ as → i ∈ bs) : ResE Ω S bs false S2 Fs2 F v d :=
  ⟨a.rv, a.fa, fun x hx => (a.fo x hx).imp (fun z => ⟨st.nonew z.1, z.2⟩) fun ⟨i, h1, h2⟩ => ⟨i, h i h1, h2⟩, fun z => nomatch z⟩
theorem snd_or (ia : SndE Ω V Γ a) (ib : SndE Ω V Γ b) : SndE Ω V Γ (.or a b) := by
  intro C ε' X X' ε S Fs Q Q' E xa ok h xr q
  obtain ⟨o1, o2⟩ := and2 (show (okE V.io a && okE V.io b) = true from ok)
  refine ia E xa o1 h xr fun x ε1 d S1 Fs1 F1 h1 E1 st1 r1 => ?_
  refine bool_ok h1 r1.rv fun b' hb => ?_
  cases b' with
  | false =>
    rw [if_neg Bool.false_ne_true] at hb ⊢
    refine ib E1 xa o2 hb xr fun y ε2 dd S2 Fs2 F2 h2 E2 st2 r2 => ?_
    exact q y ε2 dd S2 Fs2 F2 h2 E2 (st1.trans st2) (r2.off st1 fun _ z => z)
  | true =>
    rw [if_pos rfl] at hb ⊢
    exact q.pu (G := fun _ => False) hb E1 (st1.to fun i hi => List.mem_append_left _ hi) rfl (.bl _)
theorem snd_ite (ic : SndE Ω V Γ c) (ia : SndE Ω V Γ a) (ib : SndE Ω V Γ b) : SndE Ω V Γ (.ite c a b) := by
  intro C ε' X X' ε S Fs Q Q' E xa ok h xr q
  obtain ⟨o0, o1, o2⟩ := and3 (show (okE V.io c && okE V.io a && okE V.io b) = true from ok)
  refine ic E xa o0 h xr fun x ε1 d S1 Fs1 F1 h1 E1 st1 r1 => ?_
  refine bool_ok h1 r1.rv fun b' hb => ?_
  cases b' with
  | true =>
    rw [if_pos rfl] at hb ⊢
    refine ia E1 xa o1 hb xr fun y ε2 dd S2 Fs2 F2 h2 E2 st2 r2 => ?_
    refine q y ε2 dd S2 Fs2 F2 h2 E2 ((st1.trans st2).to fun i hi => ?_) (r2.off st1 fun _ z => List.mem_append_left _ z)
    show i ∈ mu V.io c ++ mu V.io a ++ mu V.io b
    rw [List.mem_append] at hi ⊢
    exact .inl (List.mem_append.mpr hi)
  | false =>
    rw [if_neg Bool.false_ne_true] at hb ⊢
    refine ib E1 xa o2 hb xr fun y ε2 dd S2 Fs2 F2 h2 E2 st2 r2 => ?_
    refine q y ε2 dd S2 Fs2 F2 h2 E2 ((st1.trans st2).to fun i hi => ?_) (r2.off st1 fun _ z => List.mem_append_right _ z)
    show i ∈ mu V.io c ++ mu V.io a ++ mu V.io b
    rw [List.mem_append] at hi ⊢
    exact hi.imp (fun z => List.mem_append_left _ z) id
theorem snd_cmp2 (ia : SndE Ω V Γ a) (ib : SndE Ω V Γ b) (ic : SndE Ω V Γ c) : SndE Ω V Γ (.cmp2 op op' a b c) := by
  intro C ε' X X' ε S Fs Q Q' E xa ok h xr q
  have ok' : (okE V.io a && okE V.io b && okE V.io c && disj (al V.io a) (mu V.io b) && disj (al V.io b) (mu V.io c)) = true := ok
  obtain ⟨ok', o5⟩ := and2 ok'
  obtain ⟨ok', o4⟩ := and2 ok'
  obtain ⟨o1, o2, o3⟩ := and3 ok'
  refine ia E xa o1 h xr fun x ε1 d S1 Fs1 F1 h1 E1 st1 r1 => ?_
  refine ib E1 xa o2 h1 xr fun y ε2 dd S2 Fs2 F2 h2 E2 st2 r2 => ?_
  have k1 := r1.keep E1 st2 (disj_iff o4)
  have st := st1.trans st2
  refine cmp_ok (F := fun z => F1 z ∨ F2 z) (nw := false) (k1.rv.mono fun _ => .inl) (r2.rv.mono fun _ => .inr) h2 fun z dz S' qz p o => ?_
  obtain ⟨G, rv, _⟩ := o.rv
  have E2' := E2.ext o.ex
  have st' := st.trans (StepE.ext (ε := ε2) (Fs := Fs2) o.ex)
  rw [List.append_nil] at st'
  have sx := StepE.ext (ε := ε2) (Fs := Fs2) o.ex
  refine bool_ok qz rv fun b' hb => ?_
  cases b' with
  | true =>
    rw [if_pos rfl] at hb ⊢
    have r2' := r2.keep E2 sx (fun _ _ => List.not_mem_nil)
    refine ic E2' xa o3 hb xr fun w ε3 d3 S3 Fs3 F3 h3 E3 st3 r3 => ?_
    have k2 := r2'.keep E2' st3 (disj_iff o5)
    refine cmp_ok (F := fun z => F2 z ∨ F3 z) (nw := false) (k2.rv.mono fun _ => .inl) (r3.rv.mono fun _ => .inr) h3 fun z dz S4 qz p o => ?_
    obtain ⟨G, rv, _⟩ := o.rv
    refine q.pu qz (E3.ext o.ex) ?_ p rv
    have := (st'.trans st3).trans (StepE.ext (ε := ε3) (Fs := Fs3) o.ex)
    rwa [List.append_nil] at this
  | false =>
    rw [if_neg Bool.false_ne_true] at hb ⊢
    exact q.pu (G := fun _ => False) hb E2' (st'.to fun i hi => List.mem_append_left _ hi) rfl (.bl _)
theorem snd_idx (ia : SndE Ω V Γ a) (ib : SndE Ω V Γ b) : SndE Ω V Γ (.idx a b) := by
  intro C ε' X X' ε S Fs Q Q' E xa ok h xr q
  obtain ⟨o1, o2, o3⟩ := and3 (show (okE V.io a && okE V.io b && disj (al V.io a) (mu V.io b)) = true from ok)
  refine ia E xa o1 h xr fun x ε1 d S1 Fs1 F1 h1 E1 st1 r1 => ?_
  refine ib E1 xa o2 h1 xr fun y ε2 dd S2 Fs2 F2 h2 E2 st2 r2 => ?_
  have k1 := r1.keep E1 st2 (disj_iff o3)
  have st := st1.trans st2
  have py : pure y = true := by
    have h' : idxP x y fun z => Q z ε2 := h2
    have key : ∀ {y : P} {k : Key}, keyP y = some k → pure y = true := fun {y k} e => by
      cases y <;> first | rfl | (cases e; done)
    have keys : ∀ {ys : List P} {ks : List Key}, keysP ys = some ks → pureL ys = true := fun {ys} => by
      induction ys with
      | nil => intro _ _; rfl
      | cons y ys ih =>
        intro ks e
        rw [keysP] at e
        cases q1 : keyP y with
        | none => rw [q1] at e; cases e
        | some k =>
          cases q2 : keysP ys with
          | none => rw [q1, q2] at e; cases e
          | some k2 => rw [pureL_cons, key q1, ih q2]; rfl
    have keyT : ∀ {y : P} {k : List Key}, keyTP y = some k → pure y = true := fun {y k} e => by
      cases y <;> first | exact keys e | (cases e; done)
    have idl : ∀ {xs : List P} {R : P → Prop}, idxLP xs y R → pure y = true := fun z => by
      unfold idxLP at z
      split at z
      · rfl
      · exact z.elim
    unfold idxP at h'
    split at h'
    · exact idl h'
    · exact idl h'
    · exact idl h'
    · exact idl h'
    · rfl
    · obtain ⟨k, _, h1, _⟩ := h'; exact key h1
    · obtain ⟨k, _, h1, _⟩ := h'; exact keyT h1
    · exact h'.elim
  exact idx_ok (F := F1) k1.fa k1.rv (r2.rv.pu py) h2 (QE.op q E2 st k1.fo k1.fa rfl)
theorem snd_slc {lo hi : MO} (ia : SndE Ω V Γ a) (il : SndO Ω V Γ lo) (ih : SndO Ω V Γ hi) : SndE Ω V Γ (.slc a lo hi) := by
  intro C ε' X X' ε S Fs Q Q' E xa ok h xr q
  have ok' : (okE V.io a && okO V.io lo && okO V.io hi && disj (al V.io a) (muO V.io lo ++ muO V.io hi)) = true := ok
  obtain ⟨ok', o4⟩ := and2 ok'
  obtain ⟨o1, o2, o3⟩ := and3 ok'
  refine ia E xa o1 h xr fun x ε1 d S1 Fs1 F1 h1 E1 st1 r1 => ?_
  refine il E1 xa o2 h1 xr fun k1 ε2 S2 Fs2 h2 E2 st2 => ?_
  refine ih E2 xa o3 h2 xr fun k2 ε3 S3 Fs3 h3 E3 st3 => ?_
  have r := r1.keep E1 (st2.trans st3) (disj_iff o4)
  have st := (st1.trans st2).trans st3
  exact slc_ok (F := F1) r.fa r.rv h3 (QE.op q E3 st r.fo r.fa rfl)
end
end Cay

set_option Elab.async false
set_option linter.all false
set_option maxRecDepth 100000
/-! Cay: lists of expressions, calls, methods. -/
namespace Cay
open PySem PySem.Spec PyProof.Rows L2 Bay
section
variable {Ω : Opq} {V : VSig} {Γ : Sig} {a b c i e o : ME} {es : MEs}
theorem snd_nil : SndEs Ω V Γ .nil := by
  intro C ε' X X' ε S Fs Q Q' sk k E xa ok h xr q
  refine q [] ε [] S Fs (fun _ _ => False) h E .refl ⟨rfl, fun j x hj hn => ?_, fun j v _ hv => by simp at hv, fun _ _ z => z.elim, fun _ _ z => z.elim, fun j v hv => by simp at hv, fun _ _ _ _ z => z.elim, fun j e a _ z => (nomatch z), fun j e a _ z => (nomatch z)⟩
  cases hn
theorem snd_cons (ia : SndE Ω V Γ e) (ir : SndEs Ω V Γ es) : SndEs Ω V Γ (.cons e es) := by
  intro C ε' X X' ε S Fs Q Q' sk k E xa ok h xr q
  have ok' : ((if sk.contains k then (varOf e).isSome else okE V.io e && disj (al V.io e) (mus V.io sk (k + 1) es)) && okEs V.io sk (k + 1) es) = true := ok
  obtain ⟨o1, o2⟩ := and2 ok'
  have em : mus V.io sk k (.cons e es) = (if sk.contains k then vl e else mu V.io e) ++ mus V.io sk (k + 1) es := rfl
  have ea : als V.io sk k (.cons e es) = (if sk.contains k then [] else al V.io e) ++ als V.io sk (k + 1) es := rfl
  cases hk : sk.contains k with
  | true =>
    rw [hk, if_pos rfl] at o1 em ea
    have hk' : k ∈ sk := by simpa using hk
    obtain ⟨x, rfl⟩ : ∃ x, e = .var x := by cases e <;> first | exact ⟨_, rfl⟩ | (cases o1; done)
    show (match lookE ε' x with | some d => wEs Γ es X' ε' S fun ds S2 => Q' (d :: ds) S2 | none => False)
    have h' : (match vlook ε x with | some v => vEs V es X ε fun vs ε2 => Q (v :: vs) ε2 | none => False) := h
    cases hl : vlook ε x with
    | none => rw [hl] at h'; exact h'.elim
    | some v =>
      rw [hl] at h'
      obtain ⟨bb, d, h1, h2, h3, h4⟩ := look_ok E hl
      rw [h3]
      refine ir sk (k + 1) E xa o2 h' xr fun vs ε1 ds S1 Fs1 F q1 E1 st1 r1 => ?_
      refine q (v :: vs) ε1 (d :: ds) S1 Fs1 (fun j => match j with | 0 => fun _ => False | j + 1 => F j) q1 E1 (st1.to fun i hi => by rw [em]; exact List.mem_append_right _ hi) ⟨by simp [r1.len], fun j y hj hn => ?_, fun j w hj hw => ?_, fun j a z => ?_, fun j a z => ?_, fun j v hv => ?_, fun i j a ne z1 z2 => ?_, fun j e' a hj hn hr hd => ?_, fun j e' a hj hn z => ?_⟩
      · cases j with
        | zero =>
          have : x = y := by
            have z : some (ME.var x) = some (ME.var y) := hn
            cases z; rfl
          subst this
          exact ⟨d, rfl, h2⟩
        | succ j => exact r1.var j y (by rw [show k + 1 + j = k + (j + 1) by omega]; exact hj) hn
      · cases j with
        | zero => exact absurd hk' hj
        | succ j => exact r1.rv j w (by rw [show k + 1 + j = k + (j + 1) by omega]; exact hj) (by simpa using hw)
      · cases j with
        | zero => exact z.elim
        | succ j => exact r1.fa j a z
      · cases j with
        | zero => exact z.elim
        | succ j => rw [ea]; exact r1.fo j a z
      · cases j with
        | zero => rfl
        | succ j => exact r1.has j v (by simpa using hv)
      · cases i with
        | zero => exact z1.elim
        | succ i => cases j with
          | zero => exact z2.elim
          | succ j => rw [ea]; exact r1.dj i j a (by omega) z1 z2
      · cases j with
        | zero => exact absurd hk' hj
        | succ j => exact r1.rt j e' a (by rw [show k + 1 + j = k + (j + 1) by omega]; exact hj) hn hr (by simpa using hd)
      · cases j with
        | zero => exact absurd hk' hj
        | succ j => exact r1.fe j e' a (by rw [show k + 1 + j = k + (j + 1) by omega]; exact hj) hn z
  | false =>
    rw [hk, if_neg Bool.false_ne_true] at o1 em ea
    have hk' : k ∉ sk := by simpa using hk
    obtain ⟨o3, o4⟩ := and2 o1
    refine ia E xa o3 h xr fun v ε1 d S1 Fs1 F1 h1 E1 st1 r1 => ?_
    refine ir sk (k + 1) E1 xa o2 h1 xr fun vs ε2 ds S2 Fs2 F q2 E2 st2 r2 => ?_
    have k1 := r1.keep E1 st2 (disj_iff o4)
    refine q (v :: vs) ε2 (d :: ds) S2 Fs2 (fun j => match j with | 0 => F1 | j + 1 => F j) q2 E2 (by rw [em]; exact st1.trans st2) ⟨by simp [r2.len], fun j y hj hn => ?_, fun j w hj hw => ?_, fun j a z => ?_, fun j a z => ?_, fun j v hv => ?_, fun i j a ne z1 z2 => ?_, fun j e' a hj hn hr hd => ?_, fun j e' a hj hn z => ?_⟩
    · cases j with
      | zero => exact absurd hj hk'
      | succ j => exact r2.var j y (by rw [show k + 1 + j = k + (j + 1) by omega]; exact hj) hn
    · cases j with
      | zero =>
        have : v = w := by simpa using hw
        subst this
        exact ⟨d, rfl, k1.rv⟩
      | succ j => exact r2.rv j w (by rw [show k + 1 + j = k + (j + 1) by omega]; exact hj) (by simpa using hw)
    · cases j with
      | zero => exact k1.fa a z
      | succ j => exact r2.fa j a z
    · rw [ea]
      cases j with
      | zero => exact (k1.fo a z).imp id fun ⟨i, h1, h2⟩ => ⟨i, List.mem_append_left _ h1, h2⟩
      | succ j => exact (r2.fo j a z).imp (fun z => ⟨st1.nonew z.1, z.2⟩) fun ⟨i, h1, h2⟩ => ⟨i, List.mem_append_right _ h1, h2⟩
    · cases j with
      | zero => rfl
      | succ j => exact r2.has j v (by simpa using hv)
    · have cross : ∀ j, F1 a → F j a → ∃ q, q ∈ (if false = true then [] else al V.io e) ++ als V.io sk (k + 1) es ∧ Fs2 q a := fun j z1 z2 => by
        rcases r2.fo j a z2 with ⟨q, _⟩ | ⟨i, h1, h2⟩
        · exact absurd q (r1.fa a z1)
        · exact ⟨i, List.mem_append_right _ h1, h2⟩
      rw [ea]
      cases i with
      | zero => cases j with
        | zero => exact absurd rfl ne
        | succ j => exact cross j z1 z2
      | succ i => cases j with
        | zero => exact cross i z2 z1
        | succ j =>
          obtain ⟨q, h1, h2⟩ := r2.dj i j a (by omega) z1 z2
          exact ⟨q, List.mem_append_right _ h1, h2⟩
    · cases j with
      | zero =>
        have e1 : e = e' := by
          have z : some e = some e' := hn
          cases z; rfl
        subst e1
        have d1 : d = .ref a := by simpa using hd
        exact k1.rt hr a d1
      | succ j =>
        obtain ⟨q1, q2⟩ := r2.rt j e' a (by rw [show k + 1 + j = k + (j + 1) by omega]; exact hj) hn hr (by simpa using hd)
        exact ⟨st1.nonew q1, q2⟩
    · cases j with
      | zero =>
        have e1 : e = e' := by
          have z : some e = some e' := hn
          cases z; rfl
        subst e1
        exact k1.fo a z
      | succ j => exact (r2.fe j e' a (by rw [show k + 1 + j = k + (j + 1) by omega]; exact hj) hn z).imp (fun z => ⟨st1.nonew z.1, z.2⟩) id
/-- without places that are skipped -/
theorem SndEs.L (ia : SndEs Ω V Γ es) {C : Cx} {ε' : Ev} {X : VX} {X' : QX} {ε : VEv} {S : Sto} {Fs : Nat → Fp} {Q : List P → VEv → Prop} {Q' : List D → Sto → Prop} (E : Er Ω C S ε ε' Fs) (xa : XaR Ω V Γ ε') (ok : okEs V.io [] 0 es = true) (h : vEs V es X ε Q) (xr : XR Ω C X X')
    (q : ∀ vs ε1 ds S1 Fs1 F, Q vs ε1 → Er Ω C S1 ε1 ε' Fs1 → StepE S ε Fs (mus V.io [] 0 es) S1 ε1 Fs1 → ResL Ω S (als V.io [] 0 es) S1 Fs1 F vs ds → Q' ds S1) : wEs Γ es X' ε' S Q' :=
  ia [] 0 E xa ok h xr fun vs ε1 ds S1 Fs1 F qq E1 st r => q vs ε1 ds S1 Fs1 _ qq E1 st r.toL
theorem snd_tup (ia : SndEs Ω V Γ es) : SndE Ω V Γ (.tup es) := by
  intro C ε' X X' ε S Fs Q Q' E xa ok h xr q
  refine ia.L E xa ok h xr fun vs ε1 ds S1 Fs1 F h1 E1 st1 r1 => ⟨by rw [← r1.rv.length]; exact h1.1, ?_⟩
  exact q (.tup vs) ε1 (.tup ds) S1 Fs1 F h1.2 E1 st1 ⟨.tup r1.rv, r1.fa, r1.fo, fun z => nomatch z⟩
theorem snd_lst (ia : SndEs Ω V Γ es) : SndE Ω V Γ (.lst es) := by
  intro C ε' X X' ε S Fs Q Q' E xa ok h xr q
  refine ia.L E xa ok h xr fun vs ε1 ds S1 Fs1 F h1 E1 st1 r1 => ⟨by rw [← r1.rv.length]; exact h1.1, fun p n => ?_⟩
  exact QE.op q E1 st1 r1.fo r1.fa rfl _ _ _ h1.2 (.new r1.fa n r1.rv)
theorem zipK {S : Sto} {F : Fp} : ∀ {vs : List P} {ds : List D} (ks : List Str), RvL Ω S F vs ds → (((ks.zip vs).map fun p => ((.inr p.1 : Key), p.2)).map (·.1) = (dicD ks ds).map (·.1)) ∧ RvL Ω S F (((ks.zip vs).map fun p => ((.inr p.1 : Key), p.2)).map (·.2)) ((dicD ks ds).map (·.2))
  | _, _, [], _ => ⟨rfl, .nil⟩
  | _, _, _ :: _, .nil => ⟨rfl, .nil⟩
  | v :: vs, d :: ds, k :: ks, .cons h t => by
    obtain ⟨a, b⟩ := zipK ks t
    refine ⟨?_, .cons h b⟩
    exact congrArg (List.cons (.inr k : Key)) a
theorem snd_dic {ks : List Str} (ia : SndEs Ω V Γ es) : SndE Ω V Γ (.dic ks es) := by
  intro C ε' X X' ε S Fs Q Q' E xa ok h xr q
  refine ia.L E xa ok h xr fun vs ε1 ds S1 Fs1 F h1 E1 st1 r1 => fun p n => ?_
  obtain ⟨z1, z2⟩ := zipK ks r1.rv
  exact QE.op q E1 st1 r1.fo r1.fa rfl _ _ _ h1 (.newK r1.fa n z1 z2)
theorem snd_dicT : SndE Ω V Γ .dicT := by
  intro C ε' X X' ε S Fs Q Q' E xa ok h xr q p n
  exact QE.op q E .refl (F := fun _ => False) (fun _ z => z.elim) (fun _ z => z.elim) rfl _ _ _ h (.newT n)
theorem snd_blt {b : B1} (ia : SndEs Ω V Γ es) : SndE Ω V Γ (.blt b es) := by
  intro C ε' X X' ε S Fs Q Q' E xa ok h xr q
  refine ia.L E xa ok h xr fun vs ε1 ds S1 Fs1 F h1 E1 st1 r1 => ?_
  have ha : al V.io (.blt b es) = if keepsB b then als V.io [] 0 es else [] := rfl
  have hr : rf (.blt b es) = (b == .list || b == .sorted) := by cases b <;> rfl
  refine blt_ok r1.fa r1.rv h1 fun z dz S' qz oo hp => ?_
  cases hb : keepsB b with
  | true =>
    rw [hb, if_pos rfl] at ha
    exact QE.op q E1 st1 (by rw [ha]; exact r1.fo) r1.fa hr.symm z dz S' qz oo
  | false =>
    obtain ⟨G, rv, _⟩ := oo.rv
    refine q.pu qz (E1.ext oo.ex) ?_ (hp hb) rv
    have := st1.trans (StepE.ext (ε := ε1) (Fs := Fs1) oo.ex)
    rwa [List.append_nil] at this
theorem snd_xf (x : Nat) (f : Str) : SndE Ω V Γ (.xf x f) := by
  intro C ε' X X' ε S Fs Q Q' E xa ok h xr q
  obtain ⟨y, v, h1, h2, h3⟩ := h
  obtain ⟨a, x', g1, ⟨g2, g3⟩, g4⟩ := xa x y h1
  rcases g3 with ⟨z1, _⟩ | ⟨f', v', d, z1, z2, z3, z4⟩
  · rw [z1] at h2; cases h2
  · rw [z1] at h2
    cases h2
    exact ⟨a, x', d, g1, g4, z2, q.pu (G := fun _ => False) h3 E .refl z3 (z4 _ _)⟩
theorem snd_xis (sg : SigR Ω V Γ) (x : Nat) (f : Str) : SndE Ω V Γ (.xis x f) := by
  intro C ε' X X' ε S Fs Q Q' E xa ok h xr q
  obtain ⟨y, h1, h3⟩ := h
  obtain ⟨a, x', g1, ⟨g2, g3⟩, g4⟩ := xa x y h1
  refine ⟨a, x', g1, g4, ?_⟩
  rw [sg.sub, g2]
  exact q.pu (G := fun _ => False) h3 E .refl rfl (.bl _)
theorem nodup_inj : ∀ {l : List Nat} {i j x : Nat}, l.Nodup → l[i]? = some x → l[j]? = some x → i = j
  | [], _, _, _, _, h, _ => by simp at h
  | a :: l, 0, 0, _, _, _, _ => rfl
  | a :: l, 0, j + 1, x, nd, h1, h2 => by
    rw [List.nodup_cons] at nd
    simp at h1 h2
    subst h1
    exact absurd (List.mem_of_getElem? h2) nd.1
  | a :: l, i + 1, 0, x, nd, h1, h2 => by
    rw [List.nodup_cons] at nd
    simp at h1 h2
    subst h2
    exact absurd (List.mem_of_getElem? h1) nd.1
  | a :: l, i + 1, j + 1, x, nd, h1, h2 => by
    rw [List.nodup_cons] at nd
    simp at h1 h2
    rw [nodup_inj nd.2 h1 h2]
/-- the end of a call -/
theorem call_post {C : Cx} {ε' : Ev} {ε1 ε2 : VEv} {S1 S' : Sto} {Fs1 Fs' : Nat → Fp} {G : Fp} {xs io : List Nat} {us : List P} {ds : List D} {r : P} {d : D} {Fa : Nat → Fp} {fr : Bool} (E1 : Er Ω C S1 ε1 ε' Fs1)
    (hl : xs.length = io.length) (hnd : xs.Nodup) (hio : io.Nodup)
    (hx : ∀ (k p : Nat), io[k]? = some p → ∃ (x : Nat) (v : P) (dp : D), xs[k]? = some x ∧ ε1[x]? = some (some (v, true)) ∧ ds[p]? = some dp ∧ ε'[x]? = some (some dp) ∧ ∀ a, Fa p a ↔ Fs1 x a)
    (hs : ioSet xs us ε1 = some ε2) (po : PostF Ω io fr S1 ds Fa r us d S' Fs' G) :
    ∃ Fs2 : Nat → Fp, Er Ω C S' ε2 ε' Fs2 ∧ StepE S1 ε1 Fs1 xs S' ε2 Fs2 ∧ (∀ (k p : Nat) (x : Nat), io[k]? = some p → xs[k]? = some x → ∀ a, Fs2 x a ↔ Fs' p a) ∧ ∀ x, x ∉ xs → ∀ a, Fs2 x a ↔ Fs1 x a := by
  obtain ⟨s1, s2, s3, s4⟩ := ioSet_ok hnd hs
  have pos : ∀ x, x ∈ xs → ∃ (k p : Nat) (v : P) (u : P) (dp : D), xs[k]? = some x ∧ io[k]? = some p ∧ us[k]? = some u ∧ ε1[x]? = some (some (v, true)) ∧ ds[p]? = some dp ∧ ε'[x]? = some (some dp) ∧ (∀ a, Fa p a ↔ Fs1 x a) ∧ p ∈ io ∧ ε2[x]? = some (some (u, true)) := fun x hx' => by
    obtain ⟨k, hk⟩ := List.getElem?_of_mem hx'
    have hkl : k < xs.length := (List.getElem?_eq_some_iff.mp hk).1
    obtain ⟨p, hp⟩ : ∃ p, io[k]? = some p := ⟨io[k]'(by omega), List.getElem?_eq_getElem _⟩
    obtain ⟨u, hu⟩ : ∃ u, us[k]? = some u := ⟨us[k]'(by omega), List.getElem?_eq_getElem _⟩
    obtain ⟨x2, v, dp, g1, g2, g3, g4, g5⟩ := hx k p hp
    rw [hk] at g1
    cases g1
    exact ⟨k, p, v, u, dp, hk, hp, hu, g2, g3, g4, g5, List.mem_of_getElem? hp, s4 k x u hk hu (List.getElem?_eq_some_iff.mp g2).1⟩
  have uniq : ∀ {k k' x : Nat}, xs[k]? = some x → xs[k']? = some x → k = k' := fun {k k' x} h1 h2 => by
    have a1 := List.getElem?_eq_some_iff.mp h1
    have a2 := List.getElem?_eq_some_iff.mp h2
    exact nodup_inj hnd h1 h2
  have uniqP : ∀ {k k' p : Nat}, io[k]? = some p → io[k']? = some p → k = k' := fun {k k' x} h1 h2 => by
    have a1 := List.getElem?_eq_some_iff.mp h1
    have a2 := List.getElem?_eq_some_iff.mp h2
    exact nodup_inj hio h1 h2
  let Fs2 : Nat → Fp := fun x a => (x ∉ xs ∧ Fs1 x a) ∨ ∃ k p : Nat, xs[k]? = some x ∧ io[k]? = some p ∧ Fs' p a
  have f2in : ∀ {x k p : Nat} {a : Addr}, xs[k]? = some x → io[k]? = some p → (Fs2 x a ↔ Fs' p a) := fun {x k p a} h1 h2 => by
    constructor
    · rintro (⟨n, _⟩ | ⟨k', p', g1, g2, g3⟩)
      · exact absurd (List.mem_of_getElem? h1) n
      · have := uniq h1 g1
        subst this
        rw [h2] at g2
        cases g2
        exact g3
    · intro z; exact .inr ⟨k, p, h1, h2, z⟩
  have f2out : ∀ {x : Nat} {a : Addr}, x ∉ xs → (Fs2 x a ↔ Fs1 x a) := fun {x a} h => by
    constructor
    · rintro (⟨_, z⟩ | ⟨k', p', g1, _⟩)
      · exact z
      · exact absurd (List.mem_of_getElem? g1) h
    · intro z; exact .inl ⟨h, z⟩
  -- what is kept
  have kept : ∀ (a : Addr) (o : O), S1 a = some o → (∀ x, x ∈ xs → ¬ Fs1 x a) → S' a = some o := fun a o e n => po.kp a o e fun p hp fp => by
    obtain ⟨k, hk⟩ := List.getElem?_of_mem hp
    obtain ⟨x, v, dp, g1, g2, g3, g4, g5⟩ := hx k p hk
    exact n x (List.mem_of_getElem? g1) ((g5 a).mp fp)
  have gs : ∀ x a, Fs2 x a → Fs1 x a ∨ S1 a = none := fun x a z => by
    by_cases hm : x ∈ xs
    · obtain ⟨k, p, v, u, dp, g1, g2, g3, g4, g5, g6, g7, g8, g9⟩ := pos x hm
      exact (po.gs p a g8 ((f2in g1 g2).mp z)).imp (g7 a).mp id
    · exact .inl ((f2out hm).mp z)
  have gr : ∀ x a, Fs1 x a → Fs2 x a := fun x a z => by
    by_cases hm : x ∈ xs
    · obtain ⟨k, p, v, u, dp, g1, g2, g3, g4, g5, g6, g7, g8, g9⟩ := pos x hm
      exact (f2in g1 g2).mpr (po.gr p a g8 ((g7 a).mpr z))
    · exact (f2out hm).mpr z
  have nw : ∀ x a, S1 a = none → ¬ Fs1 x a := fun x a n z => E1.al x a z n
  refine ⟨Fs2, ?_, ?_, fun k p x h1 h2 a => f2in h2 h1, fun x h a => f2out h⟩
  · refine ⟨by rw [s2]; exact E1.len, fun i v b e => ?_, fun i a z => ?_, fun i v b e pv a z => ?_, fun i v e j ne a z1 z2 => ?_, fun a o hk => ?_, fun i v e a o z hk => ?_, fun a hb => po.alo a (E1.bs a hb), fun i a z => ?_, fun a n => E1.fr a ?_⟩
    · by_cases hm : i ∈ xs
      · obtain ⟨k, p, v0, u, dp, g1, g2, g3, g4, g5, g6, g7, g8, g9⟩ := pos i hm
        rw [g9] at e
        cases e
        obtain ⟨dp', o1, o2⟩ := po.out k p v g2 g3
        rw [g5] at o1
        cases o1
        exact ⟨dp, g6, o2.mono fun a z => (f2in g1 g2).mpr z⟩
      · rw [s3 i hm] at e
        obtain ⟨d0, o1, o2⟩ := E1.rep i v b e
        refine ⟨d0, o1, o2.to (fun a o z e2 => kept a o e2 fun x hx' fx => ?_) fun a z => (f2out hm).mpr z⟩
        obtain ⟨k, p, v0, u, dp, g1, g2, g3, g4, g5, g6, g7, g8, g9⟩ := pos x hx'
        exact E1.own x v0 g4 i (fun q => hm (q ▸ hx')) a fx z
    · by_cases hm : i ∈ xs
      · obtain ⟨k, p, v0, u, dp, g1, g2, g3, g4, g5, g6, g7, g8, g9⟩ := pos i hm
        exact po.al p a g8 ((f2in g1 g2).mp z)
      · exact po.alo a (E1.al i a ((f2out hm).mp z))
    · by_cases hm : i ∈ xs
      · obtain ⟨k, p, v0, u, dp, g1, g2, g3, g4, g5, g6, g7, g8, g9⟩ := pos i hm
        rw [g9] at e
        cases e
        obtain ⟨dp', o1, o2⟩ := po.out k p v g2 g3
        rw [g5] at o1
        cases o1
        exact po.pu k p v g2 g3 pv a ((f2in g1 g2).mp z)
      · rw [s3 i hm] at e
        exact E1.pf i v b e pv a ((f2out hm).mp z)
    · have own1 : ∃ v1 : P, ε1[i]? = some (some (v1, true)) := by
        by_cases hm : i ∈ xs
        · obtain ⟨k, p, v0, u, dp, g1, g2, g3, g4, g5, g6, g7, g8, g9⟩ := pos i hm
          exact ⟨v0, g4⟩
        · rw [s3 i hm] at e; exact ⟨v, e⟩
      obtain ⟨v1, ow⟩ := own1
      by_cases hi : i ∈ xs
      · obtain ⟨k, p, v0, u, dp, g1, g2, g3, g4, g5, g6, g7, g8, g9⟩ := pos i hi
        by_cases hj : j ∈ xs
        · obtain ⟨k', p', v0', u', dp', g1', g2', g3', g4', g5', g6', g7', g8', g9'⟩ := pos j hj
          refine po.dj p p' a g8 g8' (fun q => ?_) ((f2in g1 g2).mp z1) ((f2in g1' g2').mp z2)
          subst q
          have := uniqP g2 g2'
          subst this
          rw [g1] at g1'
          cases g1'
          exact ne rfl
        · have z2' := (f2out hj).mp z2
          rcases gs i a z1 with q | q
          · exact E1.own i v1 ow j ne a q z2'
          · exact nw j a q z2'
      · have z1' := (f2out hi).mp z1
        rcases gs j a z2 with q | q
        · exact E1.own i v1 ow j ne a z1' q
        · exact nw i a q z1'
    · refine kept a o (E1.kp a o hk) fun x hx' fx => ?_
      obtain ⟨k, p, v0, u, dp, g1, g2, g3, g4, g5, g6, g7, g8, g9⟩ := pos x hx'
      exact E1.okp x v0 g4 a o fx hk
    · have own1 : ∃ v1 : P, ε1[i]? = some (some (v1, true)) := by
        by_cases hm : i ∈ xs
        · obtain ⟨k, p, v0, u, dp, g1, g2, g3, g4, g5, g6, g7, g8, g9⟩ := pos i hm
          exact ⟨v0, g4⟩
        · rw [s3 i hm] at e; exact ⟨v, e⟩
      obtain ⟨v1, ow⟩ := own1
      rcases gs i a z with q | q
      · exact E1.okp i v1 ow a o q hk
      · have := E1.kp a o hk
        rw [q] at this; cases this
    · rcases gs i a z with q | q
      · exact E1.src i a q
      · exact E1.fr a q
    · cases e : S1 a with
      | none => rfl
      | some o => exact absurd n (po.alo a (by rw [e]; exact fun z => nomatch z))
  · refine ⟨gr, gs, fun i a hn z => (f2out hn).mp z, fun i v b e => ?_, fun a o e n => ?_, po.alo⟩
    · by_cases hm : i ∈ xs
      · obtain ⟨k, p, v0, u, dp, g1, g2, g3, g4, g5, g6, g7, g8, g9⟩ := pos i hm
        rw [g9] at e
        cases e
        exact ⟨v0, g4⟩
      · rw [s3 i hm] at e; exact ⟨v, e⟩
    · refine kept a o e fun x hx' => ?_
      obtain ⟨k, p, v0, u, dp, g1, g2, g3, g4, g5, g6, g7, g8, g9⟩ := pos x hx'
      exact n x hx' ⟨v0, g4⟩
end
end Cay

set_option Elab.async false
set_option linter.all false
set_option maxRecDepth 100000
/-! Cay: calls, methods, comprehensions. -/
namespace Cay
open PySem PySem.Spec PyProof.Rows L2 Bay
section
variable {Ω : Opq} {V : VSig} {Γ : Sig} {a b c i e o : ME} {es : MEs}
theorem vars_in {io : IO} {sk : List Nat} {x : Nat} : ∀ {es : MEs} {k j : Nat}, (k + j) ∈ sk → nthE es j = some (.var x) → x ∈ mus io sk k es
  | .nil, _, _, _, h => nomatch h
  | .cons e r, k, 0, hk, h => by
    cases h
    show x ∈ (if sk.contains k then vl (.var x) else mu io (.var x)) ++ mus io sk (k + 1) r
    rw [if_pos (by simpa using hk)]
    exact List.mem_append_left _ (List.mem_singleton.mpr rfl)
  | .cons e r, k, j + 1, hk, h => by
    show x ∈ (if sk.contains k then vl e else mu io e) ++ mus io sk (k + 1) r
    exact List.mem_append_right _ (vars_in (es := r) (k := k + 1) (j := j) (by rw [show k + 1 + j = k + (j + 1) by omega]; exact hk) h)
theorem snd_call (sg : SigR Ω V Γ) {f : Nat} (ia : SndEs Ω V Γ es) : SndE Ω V Γ (.call f es) := by
  intro C ε' X X' ε S Fs Q Q' E xa ok h xr q
  have ok' : (okEs V.io (V.io f) 0 es && nodupB (V.io f) && nodupB (ioVars (V.io f) es) && disj (als V.io (V.io f) 0 es) (ioVars (V.io f) es)) = true := ok
  obtain ⟨ok', o4⟩ := and2 ok'
  obtain ⟨o1, o2, o3⟩ := and3 ok'
  have n1 : (V.io f).Nodup := of_decide_eq_true o2
  refine ia (V.io f) 0 E xa o1 h xr fun vs ε1 ds S1 Fs1 F h1 E1 st1 r1 => ?_
  obtain ⟨hl, xs, vs', hn, hf, hv⟩ := h1
  obtain ⟨i1, i2, i3⟩ := ioNames_ok hn
  rw [i2] at o3 o4
  have n2 : xs.Nodup := of_decide_eq_true o3
  obtain ⟨f1, f2, f3⟩ := ioFix_ok i1 n1 hf
  have dj := disj_iff o4
  refine ⟨by rw [sg.ar, ← r1.len]; exact hl, ?_⟩
  -- who is where
  have pos : ∀ p, p ∈ V.io f → ∃ (k x : Nat) (v : P) (d : D), (V.io f)[k]? = some p ∧ xs[k]? = some x ∧ ε1[x]? = some (some (v, true)) ∧ ds[p]? = some d ∧ ε'[x]? = some (some d) ∧ vs'[p]? = some v ∧ Rv Ω S1 (Fs1 x) v d := fun p hp => by
    obtain ⟨k, hk⟩ := List.getElem?_of_mem hp
    obtain ⟨x, g1, g2⟩ := i3 k p hk
    obtain ⟨v, g3, g4⟩ := f3 k p x hk g1
    obtain ⟨d, w1, w2, w3, w4⟩ := own_ok E1 g3
    obtain ⟨d', y1, y2⟩ := r1.var p x (by rw [Nat.zero_add]; exact hp) g2
    rw [w2] at y2
    cases y2
    have pl : p < vs.length := by rw [r1.len]; exact (List.getElem?_eq_some_iff.mp y1).1
    exact ⟨k, x, v, d, hk, g1, w1, y1, w2, g4 pl, w4⟩
  let Fa : Nat → Fp := fun p a => (p ∉ V.io f ∧ F p a) ∨ ∃ k x : Nat, (V.io f)[k]? = some p ∧ xs[k]? = some x ∧ Fs1 x a
  have fin : ∀ {k p x : Nat} {a : Addr}, (V.io f)[k]? = some p → xs[k]? = some x → (Fa p a ↔ Fs1 x a) := fun {k p x a} h1 h2 => by
    constructor
    · rintro (⟨n, _⟩ | ⟨k', x', g1, g2, g3⟩)
      · exact absurd (List.mem_of_getElem? h1) n
      · have := nodup_inj n1 h1 g1
        subst this
        rw [h2] at g2; cases g2; exact g3
    · intro z; exact .inr ⟨k, x, h1, h2, z⟩
  have fout : ∀ {p : Nat} {a : Addr}, p ∉ V.io f → (Fa p a ↔ F p a) := fun {p a} h => by
    constructor
    · rintro (⟨_, z⟩ | ⟨k', x', g1, _⟩)
      · exact z
      · exact absurd (List.mem_of_getElem? g1) h
    · intro z; exact .inl ⟨h, z⟩
  refine sg.fn f ds S1 Q' X' ⟨vs', Fa, _, X, by rw [f1, r1.len], fun i v hi => ?_, fun i a hz => ?_, fun i hi => ?_, fun i w hi hw pw a hz => ?_, hv, ?_, ?_⟩
  · by_cases hm : i ∈ V.io f
    · obtain ⟨k, x, v', d, p1, p2, p3, p4, p5, p6, p7⟩ := pos i hm
      rw [p6] at hi
      cases hi
      exact ⟨d, p4, p7.mono fun a z => (fin p1 p2).mpr z⟩
    · rw [f2 i hm] at hi
      obtain ⟨d, g1, g2⟩ := r1.rv i v (by rw [Nat.zero_add]; exact hm) hi
      exact ⟨d, g1, g2.mono fun a z => (fout hm).mpr z⟩
  · by_cases hm : i ∈ V.io f
    · obtain ⟨k, x, v', d, p1, p2, _⟩ := pos i hm
      exact E1.al x a ((fin p1 p2).mp hz)
    · exact r1.fa i a ((fout hm).mp hz)
  · obtain ⟨k, x, v', d, p1, p2, p3, p4, p5, p6, p7⟩ := pos i hi
    refine ⟨(List.getElem?_eq_some_iff.mp p6).1, fun j ne a z1 z2 => ?_⟩
    have z1' := (fin p1 p2).mp z1
    by_cases hm : j ∈ V.io f
    · obtain ⟨k', x', v'', d', p1', p2', p3', _⟩ := pos j hm
      have z2' := (fin p1' p2').mp z2
      refine E1.own x v' p3 x' (fun q => ?_) a z1' z2'
      subst q
      have := nodup_inj n2 p2 p2'
      subst this
      rw [p1] at p1'
      cases p1'
      exact ne rfl
    · rcases r1.fo j a ((fout hm).mp z2) with ⟨_, z⟩ | ⟨i0, z3, z4⟩
      · exact z x z1'
      · exact E1.own x v' p3 i0 (fun q => dj i0 z3 (q ▸ List.mem_of_getElem? p2)) a z1' z4
  · obtain ⟨k, x, v', d, p1, p2, p3, p4, p5, p6, p7⟩ := pos i hi
    rw [p6] at hw
    cases hw
    exact E1.pf x _ true p3 pw a ((fin p1 p2).mp hz)
  · intro r us d S' Fs' G ⟨ε2, hs, qq⟩ po
    obtain ⟨Fs2, E2, st2, c1, c2⟩ := call_post (Fa := Fa) E1 i1 n2 n1 (fun k p hk => by
      obtain ⟨k', x, v, d, p1, p2, p3, p4, p5, p6, p7⟩ := pos p (List.mem_of_getElem? hk)
      have := nodup_inj n1 hk p1
      subst this
      exact ⟨x, v, d, p2, p3, p4, p5, fun a => fin p1 p2⟩) hs po
    refine q r ε2 d S' Fs2 G qq E2 ((st1.trans st2).to fun i hi => ?_) ⟨po.rv, po.ga, fun a ga => ?_, fun z => nomatch z⟩
    · rcases List.mem_append.mp hi with z | z
      · exact z
      · obtain ⟨k, hk⟩ := List.getElem?_of_mem z
        have kl : k < (V.io f).length := by rw [← i1]; exact (List.getElem?_eq_some_iff.mp hk).1
        obtain ⟨x, g1, g2⟩ := i3 k _ (List.getElem?_eq_getElem kl)
        rw [hk] at g1
        cases g1
        exact vars_in (k := 0) (by rw [Nat.zero_add]; exact List.getElem_mem kl) g2
    · rcases po.go a ga with ⟨n, z⟩ | ⟨hfr, j, hj, z⟩
      · refine .inl ⟨st1.nonew n, fun x hx => ?_⟩
        by_cases hm : x ∈ xs
        · obtain ⟨k, hk⟩ := List.getElem?_of_mem hm
          have kl : k < (V.io f).length := by rw [← i1]; exact (List.getElem?_eq_some_iff.mp hk).1
          exact z _ (List.getElem_mem kl) ((c1 k _ x (List.getElem?_eq_getElem kl) hk a).mp hx)
        · exact E1.al x a ((c2 x hm a).mp hx) n
      · rcases r1.fo j a ((fout hj).mp z) with ⟨z1, z2⟩ | ⟨i0, z3, z4⟩
        · refine .inl ⟨z1, fun x hx => ?_⟩
          rcases st2.gs x a hx with y | y
          · exact z2 x y
          · exact r1.fa j a ((fout hj).mp z) y
        · exact .inr ⟨i0, by show i0 ∈ (if V.io.fr f = true then [] else als V.io (V.io f) 0 es); rw [hfr]; exact z3, st2.gr i0 a z4⟩
  · intro x x' S' hx hr kp alo
    refine xr x x' S' hx hr (fun a o hk => kp a o (E1.kp a o hk) fun p hp fp => ?_) fun a hb => alo a (E1.bs a hb)
    obtain ⟨k, x, v', d, p1, p2, p3, _⟩ := pos p hp
    exact E1.okp x v' p3 a o ((fin p1 p2).mp fp) hk
theorem permL_ok {S : Sto} {F : Fp} {vs : List P} {ds : List D} (h : RvL Ω S F vs ds) : ∀ {is : List Nat} {ws : List P}, permL is vs = some ws → ∃ es, permL is ds = some es ∧ RvL Ω S F ws es
  | [], ws, e => by cases e; exact ⟨[], rfl, .nil⟩
  | i :: is, ws, e => by
    unfold permL at e
    cases q1 : vs[i]? with
    | none => rw [q1] at e; cases e
    | some v =>
      cases q2 : permL is vs with
      | none => rw [q1, q2] at e; cases e
      | some us =>
        rw [q1, q2] at e
        cases e
        obtain ⟨es, g1, g2⟩ := permL_ok h q2
        obtain ⟨d, g3, g4⟩ := h.get q1
        exact ⟨d :: es, by unfold permL; rw [g3, g1], .cons g4 g2⟩
theorem snd_callK (sg : SigR Ω V Γ) {f : Nat} {perm : List Nat} (ia : SndEs Ω V Γ es) : SndE Ω V Γ (.callK f es perm) := by
  intro C ε' X X' ε S Fs Q Q' E xa ok h xr q
  refine ia.L E xa ok h xr fun vs ε1 ds S1 Fs1 F h1 E1 st1 r1 => ?_
  obtain ⟨hio, hl, vs', hp, hl', hv⟩ := h1
  obtain ⟨es', g1, g2⟩ := permL_ok r1.rv hp
  refine ⟨by rw [← r1.rv.length]; exact hl, es', g1, by rw [sg.ar, ← g2.length]; exact hl', ?_⟩
  refine sg.fn f es' S1 Q' X' ⟨vs', fun _ => F, _, X, g2.length, fun i v hi => g2.get hi, fun _ => r1.fa, fun i hi => by rw [hio] at hi; exact absurd hi List.not_mem_nil, fun i v hi => by rw [hio] at hi; exact absurd hi List.not_mem_nil, hv, ?_, ?_⟩
  · intro r us d S' Fs' G qq po
    rw [hio] at po
    have ex : ∀ a o, S1 a = some o → S' a = some o := fun a o e => po.kp a o e fun i hi => absurd hi List.not_mem_nil
    have st := st1.trans (StepE.ext (ε := ε1) (Fs := Fs1) ex)
    rw [List.append_nil] at st
    refine q r ε1 d S' Fs1 G qq (E1.ext ex) st ⟨po.rv, po.ga, fun a ga => ?_, fun z => nomatch z⟩
    rcases po.go a ga with ⟨n, z⟩ | ⟨_, j, hj, z⟩
    · exact .inl ⟨st1.nonew n, fun j fj => E1.al j a fj n⟩
    · exact r1.fo a z
  · intro x x' S' hx hr kp alo
    exact xr x x' S' hx hr (fun a o hk => kp a o (E1.kp a o hk) fun i hi => by rw [hio] at hi; exact absurd hi List.not_mem_nil) fun a hb => alo a (E1.bs a hb)
/-- what a name holds is changed in its place -/
theorem own_set {C : Cx} {ε' : Ev} {ε1 : VEv} {S1 : Sto} {Fs1 : Nat → Fp} {x : Nat} {u w : P} {a : Addr} {o : O} {N : Fp} (E1 : Er Ω C S1 ε1 ε' Fs1) (hx : ε1[x]? = some (some (u, true))) (hd : ε'[x]? = some (some (.ref a))) (hu : Fs1 x a) (hal : S1 a ≠ none)
    (hN : ∀ z, N z → (∀ j, ¬ Fs1 j z) ∧ S1 z ≠ none ∧ (∀ o, ¬ C.Keep z o) ∧ C.Src z)
    (hw : pure w = false) (rv : Rv Ω (S1.upd a o) (fun z => Fs1 x z ∨ N z) w (.ref a)) :
    Er Ω C (S1.upd a o) (ε1.set x (some (w, true))) ε' (fun i z => Fs1 i z ∨ (i = x ∧ N z)) := by
  have xl : x < ε1.length := (List.getElem?_eq_some_iff.mp hx).1
  have nn : ∀ z, S1 z ≠ none → (S1.upd a o) z ≠ none := fun z h => by
    by_cases e : z = a
    · subst e; rw [Sto.upd_same]; exact fun z => nomatch z
    · rw [Sto.upd_ne e]; exact h
  refine ⟨by rw [List.length_set]; exact E1.len, fun i v b e => ?_, fun i z h => ?_, fun i v b e pv z h => ?_, fun i v e j ne z h1 h2 => ?_, fun z o' hk => ?_, fun i v e z o' h hk => ?_, fun z hb => nn z (E1.bs z hb), fun i z h => ?_, fun z n => ?_⟩
  · by_cases hi : i = x
    · subst hi
      rw [List.getElem?_set_self xl] at e
      cases e
      exact ⟨.ref a, hd, rv.mono fun z h => h.imp id fun q => ⟨rfl, q⟩⟩
    · rw [List.getElem?_set_ne (Ne.symm hi)] at e
      obtain ⟨d, g1, g2⟩ := E1.rep i v b e
      refine ⟨d, g1, g2.to (fun z o' fz ez => ?_) fun z h => .inl h⟩
      have ne : z ≠ a := fun q => by subst q; exact E1.own x u hx i hi z hu fz
      rw [Sto.upd_ne ne]; exact ez
  · rcases h with h | ⟨_, h⟩
    · exact nn z (E1.al i z h)
    · exact nn z (hN z h).2.1
  · by_cases hi : i = x
    · subst hi
      rw [List.getElem?_set_self xl] at e
      cases e
      rw [hw] at pv; cases pv
    · rw [List.getElem?_set_ne (Ne.symm hi)] at e
      rcases h with h | ⟨h, _⟩
      · exact E1.pf i v b e pv z h
      · exact hi h
  · have ow : ∃ v1 : P, ε1[i]? = some (some (v1, true)) := by
      by_cases hi : i = x
      · subst hi; exact ⟨u, hx⟩
      · rw [List.getElem?_set_ne (Ne.symm hi)] at e; exact ⟨v, e⟩
    obtain ⟨v1, ow⟩ := ow
    rcases h1 with h1 | ⟨h1, h1'⟩
    · rcases h2 with h2 | ⟨h2, h2'⟩
      · exact E1.own i v1 ow j ne z h1 h2
      · exact (hN z h2').1 i h1
    · rcases h2 with h2 | ⟨h2, h2'⟩
      · exact (hN z h1').1 j h2
      · exact ne (h2.trans h1.symm)
  · have := E1.kp z o' hk
    have ne : z ≠ a := fun q => by subst q; exact E1.okp x u hx z o' hu hk
    rw [Sto.upd_ne ne]; exact this
  · have ow : ∃ v1 : P, ε1[i]? = some (some (v1, true)) := by
      by_cases hi : i = x
      · subst hi; exact ⟨u, hx⟩
      · rw [List.getElem?_set_ne (Ne.symm hi)] at e; exact ⟨v, e⟩
    obtain ⟨v1, ow⟩ := ow
    rcases h with h | ⟨_, h⟩
    · exact E1.okp i v1 ow z o' h hk
    · exact (hN z h).2.2.1 o' hk
  · rcases h with h | ⟨_, h⟩
    · exact E1.src i z h
    · exact (hN z h).2.2.2
  · refine E1.fr z ?_
    cases e : S1 z with
    | none => rfl
    | some o' => exact absurd n (nn z (by rw [e]; exact fun z => nomatch z))
theorem own_step {ε1 : VEv} {S1 : Sto} {Fs1 : Nat → Fp} {x : Nat} {u w : P} {a : Addr} {o : O} {N : Fp} {S : Sto} {ε : VEv} {Fs : Nat → Fp} {m : List Nat} (st : StepE S ε Fs m S1 ε1 Fs1) (hx : ε1[x]? = some (some (u, true))) (hu : Fs1 x a) (hal : S1 a ≠ none)
    (hN : ∀ z, N z → S z = none) (hm : x ∈ m) : StepE S ε Fs m (S1.upd a o) (ε1.set x (some (w, true))) (fun i z => Fs1 i z ∨ (i = x ∧ N z)) := by
  have nn : ∀ z, S1 z ≠ none → (S1.upd a o) z ≠ none := fun z h => by
    by_cases e : z = a
    · subst e; rw [Sto.upd_same]; exact fun z => nomatch z
    · rw [Sto.upd_ne e]; exact h
  have xl : x < ε1.length := (List.getElem?_eq_some_iff.mp hx).1
  refine ⟨fun i z h => .inl (st.gr i z h), fun i z h => ?_, fun i z hn h => ?_, fun i v b e => ?_, fun z o' e n => ?_, fun z h => nn z (st.alo z h)⟩
  · rcases h with h | ⟨_, h⟩
    · exact st.gs i z h
    · exact .inr (hN z h)
  · rcases h with h | ⟨h, _⟩
    · exact st.nm i z hn h
    · exact absurd (h ▸ hm) hn
  · by_cases hi : i = x
    · subst hi
      rw [List.getElem?_set_self xl] at e
      cases e
      exact st.fl i u true hx
    · rw [List.getElem?_set_ne (Ne.symm hi)] at e; exact st.fl i v b e
  · have h1 := st.kp z o' e n
    have ne : z ≠ a := fun q => by
      subst q
      rcases st.gs x z hu with y | y
      · exact n x hm (st.fl x u true hx) y
      · rw [y] at e; cases e
    rw [Sto.upd_ne ne]; exact h1
theorem lst_inv {S : Sto} {F : Fp} {xs : List P} {d : D} (h : Rv Ω S F (.lst xs) d) : ∃ a ds, d = .ref a ∧ F a ∧ S a = some (.lst ds) ∧ RvL Ω S (fun b => F b ∧ b ≠ a) xs ds := by
  cases h with
  | lst f e r => exact ⟨_, _, rfl, f, e, r⟩
theorem snd_mth {m : M1} (io' : SndE Ω V Γ o) (ia : SndEs Ω V Γ es) : SndE Ω V Γ (.mth m o es) := by
  intro C ε' X X' ε S Fs Q Q' E xa ok h xr q
  have ok' : (if isMut m then (varOf o).isSome && okEs V.io [] 0 es else okE V.io o && okEs V.io [] 0 es && disj (al V.io o) (mus V.io [] 0 es)) = true := ok
  have h' : if isMut m = true then (match varOf o with
      | some x => ∃ v, vown ε x = some v ∧ (∃ xs, v = .lst xs) ∧ vEs V es X ε fun vs ε1 => stOK V.io m es vs = true ∧ ∃ u, vown ε1 x = some u ∧ mutP m u vs fun r w => Q r (ε1.set x (some (w, true)))
      | none => False)
      else m = .join ∧ vE V o X ε fun x ε1 => (∃ z, x = .str z) ∧ vEs V es X ε1 fun vs ε2 => joinP x vs fun z => Q z ε2 := h
  have hmu : mu V.io (.mth m o es) = (if isMut m then vl o else mu V.io o) ++ mus V.io [] 0 es := rfl
  cases hm : isMut m with
  | false =>
    rw [hm, if_neg Bool.false_ne_true] at ok' h' hmu
    obtain ⟨o1, o2, o3⟩ := and3 ok'
    obtain ⟨rfl, h'⟩ := h'
    refine io' E xa o1 h' xr fun x ε1 d S1 Fs1 F1 h1 E1 st1 r1 => ?_
    obtain ⟨⟨z, rfl⟩, h2⟩ := h1
    have hd : d = .str z := by cases r1.rv; rfl
    subst hd
    refine ⟨trivial, ia.L E1 xa o2 h2 xr fun vs ε2 ds S2 Fs2 F h2 E2 st2 r2 => ?_⟩
    refine join_ok (F := F) (nw := false) (.str z) r2.rv h2 fun w dw S' qz p oo => ?_
    obtain ⟨G, rv, _⟩ := oo.rv
    refine q.pu qz (E2.ext oo.ex) ?_ p rv
    rw [hmu]
    have := (st1.trans st2).trans (StepE.ext (ε := ε2) (Fs := Fs2) oo.ex)
    rwa [List.append_nil] at this
  | true =>
    rw [hm, if_pos rfl] at ok' h' hmu
    obtain ⟨o1, o2⟩ := and2 ok'
    obtain ⟨x, rfl⟩ : ∃ x, o = .var x := by cases o <;> first | exact ⟨_, rfl⟩ | (cases o1; done)
    obtain ⟨v, hv, ⟨xs0, rfl⟩, h2⟩ := (show ∃ v, vown ε x = some v ∧ (∃ xs, v = .lst xs) ∧ vEs V es X ε fun vs ε1 => stOK V.io m es vs = true ∧ ∃ u, vown ε1 x = some u ∧ mutP m u vs fun r w => Q r (ε1.set x (some (w, true))) from h')
    obtain ⟨d0, w1, w2, w3, w4⟩ := own_ok E hv
    obtain ⟨a, ds0, rfl, fa0, sa0, _⟩ := lst_inv w4
    show (match lookE ε' x with | some d => rcvD m d S ∧ wEs Γ es X' ε' S fun ds S2 => mthD m d ds S2 Q' | none => False)
    rw [w3]
    refine ⟨?_, ia.L E xa o2 h2 xr fun vs ε1 ds S1 Fs1 F h3 E1 st1 r1 => ?_⟩
    · cases m <;> first | (cases hm; done) | (show (match S a with | some (.lst _) => True | _ => False); rw [sa0]; trivial)
    obtain ⟨hst, u, hu, hmut⟩ := h3
    obtain ⟨d1, y1, y2, y3, y4⟩ := own_ok E1 hu
    rw [w2] at y2
    cases y2
    have y1' : ε1[x]? = some (some (u, true)) := y1
    -- the end, whatever the method
    have fin : ∀ {xs : List P} {dx : List D} {ws : List P} {dws : List D} {N : Fp} {r : P} {dr : D} {G : Fp}, u = .lst xs → S1 a = some (.lst dx) → Fs1 x a → (∀ z, N z → S z = none ∧ (∀ j, ¬ Fs1 j z) ∧ S1 z ≠ none) → RvL Ω S1 (fun z => (Fs1 x z ∨ N z) ∧ z ≠ a) ws dws → Rv Ω S1 G r dr → (∀ z, G z → Fs1 x z ∧ z ≠ a) → Q r (ε1.set x (some (.lst ws, true))) → Q' dr (S1.upd a (.lst dws)) := by
      intro xs dx ws dws N r dr G e1 e2 fxa hN hw hr hG qq
      have hup : ∀ z o', z ≠ a → S1 z = some o' → (S1.upd a (.lst dws)) z = some o' := fun z o' ne e => by rw [Sto.upd_ne ne]; exact e
      have E2 := own_set (o := .lst dws) (w := .lst ws) (N := N) E1 y1' w2 fxa (by rw [e2]; exact fun z => nomatch z) (fun z hz => ⟨(hN z hz).2.1, (hN z hz).2.2, (fun o' hk => by have := E.kp z o' hk; rw [(hN z hz).1] at this; cases this), E.fr z (hN z hz).1⟩) rfl
        (.lst (.inl fxa) Sto.upd_same (hw.to (fun z o' hz e => hup z o' hz.2 e) fun z hz => hz))
      have st2 := own_step (o := .lst dws) (w := .lst ws) (N := N) (st1.to (m2 := mu V.io (.mth m (.var x) es)) fun i hi => by rw [hmu]; exact List.mem_append_right _ hi) y1' fxa (by rw [e2]; exact fun z => nomatch z) (fun z hz => (hN z hz).1) (by rw [hmu]; exact List.mem_append_left _ (List.mem_singleton.mpr rfl))
      refine q r _ dr _ _ G qq E2 st2 ⟨hr.to (fun z o' hz e => hup z o' (hG z hz).2 e) (fun _ z => z), fun z hz => ?_, fun z hz => ?_, fun z => nomatch z⟩
      · rw [Sto.upd_ne (hG z hz).2]; exact E1.al x z (hG z hz).1
      · exact .inr ⟨x, List.mem_singleton.mpr rfl, .inl (hG z hz).1⟩
    unfold mutP at hmut
    split at hmut
    · -- append
      obtain ⟨a', dx, q1, q2, q3, q4⟩ := lst_inv y4
      cases q1
      obtain ⟨d, rfl, rd⟩ := one_inv r1.rv
      rename_i xs v
      show (match S1 a with | some (.lst xs) => xs.length < sizeLine ∧ Q' .non (S1.upd a (.lst (xs ++ [d]))) | _ => False)
      rw [q3]
      refine ⟨by rw [← q4.length]; exact hmut.1, ?_⟩
      by_cases hp : pureL [v] = true
      · have pv : pure v = true := by simpa [pureL] using hp
        exact fin (N := fun _ => False) (G := fun _ => False) rfl q3 q2 (fun _ z => z.elim) ((q4.mono fun z hz => ⟨.inl hz.1, hz.2⟩).app (.cons (rd.pu pv) .nil)) .non (fun _ z => z.elim) hmut.2
      · have hal : als V.io [] 0 es = [] := by
          have : (pureL [v] || (als V.io [] 0 es).isEmpty) = true := hst
          rw [Bool.eq_false_iff.mpr hp, Bool.false_or] at this
          exact List.isEmpty_iff.mp this
        have hF : ∀ z, F z → S z = none ∧ (∀ j, ¬ Fs1 j z) ∧ S1 z ≠ none := fun z hz => by
          rcases r1.fo z hz with q | ⟨i, hi, _⟩
          · exact ⟨q.1, q.2, r1.fa z hz⟩
          · rw [hal] at hi; cases hi
        exact fin (N := F) (G := fun _ => False) rfl q3 q2 hF ((q4.mono fun z hz => ⟨.inl hz.1, hz.2⟩).app (.cons (rd.mono fun z hz => ⟨.inr hz, fun e => (hF z hz).2.1 x (e ▸ q2)⟩) .nil)) .non (fun _ z => z.elim) hmut.2
    · -- extend
      obtain ⟨a', dx, q1, q2, q3, q4⟩ := lst_inv y4
      cases q1
      obtain ⟨d, rfl, rd⟩ := one_inv r1.rv
      rename_i xs ys
      obtain ⟨b, dy, rfl, p2, p3, p4⟩ := lst_inv rd
      show (match S1 a, S1 b with | some (.lst xs), some (.lst ys) => xs.length + ys.length ≤ sizeLine ∧ Q' .non (S1.upd a (.lst (xs ++ ys))) | _, _ => False)
      rw [q3, p3]
      refine ⟨by rw [← q4.length, ← p4.length]; exact hmut.1, ?_⟩
      by_cases hp : pureL ys = true
      · exact fin (N := fun _ => False) (G := fun _ => False) rfl q3 q2 (fun _ z => z.elim) ((q4.mono fun z hz => ⟨.inl hz.1, hz.2⟩).app (p4.pu hp)) .non (fun _ z => z.elim) hmut.2
      · have hal : als V.io [] 0 es = [] := by
          have : ([P.lst ys].all spure || (als V.io [] 0 es).isEmpty) = true := hst
          have e : [P.lst ys].all spure = false := by
            show (pureL ys && true) = false
            rw [Bool.eq_false_iff.mpr hp]; rfl
          rw [e, Bool.false_or] at this
          exact List.isEmpty_iff.mp this
        have hF : ∀ z, F z → S z = none ∧ (∀ j, ¬ Fs1 j z) ∧ S1 z ≠ none := fun z hz => by
          rcases r1.fo z hz with q | ⟨i, hi, _⟩
          · exact ⟨q.1, q.2, r1.fa z hz⟩
          · rw [hal] at hi; cases hi
        exact fin (N := F) (G := fun _ => False) rfl q3 q2 hF ((q4.mono fun z hz => ⟨.inl hz.1, hz.2⟩).app (p4.mono fun z hz => ⟨.inr hz.1, fun e => (hF z hz.1).2.1 x (e ▸ q2)⟩)) .non (fun _ z => z.elim) hmut.2
    · -- pop
      obtain ⟨a', dx, q1, q2, q3, q4⟩ := lst_inv y4
      cases q1
      have hds : ds = [] := by cases r1.rv; rfl
      subst hds
      obtain ⟨v, hv1, hv2⟩ := hmut
      obtain ⟨d, hd1, hd2⟩ := q4.get hv1
      show (match S1 a with | some (.lst xs) => ∃ d, xs[xs.length - 1]? = some d ∧ Q' d (S1.upd a (.lst xs.dropLast)) | _ => False)
      rw [q3]
      exact ⟨d, by rw [← q4.length]; exact hd1, fin (N := fun _ => False) rfl q3 q2 (fun _ z => z.elim) (q4.dropLast.mono fun z hz => ⟨.inl hz.1, hz.2⟩) hd2 (fun _ z => z) hv2⟩
    · -- pop(i)
      obtain ⟨a', dx, q1, q2, q3, q4⟩ := lst_inv y4
      cases q1
      obtain ⟨di, rfl, rd⟩ := one_inv r1.rv
      cases rd
      obtain ⟨k, v, hk1, hk2, hv1, hv2⟩ := hmut
      obtain ⟨d, hd1, hd2⟩ := q4.get hv1
      show (match S1 a with | some (.lst xs) => _ | _ => False)
      rw [q3]
      exact ⟨k, d, hk1, hk2, hd1, fin (N := fun _ => False) rfl q3 q2 (fun _ z => z.elim) ((q4.erase k).mono fun z hz => ⟨.inl hz.1, hz.2⟩) hd2 (fun _ z => z) hv2⟩
    · exact hmut.elim
end
end Cay

set_option Elab.async false
set_option linter.all false
set_option maxRecDepth 100000
/-! Cay: comprehensions, what is walked; all expressions. -/
namespace Cay
open PySem PySem.Spec PyProof.Rows L2 Bay
def FsO (own : List Nat) (Fs : Nat → Fp) : Nat → Fp := fun j a => j ∉ own ∧ Fs j a
section
variable {Ω : Opq} {C : Cx} {S S1 S2 S4 : Sto} {ε ε1 ε2 ε4 : VEv} {ε' ε'2 : Ev} {Fs Fs1 Fs2 Fs4 : Nat → Fp} {m : List Nat} {v : P} {d : D}
theorem Er.put {i : Nat} (E : Er Ω C S ε ε' Fs) (p : pure v = true) (r : Anyw Ω v d) (hF : ∀ a, ¬ Fs i a) : Er Ω C S (ε.set i (some (v, true))) (ε'.set i (some d)) Fs := by
  have look : ∀ {j : Nat} {w : P} {b : Bool}, (ε.set i (some (v, true)))[j]? = some (some (w, b)) → (j = i ∧ w = v ∧ b = true ∧ i < ε.length) ∨ (j ≠ i ∧ ε[j]? = some (some (w, b))) := fun {j w b} e => by
    by_cases hj : j = i
    · subst hj
      by_cases hl : j < ε.length
      · rw [List.getElem?_set_self hl] at e; cases e; exact .inl ⟨rfl, rfl, rfl, hl⟩
      · rw [List.getElem?_eq_none (by rw [List.length_set]; omega)] at e; cases e
    · rw [List.getElem?_set_ne (Ne.symm hj)] at e; exact .inr ⟨hj, e⟩
  refine { E with len := by rw [List.length_set, List.length_set]; exact E.len, rep := fun j w b e => ?_, pf := fun j w b e pw a => ?_, own := fun j w e k ne a z1 z2 => ?_, okp := fun j w e a o z => ?_ }
  · rcases look e with ⟨rfl, rfl, rfl, hl⟩ | ⟨hj, e⟩
    · exact ⟨d, List.getElem?_set_self (by rw [← E.len]; exact hl), r _ _⟩
    · obtain ⟨d', g1, g2⟩ := E.rep j w b e
      exact ⟨d', by rw [List.getElem?_set_ne (Ne.symm hj)]; exact g1, g2⟩
  · rcases look e with ⟨rfl, rfl, rfl, hl⟩ | ⟨hj, e⟩
    · exact hF a
    · exact E.pf j w b e pw a
  · rcases look e with ⟨rfl, rfl, _, hl⟩ | ⟨hj, e⟩
    · exact hF a z1
    · exact E.own j w e k ne a z1 z2
  · rcases look e with ⟨rfl, rfl, _, hl⟩ | ⟨hj, e⟩
    · exact absurd z (hF a)
    · exact E.okp j w e a o z
theorem Er.drop {i : Nat} (E : Er Ω C S ε ε' Fs) : Er Ω C S (ε.set i none) (ε'.set i none) (FsO [i] Fs) := by
  have look : ∀ {j : Nat} {w : P} {b : Bool}, (ε.set i none)[j]? = some (some (w, b)) → (j ≠ i ∧ ε[j]? = some (some (w, b))) := fun {j w b} e => by
    by_cases hj : j = i
    · subst hj
      by_cases hl : j < ε.length
      · rw [List.getElem?_set_self hl] at e; cases e
      · rw [List.getElem?_eq_none (by rw [List.length_set]; omega)] at e; cases e
    · rw [List.getElem?_set_ne (Ne.symm hj)] at e; exact ⟨hj, e⟩
  refine { E with len := by rw [List.length_set, List.length_set]; exact E.len, rep := fun j w b e => ?_, al := fun j a z => E.al j a z.2, pf := fun j w b e pw a z => ?_, own := fun j w e k ne a z1 z2 => ?_, okp := fun j w e a o z => ?_, src := fun j a z => E.src j a z.2 }
  · obtain ⟨hj, e⟩ := look e
    obtain ⟨d', g1, g2⟩ := E.rep j w b e
    exact ⟨d', by rw [List.getElem?_set_ne (Ne.symm hj)]; exact g1, g2.mono fun a z => ⟨by simpa using hj, z⟩⟩
  · exact E.pf j w b (look e).2 pw a z.2
  · exact E.own j w (look e).2 k ne a z1.2 z2.2
  · exact E.okp j w (look e).2 a o z.2
theorem FsO_cons {i : Nat} {own : List Nat} : FsO [i] (FsO own Fs) = FsO (i :: own) Fs := by
  funext j a
  apply propext
  unfold FsO
  simp only [List.mem_cons, List.not_mem_nil, or_false, not_or]
  exact ⟨fun ⟨a, b, c⟩ => ⟨⟨a, b⟩, c⟩, fun ⟨⟨a, b⟩, c⟩ => ⟨a, b, c⟩⟩
theorem FsO_nil : FsO [] Fs = Fs := by
  funext j a
  apply propext
  unfold FsO
  simp
theorem Er.wipe (E : Er Ω C S ε ε' Fs) : ∀ own : List Nat, Er Ω C S (vwipe ε own) (wipeE ε' own) (FsO own Fs)
  | [] => by rw [FsO_nil]; exact E
  | i :: own => by rw [← FsO_cons]; exact (E.wipe own).drop
theorem wipe_len : ∀ own : List Nat, (vwipe ε own).length = ε.length
  | [] => rfl
  | i :: own => by rw [vwipe, List.length_set, wipe_len own]
theorem wipe_out {j : Nat} : ∀ {own : List Nat}, j ∉ own → (vwipe ε own)[j]? = ε[j]? ∧ (wipeE ε' own)[j]? = ε'[j]?
  | [], _ => ⟨rfl, rfl⟩
  | i :: own, h => by
    rw [List.mem_cons, not_or] at h
    obtain ⟨a, b⟩ := wipe_out h.2
    rw [vwipe, wipeE, List.getElem?_set_ne (Ne.symm h.1), List.getElem?_set_ne (Ne.symm h.1)]
    exact ⟨a, b⟩
theorem asgL_ok {vs : List P} {ds : List D} : ∀ {is : List Nat} {vs : List P} {ds : List D} {ε : VEv} {ε' : Ev}, Er Ω C S ε ε' Fs → pureL vs = true → (∀ F : Fp, RvL Ω S F vs ds) → (∀ i, i ∈ is → ∀ a, ¬ Fs i a) → Er Ω C S (asgL true is vs ε) (setsE is ds ε') Fs ∧ ∀ j, j ∉ is → (asgL true is vs ε)[j]? = ε[j]? ∧ (setsE is ds ε')[j]? = ε'[j]?
  | [], vs, ds, ε, ε', E, _, _, _ => by cases vs <;> cases ds <;> exact ⟨E, fun _ _ => ⟨rfl, rfl⟩⟩
  | i :: is, [], ds, ε, ε', E, _, r, _ => by cases r (fun _ => False); exact ⟨E, fun _ _ => ⟨rfl, rfl⟩⟩
  | i :: is, v :: vs, ds, ε, ε', E, p, r, h => by
    rw [pureL_cons, Bool.and_eq_true] at p
    obtain ⟨d, ds, rfl⟩ : ∃ d ds', ds = d :: ds' := by cases r (fun _ => False) with | cons _ _ => exact ⟨_, _, rfl⟩
    have r1 : ∀ F : Fp, Rv Ω S F v d := fun F => by cases r F with | cons a _ => exact a
    have r2 : ∀ F : Fp, RvL Ω S F vs ds := fun F => by cases r F with | cons _ a => exact a
    have E2 := E.put p.1 ((r1 (fun _ => False)).anyw p.1) (h i (List.mem_cons_self ..))
    obtain ⟨a, b⟩ := asgL_ok (vs := vs) (ds := ds) E2 p.2 r2 fun j hj => h j (List.mem_cons_of_mem _ hj)
    show Er Ω C S (asgL true is vs (ε.set i (some (v, true || pure v)))) (setsE is ds (ε'.set i (some d))) Fs ∧ _
    rw [Bool.true_or]
    refine ⟨a, fun j hj => ?_⟩
    rw [List.mem_cons, not_or] at hj
    obtain ⟨b1, b2⟩ := b j hj.2
    show (asgL true is vs (ε.set i (some (v, true || pure v))))[j]? = ε[j]? ∧ (setsE is ds (ε'.set i (some d)))[j]? = ε'[j]?
    rw [Bool.true_or, b1, b2, List.getElem?_set_ne (Ne.symm hj.1), List.getElem?_set_ne (Ne.symm hj.1)]
    exact ⟨rfl, rfl⟩
/-- a pure thing is given to names that hold nothing -/
theorem vasg_pure {tg : MG} {own : List Nat} (E : Er Ω C S ε ε' Fs) (p : pure v = true) (r : Anyw Ω v d) (ht : tgIn tg own = true) (hF : ∀ i, i ∈ own → ∀ a, ¬ Fs i a) (as : List Nat) (h : vasg tg as v ε = some ε1) : ∃ ε'1, asgD tg d ε' = some ε'1 ∧ Er Ω C S ε1 ε'1 Fs ∧ ∀ j, j ∉ own → ε1[j]? = ε[j]? ∧ ε'1[j]? = ε'[j]? := by
  cases tg with
  | nm i =>
    have hi : i ∈ own := by simpa [tgIn] using ht
    have h' : some (asg1 i false as v ε) = some ε1 := h
    unfold asg1 sole at h'
    rw [p, Bool.true_or, Bool.true_or, if_pos rfl] at h'
    cases h'
    exact ⟨_, rfl, E.put p r (hF i hi), fun j hj => by
      have ne : i ≠ j := fun q => hj (q ▸ hi)
      rw [List.getElem?_set_ne ne, List.getElem?_set_ne ne]; exact ⟨rfl, rfl⟩⟩
  | tp is =>
    have hi : ∀ i, i ∈ is → i ∈ own := fun i hi => by
      have := List.all_eq_true.mp (show is.all own.contains = true from ht) i hi
      simpa using this
    have h' : asgT is as v ε = some ε1 := h
    unfold asgT at h'
    have go : ∀ {vs : List P} {ds : List D}, pureL vs = true → (∀ F : Fp, RvL Ω S F vs ds) → (if is.length = vs.length then some (if pure v then asgL true is vs ε else if (live ε as).isEmpty && one1 vs then asgL true is vs ε else asgL false is vs (demote (live ε as) ε)) else none) = some ε1 → (asgD (.tp is) d ε' = if is.length = ds.length then some (setsE is ds ε') else none) → ∃ ε'1, asgD (.tp is) d ε' = some ε'1 ∧ Er Ω C S ε1 ε'1 Fs ∧ ∀ j, j ∉ own → ε1[j]? = ε[j]? ∧ ε'1[j]? = ε'[j]? := fun {vs ds} pv rr e ea => by
      have hl := (rr (fun _ => False)).length
      by_cases hh : is.length = vs.length
      · rw [if_pos hh, p, if_pos rfl] at e
        cases e
        rw [ea, if_pos (by omega)]
        obtain ⟨a, b⟩ := asgL_ok (vs := vs) (ds := ds) E pv rr fun i hh => hF i (hi i hh)
        exact ⟨_, rfl, a, fun j hj => b j fun q => hj (hi j q)⟩
      · rw [if_neg hh] at e; cases e
    have r0 := r S (fun _ => False)
    cases r0 with
    | tup z => exact go p (fun F => by cases r S F with | tup z => exact z) h' rfl
    | rot z => exact go p (fun F => by cases r S F with | rot z => exact z) h' rfl
    | _ => cases h'
theorem bk_len {own : List Nat} : ∀ {k : Nat} {ε ε4 : VEv}, (vbk own k ε ε4).length = ε.length
  | _, [], _ => by rw [vbk]
  | k, a :: ε, b :: ε4 => by rw [vbk, List.length_cons, List.length_cons, bk_len]
  | k, a :: ε, [] => by rw [vbk, List.length_cons, List.length_cons, bk_len]
theorem bk_at {own : List Nat} {x : P × Bool} : ∀ {k i : Nat} {ε ε4 : VEv}, (vbk own k ε ε4)[i]? = some (some x) → (k + i ∈ own ∧ ε[i]? = some (some x)) ∨ (k + i ∉ own ∧ ε4[i]? = some (some x))
  | k, i, [], ε4, h => by rw [vbk] at h; cases h
  | k, 0, a :: ε, b :: ε4, h => by
    rw [vbk, List.getElem?_cons_zero] at h
    by_cases hk : own.contains k = true
    · rw [if_pos hk] at h
      exact .inl ⟨by simpa using hk, by rw [List.getElem?_cons_zero]; exact h⟩
    · rw [if_neg hk] at h
      exact .inr ⟨by simpa using hk, by rw [List.getElem?_cons_zero]; exact h⟩
  | k, 0, a :: ε, [], h => by
    rw [vbk, List.getElem?_cons_zero] at h
    by_cases hk : own.contains k = true
    · rw [if_pos hk] at h
      exact .inl ⟨by simpa using hk, by rw [List.getElem?_cons_zero]; exact h⟩
    · rw [if_neg hk] at h
      cases h
  | k, i + 1, a :: ε, b :: ε4, h => by
    rw [vbk, List.getElem?_cons_succ] at h
    rw [List.getElem?_cons_succ, List.getElem?_cons_succ, show k + (i + 1) = k + 1 + i by omega]
    exact bk_at h
  | k, i + 1, a :: ε, [], h => by
    rw [vbk, List.getElem?_cons_succ] at h
    have := bk_at h
    rw [List.getElem?_cons_succ, show k + (i + 1) = k + 1 + i by omega]
    rcases this with q | ⟨_, q⟩
    · exact .inl q
    · cases q
theorem inner_back {own : List Nat} (E2 : Er Ω C S2 ε1 ε' Fs2) (E4 : Er Ω C S4 ε4 ε'2 Fs4) (st : StepE S2 ε2 (FsO own Fs2) m S4 ε4 Fs4) (dj : ∀ i, i ∈ own → i ∉ m) (out : ∀ j, j ∉ own → ε2[j]? = ε1[j]? ∧ ε'2[j]? = ε'[j]?) :
    Er Ω C S4 (vbk own 0 ε1 ε4) ε' (fun j a => (j ∈ own ∧ Fs2 j a) ∨ (j ∉ own ∧ Fs4 j a)) ∧ StepE S2 ε1 Fs2 m S4 (vbk own 0 ε1 ε4) (fun j a => (j ∈ own ∧ Fs2 j a) ∨ (j ∉ own ∧ Fs4 j a)) := by
  have look : ∀ {i : Nat} {x : P × Bool}, (vbk own 0 ε1 ε4)[i]? = some (some x) → (i ∈ own ∧ ε1[i]? = some (some x)) ∨ (i ∉ own ∧ ε4[i]? = some (some x)) := fun {i x} h => by
    have := bk_at h
    rwa [Nat.zero_add] at this
  have fl : ∀ {i : Nat} {v : P} {b : Bool}, i ∉ own → ε4[i]? = some (some (v, b)) → ∃ v0, ε1[i]? = some (some (v0, b)) := fun h e => by
    obtain ⟨v0, z⟩ := st.fl _ _ _ e
    exact ⟨v0, by rw [← (out _ h).1]; exact z⟩
  have nw : ∀ i a, S2 a = none → ¬ Fs2 i a := fun i a n z => E2.al i a z n
  have kept : ∀ (a : Addr) (o : O), S2 a = some o → (∀ i, i ∈ m → OwnAt ε1 i → ¬ Fs2 i a) → S4 a = some o := fun a o e n => st.kp a o e fun i hi ⟨v, ov⟩ fi => by
    have hn : i ∉ own := fun q => dj i q hi
    exact n i hi ⟨v, by rw [← (out i hn).1]; exact ov⟩ fi.2
  constructor
  · refine ⟨bk_len.trans E2.len, fun i v b e => ?_, fun i a z => ?_, fun i v b e pv a z => ?_, fun i v e j ne a z1 z2 => ?_, E4.kp, fun i v e a o z hk => ?_, E4.bs, fun i a z => ?_, E4.fr⟩
    · rcases look e with ⟨hi, e⟩ | ⟨hi, e⟩
      · obtain ⟨d, g1, g2⟩ := E2.rep i v b e
        refine ⟨d, g1, g2.to (fun a o fa ea => kept a o ea fun j hj ⟨u, ou⟩ fj => ?_) fun a fa => .inl ⟨hi, fa⟩⟩
        exact E2.own j u ou i (fun q => dj i hi (q ▸ hj)) a fj fa
      · obtain ⟨d, g1, g2⟩ := E4.rep i v b e
        exact ⟨d, by rw [← (out i hi).2]; exact g1, g2.mono fun a fa => .inr ⟨hi, fa⟩⟩
    · rcases z with ⟨_, z⟩ | ⟨_, z⟩
      · exact st.alo a (E2.al i a z)
      · exact E4.al i a z
    · rcases look e with ⟨hi, e⟩ | ⟨hi, e⟩
      · rcases z with ⟨_, z⟩ | ⟨h, z⟩
        · exact E2.pf i v b e pv a z
        · exact h hi
      · rcases z with ⟨h, z⟩ | ⟨_, z⟩
        · exact hi h
        · exact E4.pf i v b e pv a z
    · rcases look e with ⟨hi, e⟩ | ⟨hi, e⟩
      · rcases z1 with ⟨_, z1⟩ | ⟨h1, _⟩
        · rcases z2 with ⟨h2, z2⟩ | ⟨h2, z2⟩
          · exact E2.own i v e j ne a z1 z2
          · rcases st.gs j a z2 with q | q
            · exact E2.own i v e j ne a z1 q.2
            · exact nw i a q z1
        · exact h1 hi
      · rcases z1 with ⟨h1, _⟩ | ⟨_, z1⟩
        · exact hi h1
        · rcases z2 with ⟨h2, z2⟩ | ⟨h2, z2⟩
          · rcases st.gs i a z1 with q | q
            · obtain ⟨v0, e0⟩ := fl hi e
              exact E2.own i v0 e0 j ne a q.2 z2
            · exact nw j a q z2
          · exact E4.own i v e j ne a z1 z2
    · rcases look e with ⟨hi, e⟩ | ⟨hi, e⟩
      · rcases z with ⟨_, z⟩ | ⟨h, z⟩
        · exact E2.okp i v e a o z hk
        · exact h hi
      · rcases z with ⟨h, z⟩ | ⟨_, z⟩
        · exact hi h
        · exact E4.okp i v e a o z hk
    · rcases z with ⟨_, z⟩ | ⟨_, z⟩
      · exact E2.src i a z
      · exact E4.src i a z
  · refine ⟨fun i a z => ?_, fun i a z => ?_, fun i a hn z => ?_, fun i v b e => ?_, kept, st.alo⟩
    · by_cases hi : i ∈ own
      · exact .inl ⟨hi, z⟩
      · exact .inr ⟨hi, st.gr i a ⟨hi, z⟩⟩
    · rcases z with ⟨_, z⟩ | ⟨_, z⟩
      · exact .inl z
      · exact (st.gs i a z).imp (·.2) id
    · rcases z with ⟨_, z⟩ | ⟨_, z⟩
      · exact z
      · exact (st.nm i a hn z).2
    · rcases look e with ⟨hi, e⟩ | ⟨hi, e⟩
      · exact ⟨v, e⟩
      · exact fl hi e
theorem Stands.keep {as : List Nat} {F : Fp} {vs : List P} {ds : List D} {g : List (Addr × List D)} (E1 : Er Ω C S1 ε1 ε' Fs1) (a : ResL Ω S as S1 Fs1 F vs ds) (h : Stands S1 F g) (b : StepE S1 ε1 Fs1 m S2 ε2 Fs2) (dj : ∀ i, i ∈ as → i ∉ m) : Stands S2 F g := fun p hp => by
  obtain ⟨h1, h2⟩ := h p hp
  refine ⟨h1, b.kp _ _ h2 fun i hi ⟨u, ow⟩ fi => ?_⟩
  rcases a.fo _ h1 with ⟨_, z⟩ | ⟨j, hj, z⟩
  · exact z i fi
  · have ne : j ≠ i := fun q => dj j hj (q ▸ hi)
    exact E1.own i u ow j ne _ fi z
theorem ResL.app1 {as : List Nat} {F G : Fp} {vs : List P} {ds : List D} (a : ResL Ω S as S1 Fs1 F vs ds) (rv : Rv Ω S1 G v d) (fa : ∀ x, G x → S1 x ≠ none) (fo : ∀ x, G x → (S x = none ∧ ∀ j, ¬ Fs1 j x) ∨ ∃ i, i ∈ as ∧ Fs1 i x) : ResL Ω S as S1 Fs1 (fun x => F x ∨ G x) (vs ++ [v]) (ds ++ [d]) :=
  ⟨(a.rv.mono fun _ => .inl).app (.cons (rv.mono fun _ => .inr) .nil), fun x h => h.elim (a.fa x) (fa x), fun x h => h.elim (a.fo x) (fo x)⟩
end
section
variable {Ω : Opq} {V : VSig} {Γ : Sig} {elt : ME} {it : MI} {c : MO}
theorem snd_lc {tg : MG} {own : List (Str × Nat)} (ii : SndI Ω V Γ it) (ic : SndC Ω V Γ c) (ie : SndE Ω V Γ elt) : SndE Ω V Γ (.lc elt tg it c own) := by
  intro C ε' X X' ε S Fs Q Q' E xa ok h xr q
  have ok' : (okI V.io it && okO V.io c && okE V.io elt && tgIn tg (own.map (·.2)) && disj (own.map (·.2)) (muO V.io c ++ mu V.io elt) && disj (alI V.io it) (muO V.io c ++ mu V.io elt) && disj ((al V.io elt).filter fun i => !(own.map (·.2)).contains i) (muO V.io c ++ mu V.io elt)) = true := ok
  obtain ⟨ok', o7⟩ := and2 ok'
  obtain ⟨ok', o6⟩ := and2 ok'
  obtain ⟨ok', o5⟩ := and2 ok'
  obtain ⟨ok', o4⟩ := and2 ok'
  obtain ⟨o1, o2, o3⟩ := and3 ok'
  obtain ⟨hxa, hI⟩ := h
  have ha : al V.io (.lc elt tg it c own) = (al V.io elt).filter fun i => !(own.map (·.2)).contains i := rfl
  have hm : mu V.io (.lc elt tg it c own) = muI V.io it ++ muO V.io c ++ mu V.io elt := rfl
  generalize hown : own.map (·.2) = ow at *
  refine ii E xa o1 hI xr fun xs ε1 ds g S1 Fs1 F h1 E1 st1 rs hst _ => ?_
  -- the turns
  have go : ∀ (xs : List P) (ds : List D) (acc : List P) (dacc : List D) (S2 : Sto) (ε5 : VEv) (Fs2 : Nat → Fp) (Fc : Fp), Er Ω C S2 ε5 ε' Fs2 → StepE S1 ε1 Fs1 (muO V.io c ++ mu V.io elt) S2 ε5 Fs2 → ResL Ω S (alI V.io it) S2 Fs2 F xs ds → Stands S2 F g → ResL Ω S ((al V.io elt).filter fun i => !ow.contains i) S2 Fs2 Fc acc dacc →
      vlcGo (fun x ε K => pure x = true ∧ ∃ ε2, vasg tg [] x (vwipe ε ow) = some ε2 ∧ vC V c (fun _ => False) ε2 fun k ε3 => if k = true then vE V elt (fun _ => False) ε3 fun v ε4 => K (some v) (vbk ow 0 ε ε4) else K none (vbk ow 0 ε ε3)) acc xs ε5 (fun ys ε6 => Q (.lst ys) ε6) →
      lcGo (fun x S2 K => ∃ ε'', asgD tg x (wipeE ε' ow) = some ε'' ∧ wC Γ c XF ε'' S2 fun k S3 => if k = true then wE Γ elt XF ε'' S3 fun d S4 => K (some d) S4 else K none S3) (Stay g) dacc ds S2 fun ys S2 => ∀ p, S2 p = none → Q' (.ref p) (S2.upd p (.lst ys)) := by
    intro xs
    induction xs with
    | nil =>
      intro ds acc dacc S2 ε5 Fs2 Fc E2 st2 r2 hs ra hq
      cases r2.rv
      refine ⟨fun p hp => (hs p hp).2, fun p n => ?_⟩
      refine QE.op (nw := true) q E2 ?_ (by rw [ha]; exact ra.fo) ra.fa rfl _ _ _ hq (.new ra.fa n ra.rv)
      rw [hm, List.append_assoc]; exact st1.trans st2
    | cons x xs ih =>
      intro ds acc dacc S2 ε5 Fs2 Fc E2 st2 r2 hs ra hq
      obtain ⟨px, ε2, hv, hc⟩ := hq
      obtain ⟨d, ds, rfl⟩ : ∃ d ds', ds = d :: ds' := by cases r2.rv with | cons _ _ => exact ⟨_, _, rfl⟩
      have rx : Anyw Ω x d := by
        have := r2.rv
        cases this with
        | cons a _ => exact a.anyw px
      have r2' : ResL Ω S (alI V.io it) S2 Fs2 F xs ds := ⟨by have := r2.rv; cases this with | cons _ a => exact a, r2.fa, r2.fo⟩
      refine ⟨fun p hp => (hs p hp).2, ?_⟩
      obtain ⟨ε'2, g1, Ei, out⟩ := vasg_pure (own := ow) (E2.wipe ow) px rx o4 (fun i hi a z => z.1 hi) [] hv
      have out' : ∀ j, j ∉ ow → ε2[j]? = ε5[j]? ∧ ε'2[j]? = ε'[j]? := fun j hj => by
        obtain ⟨a, b⟩ := out j hj
        obtain ⟨a', b'⟩ := wipe_out (ε := ε5) (ε' := ε') hj
        exact ⟨a.trans a', b.trans b'⟩
      have xa2 : XaR Ω V Γ ε'2 := fun i y hy => by
        obtain ⟨a, x', z1, z2, z3⟩ := xa i y hy
        refine ⟨a, x', z1, z2, ?_⟩
        have hi : i ∉ ow := by
          unfold xaFree at hxa
          rw [hy] at hxa
          simpa using hxa
        unfold lookE at *
        rw [(out' i hi).2]; exact z3
      refine ⟨ε'2, g1, ?_⟩
      refine ic Ei xa2 o2 hc (X' := XF) (fun _ _ _ z => z.elim) fun k ε3 S3 Fs3 hk E3 st3 => ?_
      cases k with
      | false =>
        rw [if_neg Bool.false_ne_true] at hk ⊢
        have st3' := st3.to (m2 := muO V.io c ++ mu V.io elt) fun i hi => List.mem_append_left _ hi
        obtain ⟨E4, st4⟩ := inner_back E2 E3 st3' (disj_iff o5) out'
        have z1 := r2'.keep E2 st4 (disj_iff o6)
        have z2 := ra.keep E2 st4 (disj_iff o7)
        have z3 := hs.keep E2 r2' st4 (disj_iff o6)
        exact ih ds acc dacc S3 _ _ Fc E4 ((st2.trans st4).to fun i hi => (List.mem_append.mp hi).elim id id) z1 z3 z2 hk
      | true =>
        rw [if_pos rfl] at hk ⊢
        refine ie E3 xa2 o3 hk (X' := XF) (fun _ _ _ z => z.elim) fun v ε4 dv S4 Fs4 Fv hk4 E4 st4 rv => ?_
        have hk5 := hk4
        have st34 := st3.trans st4
        obtain ⟨E5, st5⟩ := inner_back E2 E4 st34 (disj_iff o5) out'
        have z1 := r2'.keep E2 st5 (disj_iff o6)
        have z2 := ra.keep E2 st5 (disj_iff o7)
        have z3 := hs.keep E2 r2' st5 (disj_iff o6)
        have hS2 : ∀ a, S3 a = none → S2 a = none := fun a n => st3.nonew n
        have z4 := z2.app1 rv.rv rv.fa fun a fa => by
          rcases rv.fo a fa with ⟨y1, y2⟩ | ⟨i, y1, y2⟩
          · refine .inl ⟨?_, fun j => ?_⟩
            · have y3 := hS2 a y1
              have := (st1.trans st2).nonew y3
              exact this
            · rintro (⟨_, z⟩ | ⟨_, z⟩)
              · exact E2.al j a z (hS2 a y1)
              · exact y2 j z
          · have hi : i ∉ ow := fun hi => (st34.nm i a (disj_iff o5 i hi) y2).1 hi
            exact .inr ⟨i, List.mem_filter.mpr ⟨y1, by simpa using hi⟩, .inr ⟨hi, y2⟩⟩
        refine ⟨by rw [← ra.rv.length]; exact hk5.1, ih ds _ _ S4 _ _ _ E5 ((st2.trans st5).to fun i hi => (List.mem_append.mp hi).elim id id) z1 z3 z4 hk5.2⟩
  have := go xs ds [] [] S1 ε1 Fs1 (fun _ => False) E1 (StepE.refl.to fun i hi => absurd hi List.not_mem_nil) rs hst ⟨.nil, fun _ z => z.elim, fun _ z => z.elim⟩ h1
  rw [← hown] at this
  exact this
end
end Cay

set_option Elab.async false
set_option linter.all false
set_option maxRecDepth 100000
/-! Cay: what is walked; all expressions. -/
namespace Cay
open PySem PySem.Spec PyProof.Rows L2 Bay
section
variable {Ω : Opq} {V : VSig} {Γ : Sig} {a b e : ME}
theorem snd_oN : SndO Ω V Γ .no := by
  intro C ε' X X' ε S Fs Q Q' E xa ok h xr q
  exact q none ε S Fs h E .refl
theorem snd_oY (ie : SndE Ω V Γ e) : SndO Ω V Γ (.yes e) := by
  intro C ε' X X' ε S Fs Q Q' E xa ok h xr q
  refine ie E xa ok h xr fun v ε1 d S1 Fs1 F h1 E1 st1 r1 => ?_
  cases r1.rv <;> first | exact q _ ε1 S1 Fs1 h1 E1 st1 | exact h1.elim
theorem snd_cN : SndC Ω V Γ .no := by
  intro C ε' X X' ε S Fs Q Q' E xa ok h xr q
  exact q true ε S Fs h E .refl
theorem snd_cY (ie : SndE Ω V Γ e) : SndC Ω V Γ (.yes e) := by
  intro C ε' X X' ε S Fs Q Q' E xa ok h xr q
  refine ie E xa ok h xr fun v ε1 d S1 Fs1 F h1 E1 st1 r1 => ?_
  exact bool_ok h1 r1.rv fun b hb => q b ε1 S1 Fs1 hb E1 st1
theorem rng_ok {S : Sto} {F : Fp} {f : Nat → Int} : ∀ {ns : List Nat}, RvL Ω S F (ns.map fun i : Nat => .int (f i)) (ns.map fun i : Nat => .int (f i))
  | [] => .nil
  | n :: ns => .cons (.int _) rng_ok
theorem snd_r1 (ie : SndE Ω V Γ e) : SndI Ω V Γ (.rng1 e) := by
  intro C ε' X X' ε S Fs Q Q' E xa ok h xr q
  refine ie E xa ok h xr fun v ε1 d S1 Fs1 F h1 E1 st1 r1 => ?_
  cases r1.rv <;> first | exact h1.elim | skip
  exact ⟨h1.1, q _ ε1 _ [] S1 Fs1 (fun _ => False) h1.2 E1 st1 ⟨rng_ok, fun _ z => z.elim, fun _ z => z.elim⟩ (fun p hp => absurd hp List.not_mem_nil) fun _ _ z => z.elim⟩
theorem snd_r2 (ia : SndE Ω V Γ a) (ib : SndE Ω V Γ b) : SndI Ω V Γ (.rng2 a b) := by
  intro C ε' X X' ε S Fs Q Q' E xa ok h xr q
  obtain ⟨o1, o2⟩ := and2 (show (okE V.io a && okE V.io b) = true from ok)
  refine ia E xa o1 h xr fun v ε1 d S1 Fs1 F h1 E1 st1 r1 => ?_
  refine ib E1 xa o2 h1 xr fun w ε2 d2 S2 Fs2 F2 h2 E2 st2 r2 => ?_
  have g1 := r1.rv
  have g2 := r2.rv
  cases g1 with
  | int i => cases g2 with
    | int j => exact ⟨h2.1, q _ ε2 _ [] S2 Fs2 (fun _ => False) h2.2 E2 (st1.trans st2) ⟨rng_ok, fun _ z => z.elim, fun _ z => z.elim⟩ (fun p hp => absurd hp List.not_mem_nil) fun _ _ z => z.elim⟩
    | _ => exact h2.elim
  | _ => cases g2 <;> exact h2.elim
/-- what is walked of one thing -/
theorem one_src {C : Cx} {ε' : Ev} {S S1 : Sto} {ε1 : VEv} {Fs1 : Nat → Fp} {as : List Nat} {r : Bool} {F : Fp} {v : P} {d : D} {xs ys : List P} {ds es : List D} {g : List (Addr × List D)} (r1 : ResE Ω S as r S1 Fs1 F v d)
    (hr : RvL Ω S1 F ys es) (hg : g = [] ∨ ∃ a, d = .ref a ∧ F a ∧ S1 a = some (.lst ds) ∧ g = [(a, ds)]) : ∃ G, ResL Ω S as S1 Fs1 G ys es ∧ Stands S1 G g ∧ ((pureL ys && r) = true → ∀ x, G x → S x = none ∧ ∀ j, ¬ Fs1 j x) := by
  by_cases hs : (pureL ys && r) = true
  · obtain ⟨h1, h2⟩ := and2 hs
    refine ⟨fun z => d = .ref z ∧ F z, ⟨hr.pu h1, fun z hz => r1.fa z hz.2, fun z hz => r1.fo z hz.2⟩, fun p hp => ?_, fun _ z hz => r1.rt h2 z hz.1⟩
    rcases hg with rfl | ⟨a, e1, e2, e3, rfl⟩
    · cases hp
    · rw [List.mem_singleton] at hp
      subst hp
      exact ⟨⟨e1, e2⟩, e3⟩
  · refine ⟨F, ⟨hr, r1.fa, r1.fo⟩, fun p hp => ?_, fun z => absurd z hs⟩
    rcases hg with rfl | ⟨a, e1, e2, e3, rfl⟩
    · cases hp
    · rw [List.mem_singleton] at hp
      subst hp
      exact ⟨e2, e3⟩
theorem snd_gen (ie : SndE Ω V Γ e) : SndI Ω V Γ (.gen e) := by
  intro C ε' X X' ε S Fs Q Q' E xa ok h xr q
  refine ie E xa ok h xr fun v ε1 d S1 Fs1 F h1 E1 st1 r1 => ?_
  refine src_ok r1.rv h1 fun xs ds g hq hr hg => ?_
  obtain ⟨G, g1, g2, g3⟩ := one_src (C := C) (ε' := ε') (ε1 := ε1) (xs := xs) r1 hr hg
  exact q xs ε1 ds g S1 Fs1 G hq E1 st1 g1 g2 g3
theorem enum_ok {S : Sto} {F : Fp} : ∀ {xs : List P} {ds : List D} (n : Nat), RvL Ω S F xs ds → RvL Ω S F ((xs.zipIdx n).map fun p => .tup [.int p.2, p.1]) ((ds.zipIdx n).map fun p => .tup [.int p.2, p.1])
  | _, _, _, .nil => .nil
  | _, _, n, .cons h t => .cons (.tup (.cons (.int _) (.cons h .nil))) (enum_ok (n + 1) t)
theorem snd_enum (ie : SndE Ω V Γ e) : SndI Ω V Γ (.enum e) := by
  intro C ε' X X' ε S Fs Q Q' E xa ok h xr q
  refine ie E xa ok h xr fun v ε1 d S1 Fs1 F h1 E1 st1 r1 => ?_
  refine lst_ok r1.rv h1 fun xs ds g hq hr hg => ?_
  obtain ⟨G, g1, g2, g3⟩ := one_src (C := C) (ε' := ε') (ε1 := ε1) (xs := xs) r1 (enum_ok 0 hr) hg
  exact q _ ε1 _ g S1 Fs1 G hq E1 st1 g1 g2 g3
theorem zip_ok {S : Sto} {F G : Fp} : ∀ {xs ys : List P} {ds es : List D}, RvL Ω S F xs ds → RvL Ω S G ys es → RvL Ω S (fun z => F z ∨ G z) ((xs.zip ys).map fun p => .tup [p.1, p.2]) ((ds.zip es).map fun p => .tup [p.1, p.2])
  | _, _, _, _, .nil, _ => .nil
  | _, _, _, _, .cons _ _, .nil => .nil
  | _, _, _, _, .cons h t, .cons h' t' => .cons (.tup (.cons (h.mono fun _ => .inl) (.cons (h'.mono fun _ => .inr) .nil))) (zip_ok t t')
theorem snd_zip (ia : SndE Ω V Γ a) (ib : SndE Ω V Γ b) : SndI Ω V Γ (.zip2 a b) := by
  intro C ε' X X' ε S Fs Q Q' E xa ok h xr q
  obtain ⟨o1, o2, o3⟩ := and3 (show (okE V.io a && okE V.io b && disj (al V.io a) (mu V.io b)) = true from ok)
  refine ia E xa o1 h xr fun v ε1 d S1 Fs1 F h1 E1 st1 r1 => ?_
  refine ib E1 xa o2 h1 xr fun w ε2 d2 S2 Fs2 F2 h2 E2 st2 r2 => ?_
  have k1 := r1.keep E1 st2 (disj_iff o3)
  have k2 := r2.back st1
  refine lst_ok k1.rv h2 fun xs ds g hq hr hg => ?_
  refine lst_ok k2.rv hq fun ys es g' hq hr' hg' => ?_
  obtain ⟨G1, a1, a2, a3⟩ := one_src (C := C) (ε' := ε') (ε1 := ε2) (xs := xs) k1 hr hg
  obtain ⟨G2, b1, b2, b3⟩ := one_src (C := C) (ε' := ε') (ε1 := ε2) (xs := ys) k2 hr' hg'
  have st := st1.trans st2
  by_cases hs : soleI (.zip2 a b) ((xs.zip ys).map fun p => .tup [p.1, p.2]) = true
  · obtain ⟨p1, p2⟩ := and2 (show (pureL ((xs.zip ys).map fun p => .tup [p.1, p.2]) && (rf a && rf b)) = true from hs)
    obtain ⟨p3, p4⟩ := and2 p2
    refine q _ ε2 _ (g ++ g') S2 Fs2 (fun z => (d = .ref z ∧ F z) ∨ (d2 = .ref z ∧ F2 z)) hq E2 st ⟨(zip_ok hr hr').pu p1, fun z hz => hz.elim (fun z => k1.fa _ z.2) fun z => k2.fa _ z.2, fun z hz => ?_⟩ (fun p hp => ?_) fun _ z hz => ?_
    · rcases hz with hz | hz
      · exact .inl (k1.rt p3 z hz.1)
      · exact .inl (k2.rt p4 z hz.1)
    · rcases List.mem_append.mp hp with hp | hp
      · rcases hg with rfl | ⟨a, e1, e2, e3, rfl⟩
        · cases hp
        · rw [List.mem_singleton] at hp; subst hp; exact ⟨.inl ⟨e1, e2⟩, e3⟩
      · rcases hg' with rfl | ⟨a, e1, e2, e3, rfl⟩
        · cases hp
        · rw [List.mem_singleton] at hp; subst hp; exact ⟨.inr ⟨e1, e2⟩, e3⟩
    · rcases hz with hz | hz
      · exact k1.rt p3 z hz.1
      · exact k2.rt p4 z hz.1
  · refine q _ ε2 _ (g ++ g') S2 Fs2 (fun z => F z ∨ F2 z) hq E2 st ⟨zip_ok hr hr', fun z hz => hz.elim (k1.fa z) (k2.fa z), fun z hz => ?_⟩ (fun p hp => ?_) fun z => absurd z hs
    · rcases hz with hz | hz
      · exact (k1.fo z hz).imp id fun ⟨i, h1, h2⟩ => ⟨i, List.mem_append_left _ h1, h2⟩
      · exact (k2.fo z hz).imp id fun ⟨i, h1, h2⟩ => ⟨i, List.mem_append_right _ h1, h2⟩
    · rcases List.mem_append.mp hp with hp | hp
      · rcases hg with rfl | ⟨a, e1, e2, e3, rfl⟩
        · cases hp
        · rw [List.mem_singleton] at hp; subst hp; exact ⟨.inl e2, e3⟩
      · rcases hg' with rfl | ⟨a, e1, e2, e3, rfl⟩
        · cases hp
        · rw [List.mem_singleton] at hp; subst hp; exact ⟨.inr e2, e3⟩
variable (sg : SigR Ω V Γ)
include sg
mutual
theorem snd_E : ∀ e : ME, SndE Ω V Γ e
  | .var x => snd_var
  | .cst d => snd_cst
  | .cg i => snd_cg sg
  | .add a b => snd_add (snd_E a) (snd_E b)
  | .sub a b => snd_sub (snd_E a) (snd_E b)
  | .mul a b => snd_mul (snd_E a) (snd_E b)
  | .fdv a b => snd_fdv (snd_E a) (snd_E b)
  | .mod a b => snd_mod (snd_E a) (snd_E b)
  | .pow a b => snd_pow (snd_E a) (snd_E b)
  | .neg a => snd_neg (snd_E a)
  | .cmp op a b => snd_cmp (snd_E a) (snd_E b)
  | .cmp2 op op' a b c => snd_cmp2 (snd_E a) (snd_E b) (snd_E c)
  | .isN n a => snd_isN (snd_E a)
  | .not a => snd_not (snd_E a)
  | .and a b => snd_and (snd_E a) (snd_E b)
  | .or a b => snd_or (snd_E a) (snd_E b)
  | .ite c a b => snd_ite (snd_E c) (snd_E a) (snd_E b)
  | .tup es => snd_tup (snd_Es es)
  | .lst es => snd_lst (snd_Es es)
  | .dic ks es => snd_dic (snd_Es es)
  | .dicT => snd_dicT
  | .idx a i => snd_idx (snd_E a) (snd_E i)
  | .slc a lo hi => snd_slc (snd_E a) (snd_O lo) (snd_O hi)
  | .call f es => snd_call sg (snd_Es es)
  | .callK f es perm => snd_callK sg (snd_Es es)
  | .blt b es => snd_blt (snd_Es es)
  | .xf i f => snd_xf i f
  | .xis i c => snd_xis sg i c
  | .mth m o es => snd_mth (snd_E o) (snd_Es es)
  | .un u a => snd_un (snd_E a)
  | .lsZ a b => snd_lsZ (snd_E a) (snd_E b)
  | .lc elt tg it c own => snd_lc (snd_I it) (snd_C c) (snd_E elt)
theorem snd_Es : ∀ es : MEs, SndEs Ω V Γ es
  | .nil => snd_nil
  | .cons e r => snd_cons (snd_E e) (snd_Es r)
theorem snd_O : ∀ o : MO, SndO Ω V Γ o
  | .no => snd_oN
  | .yes e => snd_oY (snd_E e)
theorem snd_C : ∀ o : MO, SndC Ω V Γ o
  | .no => snd_cN
  | .yes e => snd_cY (snd_E e)
theorem snd_I : ∀ it : MI, SndI Ω V Γ it
  | .gen e => snd_gen (snd_E e)
  | .rng1 a => snd_r1 (snd_E a)
  | .rng2 a b => snd_r2 (snd_E a) (snd_E b)
  | .enum a => snd_enum (snd_E a)
  | .zip2 a b => snd_zip (snd_E a) (snd_E b)
end
end
end Cay

set_option Elab.async false
set_option linter.all false
set_option maxRecDepth 100000
/-! Cay: names are given things. -/
namespace Cay
open PySem PySem.Spec PyProof.Rows L2 Bay
def tgOut (tg : MG) (io : List Nat) : Bool := match tg with
  | .nm i => !io.contains i
  | .tp is => disj is io
def okH : MS → Bool
  | .skip => true
  | .seq a b => okH a && okH b
  | .expr _ => true
  | .ret _ => true
  | .retN => true
  | .ite _ a b => okH a && okH b
  | .brk => true
  | .cont => true
  | .rais _ _ _ => true
  | _ => false
def okS (io : IO) (ps : List Nat) : MS → Bool
  | .skip => true
  | .seq a b => okS io ps a && okS io ps b
  | .set i e => okE io e && !ps.contains i
  | .setT is e => okE io e && disj is ps
  | .par is es => okEs io [] 0 es && disj is ps
  | .sub o i e => okE io e && okE io i && (varOf o).isSome && disj (al io e) (mu io i)
  | .expr e => okE io e
  | .ret e => okE io e && disj (al io e) ps
  | .retN => true
  | .ite c a b => okE io c && okS io ps a && okS io ps b
  | .for_ tg it b => okI io it && okS io ps b && tgOut tg ps
  | .whl c b => okE io c && okS io ps b
  | .brk => true
  | .cont => true
  | .rais _ _ a => okO io a
  | .try_ oi _ b h => okS io ps b && okS io ps h && okH h && ps.isEmpty
section
variable {Ω : Opq} {C : Cx} {S S1 S2 : Sto} {ε ε1 ε2 : VEv} {ε' : Ev} {Fs Fs1 Fs2 : Nat → Fp} {m as : List Nat} {F G : Fp} {v : P} {d : D} {vs : List P} {ds : List D} {r : Bool}
theorem set_look {i j : Nat} {w : P} {b f : Bool} (e : (ε.set i (some (v, f)))[j]? = some (some (w, b))) : (j = i ∧ w = v ∧ b = f ∧ i < ε.length) ∨ (j ≠ i ∧ ε[j]? = some (some (w, b))) := by
  by_cases hj : j = i
  · subst hj
    by_cases hl : j < ε.length
    · rw [List.getElem?_set_self hl] at e; cases e; exact .inl ⟨rfl, rfl, rfl, hl⟩
    · rw [List.getElem?_eq_none (by rw [List.length_set]; omega)] at e; cases e
  · rw [List.getElem?_set_ne (Ne.symm hj)] at e; exact .inr ⟨hj, e⟩
/-- a name is given a thing -/
theorem Er.put2 {i : Nat} {b : Bool} (E : Er Ω C S ε ε' Fs) (rv : Rv Ω S F v d) (fa : ∀ a, F a → S a ≠ none) (fsrc : ∀ a, F a → C.Src a) (hp : pure v = true → ∀ a, ¬ F a)
    (hb : b = true → ∀ a, F a → (∀ j, j ≠ i → ¬ Fs j a) ∧ ∀ o, ¬ C.Keep a o) (ho : ∀ j u, j ≠ i → ε[j]? = some (some (u, true)) → ∀ a, Fs j a → ¬ F a) :
    Er Ω C S (ε.set i (some (v, b))) (ε'.set i (some d)) (fun j a => (j ≠ i ∧ Fs j a) ∨ (j = i ∧ F a)) := by
  refine { E with len := by rw [List.length_set, List.length_set]; exact E.len, rep := fun j w f e => ?_, al := fun j a z => ?_, pf := fun j w f e pw a z => ?_, own := fun j w e k ne a z1 z2 => ?_, okp := fun j w e a o z => ?_, src := fun j a z => ?_ }
  · rcases set_look e with ⟨rfl, rfl, rfl, hl⟩ | ⟨hj, e⟩
    · exact ⟨d, List.getElem?_set_self (by rw [← E.len]; exact hl), rv.mono fun a z => .inr ⟨rfl, z⟩⟩
    · obtain ⟨d', g1, g2⟩ := E.rep j w f e
      exact ⟨d', by rw [List.getElem?_set_ne (Ne.symm hj)]; exact g1, g2.mono fun a z => .inl ⟨hj, z⟩⟩
  · rcases z with ⟨_, z⟩ | ⟨_, z⟩
    · exact E.al j a z
    · exact fa a z
  · rcases set_look e with ⟨rfl, rfl, rfl, hl⟩ | ⟨hj, e⟩
    · rcases z with ⟨z, _⟩ | ⟨_, z⟩
      · exact z rfl
      · exact hp pw a z
    · rcases z with ⟨_, z⟩ | ⟨z, _⟩
      · exact E.pf j w f e pw a z
      · exact hj z
  · rcases set_look e with ⟨rfl, rfl, hf, hl⟩ | ⟨hj, e⟩
    · rcases z1 with ⟨z1, _⟩ | ⟨_, z1⟩
      · exact z1 rfl
      · rcases z2 with ⟨q, z2⟩ | ⟨q, _⟩
        · exact (hb hf.symm a z1).1 k q z2
        · exact ne q
    · rcases z1 with ⟨_, z1⟩ | ⟨q, _⟩
      · rcases z2 with ⟨q, z2⟩ | ⟨q, z2⟩
        · exact E.own j w e k ne a z1 z2
        · exact ho j w hj e a z1 z2
      · exact hj q
  · rcases set_look e with ⟨rfl, rfl, hf, hl⟩ | ⟨hj, e⟩
    · rcases z with ⟨z, _⟩ | ⟨_, z⟩
      · exact absurd rfl z
      · exact (hb hf.symm a z).2 o
    · rcases z with ⟨_, z⟩ | ⟨z, _⟩
      · exact E.okp j w e a o z
      · exact absurd z hj
  · rcases z with ⟨_, z⟩ | ⟨_, z⟩
    · exact E.src j a z
    · exact fsrc a z
theorem Er.put1 {i : Nat} {b : Bool} (E : Er Ω C S ε ε' Fs) (p : pure v = true) (rv : Rv Ω S G v d) : Er Ω C S (ε.set i (some (v, b))) (ε'.set i (some d)) (fun j a => (j ≠ i ∧ Fs j a) ∨ (j = i ∧ False)) :=
  E.put2 (F := fun _ => False) (rv.pu p) (fun _ z => z.elim) (fun _ z => z.elim) (fun _ _ z => z) (fun _ _ z => z.elim) fun _ _ _ _ _ _ z => z
theorem Er.weak {C' : Cx} (E : Er Ω C' S ε ε' Fs) (hk : ∀ a o, C.Keep a o → C'.Keep a o) (hb : C'.B = C.B) (hs : C'.Src = C.Src) : Er Ω C S ε ε' Fs :=
  { E with kp := fun a o h => E.kp a o (hk a o h), okp := fun i v e a o z h => E.okp i v e a o z (hk a o h), bs := by rw [← hb]; exact E.bs, src := by rw [← hs]; exact E.src, fr := by rw [← hs]; exact E.fr }
theorem demote_look : ∀ {l : List Nat} {ε : VEv} {j : Nat} {w : P} {b : Bool}, (demote l ε)[j]? = some (some (w, b)) → ∃ b0, ε[j]? = some (some (w, b0)) ∧ (b = true → b0 = true ∧ j ∉ l)
  | [], ε, j, w, b, e => ⟨b, e, fun h => ⟨h, List.not_mem_nil⟩⟩
  | i :: l, ε, j, w, b, e => by
    rw [demote] at e
    obtain ⟨b1, e1, h1⟩ := demote_look e
    split at e1
    · rename_i u c hc
      rcases set_look e1 with ⟨rfl, rfl, rfl, hl⟩ | ⟨hj, e2⟩
      · refine ⟨c, hc, fun hb => ?_⟩
        cases (h1 hb).1
      · exact ⟨b1, e2, fun hb => ⟨(h1 hb).1, fun hm => by
          rcases List.mem_cons.mp hm with q | q
          · exact hj q
          · exact (h1 hb).2 q⟩⟩
    · rename_i hn
      refine ⟨b1, e1, fun hb => ⟨(h1 hb).1, fun hm => ?_⟩⟩
      rcases List.mem_cons.mp hm with q | q
      · subst q; exact hn _ _ e1
      · exact (h1 hb).2 q
theorem demote_len : ∀ {l : List Nat} {ε : VEv}, (demote l ε).length = ε.length
  | [], ε => rfl
  | i :: l, ε => by
    rw [demote, demote_len]
    split
    · rw [List.length_set]
    · rfl
theorem Er.demote (E : Er Ω C S ε ε' Fs) (l : List Nat) : Er Ω C S (demote l ε) ε' Fs :=
  { E with
    len := by rw [demote_len]; exact E.len
    rep := fun i v b e => let ⟨b0, e0, _⟩ := demote_look e; E.rep i v b0 e0
    pf := fun i v b e => let ⟨b0, e0, _⟩ := demote_look e; E.pf i v b0 e0
    own := fun i v e => by
      obtain ⟨b0, e0, h⟩ := demote_look e
      rw [(h rfl).1] at e0
      exact E.own i v e0
    okp := fun i v e => by
      obtain ⟨b0, e0, h⟩ := demote_look e
      rw [(h rfl).1] at e0
      exact E.okp i v e0 }
theorem live_not (E : Er Ω C S ε ε' Fs) {i : Nat} (hi : i ∈ as) (hn : i ∉ live ε as) (a : Addr) : ¬ Fs i a := by
  have : (match ε[i]? with | some (some (v, _)) => !pure v | _ => true) = false := by
    cases q : (match ε[i]? with | some (some (v, _)) => !pure v | _ => true) with
    | false => rfl
    | true => exact absurd (List.mem_filter.mpr ⟨hi, q⟩) hn
  split at this
  · rename_i v b e
    exact E.pf i v b e (by simpa using this) a
  · cases this
/-- the thing's addresses: new ones alone, or shared -/
theorem shr (E0 : Er Ω C S ε ε' Fs) (E1 : Er Ω C S1 ε1 ε' Fs1) (rs : ResE Ω S as r S1 Fs1 F v d) : (∀ a, F a → C.Src a) ∧ ∀ j u, (demote (live ε1 as) ε1)[j]? = some (some (u, true)) → ∀ a, Fs1 j a → ¬ F a := by
  refine ⟨fun a fa => ?_, fun j u e a fj fa => ?_⟩
  · rcases rs.fo a fa with ⟨h, _⟩ | ⟨i, _, h⟩
    · exact E0.fr a h
    · exact E1.src i a h
  · obtain ⟨b0, e0, h⟩ := demote_look e
    obtain ⟨hb, hn⟩ := h rfl
    rw [hb] at e0
    rcases rs.fo a fa with ⟨_, q⟩ | ⟨i, hi, q⟩
    · exact q j fj
    · by_cases hl : i ∈ live ε1 as
      · exact E1.own j u e0 i (fun z => hn (z ▸ hl)) a fj q
      · exact live_not E1 hi hl a q
theorem fresh_of (E0 : Er Ω C S ε ε' Fs) (E1 : Er Ω C S1 ε1 ε' Fs1) (h : (live ε1 as).isEmpty = true) (fo : ∀ a, F a → (S a = none ∧ ∀ j, ¬ Fs1 j a) ∨ ∃ i, i ∈ as ∧ Fs1 i a) : ∀ a, F a → S a = none ∧ (∀ j, ¬ Fs1 j a) ∧ (∀ o, ¬ C.Keep a o) ∧ C.Src a := fun a fa => by
  rcases fo a fa with ⟨h1, h2⟩ | ⟨i, hi, q⟩
  · exact ⟨h1, h2, fun o hk => (by have := E0.kp a o hk; rw [h1] at this; cases this), E0.fr a h1⟩
  · exact absurd q (live_not E1 hi (by rw [List.isEmpty_iff.mp h]; exact List.not_mem_nil) a)
/-- the root alone -/
theorem spure_root {z : P} (hn : pure z = false) (hs : spure z = true) (rv : Rv Ω S F z d) : ∃ a, d = .ref a ∧ F a ∧ S a ≠ none ∧ Rv Ω S (fun x => x = a) z d := by
  cases rv with
  | lst f e r => exact ⟨_, rfl, f, by rw [e]; exact fun z => (nomatch z), .lst rfl e (r.pu hs)⟩
  | dK f e k r => exact ⟨_, rfl, f, by rw [e]; exact fun z => (nomatch z), .dK rfl e k (r.pu hs)⟩
  | dT f e k r => exact ⟨_, rfl, f, by rw [e]; exact fun z => (nomatch z), .dT rfl e k (r.pu hs)⟩
  | tup _ => rw [show spure (.tup _) = pure (.tup _) from rfl, hn] at hs; cases hs
  | rot _ => rw [show spure (.rot _) = pure (.rot _) from rfl, hn] at hs; cases hs
  | rol _ => rw [show spure (.rol _) = pure (.rol _) from rfl, hn] at hs; cases hs
  | opq _ _ => cases hs
  | _ => cases hn
/-- what is shared with nothing -/
theorem sole_ok (E0 : Er Ω C S ε ε' Fs) (E1 : Er Ω C S1 ε1 ε' Fs1) (rs : ResE Ω S as r S1 Fs1 F v d) (h : sole r as v ε1 = true) :
    ∃ G : Fp, Rv Ω S1 G v d ∧ (∀ a, G a → F a) ∧ (pure v = true → ∀ a, ¬ G a) ∧ ∀ a, G a → S1 a ≠ none ∧ S a = none ∧ (∀ j, ¬ Fs1 j a) ∧ (∀ o, ¬ C.Keep a o) ∧ C.Src a := by
  by_cases hp : pure v = true
  · exact ⟨fun _ => False, rs.rv.pu hp, fun _ z => z.elim, fun _ _ z => z, fun _ z => z.elim⟩
  · have hpf : pure v = false := Bool.eq_false_iff.mpr hp
    unfold sole at h
    rw [hpf, Bool.false_or, Bool.or_eq_true, Bool.and_eq_true] at h
    rcases h with ⟨h1, h2⟩ | h
    · obtain ⟨a, rfl, fa, sa, rv⟩ := spure_root hpf h2 rs.rv
      obtain ⟨g1, g2⟩ := rs.rt h1 a rfl
      refine ⟨fun x => x = a, rv, fun x e => by subst e; exact fa, fun z => absurd z hp, fun x e => ?_⟩
      subst e
      exact ⟨sa, g1, g2, fun o hk => (by have := E0.kp _ o hk; rw [g1] at this; cases this), E0.fr _ g1⟩
    · have := fresh_of E0 E1 h rs.fo
      exact ⟨F, rs.rv, fun _ z => z, fun z => absurd z hp, fun a fa => ⟨rs.fa a fa, this a fa⟩⟩
theorem asg1_ok {i : Nat} (E0 : Er Ω C S ε ε' Fs) (E1 : Er Ω C S1 ε1 ε' Fs1) (rs : ResE Ω S as r S1 Fs1 F v d) : ∃ Fs2, Er Ω C S1 (asg1 i r as v ε1) (ε'.set i (some d)) Fs2 ∧ ∀ j, j ≠ i → ∀ a, Fs2 j a ↔ Fs1 j a := by
  unfold asg1
  by_cases h : sole r as v ε1 = true
  · rw [if_pos h]
    obtain ⟨G, rv, g1, g2, g3⟩ := sole_ok E0 E1 rs h
    exact ⟨_, E1.put2 rv (fun a z => (g3 a z).1) (fun a z => (g3 a z).2.2.2.2) g2 (fun _ a z => ⟨fun j _ => (g3 a z).2.2.1 j, (g3 a z).2.2.2.1⟩) fun j u _ _ a z1 z2 => (g3 a z2).2.2.1 j z1, fun j hj a => ⟨fun z => z.elim (·.2) fun z => absurd z.1 hj, fun z => .inl ⟨hj, z⟩⟩⟩
  · rw [if_neg h]
    obtain ⟨s1, s2⟩ := shr E0 E1 rs
    have hp : ¬ pure v = true := fun z => h (by unfold sole; rw [z]; rfl)
    exact ⟨_, (E1.demote (live ε1 as)).put2 rs.rv rs.fa s1 (fun z => absurd z hp) (fun z => nomatch z) fun j u _ e a z1 z2 => s2 j u e a z1 z2, fun j hj a => ⟨fun z => z.elim (·.2) fun z => absurd z.1 hj, fun z => .inl ⟨hj, z⟩⟩⟩
/-- several names, each with things of its own -/
theorem asgP_ok : ∀ {is : List Nat} {vs : List P} {ds : List D} {Fp' : Nat → Fp} {ε : VEv} {ε' : Ev} {Fs : Nat → Fp}, Er Ω C S ε ε' Fs → vs.length = ds.length → (∀ (j : Nat) (v : P), vs[j]? = some v → ∃ d : D, ds[j]? = some d ∧ Rv Ω S (Fp' j) v d ∧ (pure v = true → ∀ a, ¬ Fp' j a)) →
    (∀ j a, Fp' j a → S a ≠ none ∧ C.Src a ∧ (∀ o, ¬ C.Keep a o) ∧ ∀ i, ¬ Fs i a) → (∀ i j a, i ≠ j → Fp' i a → ¬ Fp' j a) → ∃ Fs', Er Ω C S (asgL true is vs ε) (setsE is ds ε') Fs' ∧ ∀ j, j ∉ is → ∀ a, Fs' j a ↔ Fs j a
  | [], vs, ds, _, ε, ε', Fs, E, hl, _, _, _ => by cases vs <;> cases ds <;> exact ⟨Fs, E, fun _ _ _ => Iff.rfl⟩
  | i :: is, [], ds, _, ε, ε', Fs, E, hl, _, _, _ => by
    cases ds with
    | nil => exact ⟨Fs, E, fun _ _ _ => Iff.rfl⟩
    | cons _ _ => simp at hl
  | i :: is, v :: vs, [], _, _, _, _, _, hl, _, _, _ => by simp at hl
  | i :: is, v :: vs, d :: ds, Fp', ε, ε', Fs, E, hl, hr, hf, hd => by
    obtain ⟨d0, e0, r0, p0⟩ := hr 0 v rfl
    have : d = d0 := by simpa using e0
    subst this
    have E2 := E.put2 (i := i) (b := true) r0 (fun a z => (hf 0 a z).1) (fun a z => (hf 0 a z).2.1) p0 (fun _ a z => ⟨fun j _ => (hf 0 a z).2.2.2 j, (hf 0 a z).2.2.1⟩) fun j u _ _ a z1 z2 => (hf 0 a z2).2.2.2 j z1
    obtain ⟨Fs', E3, h3⟩ := asgP_ok (is := is) (vs := vs) (ds := ds) (Fp' := fun j => Fp' (j + 1)) E2 (by simpa using hl) (fun j w hw => by simpa using hr (j + 1) w (by simpa using hw)) (fun j a z => by
      obtain ⟨a1, a2, a3, a4⟩ := hf (j + 1) a z
      refine ⟨a1, a2, a3, fun k hk => ?_⟩
      rcases hk with ⟨_, hk⟩ | ⟨_, hk⟩
      · exact a4 k hk
      · exact hd 0 (j + 1) a (by omega) hk z) fun k j a ne => hd (k + 1) (j + 1) a (by omega)
    show ∃ Fs', Er Ω C S (asgL true is vs (ε.set i (some (v, true || pure v)))) (setsE is ds (ε'.set i (some d))) Fs' ∧ _
    rw [Bool.true_or]
    refine ⟨Fs', E3, fun j hj a => ?_⟩
    rw [List.mem_cons, not_or] at hj
    rw [h3 j hj.2 a]
    exact ⟨fun z => z.elim (·.2) fun z => absurd z.1 hj.1, fun z => .inl ⟨hj.1, z⟩⟩
/-- several names, things that are shared -/
theorem asgN_ok : ∀ {is : List Nat} {vs : List P} {ds : List D} {ε : VEv} {ε' : Ev} {Fs : Nat → Fp}, Er Ω C S ε ε' Fs → RvL Ω S F vs ds → (∀ a, F a → S a ≠ none) → (∀ a, F a → C.Src a) → (∀ j u, ε[j]? = some (some (u, true)) → ∀ a, Fs j a → ¬ F a) → ∃ Fs', Er Ω C S (asgL false is vs ε) (setsE is ds ε') Fs' ∧ ∀ j, j ∉ is → ∀ a, Fs' j a ↔ Fs j a
  | [], vs, ds, ε, ε', Fs, E, r, _, _, _ => by cases vs <;> cases ds <;> exact ⟨Fs, E, fun _ _ _ => Iff.rfl⟩
  | i :: is, _, _, ε, ε', Fs, E, .nil, _, _, _ => ⟨Fs, E, fun _ _ _ => Iff.rfl⟩
  | i :: is, v :: vs, d :: ds, ε, ε', Fs, E, .cons rv r, fa, fs, ho => by
    have fin : ∀ {Fs2 : Nat → Fp}, Er Ω C S (ε.set i (some (v, pure v))) (ε'.set i (some d)) Fs2 → (∀ j, j ≠ i → ∀ a, Fs2 j a ↔ Fs j a) → (∀ a, Fs2 i a → pure v = true → False) → ∃ Fs', Er Ω C S (asgL false (i :: is) (v :: vs) ε) (setsE (i :: is) (d :: ds) ε') Fs' ∧ ∀ j, j ∉ i :: is → ∀ a, Fs' j a ↔ Fs j a := fun {Fs2} E2 h2 h2i => by
      obtain ⟨Fs', E3, h3⟩ := asgN_ok (is := is) E2 r fa fs fun j u e a z1 z2 => by
        rcases set_look e with ⟨rfl, rfl, hf, hl⟩ | ⟨hj, e⟩
        · exact h2i a z1 hf.symm
        · exact ho j u e a ((h2 j hj a).mp z1) z2
      show ∃ Fs', Er Ω C S (asgL false is vs (ε.set i (some (v, false || pure v)))) (setsE is ds (ε'.set i (some d))) Fs' ∧ _
      rw [Bool.false_or]
      refine ⟨Fs', E3, fun j hj a => ?_⟩
      rw [List.mem_cons, not_or] at hj
      rw [h3 j hj.2 a, h2 j hj.1 a]
    by_cases hp : pure v = true
    · have E2 := E.put1 (i := i) (b := pure v) hp rv
      exact fin E2 (fun j hj a => ⟨fun z => z.elim (·.2) fun z => absurd z.1 hj, fun z => .inl ⟨hj, z⟩⟩) fun a z _ => z.elim (fun z => z.1 rfl) fun z => z.2
    · have hpf : pure v = false := Bool.eq_false_iff.mpr hp
      have E2 := E.put2 (i := i) (b := pure v) rv fa fs (fun z => absurd z hp) (fun z => absurd z hp) fun j u _ e a => ho j u e a
      exact fin E2 (fun j hj a => ⟨fun z => z.elim (·.2) fun z => absurd z.1 hj, fun z => .inl ⟨hj, z⟩⟩) fun a _ z => hp z
end
end Cay

set_option Elab.async false
set_option linter.all false
set_option maxRecDepth 100000
/-! Cay: statements are sound; a def over values is one over data. -/
namespace Cay
open PySem PySem.Spec PyProof.Rows L2 Bay
/-- the parameters whose things may be changed -/
structure Io where
  io : List Nat
  Fs0 : Nat → Fp
  ev0 : Ev
def IoI (I : Io) (C : Cx) (Fs : Nat → Fp) (ε' : Ev) : Prop := ∀ p, p ∈ I.io → (∀ a, I.Fs0 p a → Fs p a) ∧ (∀ a, Fs p a → I.Fs0 p a ∨ ¬ C.B a) ∧ ε'[p]? = I.ev0[p]?
structure KR (Ω : Opq) (V : VSig) (Γ : Sig) (C : Cx) (I : Io) (K : VK) (K' : EK) : Prop where
  nx : ∀ ε ε' S Fs, K.nx ε → Er Ω C S ε ε' Fs → IoI I C Fs ε' → XaR Ω V Γ ε' → K'.nx ε' S
  bk : ∀ ε ε' S Fs, K.bk ε → Er Ω C S ε ε' Fs → IoI I C Fs ε' → XaR Ω V Γ ε' → K'.bk ε' S
  ct : ∀ ε ε' S Fs, K.ct ε → Er Ω C S ε ε' Fs → IoI I C Fs ε' → XaR Ω V Γ ε' → K'.ct ε' S
  rt : ∀ b v ε ε' d S Fs F, K.rt b v ε → Er Ω C S ε ε' Fs → IoI I C Fs ε' → Rv Ω S F v d → (∀ a, F a → S a ≠ none) → (∀ a, F a → (C.Src a ∧ ∀ j, ¬ Fs j a) ∨ ∃ j, j ∉ I.io ∧ Fs j a) → (b = true → ∀ a, F a → ¬ C.B a ∧ ∀ j, j ∈ I.io → ¬ Fs j a) → K'.rt d S
  kb : ∀ a, C.B a → (∃ o, C.Keep a o) ∨ ∃ p, p ∈ I.io ∧ I.Fs0 p a
section
variable {Ω : Opq} {C : Cx} {I : Io} {S S1 S2 : Sto} {ε ε1 ε2 : VEv} {ε' : Ev} {Fs Fs1 Fs2 : Nat → Fp} {m as : List Nat} {F G : Fp} {v : P} {d : D} {vs : List P} {ds : List D} {r : Bool}
theorem IoI.step (h : IoI I C Fs ε') (E : Er Ω C S ε ε' Fs) (st : StepE S ε Fs m S1 ε1 Fs1) : IoI I C Fs1 ε' := fun p hp => by
  obtain ⟨h1, h2, h3⟩ := h p hp
  refine ⟨fun a z => st.gr p a (h1 a z), fun a z => ?_, h3⟩
  rcases st.gs p a z with q | q
  · exact h2 a q
  · exact .inr fun hb => E.bs a hb q
theorem IoI.iff (h : IoI I C Fs ε') {ε'2 : Ev} (hf : ∀ p, p ∈ I.io → ∀ a, Fs1 p a ↔ Fs p a) (he : ∀ p, p ∈ I.io → ε'2[p]? = ε'[p]?) : IoI I C Fs1 ε'2 := fun p hp => by
  obtain ⟨h1, h2, h3⟩ := h p hp
  exact ⟨fun a z => (hf p hp a).mpr (h1 a z), fun a z => h2 a ((hf p hp a).mp z), (he p hp).trans h3⟩
theorem one1_ok : ∀ {vs : List P} {i j : Nat} {v w : P}, one1 vs = true → i ≠ j → vs[i]? = some v → vs[j]? = some w → pure v = false → pure w = false → False
  | [], _, _, _, _, _, _, h, _, _, _ => by simp at h
  | x :: xs, i, j, v, w, h, ne, h1, h2, p1, p2 => by
    unfold one1 at h
    have h' := of_decide_eq_true h
    rw [List.filter_cons] at h'
    have mem : ∀ {k : Nat} {u : P}, xs[k]? = some u → pure u = false → 1 ≤ (xs.filter fun v => !pure v).length := fun {k u} e p => by
      have : u ∈ xs.filter fun v => !pure v := List.mem_filter.mpr ⟨List.mem_of_getElem? e, by rw [p]; rfl⟩
      exact List.length_pos_of_mem this
    cases i with
    | zero => cases j with
      | zero => exact ne rfl
      | succ j =>
        have : x = v := by simpa using h1
        subst this
        rw [p1] at h'
        simp at h'
        have := mem (by simpa using h2) p2
        have z : (xs.filter fun v => !pure v).length = 0 := by
          rw [List.length_eq_zero_iff]; exact List.filter_eq_nil_iff.mpr (by simpa using h')
        omega
    | succ i => cases j with
      | zero =>
        have : x = w := by simpa using h2
        subst this
        rw [p2] at h'
        simp at h'
        have := mem (by simpa using h1) p1
        have z : (xs.filter fun v => !pure v).length = 0 := by
          rw [List.length_eq_zero_iff]; exact List.filter_eq_nil_iff.mpr (by simpa using h')
        omega
      | succ j =>
        refine one1_ok (vs := xs) (i := i) (j := j) (decide_eq_true ?_) (by omega) (by simpa using h1) (by simpa using h2) p1 p2
        split at h'
        · rw [List.length_cons] at h'; omega
        · exact h'
theorem sets_out : ∀ {is : List Nat} {ds : List D} {ε' : Ev} {j : Nat}, j ∉ is → (setsE is ds ε')[j]? = ε'[j]?
  | [], ds, ε', j, _ => by cases ds <;> rfl
  | i :: is, [], ε', j, _ => rfl
  | i :: is, d :: ds, ε', j, h => by
    rw [List.mem_cons, not_or] at h
    show (setsE is ds (ε'.set i (some d)))[j]? = _
    rw [sets_out (is := is) (ds := ds) h.2, List.getElem?_set_ne (Ne.symm h.1)]
theorem asgD_tp {is : List Nat} {vs : List P} (hu : unT v = some vs) (rv : Rv Ω S F v d) : ∃ ds, RvL Ω S F vs ds ∧ ∀ ε' : Ev, asgD (.tp is) d ε' = if is.length = ds.length then some (setsE is ds ε') else none := by
  cases rv with
  | tup h => cases hu; exact ⟨_, h, fun _ => rfl⟩
  | rot h => cases hu; exact ⟨_, h, fun _ => rfl⟩
  | _ => cases hu
theorem unT_pure {vs : List P} (hu : unT v = some vs) : pure v = pureL vs := by
  cases v <;> first | (cases hu; rfl) | (cases hu; done)
theorem asgT_ok {is : List Nat} (E0 : Er Ω C S ε ε' Fs) (E1 : Er Ω C S1 ε1 ε' Fs1) (rs : ResE Ω S as r S1 Fs1 F v d) (h : asgT is as v ε1 = some ε2) : ∃ ε'2 Fs2, asgD (.tp is) d ε' = some ε'2 ∧ Er Ω C S1 ε2 ε'2 Fs2 ∧ (∀ j, j ∉ is → ∀ a, Fs2 j a ↔ Fs1 j a) ∧ ∀ j, j ∉ is → ε'2[j]? = ε'[j]? := by
  unfold asgT at h
  split at h
  · rename_i vs hu
    split at h
    · rename_i hl
      obtain ⟨ds, rl, ha⟩ := asgD_tp (is := is) hu rs.rv
      have hla : is.length = ds.length := by rw [← rl.length]; exact hl
      have hp := unT_pure hu
      rw [ha, if_pos hla]
      split at h
      · rename_i pv
        cases h
        rw [hp] at pv
        obtain ⟨Fs2, e1, e2⟩ := asgP_ok (is := is) (vs := vs) (ds := ds) (Fp' := fun _ _ => False) E1 rl.length (fun j w hw => by
          obtain ⟨d', g1, g2⟩ := rl.get hw
          exact ⟨d', g1, g2.pu (pureL_iff.mp pv w (List.mem_of_getElem? hw)), fun _ _ z => z⟩) (fun _ _ z => z.elim) fun _ _ _ _ z => z.elim
        exact ⟨_, Fs2, rfl, e1, e2, fun j hj => sets_out hj⟩
      · rename_i pv
        split at h
        · rename_i hc
          cases h
          obtain ⟨c1, c2⟩ := and2 hc
          have fr := fresh_of E0 E1 c1 rs.fo
          obtain ⟨Fs2, e1, e2⟩ := asgP_ok (is := is) (vs := vs) (ds := ds) (Fp' := fun j a => F a ∧ ∃ w, vs[j]? = some w ∧ pure w = false) E1 rl.length (fun j w hw => by
            obtain ⟨d', g1, g2⟩ := rl.get hw
            refine ⟨d', g1, ?_, fun pw a z => ?_⟩
            · by_cases pw : pure w = true
              · exact g2.pu pw
              · exact g2.mono fun a z => ⟨z, w, hw, Bool.eq_false_iff.mpr pw⟩
            · obtain ⟨_, w', e, q⟩ := z
              rw [hw] at e; cases e
              rw [q] at pw; cases pw) (fun j a z => ⟨rs.fa a z.1, (fr a z.1).2.2.2, (fr a z.1).2.2.1, (fr a z.1).2.1⟩) fun i j a ne z1 z2 => by
              obtain ⟨_, w1, q1, q2⟩ := z1
              obtain ⟨_, w2, q3, q4⟩ := z2
              exact one1_ok c2 ne q1 q3 q2 q4
          exact ⟨_, Fs2, rfl, e1, e2, fun j hj => sets_out hj⟩
        · cases h
          obtain ⟨s1, s2⟩ := shr E0 E1 rs
          obtain ⟨Fs2, e1, e2⟩ := asgN_ok (is := is) (E1.demote (live ε1 as)) rl rs.fa s1 s2
          exact ⟨_, Fs2, rfl, e1, e2, fun j hj => sets_out hj⟩
    · cases h
  · cases h
theorem vasgF_ok {tg : MG} (E : Er Ω C S ε ε' Fs) (rv : Rv Ω S F v d) (fa : ∀ a, F a → S a ≠ none) (fs : ∀ a, F a → C.Src a) (ho : ∀ j u, ε[j]? = some (some (u, true)) → ∀ a, Fs j a → ¬ F a) (h : vasgF tg v ε = some ε2) (ps : List Nat) (ht : tgOut tg ps = true) : ∃ ε'2 Fs2, asgD tg d ε' = some ε'2 ∧ Er Ω C S ε2 ε'2 Fs2 ∧ (∀ j, j ∈ ps → ∀ a, Fs2 j a ↔ Fs j a) ∧ ∀ j, j ∈ ps → ε'2[j]? = ε'[j]? := by
  cases tg with
  | nm i =>
    have h' : some (ε.set i (some (v, pure v))) = some ε2 := h
    cases h'
    have hi : i ∉ ps := by simpa [tgOut] using ht
    have hne : ∀ j, j ∈ ps → j ≠ i := fun j hj e => hi (e ▸ hj)
    by_cases hp : pure v = true
    · exact ⟨_, _, rfl, E.put1 hp rv, fun j hj a => ⟨fun z => z.elim (·.2) fun z => absurd z.1 (hne j hj), fun z => .inl ⟨hne j hj, z⟩⟩, fun j hj => by rw [List.getElem?_set_ne (Ne.symm (hne j hj))]⟩
    · exact ⟨_, _, rfl, E.put2 rv fa fs (fun z => absurd z hp) (fun z => absurd z hp) fun j u _ e a => ho j u e a, fun j hj a => ⟨fun z => z.elim (·.2) fun z => absurd z.1 (hne j hj), fun z => .inl ⟨hne j hj, z⟩⟩, fun j hj => by rw [List.getElem?_set_ne (Ne.symm (hne j hj))]⟩
  | tp is =>
    have h' : (match unT v with | some vs => if is.length = vs.length then some (asgL false is vs ε) else none | none => none) = some ε2 := h
    split at h'
    · rename_i vs hu
      split at h'
      · rename_i hl
        cases h'
        obtain ⟨ds, rl, ha⟩ := asgD_tp (is := is) hu rv
        rw [ha, if_pos (by rw [← rl.length]; exact hl)]
        obtain ⟨Fs2, e1, e2⟩ := asgN_ok (is := is) E rl fa fs ho
        have hne : ∀ j, j ∈ ps → j ∉ is := fun j hj e => disj_iff (show disj is ps = true from ht) j e hj
        exact ⟨_, Fs2, rfl, e1, fun j hj => e2 j (hne j hj), fun j hj => sets_out (hne j hj)⟩
      · cases h'
    · cases h'
theorem par_ok {V : VSig} {es : MEs} {F : Nat → Fp} (E0 : Er Ω C S ε ε' Fs) (E1 : Er Ω C S1 ε1 ε' Fs1) (ra : ResA Ω V.io ε' S as [] 0 es S1 Fs1 F vs ds) (h : parOK V.io ε1 es vs = true) :
    ∃ Fp' : Nat → Fp, (∀ (j : Nat) (v : P), vs[j]? = some v → (nthE es j).isSome = true → ∃ d : D, ds[j]? = some d ∧ Rv Ω S1 (Fp' j) v d ∧ (pure v = true → ∀ a, ¬ Fp' j a)) ∧ (∀ j a, Fp' j a → S1 a ≠ none ∧ C.Src a ∧ (∀ o, ¬ C.Keep a o) ∧ ∀ i, ¬ Fs1 i a) ∧ (∀ i j a, i ≠ j → Fp' i a → ¬ Fp' j a) ∧ ∀ j a, Fp' j a → S a = none := by
  have each : ∀ {es : MEs} {vs : List P} {j : Nat} {v : P} {e : ME}, parOK V.io ε1 es vs = true → vs[j]? = some v → nthE es j = some e → sole (rf e) (al V.io e) v ε1 = true := fun {es} => by
    induction es using MEs.rec (motive_1 := fun _ => True) (motive_3 := fun _ => True) (motive_4 := fun _ => True) with
    | nil => intro vs j v e _ _ z; cases z
    | cons e r _ ih =>
      intro vs j v e' h1 h2 h3
      cases vs with
      | nil => simp at h2
      | cons w vs =>
        obtain ⟨a1, a2⟩ := and2 (show (sole (rf e) (al V.io e) w ε1 && parOK V.io ε1 r vs) = true from h1)
        cases j with
        | zero =>
          have q1 : w = v := by simpa using h2
          have q2 : some e = some e' := h3
          cases q2; subst q1; exact a1
        | succ j => exact ih a2 (by simpa using h2) h3
    | _ => trivial
  have pick : ∀ (j : Nat) (v : P) (e : ME), vs[j]? = some v → nthE es j = some e → ∃ (G : Fp) (d : D), ds[j]? = some d ∧ Rv Ω S1 G v d ∧ (∀ a, G a → F j a) ∧ (pure v = true → ∀ a, ¬ G a) ∧ ∀ a, G a → S1 a ≠ none ∧ S a = none ∧ (∀ j, ¬ Fs1 j a) ∧ (∀ o, ¬ C.Keep a o) ∧ C.Src a := fun j v e hv he => by
    obtain ⟨d, g1, g2⟩ := ra.rv j v (by simp) hv
    have rs : ResE Ω S (al V.io e) (rf e) S1 Fs1 (F j) v d := ⟨g2, ra.fa j, fun a z => ra.fe j e a (by simp) he z, fun hr a ea => ra.rt j e a (by simp) he hr (by rw [g1, ea])⟩
    obtain ⟨G, b1, b2, b3, b4⟩ := sole_ok E0 E1 rs (each h hv he)
    exact ⟨G, d, g1, b1, b2, b3, b4⟩
  classical
  let Fp' : Nat → Fp := fun j a => ∃ (v : P) (e : ME) (hv : vs[j]? = some v) (he : nthE es j = some e), (pick j v e hv he).choose a
  have inF : ∀ j a, Fp' j a → F j a ∧ S1 a ≠ none ∧ (∀ j, ¬ Fs1 j a) ∧ (∀ o, ¬ C.Keep a o) ∧ C.Src a ∧ S a = none := fun j a ⟨v, e, hv, he, z⟩ => by
    obtain ⟨d, b0, b1, b2, b3, b4⟩ := (pick j v e hv he).choose_spec
    exact ⟨b2 a z, (b4 a z).1, (b4 a z).2.2.1, (b4 a z).2.2.2.1, (b4 a z).2.2.2.2, (b4 a z).2.1⟩
  refine ⟨Fp', fun j v hv hs => ?_, fun j a z => ?_, fun i j a ne z1 z2 => ?_, fun j a z => (inF j a z).2.2.2.2.2⟩
  · obtain ⟨e, he⟩ := Option.isSome_iff_exists.mp hs
    obtain ⟨d, b0, b1, b2, b3, b4⟩ := (pick j v e hv he).choose_spec
    refine ⟨d, b0, b1.mono fun a z => ⟨v, e, hv, he, z⟩, fun pv a ⟨v', e', hv', he', z⟩ => ?_⟩
    obtain ⟨d', c0, c1, c2, c3, c4⟩ := (pick j v' e' hv' he').choose_spec
    have : v = v' := by rw [hv] at hv'; cases hv'; rfl
    exact c3 (this ▸ pv) a z
  · obtain ⟨_, q1, q2, q3, q4, _⟩ := inF j a z
    exact ⟨q1, q4, q3, q2⟩
  · obtain ⟨k, _, q⟩ := ra.dj i j a ne (inF i a z1).1 (inF j a z2).1
    exact (inF i a z1).2.2.1 k q
end
end Cay

set_option Elab.async false
set_option linter.all false
set_option maxRecDepth 100000
/-! Cay: all statements. -/
namespace Cay
open PySem PySem.Spec PyProof.Rows L2 Bay
def SndS (Ω : Opq) (m : MS) : Prop := ∀ {V : VSig} {Γ : Sig} {C : Cx} {I : Io} {X : VX} {X' : QX} {K : VK} {K' : EK} {ε : VEv} {ε' : Ev} {S : Sto} {Fs : Nat → Fp},
  SigR Ω V Γ → XaR Ω V Γ ε' → (V.xa = none ∨ okH m = true) → (∀ a, ¬ C.B a → C.Src a) → Er Ω C S ε ε' Fs → IoI I C Fs ε' → okS V.io I.io m = true → vS m V X K ε → XR Ω C X X' → KR Ω V Γ C I K K' → wS m Γ X' K' ε' S
section
variable {Ω : Opq} {a b h : MS} {e c i o : ME} {es : MEs} {is : List Nat} {n : Nat}
theorem xa_none {V : VSig} {Γ : Sig} {ε' : Ev} (h : V.xa = none) : XaR Ω V Γ ε' := fun i x e => by rw [h] at e; cases e
theorem KR.rest {V : VSig} {Γ : Sig} {C : Cx} {I : Io} {K L : VK} {K' L' : EK} (kr : KR Ω V Γ C I K K') (nx : ∀ ε ε' S Fs, L.nx ε → Er Ω C S ε ε' Fs → IoI I C Fs ε' → XaR Ω V Γ ε' → L'.nx ε' S) (h1 : L.bk = K.bk) (h2 : L.ct = K.ct) (h3 : L.rt = K.rt) (g1 : L'.bk = K'.bk) (g2 : L'.ct = K'.ct) (g3 : L'.rt = K'.rt) : KR Ω V Γ C I L L' :=
  ⟨nx, by rw [h1, g1]; exact kr.bk, by rw [h2, g2]; exact kr.ct, by rw [h3, g3]; exact kr.rt, kr.kb⟩
theorem ss_skip : SndS Ω .skip := by
  intro V Γ C I X X' K K' ε ε' S Fs sg xa hx hC E io ok h xr kr
  exact kr.nx ε ε' S Fs h E io xa
theorem ss_seq (ia : SndS Ω a) (ib : SndS Ω b) : SndS Ω (.seq a b) := by
  intro V Γ C I X X' K K' ε ε' S Fs sg xa hx hC E io ok h xr kr
  obtain ⟨o1, o2⟩ := and2 (show (okS V.io I.io a && okS V.io I.io b) = true from ok)
  have hx1 : V.xa = none ∨ okH a = true := hx.imp id fun z => (and2 (show (okH a && okH b) = true from z)).1
  have hx2 : V.xa = none ∨ okH b = true := hx.imp id fun z => (and2 (show (okH a && okH b) = true from z)).2
  refine ia sg xa hx1 hC E io o1 (show vS a V X { K with nx := vS b V X K } ε from h) xr (kr.rest (fun ε ε' S Fs h E io xa => ib sg xa hx2 hC E io o2 h xr kr) rfl rfl rfl rfl rfl rfl)
theorem ss_set : SndS Ω (.set n e) := by
  intro V Γ C I X X' K K' ε ε' S Fs sg xa hx hC E io ok h xr kr
  obtain ⟨o1, o2⟩ := and2 (show (okE V.io e && !I.io.contains n) = true from ok)
  have hv : V.xa = none := hx.elim id fun z => nomatch z
  have hn : n ∉ I.io := by simpa using o2
  refine snd_E sg e E xa o1 h xr fun v ε1 d S1 Fs1 F h1 E1 st1 r1 => ?_
  obtain ⟨Fs2, E2, hf⟩ := asg1_ok (i := n) E E1 r1
  have hne : ∀ p, p ∈ I.io → p ≠ n := fun p hp q => hn (q ▸ hp)
  exact kr.nx _ _ S1 Fs2 h1 E2 ((io.step E st1).iff (fun p hp => hf p (hne p hp)) fun p hp => by rw [List.getElem?_set_ne (Ne.symm (hne p hp))]) (xa_none hv)
theorem vEs_len {V : VSig} {X : VX} : ∀ {es : MEs} {ε : VEv} {Q R : List P → VEv → Prop}, vEs V es X ε Q → True := fun _ => trivial
theorem ss_par : SndS Ω (.par is es) := by
  intro V Γ C I X X' K K' ε ε' S Fs sg xa hx hC E io ok h xr kr
  obtain ⟨o1, o2⟩ := and2 (show (okEs V.io [] 0 es && disj is I.io) = true from ok)
  have hv : V.xa = none := hx.elim id fun z => nomatch z
  refine snd_Es sg es [] 0 E xa o1 h xr fun vs ε1 ds S1 Fs1 F h1 E1 st1 r1 => ?_
  obtain ⟨hl, hp, hk⟩ := h1
  obtain ⟨Fp', p1, p2, p3, _⟩ := par_ok E E1 r1 hp
  obtain ⟨Fs2, E2, hf⟩ := asgP_ok (is := is) (vs := vs) (ds := ds) (Fp' := Fp') E1 r1.len (fun j v hv => by
    by_cases hs : (nthE es j).isSome = true
    · exact p1 j v hv hs
    · exfalso
      exact hs (r1.has j v hv)) p2 p3
  have hne : ∀ p, p ∈ I.io → p ∉ is := fun p hp q => disj_iff o2 p q hp
  exact ⟨by rw [← r1.len]; exact hl, kr.nx _ _ S1 Fs2 hk E2 ((io.step E st1).iff (fun p hp => hf p (hne p hp)) fun p hp => sets_out (hne p hp)) (xa_none hv)⟩
theorem ss_setT : SndS Ω (.setT is e) := by
  intro V Γ C I X X' K K' ε ε' S Fs sg xa hx hC E io ok h xr kr
  obtain ⟨o1, o2⟩ := and2 (show (okE V.io e && disj is I.io) = true from ok)
  have hv : V.xa = none := hx.elim id fun z => nomatch z
  have hne : ∀ p, p ∈ I.io → p ∉ is := fun p hp q => disj_iff o2 p q hp
  have gen : (vE V e X ε fun v ε1 => ∃ ε2, asgT is (al V.io e) v ε1 = some ε2 ∧ K.nx ε2) → wS (.setT is e) Γ X' K' ε' S := fun h => by
    refine snd_E sg e E xa o1 h xr fun v ε1 d S1 Fs1 F h1 E1 st1 r1 => ?_
    obtain ⟨ε2, h2, h3⟩ := h1
    obtain ⟨ε'2, Fs2, g1, E2, hf, he⟩ := asgT_ok (is := is) E E1 r1 h2
    exact ⟨ε'2, g1, kr.nx _ _ S1 Fs2 h3 E2 ((io.step E st1).iff (fun p hp => hf p (hne p hp)) fun p hp => he p (hne p hp)) (xa_none hv)⟩
  cases e with
  | tup es =>
    have h' : vEs V es X ε fun vs ε1 => vs.length ≤ sizeLine ∧ if parOK V.io ε1 es vs = true then vs.length = is.length ∧ K.nx (asgL true is vs ε1) else ∃ ε2, asgT is (als V.io [] 0 es) (.tup vs) ε1 = some ε2 ∧ K.nx ε2 := h
    refine snd_Es sg es [] 0 E xa o1 h' xr fun vs ε1 ds S1 Fs1 F h1 E1 st1 r1 => ?_
    obtain ⟨hl, hp⟩ := h1
    refine ⟨by rw [← r1.len]; exact hl, ?_⟩
    split at hp
    · rename_i hpar
      obtain ⟨hlen, hk⟩ := hp
      obtain ⟨Fp', p1, p2, p3, _⟩ := par_ok E E1 r1 hpar
      obtain ⟨Fs2, E2, hf⟩ := asgP_ok (is := is) (vs := vs) (ds := ds) (Fp' := Fp') E1 r1.len (fun j v hv => by
        by_cases hs : (nthE es j).isSome = true
        · exact p1 j v hv hs
        · exfalso
          exact hs (r1.has j v hv)) p2 p3
      have hd : asgD (.tp is) (.tup ds) ε' = some (setsE is ds ε') := by
        have e1 : is.length = ds.length := by rw [← r1.len]; exact hlen.symm
        show (if is.length = ds.length then some (setsE is ds ε') else none) = _
        rw [if_pos e1]
      exact ⟨_, hd, kr.nx _ _ S1 Fs2 hk E2 ((io.step E st1).iff (fun p hp => hf p (hne p hp)) fun p hp => sets_out (hne p hp)) (xa_none hv)⟩
    · obtain ⟨ε2, h2, h3⟩ := hp
      have rs : ResE Ω S (als V.io [] 0 es) false S1 Fs1 (fun a => ∃ j, F j a) (.tup vs) (.tup ds) :=
        ⟨.tup (RvL.of_get r1.len fun j v hv => let ⟨d, a, b⟩ := r1.rv j v (by simp) hv; ⟨d, a, b.mono fun a z => ⟨j, z⟩⟩), fun a ⟨j, z⟩ => r1.fa j a z, fun a ⟨j, z⟩ => r1.fo j a z, fun z => nomatch z⟩
      obtain ⟨ε'2, Fs2, g1, E2, hf, he⟩ := asgT_ok (is := is) E E1 rs h2
      exact ⟨ε'2, g1, kr.nx _ _ S1 Fs2 h3 E2 ((io.step E st1).iff (fun p hp => hf p (hne p hp)) fun p hp => he p (hne p hp)) (xa_none hv)⟩
  | _ => exact gen h
theorem ss_expr : SndS Ω (.expr e) := by
  intro V Γ C I X X' K K' ε ε' S Fs sg xa hx hC E io ok h xr kr
  refine snd_E sg e E xa ok h xr fun v ε1 d S1 Fs1 F h1 E1 st1 r1 => ?_
  exact kr.nx _ _ S1 Fs1 h1 E1 (io.step E st1) xa
theorem als_nth {io : IO} {i : Nat} {e : ME} : ∀ {es : MEs} {k j : Nat}, nthE es j = some e → i ∈ al io e → i ∈ als io [] k es := fun {es} => by
  induction es using MEs.rec (motive_1 := fun _ => True) (motive_3 := fun _ => True) (motive_4 := fun _ => True) with
  | nil => intro k j z; cases z
  | cons e' r _ ih =>
    intro k j h1 h2
    have eq : als io [] k (.cons e' r) = (if ([] : List Nat).contains k then [] else al io e') ++ als io [] (k + 1) r := rfl
    rw [eq]
    cases j with
    | zero =>
      have q : some e' = some e := h1
      cases q
      exact List.mem_append_left _ h2
    | succ j => exact List.mem_append_right _ (ih h1 h2)
  | _ => trivial
theorem fr_part {V : VSig} {e : ME} (E : Er Ω C S ε ε' Fs) (E1 : Er Ω C S1 ε1 ε' Fs1) (rs : ResE Ω S (al V.io e) (rf e) S1 Fs1 F v d) (hd : ∀ i, i ∈ al V.io e → i ∉ I.io) (io1 : IoI I C Fs1 ε')
    (kb : ∀ a, C.B a → (∃ o, C.Keep a o) ∨ ∃ p, p ∈ I.io ∧ I.Fs0 p a) (h : (sole (rf e) (al V.io e) v ε1 || ownV ε1 e) = true) :
    ∃ G : Fp, Rv Ω S1 G v d ∧ ∀ a, G a → S1 a ≠ none ∧ ((C.Src a ∧ ∀ j, ¬ Fs1 j a) ∨ ∃ j, j ∉ I.io ∧ Fs1 j a) ∧ ¬ C.B a ∧ ∀ j, j ∈ I.io → ¬ Fs1 j a := by
  cases hs : sole (rf e) (al V.io e) v ε1 with
  | true =>
    obtain ⟨G, b1, b2, b3, b4⟩ := sole_ok E E1 rs hs
    exact ⟨G, b1, fun a z => ⟨(b4 a z).1, .inl ⟨E.fr a (b4 a z).2.1, (b4 a z).2.2.1⟩, fun hb => E.bs a hb (b4 a z).2.1, fun j _ => (b4 a z).2.2.1 j⟩⟩
  | false =>
    rw [hs, Bool.false_or] at h
    refine ⟨F, rs.rv, fun a fa => ?_⟩
    have hfo : (C.Src a ∧ ∀ j, ¬ Fs1 j a) ∨ ∃ j, j ∉ I.io ∧ Fs1 j a := by
      rcases rs.fo a fa with ⟨q1, q2⟩ | ⟨j, q1, q2⟩
      · exact .inl ⟨E.fr a q1, q2⟩
      · exact .inr ⟨j, hd j q1, q2⟩
    refine ⟨rs.fa a fa, hfo, ?_⟩
    cases e <;> first | (cases h; done) | skip
    rename_i i
    obtain ⟨u, hu⟩ := Option.isSome_iff_exists.mp (show (vown ε1 i).isSome = true from h)
    obtain ⟨du, w1, _, _, _⟩ := own_ok E1 hu
    have ni : i ∉ I.io := hd i (List.mem_singleton.mpr rfl)
    rcases rs.fo a fa with ⟨q1, q2⟩ | ⟨j, q1, q2⟩
    · exact ⟨fun hb => E.bs a hb q1, fun j _ => q2 j⟩
    have fi : Fs1 i a := by rw [show j = i from List.mem_singleton.mp q1] at q2; exact q2
    have far : ∀ j, j ∈ I.io → ¬ Fs1 j a := fun j hj => E1.own i u w1 j (fun q => ni (q ▸ hj)) a fi
    refine ⟨fun hb => ?_, far⟩
    rcases kb a hb with ⟨o, ho⟩ | ⟨p, hp, hf⟩
    · exact E1.okp i u w1 a o fi ho
    · exact far p hp ((io1 p hp).1 a hf)
theorem ss_ret : SndS Ω (.ret e) := by
  intro V Γ C I X X' K K' ε ε' S Fs sg xa hx hC E io ok h xr kr
  obtain ⟨o1, o2⟩ := and2 (show (okE V.io e && disj (al V.io e) I.io) = true from ok)
  have plain : (∀ v ε, frOK V.io ε e v = (sole (rf e) (al V.io e) v ε || ownV ε e)) → wS (.ret e) Γ X' K' ε' S := fun hf => by
    refine snd_E sg e E xa o1 h xr fun v ε1 d S1 Fs1 F h1 E1 st1 r1 => ?_
    rw [hf] at h1
    cases hs : (sole (rf e) (al V.io e) v ε1 || ownV ε1 e) with
    | false =>
      refine kr.rt _ v ε1 ε' d S1 Fs1 F h1 E1 (io.step E st1) r1.rv r1.fa (fun a fa => ?_) fun z => absurd (hs.symm.trans z) Bool.false_ne_true
      rcases r1.fo a fa with ⟨q1, q2⟩ | ⟨j, q1, q2⟩
      · exact .inl ⟨E.fr a q1, q2⟩
      · exact .inr ⟨j, disj_iff o2 j q1, q2⟩
    | true =>
      obtain ⟨G, b1, b2⟩ := fr_part E E1 r1 (fun i hi => disj_iff o2 i hi) (io.step E st1) kr.kb hs
      exact kr.rt _ v ε1 ε' d S1 Fs1 G h1 E1 (io.step E st1) b1 (fun a z => (b2 a z).1) (fun a z => (b2 a z).2.1) fun _ a z => (b2 a z).2.2
  cases e with
  | tup es =>
    have o1' : okEs V.io [] 0 es = true := o1
    have h' : vEs V es X ε fun vs ε1 => vs.length ≤ sizeLine ∧ K.rt (frEs V.io ε1 es vs) (.tup vs) ε1 := h
    refine snd_Es sg es [] 0 E xa o1' h' xr fun vs ε1 ds S1 Fs1 F h1 E1 st1 r1 => ?_
    refine ⟨by rw [← r1.len]; exact h1.1, ?_⟩
    cases hp : frEs V.io ε1 es vs with
    | false =>
      have rl := r1.toL
      refine kr.rt _ (.tup vs) ε1 ε' (.tup ds) S1 Fs1 _ h1.2 E1 (io.step E st1) (.tup rl.rv) rl.fa (fun a fa => ?_) fun z => absurd (hp.symm.trans z) Bool.false_ne_true
      rcases rl.fo a fa with ⟨q1, q2⟩ | ⟨j, q1, q2⟩
      · exact .inl ⟨E.fr a q1, q2⟩
      · exact .inr ⟨j, disj_iff o2 j q1, q2⟩
    | true =>
      have each : ∀ {es : MEs} {vs : List P} {j : Nat} {v : P} {e : ME}, frEs V.io ε1 es vs = true → vs[j]? = some v → nthE es j = some e → (sole (rf e) (al V.io e) v ε1 || ownV ε1 e) = true := fun {es} => by
        induction es using MEs.rec (motive_1 := fun _ => True) (motive_3 := fun _ => True) (motive_4 := fun _ => True) with
        | nil => intro vs j v e _ _ z; cases z
        | cons e r _ ih =>
          intro vs j v e' h1 h2 h3
          cases vs with
          | nil => simp at h2
          | cons w vs =>
            obtain ⟨a1, a2⟩ := and2 (show ((sole (rf e) (al V.io e) w ε1 || ownV ε1 e) && frEs V.io ε1 r vs) = true from h1)
            cases j with
            | zero =>
              have q1 : w = v := by simpa using h2
              have q2 : some e = some e' := h3
              cases q2; subst q1; exact a1
            | succ j => exact ih a2 (by simpa using h2) h3
        | _ => trivial
      refine kr.rt _ (.tup vs) ε1 ε' (.tup ds) S1 Fs1 (fun a => S1 a ≠ none ∧ ((C.Src a ∧ ∀ j, ¬ Fs1 j a) ∨ ∃ j, j ∉ I.io ∧ Fs1 j a) ∧ ¬ C.B a ∧ ∀ j, j ∈ I.io → ¬ Fs1 j a) h1.2 E1 (io.step E st1) (.tup (RvL.of_get r1.len fun j v hv => ?_)) (fun a z => z.1) (fun a z => z.2.1) fun _ a z => z.2.2
      obtain ⟨e, he⟩ := Option.isSome_iff_exists.mp (r1.has j v hv)
      obtain ⟨d, g1, g2⟩ := r1.rv j v (by simp) hv
      have rs : ResE Ω S (al V.io e) (rf e) S1 Fs1 (F j) v d := ⟨g2, r1.fa j, fun a z => r1.fe j e a (by simp) he z, fun hr a ea => r1.rt j e a (by simp) he hr (by rw [g1, ea])⟩
      obtain ⟨G, b1, b2⟩ := fr_part E E1 rs (fun i hi => disj_iff o2 i (als_nth he hi)) (io.step E st1) kr.kb (each hp hv he)
      exact ⟨d, g1, b1.mono b2⟩
  | _ => exact plain fun v ε => by cases v <;> rfl
theorem ss_retN : SndS Ω .retN := by
  intro V Γ C I X X' K K' ε ε' S Fs sg xa hx hC E io ok h xr kr
  exact kr.rt true .non ε ε' .non S Fs (fun _ => False) h E io .non (fun _ z => z.elim) (fun _ z => z.elim) fun _ _ z => z.elim
theorem ss_ite (ia : SndS Ω a) (ib : SndS Ω b) : SndS Ω (.ite c a b) := by
  intro V Γ C I X X' K K' ε ε' S Fs sg xa hx hC E io ok h xr kr
  obtain ⟨o1, o2, o3⟩ := and3 (show (okE V.io c && okS V.io I.io a && okS V.io I.io b) = true from ok)
  have hx1 : V.xa = none ∨ okH a = true := hx.imp id fun z => (and2 (show (okH a && okH b) = true from z)).1
  have hx2 : V.xa = none ∨ okH b = true := hx.imp id fun z => (and2 (show (okH a && okH b) = true from z)).2
  refine snd_E sg c E xa o1 h xr fun v ε1 d S1 Fs1 F h1 E1 st1 r1 => ?_
  refine bool_ok h1 r1.rv fun k hk => ?_
  cases k with
  | true =>
    rw [if_pos rfl] at hk ⊢
    exact ia sg xa hx1 hC E1 (io.step E st1) o2 hk xr kr
  | false =>
    rw [if_neg Bool.false_ne_true] at hk ⊢
    exact ib sg xa hx2 hC E1 (io.step E st1) o3 hk xr kr
theorem ss_brk : SndS Ω .brk := by
  intro V Γ C I X X' K K' ε ε' S Fs sg xa hx hC E io ok h xr kr
  exact kr.bk ε ε' S Fs h E io xa
theorem ss_cont : SndS Ω .cont := by
  intro V Γ C I X X' K K' ε ε' S Fs sg xa hx hC E io ok h xr kr
  exact kr.ct ε ε' S Fs h E io xa
theorem ss_rais {cls : Str} {f : Option Str} {arg : MO} : SndS Ω (.rais cls f arg) := by
  intro V Γ C I X X' K K' ε ε' S Fs sg xa hx hC E io ok h xr kr
  obtain ⟨h1, h2⟩ := h
  refine ⟨by rw [sg.exs]; exact h1, ?_⟩
  cases f with
  | some f => cases arg with
    | yes e =>
      refine snd_E sg e E xa ok h2 xr fun v ε1 d S1 Fs1 F h1 E1 st1 r1 => ?_
      exact xr _ _ S1 h1.2 ⟨rfl, .inr ⟨f, v, d, rfl, rfl, h1.1, r1.rv.anyw h1.1⟩⟩ E1.kp E1.bs
    | no => exact h2.elim
  | none => cases arg with
    | yes e => exact h2.elim
    | no => exact xr _ _ S h2 ⟨rfl, .inl ⟨rfl, rfl⟩⟩ E.kp E.bs
theorem KR.up {V : VSig} {Γ : Sig} {C C' : Cx} {I : Io} {K : VK} {K' : EK} (kr : KR Ω V Γ C I K K') (hk : ∀ a o, C.Keep a o → C'.Keep a o) (hb : C'.B = C.B) (hs : C'.Src = C.Src) : KR Ω V Γ C' I K K' := by
  have hi : ∀ {Fs ε'}, IoI I C' Fs ε' → IoI I C Fs ε' := fun h p hp => by
    obtain ⟨h1, h2, h3⟩ := h p hp
    rw [hb] at h2
    exact ⟨h1, h2, h3⟩
  exact ⟨fun ε ε' S Fs h E io xa => kr.nx ε ε' S Fs h (E.weak hk hb hs) (hi io) xa, fun ε ε' S Fs h E io xa => kr.bk ε ε' S Fs h (E.weak hk hb hs) (hi io) xa, fun ε ε' S Fs h E io xa => kr.ct ε ε' S Fs h (E.weak hk hb hs) (hi io) xa,
    fun b v ε ε' d S Fs F h E io rv fa fo hf => kr.rt b v ε ε' d S Fs F h (E.weak hk hb hs) (hi io) rv fa (by rw [← hs]; exact fo) (by rw [← hb]; exact hf), fun a h => (kr.kb a (by rw [← hb]; exact h)).imp (fun ⟨o, z⟩ => ⟨o, hk a o z⟩) id⟩
theorem XR.up {C C' : Cx} {X : VX} {X' : QX} (xr : XR Ω C X X') (hk : ∀ a o, C.Keep a o → C'.Keep a o) (hb : C'.B = C.B) : XR Ω C' X X' :=
  fun x x' S1 h r k b => xr x x' S1 h r (fun a o z => k a o (hk a o z)) (by rw [← hb]; exact b)
theorem ss_for {tg : MG} {it : MI} (ib : SndS Ω b) : SndS Ω (.for_ tg it b) := by
  intro V Γ C I X X' K K' ε ε' S Fs sg xa hx hC E io ok h xr kr
  obtain ⟨o1, o2, o3⟩ := and3 (show (okI V.io it && okS V.io I.io b && tgOut tg I.io) = true from ok)
  have hv : V.xa = none := hx.elim id fun z => nomatch z
  refine snd_I sg it E xa o1 h xr fun xs ε1 ds g S1 Fs1 F h1 E1 st1 rs hst hso => ?_
  have io1 := io.step E st1
  -- what is walked is held
  let C' : Cx := { C with Keep := fun a o => C.Keep a o ∨ (F a ∧ S1 a = some o) }
  have ck : ∀ a o, C.Keep a o → C'.Keep a o := fun a o => .inl
  have mk : ∀ {ε2 : VEv}, Er Ω C S1 ε2 ε' Fs1 → (∀ j u, ε2[j]? = some (some (u, true)) → ∀ a, Fs1 j a → ¬ F a) → Er Ω C' S1 ε2 ε' Fs1 := fun {ε2} E2 hd =>
    { E2 with kp := fun a o hk => hk.elim (E2.kp a o) (·.2), okp := fun j u e a o z hk => hk.elim (E2.okp j u e a o z) fun q => hd j u e a z q.1 }
  have start : Er Ω C' S1 (if soleI it xs then ε1 else demote (live ε1 (alI V.io it)) ε1) ε' Fs1 := by
    by_cases hs : soleI it xs = true
    · rw [if_pos hs]
      exact mk E1 fun j u e a z q => (hso hs a q).2 j z
    · rw [if_neg hs]
      refine mk (E1.demote _) fun j u e a z q => ?_
      obtain ⟨b0, e0, hh⟩ := demote_look e
      obtain ⟨hb, hn⟩ := hh rfl
      rw [hb] at e0
      rcases rs.fo a q with ⟨_, y⟩ | ⟨i, hi, y⟩
      · exact y j z
      · by_cases hl : i ∈ live ε1 (alI V.io it)
        · exact E1.own j u e0 i (fun w => hn (w ▸ hl)) a z y
        · exact live_not E1 hi hl a y
  have fsrc : ∀ a, F a → C.Src a := fun a fa => by
    rcases rs.fo a fa with ⟨q, _⟩ | ⟨i, _, q⟩
    · exact E.fr a q
    · exact E1.src i a q
  have ioC : IoI I C' Fs1 ε' := io1
  have krC := kr.up (C' := C') ck rfl rfl
  have xrC := xr.up (C' := C') ck rfl
  have go : ∀ (xs : List P) (ds : List D), RvL Ω S1 F xs ds → ∀ (ε2 : VEv) (ε'2 : Ev) (S2 : Sto) (Fs2 : Nat → Fp), Er Ω C' S2 ε2 ε'2 Fs2 → IoI I C' Fs2 ε'2 → vforGo (vS b V X) (vasgF tg) xs K ε2 → forGo (wS b Γ X') (asgD tg) (Stay g) ds K' ε'2 S2 := by
    intro xs
    induction xs with
    | nil =>
      intro ds hr ε2 ε'2 S2 Fs2 E2 io2 hq
      cases hr
      exact ⟨fun p hp => E2.kp _ _ (.inr (hst p hp)), krC.nx ε2 ε'2 S2 Fs2 hq E2 io2 (xa_none hv)⟩
    | cons x xs ih =>
      intro ds hr ε2 ε'2 S2 Fs2 E2 io2 hq
      cases hr with
      | cons rx rr =>
        obtain ⟨ε3, q1, q2⟩ := hq
        refine ⟨fun p hp => E2.kp _ _ (.inr (hst p hp)), ?_⟩
        have keep : ∀ a, F a → ∃ o, S1 a = some o ∧ S2 a = some o := fun a fa => by
          cases e : S1 a with
          | none => exact absurd e (rs.fa a fa)
          | some o => exact ⟨o, rfl, E2.kp a o (.inr ⟨fa, e⟩)⟩
        have rx2 := rx.to (S' := S2) (G := F) (fun a o fa e => E2.kp a o (.inr ⟨fa, e⟩)) fun _ z => z
        obtain ⟨ε'3, Fs3, g1, E3, hf, he⟩ := vasgF_ok (tg := tg) E2 rx2 (fun a fa => by obtain ⟨o, _, z⟩ := keep a fa; rw [z]; exact fun z => nomatch z) fsrc (fun j u e a z fa => by
          obtain ⟨o, z1, z2⟩ := keep a fa
          exact E2.okp j u e a o z (.inr ⟨fa, z1⟩)) q1 I.io o3
        refine ⟨ε'3, g1, ?_⟩
        have io3 : IoI I C' Fs3 ε'3 := io2.iff hf he
        have next : ∀ ε ε' S Fs, vforGo (vS b V X) (vasgF tg) xs K ε → Er Ω C' S ε ε' Fs → IoI I C' Fs ε' → XaR Ω V Γ ε' → forGo (wS b Γ X') (asgD tg) (Stay g) _ K' ε' S := fun ε ε' S Fs h E io _ => ih _ rr ε ε' S Fs E io h
        exact ib (C := C') sg (xa_none hv) (.inl hv) hC E3 io3 o2 q2 xrC ⟨next, krC.nx, next, krC.rt, krC.kb⟩
  exact go xs ds rs.rv _ ε' S1 Fs1 start ioC h1
theorem ss_whl (ib : SndS Ω b) : SndS Ω (.whl c b) := by
  intro V Γ C I X X' K K' ε ε' S Fs sg xa hx hC E io ok h xr kr
  obtain ⟨o1, o2⟩ := and2 (show (okE V.io c && okS V.io I.io b) = true from ok)
  have hv : V.xa = none := hx.elim id fun z => nomatch z
  obtain ⟨n, hn⟩ := h
  refine ⟨n, ?_⟩
  have go : ∀ (n : Nat) (ε : VEv) (ε' : Ev) (S : Sto) (Fs : Nat → Fp), Er Ω C S ε ε' Fs → IoI I C Fs ε' → vwhGo (fun ε Q => vE V c X ε (vtst Q)) (vS b V X) n K ε → whGo (fun ε S Q => wE Γ c X' ε S (tstD Q)) (wS b Γ X') n K' ε' S := by
    intro n
    induction n with
    | zero => intro ε ε' S Fs E io hq; exact hq.elim
    | succ n ih =>
      intro ε ε' S Fs E io hq
      refine snd_E sg c E (xa_none hv) o1 hq xr fun v ε1 d S1 Fs1 F h1 E1 st1 r1 => ?_
      refine bool_ok h1 r1.rv fun k hk => ?_
      have io1 := io.step E st1
      cases k with
      | true =>
        rw [if_pos rfl] at hk ⊢
        have next : ∀ ε ε' S Fs, vwhGo (fun ε Q => vE V c X ε (vtst Q)) (vS b V X) n K ε → Er Ω C S ε ε' Fs → IoI I C Fs ε' → XaR Ω V Γ ε' → whGo (fun ε S Q => wE Γ c X' ε S (tstD Q)) (wS b Γ X') n K' ε' S := fun ε ε' S Fs h E io _ => ih ε ε' S Fs E io h
        exact ib sg (xa_none hv) (.inl hv) hC E1 io1 o2 hk xr ⟨next, kr.nx, next, kr.rt, kr.kb⟩
      | false =>
        rw [if_neg Bool.false_ne_true] at hk ⊢
        exact kr.nx ε1 ε' S1 Fs1 hk E1 io1 (xa_none hv)
  exact go n ε ε' S Fs E io hn
end
end Cay

set_option Elab.async false
set_option linter.all false
set_option maxRecDepth 100000
/-! Cay: defs. -/
namespace Cay
open PySem PySem.Spec PyProof.Rows L2 Bay
section
variable {Ω : Opq} {a b h : MS} {e c i o : ME} {es : MEs} {is : List Nat} {n : Nat}
theorem ss_sub : SndS Ω (.sub o i e) := by
  intro V Γ C I X X' K K' ε ε' S Fs sg xa hx hC E io ok h xr kr
  have ok' : (okE V.io e && okE V.io i && (varOf o).isSome && disj (al V.io e) (mu V.io i)) = true := ok
  obtain ⟨ok', o4⟩ := and2 ok'
  obtain ⟨o1, o2, o3⟩ := and3 ok'
  obtain ⟨x, rfl⟩ : ∃ x, o = .var x := by cases o <;> first | exact ⟨_, rfl⟩ | (cases o3; done)
  refine snd_E sg e E xa o1 h xr fun v ε1 d S1 Fs1 F h1 E1 st1 r1 => ?_
  obtain ⟨hp, h2⟩ := h1
  obtain ⟨w, hw, h3⟩ := (show ∃ w, vown ε1 x = some w ∧ vE V i X ε1 fun y ε2 => ∃ u, vown ε2 x = some u ∧ setP u y v fun z => K.nx (ε2.set x (some (z, true))) from h2)
  obtain ⟨d0, w1, w2, w3, w4⟩ := own_ok E1 hw
  show (match lookE ε' x with | some z => wE Γ i X' ε' S1 fun y S3 => setD z y d S3 fun S4 => K'.nx ε' S4 | none => False)
  rw [w3]
  refine snd_E sg i E1 xa o2 h3 xr fun y ε2 dy S2 Fs2 Fy h4 E2 st2 r2 => ?_
  obtain ⟨u, hu, hset⟩ := h4
  obtain ⟨d1, y1, y2, y3, y4⟩ := own_ok E2 hu
  rw [w2] at y2
  cases y2
  have y1' : ε2[x]? = some (some (u, true)) := y1
  have k1 := r1.keep E1 st2 (disj_iff o4)
  have st := st1.trans st2
  have io2 := io.step E st
  -- what is stored
  obtain ⟨N, rN, hN⟩ : ∃ N : Fp, Rv Ω S2 N v d ∧ ∀ z, N z → S z = none ∧ (∀ j, ¬ Fs2 j z) ∧ S2 z ≠ none := by
    rw [Bool.or_eq_true] at hp
    rcases hp with hp | hp
    · exact ⟨fun _ => False, k1.rv.pu hp, fun _ z => z.elim⟩
    · refine ⟨F, k1.rv, fun z hz => ?_⟩
      rcases k1.fo z hz with q | ⟨j, hj, _⟩
      · exact ⟨q.1, q.2, k1.fa z hz⟩
      · rw [List.isEmpty_iff.mp hp] at hj; cases hj
  have fin : ∀ {a : Addr} {o1 o2 : O} {w' : P}, d0 = D.ref a → S2 a = some o1 → Fs2 x a → pure w' = false → Rv Ω (S2.upd a o2) (fun z => Fs2 x z ∨ N z) w' (.ref a) → K.nx (ε2.set x (some (w', true))) → K'.nx ε' (S2.upd a o2) := by
    intro a o1 o2 w' ed e1 fxa hw' rv hk
    subst ed
    have E3 := own_set (o := o2) (w := w') (N := N) E2 y1' w2 fxa (by rw [e1]; exact fun z => nomatch z) (fun z hz => ⟨(hN z hz).2.1, (hN z hz).2.2, (fun o' hk => by have := E.kp z o' hk; rw [(hN z hz).1] at this; cases this), E.fr z (hN z hz).1⟩) hw' rv
    refine kr.nx _ _ _ _ hk E3 (fun p hp => ?_) xa
    obtain ⟨i1, i2, i3⟩ := io2 p hp
    refine ⟨fun z hz => .inl (i1 z hz), fun z hz => ?_, i3⟩
    rcases hz with hz | ⟨_, hz⟩
    · exact i2 z hz
    · exact .inr fun hb => E.bs z hb (hN z hz).1
  have up : ∀ {a : Addr} {o2 : O} {ws : List P} {dws : List D}, RvL Ω S2 (fun z => (Fs2 x z ∨ N z) ∧ z ≠ a) ws dws → RvL Ω (S2.upd a o2) (fun z => (Fs2 x z ∨ N z) ∧ z ≠ a) ws dws := fun {a o2 ws dws} r => r.to (fun z o' hz e => by rw [Sto.upd_ne hz.2]; exact e) fun _ z => z
  have nN : ∀ {a : Addr}, Fs2 x a → ∀ z, N z → (Fs2 x z ∨ N z) ∧ z ≠ a := fun fa z hz => ⟨.inr hz, fun q => (hN z hz).2.1 x (q ▸ fa)⟩
  unfold setP at hset
  split at hset
  · obtain ⟨k, j, rfl, hj, hk⟩ := hset
    obtain ⟨a, dx, rfl, q2, q3, q4⟩ := lst_inv y4
    cases r2.rv
    show (match S2 a with | some (.lst xs) => ∃ k' j, (D.int k) = .int k' ∧ ixN xs.length k' = some j ∧ K'.nx ε' (S2.upd a (.lst (xs.set j d))) | some (.dK kvs) => _ | some (.dT kvs) => _ | _ => False)
    rw [q3]
    refine ⟨k, j, rfl, by rw [← q4.length]; exact hj, fin rfl q3 q2 rfl (.lst (.inl q2) Sto.upd_same (up ?_)) hk⟩
    exact RvL.set (rN.mono (nN q2)) j (q4.mono fun z hz => ⟨.inl hz.1, hz.2⟩)
  · obtain ⟨k, hk1, hl, hk⟩ := hset
    cases y4 with
    | @dK _ a _ kds f e1 hkk r =>
      show (match S2 a with | some (.lst xs) => _ | some (.dK kvs) => ∃ k, keyD dy = some k ∧ kvs.length < sizeLine ∧ K'.nx ε' (S2.upd a (.dK (putD kvs k d))) | some (.dT kvs) => _ | _ => False)
      rw [e1]
      obtain ⟨p1, p2⟩ := put_ok (k := k) (F := fun z => (Fs2 x z ∨ N z) ∧ z ≠ a) hkk (r.mono fun z hz => ⟨.inl hz.1, hz.2⟩) (rN.mono (nN f))
      exact ⟨k, key_ok r2.rv hk1, by have := congrArg List.length hkk; simp at this; omega, fin rfl e1 f rfl (.dK (.inl f) Sto.upd_same p1 (up p2)) hk⟩
  · obtain ⟨k, hk1, hl, hk⟩ := hset
    cases y4 with
    | @dT _ a _ kds f e1 hkk r =>
      show (match S2 a with | some (.lst xs) => _ | some (.dK kvs) => _ | some (.dT kvs) => ∃ k, keyT dy = some k ∧ kvs.length < sizeLine ∧ K'.nx ε' (S2.upd a (.dT (putD kvs k d))) | _ => False)
      rw [e1]
      obtain ⟨p1, p2⟩ := put_ok (k := k) (F := fun z => (Fs2 x z ∨ N z) ∧ z ≠ a) hkk (r.mono fun z hz => ⟨.inl hz.1, hz.2⟩) (rN.mono (nN f))
      exact ⟨k, keyT_ok r2.rv hk1, by have := congrArg List.length hkk; simp at this; omega, fin rfl e1 f rfl (.dT (.inl f) Sto.upd_same p1 (up p2)) hk⟩
  · exact hset.elim
theorem ss_try {oi : Option Nat} {cls : Str} (ib : SndS Ω b) (ih : SndS Ω h) : SndS Ω (.try_ oi cls b h) := by
  intro V Γ C I X X' K K' ε ε' S Fs sg xa hx hC E io ok hh xr kr
  have ok' : (okS V.io I.io b && okS V.io I.io h && okH h && I.io.isEmpty) = true := ok
  obtain ⟨ok', o4⟩ := and2 ok'
  obtain ⟨o1, o2, o3⟩ := and3 ok'
  have hv : V.xa = none := hx.elim id fun z => nomatch z
  have hio : I.io = [] := List.isEmpty_iff.mp o4
  have ioT : ∀ Fs ε', IoI I C Fs ε' := fun Fs ε' p hp => by rw [hio] at hp; cases hp
  obtain ⟨hlen, hb⟩ := hh
  refine ib sg xa (.inl hv) hC E io o1 hb (fun x x' S1 hx1 hr hk hbs => ?_) kr
  obtain ⟨hc, ha⟩ := hr
  obtain ⟨g1, g2⟩ := hx1
  have harg : x'.arg.map (·.1) = x.arg.map (·.1) := by
    rcases ha with ⟨z1, z2⟩ | ⟨f, v, d, z1, z2, _⟩ <;> rw [z1, z2] <;> rfl
  refine ⟨by rw [sg.exs, hc, harg]; exact g1, ?_⟩
  have e1 : Γ.sub x'.cls cls = V.sub x.cls cls := by rw [sg.sub, hc]
  rw [e1]
  by_cases hs : V.sub x.cls cls = true
  · rw [if_pos hs] at g2 ⊢
    intro a hna
    have sg' : SigR Ω { V with xa := oi.map fun i => (i, x) } { Γ with xa := some (a, x') } := ⟨sg.ar, sg.fn, sg.cg, sg.exs, sg.sub⟩
    have lenB : (blank oi a ε').length = ε.length := by
      rw [E.len]
      cases oi with
      | none => show (ε'.map fun _ => none).length = _; rw [List.length_map]
      | some i => show ((ε'.map fun _ => none).set i _).length = _; rw [List.length_set, List.length_map]
    have nothing : ∀ (i : Nat) (v : P) (b : Bool), ¬ (ε.map fun _ => (none : Option (P × Bool)))[i]? = some (some (v, b)) := fun i v b z => by
      rw [List.getElem?_map] at z
      cases q : ε[i]? with
      | none => rw [q] at z; cases z
      | some o => rw [q] at z; cases z
    have EB : Er Ω C S1 (ε.map fun _ => none) (blank oi a ε') (fun _ _ => False) :=
      ⟨by rw [List.length_map, lenB], fun i v b z => absurd z (nothing i v b), fun _ _ z => z.elim, fun _ _ _ _ _ _ z => z, fun _ _ _ _ _ _ z => z.elim, hk, fun _ _ _ _ _ z => z.elim, hbs, fun _ _ z => z.elim, fun z hz => hC z fun hb => hbs z hb hz⟩
    have xaB : XaR Ω { V with xa := oi.map fun i => (i, x) } { Γ with xa := some (a, x') } (blank oi a ε') := fun j y e => by
      cases oi with
      | none => cases e
      | some i =>
        have e' : some (i, x) = some (j, y) := e
        cases e'
        refine ⟨a, x', rfl, ⟨hc, ha⟩, ?_⟩
        have hi := of_decide_eq_true hlen
        unfold lookE blank
        rw [List.getElem?_set_self (by rw [List.length_map, ← E.len]; exact hi)]
    refine ih sg' xaB (.inr o3) hC EB (ioT _ _) o2 g2 (fun _ _ _ z => z.elim) ?_
    cases oi with
    | none => exact ⟨fun ε ε' S Fs h E io _ => kr.nx ε ε' S Fs h E io (xa_none hv), fun ε ε' S Fs h E io _ => kr.bk ε ε' S Fs h E io (xa_none hv), fun ε ε' S Fs h E io _ => kr.ct ε ε' S Fs h E io (xa_none hv), kr.rt, kr.kb⟩
    | some i => exact ⟨fun ε ε' S Fs h E io _ => kr.nx _ _ S _ h E.drop (ioT _ _) (xa_none hv), fun ε ε' S Fs h E io _ => kr.bk _ _ S _ h E.drop (ioT _ _) (xa_none hv), fun ε ε' S Fs h E io _ => kr.ct _ _ S _ h E.drop (ioT _ _) (xa_none hv), kr.rt, kr.kb⟩
  · rw [if_neg hs] at g2 ⊢
    exact xr x x' S1 g2 ⟨hc, ha⟩ hk hbs
theorem snd_S : ∀ m : MS, SndS Ω m
  | .skip => ss_skip
  | .seq a b => ss_seq (snd_S a) (snd_S b)
  | .set i e => ss_set
  | .setT is e => ss_setT
  | .par is es => ss_par
  | .sub o i e => ss_sub
  | .expr e => ss_expr
  | .ret e => ss_ret
  | .retN => ss_retN
  | .ite c a b => ss_ite (snd_S a) (snd_S b)
  | .for_ tg it b => ss_for (snd_S b)
  | .whl c b => ss_whl (snd_S b)
  | .brk => ss_brk
  | .cont => ss_cont
  | .rais cls f arg => ss_rais
  | .try_ oi cls b h => ss_try (snd_S b) (snd_S h)
end
/-! ### a def -/
def vent (io : List Nat) (n : Nat) (vs : List P) : VEv := (vs.zipIdx.map fun p => some (p.1, io.contains p.2 || pure p.1)) ++ List.replicate (n - vs.length) none
def vout (io : List Nat) (fr : Bool) (Q : P → List P → Prop) (b : Bool) (v : P) : VEv → Prop := fun ε => (fr = true → b = true) ∧ ∃ us, ioOut io ε = some us ∧ Q v us
def vD (m : MS) (V : VSig) (io : List Nat) (fr : Bool) (n : Nat) (vs : List P) (Q : P → List P → Prop) (X : VX) : Prop := vS m V X { nx := vout io fr Q true .non, rt := vout io fr Q } (vent io n vs)
theorem vent_look {io : List Nat} {n i : Nat} {vs : List P} {v : P} {b : Bool} (h : (vent io n vs)[i]? = some (some (v, b))) : vs[i]? = some v ∧ b = (io.contains i || pure v) := by
  unfold vent at h
  by_cases hi : i < vs.length
  · rw [List.getElem?_append_left (by simpa using hi), List.getElem?_map, List.getElem?_zipIdx, List.getElem?_eq_getElem hi] at h
    simp only [Option.map_some, Option.some.injEq, Prod.mk.injEq] at h
    obtain ⟨h1, h2⟩ := h
    subst h1
    refine ⟨List.getElem?_eq_getElem hi, ?_⟩
    rw [← h2, Nat.zero_add]
  · rw [List.getElem?_append_right (by simpa using Nat.le_of_not_lt hi), List.getElem?_replicate] at h
    split at h <;> cases h
theorem ioOut_ok : ∀ {io : List Nat} {ε : VEv} {us : List P}, ioOut io ε = some us → us.length = io.length ∧ ∀ (k p : Nat) (u : P), io[k]? = some p → us[k]? = some u → vown ε p = some u
  | [], ε, us, h => by cases h; exact ⟨rfl, fun k p u z => by simp at z⟩
  | x :: xs, ε, us, h => by
    rw [ioOut] at h
    cases q1 : vown ε x with
    | none => rw [q1] at h; cases h
    | some v =>
      cases q2 : ioOut xs ε with
      | none => rw [q1, q2] at h; cases h
      | some vs =>
        rw [q1, q2] at h
        cases h
        obtain ⟨a, b⟩ := ioOut_ok q2
        refine ⟨by simp [a], fun k p u z1 z2 => ?_⟩
        cases k with
        | zero => simp at z1 z2; subst z1 z2; exact q1
        | succ k => exact b k p u (by simpa using z1) (by simpa using z2)
theorem vown_iff {ε : VEv} {i : Nat} {v : P} (h : vown ε i = some v) : ε[i]? = some (some (v, true)) := by
  unfold vown at h
  split at h
  · rename_i e; cases h; exact e
  · cases h
theorem def_c {Ω : Opq} {V : VSig} {Γ : Sig} {m : MS} {io : List Nat} {fr : Bool} {n k : Nat} {sp : VFn} (sg : SigR Ω V Γ) (hxa : V.xa = none) (ok : okS V.io io m = true) (hnd : io.Nodup) (hn : k ≤ n) (hsp : ∀ vs Q X, sp vs Q X → vs.length = k → vD m V io fr n vs Q X) :
    ∀ ds S Q X, lift Ω io fr sp ds S Q X → ds.length = k → wD m Γ n ds S Q X := by
  intro ds S Q X ⟨vs, Fs, Qv, Xv, hl, hr, hal, hio, hpu, hv, hq, hx⟩ hk
  have hvl : vs.length = k := hl.trans hk
  have hD := hsp vs Qv Xv hv hvl
  let C : Cx := { Keep := fun a o => S a = some o ∧ ∀ i, i ∈ io → ¬ Fs i a, B := fun a => S a ≠ none, Src := fun a => S a = none ∨ ∃ i, Fs i a }
  let Fs0 : Nat → Fp := fun i a => Fs i a ∧ ∃ v, vs[i]? = some v ∧ pure v = false
  let I : Io := { io := io, Fs0 := Fs0, ev0 := ent n ds }
  have hent : ∀ i d, ds[i]? = some d → (ent n ds)[i]? = some (some d) := fun i d e => by
    have hi := (List.getElem?_eq_some_iff.mp e).1
    unfold ent
    rw [List.getElem?_append_left (by simpa using hi), List.getElem?_map, e]
    rfl
  have hent2 : ∀ i d, i < ds.length → (ent n ds)[i]? = some (some d) → ds[i]? = some d := fun i d hi e => by
    unfold ent at e
    rw [List.getElem?_append_left (by simpa using hi), List.getElem?_map, List.getElem?_eq_getElem hi] at e
    rw [List.getElem?_eq_getElem hi]
    simpa using e
  have E : Er Ω C S (vent io n vs) (ent n ds) Fs0 := by
    refine ⟨by simp [vent, ent, hl], fun i v b e => ?_, fun i a z => hal i a z.1, fun i v b e pv a z => ?_, fun i v e j ne a z1 z2 => ?_, fun a o z => z.1, fun i v e a o z hk => ?_, fun a z => z, fun i a z => .inr ⟨i, z.1⟩, fun a z => .inl z⟩
    · obtain ⟨e1, e2⟩ := vent_look e
      obtain ⟨d, g1, g2⟩ := hr i v e1
      refine ⟨d, hent i d g1, ?_⟩
      by_cases pv : pure v = true
      · exact g2.pu pv
      · exact g2.mono fun a z => ⟨z, v, e1, Bool.eq_false_iff.mpr pv⟩
    · obtain ⟨e1, e2⟩ := vent_look e
      obtain ⟨_, w, e3, e4⟩ := z
      rw [e1] at e3; cases e3
      rw [pv] at e4; cases e4
    · obtain ⟨e1, e2⟩ := vent_look e
      obtain ⟨z1, w, e3, e4⟩ := z1
      rw [e1] at e3; cases e3
      rw [e4, Bool.or_false] at e2
      have hi : i ∈ io := by simpa using e2.symm
      exact (hio i hi).2 j ne a z1 z2.1
    · obtain ⟨e1, e2⟩ := vent_look e
      obtain ⟨z1, w, e3, e4⟩ := z
      rw [e1] at e3; cases e3
      rw [e4, Bool.or_false] at e2
      have hi : i ∈ io := by simpa using e2.symm
      exact hk.2 i hi z1
  have io0 : IoI I C Fs0 (ent n ds) := fun p hp => ⟨fun _ z => z, fun _ z => .inl z, rfl⟩
  refine snd_S m (C := C) (I := I) sg (xa_none hxa) (.inl hxa) (fun a z => .inl ?_) E io0 ok hD ?_ ?_
  · cases e : S a with
    | none => rfl
    | some o => exact absurd (by show S a ≠ none; rw [e]; exact fun z => nomatch z) z
  · intro x x' S1 hx1 hrx kp bs
    exact ⟨S1, Sub.refl _, hx x x' S1 hx1 hrx (fun a o e n => kp a o ⟨e, n⟩) bs⟩
  · have fin : ∀ b v ε ε' d S1 Fs1 F, vout io fr Qv b v ε → Er Ω C S1 ε ε' Fs1 → IoI I C Fs1 ε' → Rv Ω S1 F v d → (∀ a, F a → S1 a ≠ none) → (∀ a, F a → (C.Src a ∧ ∀ j, ¬ Fs1 j a) ∨ ∃ j, j ∉ I.io ∧ Fs1 j a) → (b = true → ∀ a, F a → ¬ C.B a ∧ ∀ j, j ∈ I.io → ¬ Fs1 j a) → fwd Q d S1 := by
      intro b v ε ε' d S1 Fs1 F ⟨hbf, us, hus, hqv⟩ E1 io1 rv fa fo hfr
      obtain ⟨u1, u2⟩ := ioOut_ok hus
      have npu : ∀ p a, p ∈ io → Fs p a → Fs0 p a := fun p a hp z => by
        have hpl := (hio p hp).1
        refine ⟨z, vs[p], List.getElem?_eq_getElem hpl, ?_⟩
        cases pv : pure vs[p] with
        | false => rfl
        | true => exact absurd z (hpu p _ hp (List.getElem?_eq_getElem hpl) pv a)
      have ownd : ∀ p, p ∈ io → ∃ u, ε[p]? = some (some (u, true)) := fun p hp => by
        obtain ⟨k, hk⟩ := List.getElem?_of_mem hp
        have kl : k < us.length := by rw [u1]; exact (List.getElem?_eq_some_iff.mp hk).1
        exact ⟨us[k], vown_iff (u2 k p _ hk (List.getElem?_eq_getElem kl))⟩
      have keepP : ∀ p a, p ∈ io → Fs p a → Fs1 p a := fun p a hp z => (io1 p hp).1 a (npu p a hp z)
      refine fwd_of (hq v us d S1 Fs1 F hqv ⟨u1, fun k p u hk hu => ?_, fun p a hp z => keepP p a hp z, fun p a hp z => ?_, fun p a hp z => E1.al p a z, fun p q a hp hq ne z1 z2 => ?_, fun a o e h => E1.kp a o ⟨e, h⟩, fun a h => E1.bs a h, fun k p u hk hu pu a z => ?_, rv, fa, fun a z => ?_⟩)
      · have hp := List.mem_of_getElem? hk
        obtain ⟨dp, g1, g2⟩ := E1.rep p u true (vown_iff (u2 k p u hk hu))
        rw [(io1 p hp).2.2] at g1
        exact ⟨dp, hent2 p dp (by rw [← hl]; exact (hio p hp).1) g1, g2⟩
      · rcases (io1 p hp).2.1 a z with q | q
        · exact .inl q.1
        · right
          cases e : S a with
          | none => rfl
          | some o => exact absurd (by show S a ≠ none; rw [e]; exact fun z => nomatch z) q
      · obtain ⟨u, hu⟩ := ownd p hp
        exact E1.own p u hu q (Ne.symm ne) a z1 z2
      · exact E1.pf p u true (vown_iff (u2 k p u hk hu)) pu a z
      · cases hf : fr with
        | true =>
          obtain ⟨y1, y2⟩ := hfr (hbf hf) a z
          refine .inl ⟨?_, fun p hp => y2 p hp⟩
          cases e : S a with
          | none => rfl
          | some o => exact absurd (by show S a ≠ none; rw [e]; exact fun z => nomatch z) y1
        | false =>
        rcases fo a z with ⟨q1, q2⟩ | ⟨j, hj, q⟩
        · rcases q1 with q1 | ⟨i, q1⟩
          · exact .inl ⟨q1, fun p _ => q2 p⟩
          · by_cases hi : i ∈ io
            · exact absurd (keepP i a hi q1) (q2 i)
            · exact .inr ⟨rfl, i, hi, q1⟩
        · have noP : ∀ p, p ∈ io → ¬ Fs1 p a := fun p hp zp => by
            obtain ⟨u, hu⟩ := ownd p hp
            exact E1.own p u hu j (fun e => hj (e ▸ hp)) a zp q
          rcases E1.src j a q with q1 | ⟨i, q1⟩
          · exact .inl ⟨q1, noP⟩
          · by_cases hi : i ∈ io
            · exact absurd (keepP i a hi q1) (noP i hi)
            · exact .inr ⟨rfl, i, hi, q1⟩
    have kbf : ∀ a, S a ≠ none → (∃ o, S a = some o ∧ ∀ i, i ∈ io → ¬ Fs i a) ∨ ∃ p, p ∈ io ∧ Fs0 p a := fun a hB => by
      by_cases hp : ∃ p, p ∈ io ∧ Fs p a
      · obtain ⟨p, h1, h2⟩ := hp
        have hpl := (hio p h1).1
        refine .inr ⟨p, h1, h2, vs[p], List.getElem?_eq_getElem hpl, ?_⟩
        cases pv : pure vs[p] with
        | false => rfl
        | true => exact absurd h2 (hpu p _ h1 (List.getElem?_eq_getElem hpl) pv a)
      · cases e : S a with
        | none => exact absurd e hB
        | some o => exact .inl ⟨o, rfl, fun i hi z => hp ⟨i, hi, z⟩⟩
    exact ⟨fun ε ε' S1 Fs1 h E1 io1 _ => fin true .non ε ε' .non S1 Fs1 (fun _ => False) h E1 io1 .non (fun _ z => z.elim) (fun _ z => z.elim) fun _ _ z => z.elim, fun _ _ _ _ z => z.elim, fun _ _ _ _ z => z.elim, fin, fun a hB => kbf a hB⟩
/-- the law's promise -/
theorem kept_c {Ω : Opq} {n : Nat} {fr : Bool} {sp : VFn} (h : ∀ ns : List Int, ns.length ≤ n → sp [.rol (ns.map .int)] (fun v _ => v = .bl true) fun _ => False) : Kept n (lift Ω [] fr sp) := fun ns hn =>
  ⟨[.rol (ns.map .int)], fun _ _ => False, _, _, rfl, fun i v e => by
    cases i with
    | zero =>
      have : (P.rol (ns.map .int)) = v := by simpa using e
      subst this
      exact ⟨.rol (ns.map .int), rfl, .rol RvL.ints⟩
    | succ i => simp at e, fun _ _ z => z.elim, fun i hi => (by cases hi), fun i v hi => (by cases hi), h ns hn, fun r us d S' Fs' G e po => by
      subst e
      have := po.rv
      cases this
      rfl, fun _ _ _ z => z.elim⟩
end Cay

set_option Elab.async false
set_option linter.all false
set_option maxRecDepth 100000
/-! Cay: words for the proofs about defs. -/
namespace Cay
open PySem PySem.Spec PyProof.Rows L2 Bay
def iteV (k : Bool) (a b : VEv → Prop) (ε : VEv) : Prop := if k = true then a ε else b ε
theorem iteV_t {a b : VEv → Prop} {ε : VEv} : iteV true a b ε = a ε := rfl
theorem iteV_f {a b : VEv → Prop} {ε : VEv} : iteV false a b ε = b ε := rfl
theorem iteV_of {k : Bool} {a b : VEv → Prop} {ε : VEv} (h1 : k = true → a ε) (h2 : k = false → b ε) : iteV k a b ε := by
  cases k
  · exact h2 rfl
  · exact h1 rfl
theorem ite_of {k : Bool} {A B : Prop} (h1 : k = true → A) (h2 : k = false → B) : if k = true then A else B := by
  cases k
  · rw [if_neg Bool.false_ne_true]; exact h2 rfl
  · rw [if_pos rfl]; exact h1 rfl
def forE (b : Bool) (as : List Nat) (ε : VEv) : VEv := if b then ε else demote (live ε as) ε
theorem forE_t {as : List Nat} {ε : VEv} : forE true as ε = ε := (rfl)
theorem forE_f {as : List Nat} {ε : VEv} : forE false as ε = demote (live ε as) ε := (rfl)
def lv : Option (Option (P × Bool)) → Bool
  | some (some (v, _)) => !pure v
  | _ => true
theorem lv_s {v : P} {b : Bool} : lv (some (some (v, b))) = !pure v := (rfl)
theorem lv_n : lv (some none) = true := (rfl)
theorem lv_0 : lv none = true := (rfl)
theorem live_cons {i : Nat} {as : List Nat} {ε : VEv} : live ε (i :: as) = cond (lv ε[i]?) (i :: live ε as) (live ε as) := by
  have e : (match ε[i]? with | some (some (v, _)) => !pure v | _ => true) = lv ε[i]? := by
    cases ε[i]? with
    | none => rfl
    | some o => cases o <;> rfl
  unfold live
  rw [List.filter_cons]
  show (if (match ε[i]? with | some (some (v, _)) => !pure v | _ => true) = true then _ else _) = _
  rw [e]
  cases lv ε[i]? <;> rfl
def dm (i : Nat) : Option (Option (P × Bool)) → VEv → VEv
  | some (some (v, _)), ε => ε.set i (some (v, false))
  | _, ε => ε
theorem dm_s {i : Nat} {v : P} {b : Bool} {ε : VEv} : dm i (some (some (v, b))) ε = ε.set i (some (v, false)) := (rfl)
theorem dm_n {i : Nat} {ε : VEv} : dm i (some none) ε = ε := (rfl)
theorem demote_cons {i : Nat} {is : List Nat} {ε : VEv} : demote (i :: is) ε = demote is (dm i ε[i]? ε) := by
  rw [demote]
  congr 1
  cases ε[i]? with
  | none => rfl
  | some o => cases o <;> rfl
section
variable {V : VSig} {X : VX} {K : VK} {ε : VEv} {a b h : MS} {e c i o : ME} {n : Nat} {is : List Nat} {es : MEs} {tg : MG} {it : MI}
theorem V_skip : vS .skip V X K ε = K.nx ε := rfl
theorem V_seq : vS (.seq a b) V X K ε = vS a V X { K with nx := vS b V X K } ε := rfl
theorem V_set : vS (.set n e) V X K ε = vE V e X ε fun v ε1 => K.nx (asg1 n (rf e) (al V.io e) v ε1) := rfl
theorem V_setTt : vS (.setT is (.tup es)) V X K ε = vEs V es X ε fun vs ε1 => vs.length ≤ sizeLine ∧ if parOK V.io ε1 es vs = true then vs.length = is.length ∧ K.nx (asgL true is vs ε1) else ∃ ε2, asgT is (als V.io [] 0 es) (.tup vs) ε1 = some ε2 ∧ K.nx ε2 := rfl
theorem V_setTc {f : Nat} : vS (.setT is (.call f es)) V X K ε = vE V (.call f es) X ε fun v ε1 => ∃ ε2, asgT is (al V.io (.call f es)) v ε1 = some ε2 ∧ K.nx ε2 := rfl
theorem V_setTi : vS (.setT is (.idx c i)) V X K ε = vE V (.idx c i) X ε fun v ε1 => ∃ ε2, asgT is (al V.io (.idx c i)) v ε1 = some ε2 ∧ K.nx ε2 := rfl
theorem V_setTv : vS (.setT is (.var n)) V X K ε = vE V (.var n) X ε fun v ε1 => ∃ ε2, asgT is (al V.io (.var n)) v ε1 = some ε2 ∧ K.nx ε2 := rfl
theorem V_setTs {l1 l2 : MO} : vS (.setT is (.slc c l1 l2)) V X K ε = vE V (.slc c l1 l2) X ε fun v ε1 => ∃ ε2, asgT is (al V.io (.slc c l1 l2)) v ε1 = some ε2 ∧ K.nx ε2 := rfl
theorem V_par : vS (.par is es) V X K ε = vEs V es X ε fun vs ε1 => vs.length = is.length ∧ parOK V.io ε1 es vs = true ∧ K.nx (asgL true is vs ε1) := rfl
theorem V_sub {x : Nat} : vS (.sub (.var x) i e) V X K ε = vE V e X ε fun v ε1 => (pure v || (al V.io e).isEmpty) = true ∧ ∃ w, vown ε1 x = some w ∧ vE V i X ε1 fun y ε2 => ∃ u, vown ε2 x = some u ∧ setP u y v fun z => K.nx (ε2.set x (some (z, true))) := rfl
theorem V_expr : vS (.expr e) V X K ε = vE V e X ε fun _ ε1 => K.nx ε1 := rfl
theorem V_ret : vS (.ret e) V X K ε = vE V e X ε fun v ε1 => K.rt (frOK V.io ε1 e v) v ε1 := rfl
theorem V_retN : vS .retN V X K ε = K.rt true .non ε := rfl
theorem V_ite : vS (.ite c a b) V X K ε = vE V c X ε (vtst fun k ε1 => iteV k (vS a V X K) (vS b V X K) ε1) := rfl
theorem V_for : vS (.for_ tg it a) V X K ε = vI V it X ε fun xs ε1 => vforGo (vS a V X) (vasgF tg) xs K (forE (soleI it xs) (alI V.io it) ε1) := rfl
theorem V_whl : vS (.whl c a) V X K ε = ∃ n, vwhGo (fun ε Q => vE V c X ε (vtst Q)) (vS a V X) n K ε := rfl
theorem V_rais1 {cls f : Str} : vS (.rais cls (some f) (.yes e)) V X K ε = ((cls, some f) ∈ V.exs ∧ vE V e X ε fun v _ => pure v = true ∧ X ⟨cls, some (f, v)⟩) := rfl
theorem V_rais0 {cls : Str} : vS (.rais cls none .no) V X K ε = ((cls, none) ∈ V.exs ∧ X ⟨cls, none⟩) := rfl
theorem V_try {oi : Option Nat} {cls : Str} : vS (.try_ oi cls b h) V X K ε = ((match oi with | some i => decide (i < ε.length) | none => true) = true ∧ vS b V (fun x => (x.cls, x.arg.map (·.1)) ∈ V.exs ∧
      if V.sub x.cls cls = true then vS h { V with xa := oi.map fun i => (i, x) } (fun _ => False) (vendH oi K) (ε.map fun _ => none) else X x) K ε) := rfl
theorem V_brk : vS .brk V X K ε = K.bk ε := rfl
theorem V_cont : vS .cont V X K ε = K.ct ε := rfl
theorem W_go {cc : VEv → (Bool → VEv → Prop) → Prop} {tb : VK → VEv → Prop} : vwhGo cc tb (n + 1) K ε = cc ε fun b ε1 => iteV b (tb { nx := vwhGo cc tb n K, rt := K.rt, bk := K.nx, ct := vwhGo cc tb n K }) K.nx ε1 := rfl
theorem T_bl {k : Bool} {Q : Bool → VEv → Prop} : vtst Q (.bl k) ε = Q k ε := rfl
variable {Q : P → Prop} {Qb : Bool → Prop} {d : P} {j m : Int}
theorem B_len : bltP .len [d] Q = lenP d fun n => Q (.int n) := rfl
theorem B_abs : bltP .abs [.int j] Q = Q (.int (if j < 0 then -j else j)) := rfl
theorem B_int : bltP .int [.int j] Q = Q (.int j) := rfl
theorem B_intB {k : Bool} : bltP .int [.bl k] Q = Q (.int (if k then 1 else 0)) := rfl
theorem B_list : bltP .list [d] Q = seqP d fun xs => xs.length ≤ sizeLine ∧ Q (.lst xs) := rfl
theorem B_tuple : bltP .tuple [d] Q = tupP d Q := rfl
theorem B_repr : bltP .repr [d] Q = ∃ t, toT d = some t ∧ t.showable = true ∧ t.depth ≤ 60 ∧ t.shown.length ≤ sizeLine ∧ Q (.str t.shown) := rfl
theorem B_str : bltP .str [.int j] Q = (j.natAbs.log2 < 1920 ∧ Q (.str (toString j))) := rfl
theorem B_isStr : bltP .isStr [d] Q = ∃ b, isKindP .isStr d = some b ∧ Q (.bl b) := rfl
theorem B_isTup : bltP .isTup [d] Q = ∃ b, isKindP .isTup d = some b ∧ Q (.bl b) := rfl
theorem B_isInt : bltP .isInt [d] Q = ∃ b, isKindP .isInt d = some b ∧ Q (.bl b) := rfl
theorem B_isBool : bltP .isBool [d] Q = ∃ b, isKindP .isBool d = some b ∧ Q (.bl b) := rfl
theorem L_tup {xs : List P} {R : Nat → Prop} : lenP (.tup xs) R = R xs.length := rfl
theorem L_rot {xs : List P} {R : Nat → Prop} : lenP (.rot xs) R = R xs.length := rfl
theorem L_rol {xs : List P} {R : Nat → Prop} : lenP (.rol xs) R = R xs.length := rfl
theorem L_lst {xs : List P} {R : Nat → Prop} : lenP (.lst xs) R = R xs.length := rfl
theorem L_str {x : Str} {R : Nat → Prop} : lenP (.str x) R = (x.length ≤ sizeLine ∧ R x.length) := rfl
theorem C_lt : cmpP .Lt (.int j) (.int m) Q = Q (.bl (decide (j < m))) := rfl
theorem C_le : cmpP .LtE (.int j) (.int m) Q = Q (.bl (decide (j ≤ m))) := rfl
theorem C_gt : cmpP .Gt (.int j) (.int m) Q = Q (.bl (decide (m < j))) := rfl
theorem C_ge : cmpP .GtE (.int j) (.int m) Q = Q (.bl (decide (m ≤ j))) := rfl
theorem C_eq {x y : P} : cmpP .Eq x y Q = eqP x y fun b => Q (.bl b) := rfl
theorem C_ne {x y : P} : cmpP .NotEq x y Q = eqP x y fun b => Q (.bl (!b)) := rfl
theorem C_in {x y : P} : cmpP .In x y Q = inP x y fun b => Q (.bl b) := rfl
theorem C_nin {x y : P} : cmpP .NotIn x y Q = inP x y fun b => Q (.bl (!b)) := rfl
theorem E_ii : eqP (.int j) (.int m) Qb = Qb (decide (j = m)) := rfl
theorem E_ss {x y : Str} : eqP (.str x) (.str y) Qb = Qb (decide (x = y)) := rfl
theorem E_bb {x y : Bool} : eqP (.bl x) (.bl y) Qb = Qb (decide (x = y)) := rfl
theorem E_nn : eqP .non .non Qb = Qb true := rfl
theorem E_ni : eqP .non (.int j) Qb = Qb false := rfl
theorem E_in : eqP (.int j) .non Qb = Qb false := rfl
theorem E_ns {x : Str} : eqP .non (.str x) Qb = Qb false := rfl
theorem E_sn {x : Str} : eqP (.str x) .non Qb = Qb false := rfl
theorem A_int : addP (.int j) (.int m) Q = Q (.int (j + m)) := rfl
theorem A_str {x y : Str} : addP (.str x) (.str y) Q = (x.length + y.length ≤ sizeLine ∧ Q (.str (x ++ y))) := rfl
theorem A_tup {xs ys : List P} : addP (.tup xs) (.tup ys) Q = (xs.length + ys.length ≤ sizeLine ∧ Q (.tup (xs ++ ys))) := rfl
theorem A_lst {xs ys : List P} : addP (.lst xs) (.lst ys) Q = (xs.length + ys.length ≤ sizeLine ∧ Q (.lst (xs ++ ys))) := rfl
theorem U_int : subP (.int j) (.int m) Q = Q (.int (j - m)) := rfl
theorem M_tup {xs : List P} : mulP (.tup xs) (.int m) Q = ((-1000 ≤ m ∧ m ≤ 1000 ∧ xs.length ≤ 1000) ∧ Q (.tup (repL xs m))) := rfl
theorem M_int : mulP (.int j) (.int m) Q = (CMul j m ∧ Q (.int (j * m))) := rfl
theorem F_int : fdvP (.int j) (.int m) Q = (CDiv j m ∧ Q (.int (j / m))) := rfl
theorem O_int : modP (.int j) (.int m) Q = (0 < m ∧ Q (.int (j % m))) := rfl
theorem P_int : powP (.int j) (.int m) Q = (CPow j m ∧ Q (.int (j ^ m.toNat))) := rfl
theorem N_int : negP (.int j) Q = Q (.int (-j)) := rfl
theorem I_tup {xs : List P} : idxP (.tup xs) (.int j) Q = ∃ d, atI xs j = some d ∧ Q d := rfl
theorem I_lst {xs : List P} : idxP (.lst xs) (.int j) Q = ∃ d, atI xs j = some d ∧ Q d := rfl
theorem I_rot {xs : List P} : idxP (.rot xs) (.int j) Q = ∃ d, atI xs j = some d ∧ Q d := rfl
theorem I_rol {xs : List P} : idxP (.rol xs) (.int j) Q = ∃ d, atI xs j = some d ∧ Q d := rfl
theorem I_str {x : Str} : idxP (.str x) (.int j) Q = (x.length ≤ sizeLine ∧ ∃ c, atI x.cps.toList j = some c ∧ Q (.str ⟨#[c]⟩)) := rfl
variable {lo hi : Option Int}
theorem S_tup {xs : List P} : slcP (.tup xs) lo hi Q = Q (.tup (cutL xs lo hi)) := rfl
theorem S_lst {xs : List P} : slcP (.lst xs) lo hi Q = ((cutL xs lo hi).length ≤ sizeLine ∧ Q (.lst (cutL xs lo hi))) := rfl
theorem S_rol {xs : List P} : slcP (.rol xs) lo hi Q = ((cutL xs lo hi).length ≤ sizeLine ∧ Q (.lst (cutL xs lo hi))) := rfl
theorem S_str {x : Str} : slcP (.str x) lo hi Q = (x.length ≤ sizeLine ∧ Q (.str ⟨(cutL x.cps.toList lo hi).toArray⟩)) := rfl
variable {R : List P → Prop}
theorem Q_tup {xs : List P} : seqP (.tup xs) R = R xs := rfl
theorem Q_lst {xs : List P} : seqP (.lst xs) R = R xs := rfl
theorem Q_rot {xs : List P} : seqP (.rot xs) R = R xs := rfl
theorem Q_rol {xs : List P} : seqP (.rol xs) R = R xs := rfl
theorem R_tup {xs : List P} : srcP (.tup xs) R = R xs := rfl
theorem R_lst {xs : List P} : srcP (.lst xs) R = R xs := rfl
theorem R_rot {xs : List P} : srcP (.rot xs) R = R xs := rfl
theorem R_rol {xs : List P} : srcP (.rol xs) R = R xs := rfl
theorem R_str {x : Str} : srcP (.str x) R = R (charsP x) := rfl
theorem Z_lst {xs : List P} : lstP (.lst xs) R = R xs := rfl
theorem Z_rol {xs : List P} : lstP (.rol xs) R = R xs := rfl
theorem X_tup {xs : List P} : tupP (.tup xs) Q = Q (.tup xs) := rfl
theorem X_lst {xs : List P} : tupP (.lst xs) Q = Q (.tup xs) := rfl
theorem X_rol {xs : List P} : tupP (.rol xs) Q = Q (.tup xs) := rfl
variable {Qm : P → P → Prop}
theorem M_app {xs : List P} {v : P} : mutP .append (.lst xs) [v] Qm = (xs.length < sizeLine ∧ Qm .non (.lst (xs ++ [v]))) := rfl
theorem M_ext {xs ys : List P} : mutP .extend (.lst xs) [.lst ys] Qm = (xs.length + ys.length ≤ sizeLine ∧ Qm .non (.lst (xs ++ ys))) := rfl
theorem M_pop {xs : List P} : mutP .pop (.lst xs) [] Qm = ∃ d, xs[xs.length - 1]? = some d ∧ Qm d (.lst xs.dropLast) := rfl
theorem M_popAt {xs : List P} : mutP .popAt (.lst xs) [.int j] Qm = ∃ (k : Nat) (d : P), j = k ∧ (k : Int) < 2 ^ 63 ∧ xs[k]? = some d ∧ Qm d (.lst (xs.eraseIdx k)) := rfl
theorem Y_lst {xs : List P} {v : P} : setP (.lst xs) (.int j) v Q = ∃ k j', (P.int j) = .int k ∧ ixN xs.length k = some j' ∧ Q (.lst (xs.set j' v)) := rfl
theorem k_ret {io : List Nat} {Qr : P → List P → Prop} {v : P} {b : Bool} : vout io false Qr b v ε = ∃ us, ioOut io ε = some us ∧ Qr v us := by simp [vout]
theorem k_retT {io : List Nat} {Qr : P → List P → Prop} {v : P} {b : Bool} : vout io true Qr b v ε = (b = true ∧ ∃ us, ioOut io ε = some us ∧ Qr v us) := by simp [vout]
end
section
variable {V : VSig} {X : VX} {ε : VEv} {Q : P → VEv → Prop} {a b c i e o : ME} {n : Nat} {es : MEs} {op op' : CmpOp}
theorem e_var : vE V (.var n) X ε Q = match vlook ε n with | some v => Q v ε | none => False := rfl
theorem e_cst {d : D} : vE V (.cst d) X ε Q = Q (ofD d) ε := rfl
theorem e_cg : vE V (.cg n) X ε Q = Q (V.cg n) ε := rfl
theorem e_add : vE V (.add a b) X ε Q = vE V a X ε fun x ε1 => vE V b X ε1 fun y ε2 => addP x y fun z => Q z ε2 := rfl
theorem e_sub : vE V (.sub a b) X ε Q = vE V a X ε fun x ε1 => vE V b X ε1 fun y ε2 => subP x y fun z => Q z ε2 := rfl
theorem e_mul : vE V (.mul a b) X ε Q = vE V a X ε fun x ε1 => vE V b X ε1 fun y ε2 => mulP x y fun z => Q z ε2 := rfl
theorem e_fdv : vE V (.fdv a b) X ε Q = vE V a X ε fun x ε1 => vE V b X ε1 fun y ε2 => fdvP x y fun z => Q z ε2 := rfl
theorem e_mod : vE V (.mod a b) X ε Q = vE V a X ε fun x ε1 => vE V b X ε1 fun y ε2 => modP x y fun z => Q z ε2 := rfl
theorem e_pow : vE V (.pow a b) X ε Q = vE V a X ε fun x ε1 => vE V b X ε1 fun y ε2 => powP x y fun z => Q z ε2 := rfl
theorem e_neg : vE V (.neg a) X ε Q = vE V a X ε fun x ε1 => negP x fun z => Q z ε1 := rfl
theorem e_cmp : vE V (.cmp op a b) X ε Q = vE V a X ε fun x ε1 => vE V b X ε1 fun y ε2 => cmpP op x y fun z => Q z ε2 := rfl
theorem e_cmp2 : vE V (.cmp2 op op' a b c) X ε Q = vE V a X ε fun x ε1 => vE V b X ε1 fun y ε2 => cmpP op x y fun r => vtst (fun k ε3 => if k = true then vE V c X ε3 fun z ε4 => cmpP op' y z fun q => Q q ε4 else Q (.bl false) ε3) r ε2 := rfl
theorem e_isN {k : Bool} : vE V (.isN k a) X ε Q = vE V a X ε fun x ε1 => Q (.bl (if k then !isNP x else isNP x)) ε1 := rfl
theorem e_not : vE V (.not a) X ε Q = vE V a X ε (vtst fun k ε1 => Q (.bl (!k)) ε1) := rfl
theorem e_and : vE V (.and a b) X ε Q = vE V a X ε (vtst fun k ε1 => if k = true then vE V b X ε1 Q else Q (.bl false) ε1) := rfl
theorem e_or : vE V (.or a b) X ε Q = vE V a X ε (vtst fun k ε1 => if k = true then Q (.bl true) ε1 else vE V b X ε1 Q) := rfl
theorem e_ite : vE V (.ite c a b) X ε Q = vE V c X ε (vtst fun k ε1 => if k = true then vE V a X ε1 Q else vE V b X ε1 Q) := rfl
theorem e_tup : vE V (.tup es) X ε Q = vEs V es X ε fun vs ε1 => vs.length ≤ sizeLine ∧ Q (.tup vs) ε1 := rfl
theorem e_lst : vE V (.lst es) X ε Q = vEs V es X ε fun vs ε1 => vs.length ≤ sizeLine ∧ Q (.lst vs) ε1 := rfl
theorem e_dic {ks : List Str} : vE V (.dic ks es) X ε Q = vEs V es X ε fun vs ε1 => Q (.dK ((ks.zip vs).map fun p => (.inr p.1, p.2))) ε1 := rfl
theorem e_dicT : vE V .dicT X ε Q = Q (.dT []) ε := rfl
theorem e_idx : vE V (.idx a i) X ε Q = vE V a X ε fun x ε1 => vE V i X ε1 fun y ε2 => idxP x y fun z => Q z ε2 := rfl
theorem e_slc {lo hi : MO} : vE V (.slc a lo hi) X ε Q = vE V a X ε fun x ε1 => vO V lo X ε1 fun l ε2 => vO V hi X ε2 fun h ε3 => slcP x l h fun z => Q z ε3 := rfl
theorem e_xf {f : Str} : vE V (.xf n f) X ε Q = ∃ x v, V.xa = some (n, x) ∧ x.arg = some (f, v) ∧ Q v ε := rfl
theorem e_xis {f : Str} : vE V (.xis n f) X ε Q = ∃ x, V.xa = some (n, x) ∧ Q (.bl (V.sub x.cls f)) ε := rfl
theorem e_blt {b : B1} : vE V (.blt b es) X ε Q = vEs V es X ε fun vs ε1 => bltP b vs fun z => Q z ε1 := rfl
theorem e_app : vE V (.mth .append (.var n) es) X ε Q = ∃ v, vown ε n = some v ∧ (∃ xs, v = .lst xs) ∧ vEs V es X ε fun vs ε1 => stOK V.io .append es vs = true ∧ ∃ u, vown ε1 n = some u ∧ mutP .append u vs fun r w => Q r (ε1.set n (some (w, true))) := rfl
theorem e_ext : vE V (.mth .extend (.var n) es) X ε Q = ∃ v, vown ε n = some v ∧ (∃ xs, v = .lst xs) ∧ vEs V es X ε fun vs ε1 => stOK V.io .extend es vs = true ∧ ∃ u, vown ε1 n = some u ∧ mutP .extend u vs fun r w => Q r (ε1.set n (some (w, true))) := rfl
theorem e_pop : vE V (.mth .pop (.var n) .nil) X ε Q = ∃ v, vown ε n = some v ∧ (∃ xs, v = .lst xs) ∧ true = true ∧ ∃ u, vown ε n = some u ∧ mutP .pop u [] fun r w => Q r (ε.set n (some (w, true))) := rfl
theorem e_popAt : vE V (.mth .popAt (.var n) es) X ε Q = ∃ v, vown ε n = some v ∧ (∃ xs, v = .lst xs) ∧ vEs V es X ε fun vs ε1 => true = true ∧ ∃ u, vown ε1 n = some u ∧ mutP .popAt u vs fun r w => Q r (ε1.set n (some (w, true))) := rfl
theorem e_join {z : D} : vE V (.mth .join (.cst z) es) X ε Q = (M1.join = M1.join ∧ (∃ s, ofD z = .str s) ∧ vEs V es X ε fun vs ε2 => joinP (ofD z) vs fun z => Q z ε2) := rfl
theorem e_un {u : U1} : vE V (.un u a) X ε Q = vE V a X ε fun x ε1 => unP u x fun z => Q z ε1 := rfl
theorem e_lsZ : vE V (.lsZ a b) X ε Q = vE V a X ε fun x ε1 => vE V b X ε1 fun y ε2 => zipP x y fun z => Q z ε2 := rfl
/-- a comprehension's turn -/
def lcB (V : VSig) (e : ME) (tg : MG) (k : MO) (ow : List Nat) (x : P) (ε : VEv) (K : Option P → VEv → Prop) : Prop :=
  pure x = true ∧ ∃ ε2, vasg tg [] x (vwipe ε ow) = some ε2 ∧ vC V k (fun _ => False) ε2 fun k ε3 => iteV k (fun ε3 => vE V e (fun _ => False) ε3 fun v ε4 => K (some v) (vbk ow 0 ε ε4)) (fun ε3 => K none (vbk ow 0 ε ε3)) ε3
theorem lcB_e {tg : MG} {k : MO} {ow : List Nat} {x : P} {K : Option P → VEv → Prop} : lcB V e tg k ow x ε K = (pure x = true ∧ ∃ ε2, vasg tg [] x (vwipe ε ow) = some ε2 ∧ vC V k (fun _ => False) ε2 fun k ε3 => iteV k (fun ε3 => vE V e (fun _ => False) ε3 fun v ε4 => K (some v) (vbk ow 0 ε ε4)) (fun ε3 => K none (vbk ow 0 ε ε3)) ε3) := (rfl)
theorem e_lc {tg : MG} {it : MI} {k : MO} {own : List (Str × Nat)} : vE V (.lc e tg it k own) X ε Q = (xaFree V.xa (own.map (·.2)) = true ∧ vI V it X ε fun xs ε1 => vlcGo (lcB V e tg k (own.map (·.2))) [] xs ε1 fun ys ε5 => Q (.lst ys) ε5) := rfl
end
section
variable {v : P} {xs : List P} {Q : Bool → Prop}
theorem in_tup : inP v (.tup xs) Q = memP v xs Q := by cases v <;> rfl
theorem in_rot : inP v (.rot xs) Q = memP v xs Q := by cases v <;> rfl
theorem in_rol : inP v (.rol xs) Q = memP v xs Q := by cases v <;> rfl
theorem in_lst : inP v (.lst xs) Q = memP v xs Q := by cases v <;> rfl
end
/-! pure things -/
@[simp] theorem pu_int {i : Int} : pure (.int i) = true := (rfl)
@[simp] theorem pu_str {x : Str} : pure (.str x) = true := (rfl)
@[simp] theorem pu_bl {b : Bool} : pure (.bl b) = true := (rfl)
@[simp] theorem pu_non : pure .non = true := (rfl)
@[simp] theorem pu_tup {xs : List P} : pure (.tup xs) = pureL xs := (rfl)
@[simp] theorem pu_rot {xs : List P} : pure (.rot xs) = pureL xs := (rfl)
@[simp] theorem pu_rol {xs : List P} : pure (.rol xs) = pureL xs := (rfl)
@[simp] theorem pu_lst {xs : List P} : pure (.lst xs) = false := (rfl)
@[simp] theorem pu_dK {xs : List (Key × P)} : pure (.dK xs) = false := (rfl)
@[simp] theorem pu_dT {xs : List (List Key × P)} : pure (.dT xs) = false := (rfl)
@[simp] theorem pu_opq : pure .opq = false := (rfl)
@[simp] theorem sp_lst {xs : List P} : spure (.lst xs) = pureL xs := (rfl)
@[simp] theorem sp_opq : spure .opq = false := (rfl)
@[simp] theorem pureL_ints {xs : List Int} : pureL (xs.map P.int) = true := pureL_map fun _ _ => rfl
@[simp] theorem pureL_strs {xs : List Str} : pureL (xs.map P.str) = true := pureL_map fun _ _ => rfl
/-- how what is drawn of is borne: a dict with a list in it -/
def UrnO : Opq where
  rep S d F := ∃ a l, d = .ref a ∧ Urn S a l ∧ ∀ x, F x ↔ (x = a ∨ x = l)
  frame := fun ⟨a, l, h1, h2, h3⟩ hf => by
    refine ⟨a, l, h1, ?_, h3⟩
    obtain ⟨s, t, e1, e2⟩ := h2.ex
    obtain ⟨xs, e3, e4⟩ := h2.deep
    exact ⟨⟨s, t, hf a _ ((h3 a).mpr (.inl rfl)) e1, e2⟩, ⟨xs, hf l _ ((h3 l).mpr (.inr rfl)) e3, e4⟩⟩
  al := fun ⟨a, l, h1, h2, h3⟩ x fx => by
    obtain ⟨s, t, e1, e2⟩ := h2.ex
    obtain ⟨xs, e3, e4⟩ := h2.deep
    rcases (h3 x).mp fx with rfl | rfl
    · rw [e1]; exact fun z => nomatch z
    · rw [e3]; exact fun z => nomatch z
  ref := fun ⟨a, l, h1, _⟩ => ⟨a, h1⟩
  std := fun ⟨a, l, h1, h2, h3⟩ => by
    cases h1
    obtain ⟨s, t, e1, e2⟩ := h2.ex
    rw [e1]; exact fun z => nomatch z
/-- the urn is made -/
def vurn : VFn := fun vs Q X => match vs with
  | [.rol xs] => ∃ ns : List Int, xs = ns.map .int ∧ Q .opq []
  | _ => False
/-- a number is drawn -/
def vtake : VFn := fun vs Q X => match vs with
  | [.opq, .int many] => many < 2 ^ 30 ∧ ∀ k : Int, 0 ≤ k → (k < many ∨ (k = 0 ∧ many < 2)) → Q (.int k) [.opq]
  | _ => False
theorem urn_rep {S : Sto} {F : Fp} {d : D} (h : Rv UrnO S F .opq d) : ∃ a l, d = .ref a ∧ Urn S a l ∧ F a ∧ F l := by
  cases h with
  | opq r s =>
    obtain ⟨a, l, h1, h2, h3⟩ := r
    exact ⟨a, l, h1, h2, s a ((h3 a).mpr (.inl rfl)), s l ((h3 l).mpr (.inr rfl))⟩
theorem rep_urn {S : Sto} {a l : Addr} {F : Fp} (u : Urn S a l) (fa : F a) (fl : F l) : Rv UrnO S F .opq (.ref a) :=
  .opq (G := fun x => x = a ∨ x = l) ⟨a, l, rfl, u, fun _ => Iff.rfl⟩ fun x h => by rcases h with rfl | rfl <;> assumption
theorem take_lift {fr : Bool} {ds : List D} {S : Sto} {Q : QD} {X : QX} (h : lift UrnO [0] fr vtake ds S Q X) : sp_take ds S Q X := by
  obtain ⟨vs, Fs, Qv, Xv, hl, hr, hal, hio, hpu, hv, hq, hx⟩ := h
  unfold vtake at hv
  split at hv
  · rename_i many
    obtain ⟨hm, hk⟩ := hv
    match ds, hl with
    | [d0, d1], _ =>
      obtain ⟨d, e1, r1⟩ := hr 0 _ rfl
      obtain ⟨d', e2, r2⟩ := hr 1 _ rfl
      simp at e1 e2
      subst e1 e2
      cases r2
      obtain ⟨a, l, rfl, u, fa, fl⟩ := urn_rep r1
      refine ⟨l, u, hm, fun S' k t k0 k1 => ?_⟩
      have out : ∀ b o, S b = some o → ¬ Fs 0 b → S' b = some o := fun b o e n => by
        rw [t.o b (fun z => n (z ▸ fa)) (fun z => n (z ▸ fl))]; exact e
      have alo : ∀ b, S b ≠ none → S' b ≠ none := fun b hb => by
        by_cases h1 : b = a
        · obtain ⟨s, tt, e, _⟩ := t.u.ex; rw [h1, e]; exact fun z => nomatch z
        · by_cases h2 : b = l
          · obtain ⟨s, e, _⟩ := t.u.deep; rw [h2, e]; exact fun z => nomatch z
          · rw [t.o b h1 h2]; exact hb
      refine hq _ [.opq] _ S' Fs (fun _ => False) (hk k k0 k1) ⟨rfl, fun j p w hp hw => ?_, fun p b hp z => z, fun p b hp z => .inl z, fun p b hp z => alo b (hal p b z), fun p q b hp hq' ne z1 z2 => (hio p hp).2 q (Ne.symm ne) b z1 z2, fun b o e n => out b o e (n 0 (List.mem_singleton.mpr rfl)), alo, fun j p w hp hw pw b z => ?_, .int k, fun _ z => z.elim, fun _ z => z.elim⟩
      · cases j with
        | zero =>
          simp at hp hw
          subst hp hw
          exact ⟨_, rfl, rep_urn t.u fa fl⟩
        | succ j => simp at hp
      · cases j with
        | zero => simp at hw; subst hw; cases pw
        | succ j => simp at hp
  · exact hv.elim
theorem urn_lift {fr : Bool} {ds : List D} {S : Sto} {Q : QD} {X : QX} (h : lift UrnO [] fr vurn ds S Q X) : sp_urn ds S Q X := by
  obtain ⟨vs, Fs, Qv, Xv, hl, hr, hal, hio, hpu, hv, hq, hx⟩ := h
  unfold vurn at hv
  split at hv
  · obtain ⟨ns, rfl, hk⟩ := hv
    match ds, hl with
    | [d0], _ =>
      obtain ⟨d, e1, r1⟩ := hr 0 _ rfl
      simp at e1
      subst e1
      cases r1 with
      | rol r1 =>
        have : ∀ {ns : List Int} {ds : List D}, RvL UrnO S (Fs 0) (ns.map P.int) ds → ds = ns.map D.int := fun {ns} => by
          induction ns with
          | nil => intro ds r; cases r; rfl
          | cons n ns ih => intro ds r; cases r with | cons a b => cases a; rw [ih b]; rfl
        refine ⟨ns, this r1, fun S' a l na nl t => ?_⟩
        have ext : ∀ b o, S b = some o → S' b = some o := fun b o e => by
          rw [t.o b (fun z => by rw [z, na] at e; cases e) (fun z => by rw [z, nl] at e; cases e)]; exact e
        have std : ∀ b, b = a ∨ b = l → S' b ≠ none := fun b hb => by
          rcases hb with rfl | rfl
          · obtain ⟨s, tt, e, _⟩ := t.u.ex; rw [e]; exact fun z => nomatch z
          · obtain ⟨s, e, _⟩ := t.u.deep; rw [e]; exact fun z => nomatch z
        refine hq _ [] _ S' (fun _ _ => False) (fun x => x = a ∨ x = l) hk ⟨rfl, fun j p w hp => by simp at hp, fun p b hp => (by cases hp), fun p b hp => (by cases hp), fun p b hp => (by cases hp), fun p q b hp => (by cases hp), fun b o e _ => ext b o e, fun b hb => ?_, fun j p w hp => by simp at hp, rep_urn t.u (.inl rfl) (.inr rfl), std, fun b hb => .inl ⟨?_, fun p hp => by cases hp⟩⟩
        · cases e : S b with
          | none => exact absurd e hb
          | some o => rw [ext b o e]; exact fun z => nomatch z
        · rcases hb with rfl | rfl
          · exact na
          · exact nl
  · exact hv.elim
section
variable {xs ys : List P} {Q : P → Prop} {j : Int}
theorem W_rev : unP .rev (.lst xs) Q = (xs.length ≤ sizeLine ∧ Q (.lst xs.reverse)) := rfl
theorem W_lsR : unP .lsR (.int j) Q = ((0 ≤ j ∧ j ≤ 16777216) ∧ Q (.lst ((List.range j.toNat).map fun i : Nat => .int i))) := rfl
theorem W_srtS : unP .srtS (.lst xs) Q = ∃ ns : List Int, xs = ns.map .int ∧ ns.length < 64 ∧ ∀ ns' : List Int, ns'.Pairwise (· < ·) → (∀ k, k ∈ ns' ↔ k ∈ ns) → Q (.lst (ns'.map .int)) := rfl
theorem W_zip : zipP (.lst xs) (.lst ys) Q = (xs.length ≤ sizeLine ∧ Q (.lst ((xs.zip ys).map fun p => .tup [p.1, p.2]))) := rfl
theorem B_sorted : bltP .sorted [.lst xs] Q = (xs.length ≤ sizeLine ∧
  ((∃ ns : List Int, xs = ns.map .int ∧ ∀ ns' : List Int, ns'.Perm ns → ns'.Pairwise (· ≤ ·) → Q (.lst (ns'.map .int))) ∨
    ∃ ps : List (Int × Int), xs = ps.map prP ∧ ∀ ps' : List (Int × Int), ps'.Perm ps → ps'.Pairwise (fun p q => p.1 < q.1 ∨ (p.1 = q.1 ∧ p.2 ≤ q.2)) → Q (.lst (ps'.map prP)))) := rfl
end
end Cay

set_option Elab.async false
set_option linter.all false
set_option maxRecDepth 100000
/-! Cay: what the laws draw. -/
namespace Cay
open PySem PySem.Spec PyProof.Rows L2 Bay
theorem call_0 {V : VSig} {X : VX} {ε : VEv} {Q : P → VEv → Prop} {f : Nat} {es : MEs} (h : V.io f = []) : vE V (.call f es) X ε Q = vEs V es X ε fun vs ε1 => vs.length = V.ar f ∧ V.fn f vs (fun r us => us = [] ∧ Q r ε1) X := by
  show (vEs V es X ε fun vs ε1 => vs.length = V.ar f ∧ ∃ xs vs', ioNames (V.io f) es = some xs ∧ ioFix (V.io f) xs ε1 vs = some vs' ∧ V.fn f vs' (fun r us => ∃ ε2, ioSet xs us ε1 = some ε2 ∧ Q r ε2) X) = _
  congr 1
  funext vs ε1
  rw [h]
  have e : ∀ us r, (∃ ε2, ioSet [] us ε1 = some ε2 ∧ Q r ε2) = (us = [] ∧ Q r ε1) := fun us r => by
    apply propext
    cases us with
    | nil => exact ⟨fun ⟨ε2, h1, h2⟩ => by cases h1; exact ⟨rfl, h2⟩, fun ⟨_, h⟩ => ⟨ε1, rfl, h⟩⟩
    | cons u us => exact ⟨fun ⟨ε2, h1, h2⟩ => (nomatch h1), fun ⟨h, _⟩ => (nomatch h)⟩
  apply propext
  constructor
  · rintro ⟨h1, xs, vs', h2, h3, h4⟩
    cases h2
    cases h3
    simp only [e] at h4
    exact ⟨h1, h4⟩
  · rintro ⟨h1, h4⟩
    refine ⟨h1, [], vs, rfl, rfl, ?_⟩
    simp only [e]
    exact h4
theorem call_1 {V : VSig} {X : VX} {ε : VEv} {Q : P → VEv → Prop} {f x : Nat} {es : MEs} (h : V.io f = [0]) : vE V (.call f (.cons (.var x) es)) X ε Q = vEs V (.cons (.var x) es) X ε fun vs ε1 => vs.length = V.ar f ∧ ∃ v, vown ε1 x = some v ∧ V.fn f (vs.set 0 v) (fun r us => ∃ u, us = [u] ∧ Q r (ε1.set x (some (u, true)))) X := by
  show (vEs V (.cons (.var x) es) X ε fun vs ε1 => vs.length = V.ar f ∧ ∃ xs vs', ioNames (V.io f) (.cons (.var x) es) = some xs ∧ ioFix (V.io f) xs ε1 vs = some vs' ∧ V.fn f vs' (fun r us => ∃ ε2, ioSet xs us ε1 = some ε2 ∧ Q r ε2) X) = _
  congr 1
  funext vs ε1
  rw [h]
  have e : ∀ us r, (∃ ε2, ioSet [x] us ε1 = some ε2 ∧ Q r ε2) = (∃ u, us = [u] ∧ Q r (ε1.set x (some (u, true)))) := fun us r => by
    apply propext
    match us with
    | [] => exact ⟨fun ⟨ε2, h1, h2⟩ => (nomatch h1), fun ⟨u, h, _⟩ => (nomatch h)⟩
    | [u] => exact ⟨fun ⟨ε2, h1, h2⟩ => by cases h1; exact ⟨u, rfl, h2⟩, fun ⟨u, h, q⟩ => by cases h; exact ⟨_, rfl, q⟩⟩
    | u :: w :: us => exact ⟨fun ⟨ε2, h1, h2⟩ => (nomatch h1), fun ⟨u, h, _⟩ => (nomatch h)⟩
  apply propext
  constructor
  · rintro ⟨h1, xs, vs', h2, h3, h4⟩
    cases h2
    refine ⟨h1, ?_⟩
    have h3' : (match vown ε1 x with | some v => some (vs.set 0 v) | none => none) = some vs' := h3
    cases hv : vown ε1 x with
    | none => rw [hv] at h3'; cases h3'
    | some v =>
      rw [hv] at h3'
      cases h3'
      simp only [e] at h4
      exact ⟨v, rfl, h4⟩
  · rintro ⟨h1, v, hv, h4⟩
    refine ⟨h1, [x], vs.set 0 v, rfl, ?_, ?_⟩
    · show (match vown ε1 x with | some v => some (vs.set 0 v) | none => none) = some (vs.set 0 v)
      rw [hv]
    · simp only [e]; exact h4
theorem asg1_p {x : Nat} {r : Bool} {as : List Nat} {v : P} {ε : VEv} (h : pure v = true) : asg1 x r as v ε = ε.set x (some (v, true)) := by
  unfold asg1 sole
  rw [h]; rfl
theorem asg1_s {x : Nat} {as : List Nat} {v : P} {ε : VEv} (h : spure v = true) : asg1 x true as v ε = ε.set x (some (v, true)) := by
  unfold asg1 sole
  rw [h, Bool.true_and, Bool.or_true, Bool.true_or]; rfl
theorem asg1_n {x : Nat} {r : Bool} {v : P} {ε : VEv} : asg1 x r [] v ε = ε.set x (some (v, true)) := by
  unfold asg1 sole live
  rw [List.filter_nil, List.isEmpty_nil, Bool.or_true]; rfl
theorem sole_p {r : Bool} {as : List Nat} {v : P} {ε : VEv} (h : pure v = true) : sole r as v ε = true := by unfold sole; rw [h]; rfl
theorem sole_s {as : List Nat} {v : P} {ε : VEv} (h : spure v = true) : sole true as v ε = true := by unfold sole; rw [h, Bool.true_and, Bool.or_true, Bool.true_or]
theorem sole_n {r : Bool} {v : P} {ε : VEv} : sole r [] v ε = true := by unfold sole live; rw [List.filter_nil, List.isEmpty_nil, Bool.or_true]
theorem asgT_p {is as : List Nat} {vs : List P} {ε : VEv} (h : pureL vs = true) : asgT is as (.tup vs) ε = if is.length = vs.length then some (asgL true is vs ε) else none := by
  unfold asgT unT
  simp only [pu_tup, h, if_true]
theorem asgT_n {is as : List Nat} {vs : List P} {ε : VEv} (h1 : (live ε as).isEmpty = true) (h2 : one1 vs = true) : asgT is as (.tup vs) ε = if is.length = vs.length then some (asgL true is vs ε) else none := by
  unfold asgT unT
  simp only [h1, h2, Bool.and_self, if_true, ite_self]
theorem live_nil {ε : VEv} : live ε [] = [] := (rfl)
theorem demote_nil {ε : VEv} : demote [] ε = ε := (rfl)
theorem asg1_l {x : Nat} {r : Bool} {as : List Nat} {v : P} {ε : VEv} (h : (live ε as).isEmpty = true) : asg1 x r as v ε = ε.set x (some (v, true)) := by
  unfold asg1 sole
  rw [h, Bool.or_true]; rfl
/-- a for over any things -/
theorem for_all {tb : VK → VEv → Prop} {asg : P → VEv → Option VEv} {K : VK} (R : VEv → Prop) : ∀ {xs : List P} {ε : VEv},
    (∀ x ∈ xs, ∀ ε (K' : VK), R ε → K'.rt = K.rt → K'.bk = K.nx → K'.ct = K'.nx → (∀ ε2, R ε2 → K'.nx ε2) → ∃ ε', asg x ε = some ε' ∧ tb K' ε') → R ε → (∀ ε2, R ε2 → K.nx ε2) → vforGo tb asg xs K ε
  | [], ε, _, hr, hk => hk ε hr
  | x :: xs, ε, h, hr, hk => by
    obtain ⟨ε', h1, h2⟩ := h x (List.mem_cons_self ..) ε { nx := vforGo tb asg xs K, rt := K.rt, bk := K.nx, ct := vforGo tb asg xs K } hr rfl rfl rfl fun ε2 h2 => for_all R (fun y hy => h y (List.mem_cons_of_mem _ hy)) h2 hk
    exact ⟨ε', h1, h2⟩
/-! comprehensions -/
theorem lc_map {α : Type} {f : P → VEv → (Option P → VEv → Prop) → Prop} (g : α → P) (p : α → Bool) (h : α → P) {Q : List P → VEv → Prop} {ε : VEv} : ∀ {xs : List α} {acc : List P}, (∀ x ∈ xs, ∀ K : Option P → VEv → Prop, (if p x = true then K (some (h x)) ε else K none ε) → f (g x) ε K) → acc.length + xs.length ≤ sizeLine → Q (acc ++ (xs.filter p).map h) ε → vlcGo f acc (xs.map g) ε Q
  | [], acc, _, _, q => by
    show Q acc ε
    simpa using q
  | x :: xs, acc, hf, hl, q => by
    rw [List.length_cons] at hl
    refine hf x (List.mem_cons_self ..) _ ?_
    have hf' : ∀ y ∈ xs, ∀ K : Option P → VEv → Prop, (if p y = true then K (some (h y)) ε else K none ε) → f (g y) ε K := fun y hy => hf y (List.mem_cons_of_mem _ hy)
    cases hp : p x with
    | true =>
      rw [if_pos rfl]
      refine ⟨by omega, lc_map g p h hf' (by simp; omega) ?_⟩
      rw [List.filter_cons, hp, if_pos rfl, List.map_cons] at q
      simpa using q
    | false =>
      rw [if_neg Bool.false_ne_true]
      refine lc_map g p h hf' (by omega) ?_
      rw [List.filter_cons, hp, if_neg Bool.false_ne_true] at q
      exact q
/-- each item gives one, of some sort; something of the names is kept -/
theorem lc_rel {f : P → VEv → (Option P → VEv → Prop) → Prop} (T : P → Prop) (R : VEv → Prop) {Q : List P → VEv → Prop} : ∀ {xs acc : List P} {ε : VEv}, (∀ x ∈ xs, ∀ (ε : VEv) (K : Option P → VEv → Prop), R ε → (∀ v ε2, T v → R ε2 → K (some v) ε2) → f x ε K) → R ε → acc.length + xs.length ≤ sizeLine → (∀ (ys : List P) (ε2 : VEv), ys.length = xs.length → (∀ y ∈ ys, T y) → R ε2 → Q (acc ++ ys) ε2) → vlcGo f acc xs ε Q
  | [], acc, ε, _, r, _, q => by
    have := q [] ε rfl (fun y hy => by cases hy) r
    rwa [List.append_nil] at this
  | x :: xs, acc, ε, hf, r, hl, q => by
    rw [List.length_cons] at hl
    refine hf x (List.mem_cons_self ..) ε _ r fun v ε2 tv r2 => ⟨by omega, lc_rel T R (fun y hy => hf y (List.mem_cons_of_mem _ hy)) r2 (by simp; omega) fun ys ε3 h1 h2 r3 => ?_⟩
    rw [List.append_assoc]
    exact q (v :: ys) ε3 (by simp [h1]) (fun y hy => (List.mem_cons.mp hy).elim (fun e => e ▸ tv) (h2 y)) r3
/-- each item gives one of some sort, or none -/
theorem lc_any {f : P → VEv → (Option P → VEv → Prop) → Prop} (T : P → Prop) (R : VEv → Prop) {Q : List P → VEv → Prop} : ∀ {xs acc : List P} {ε : VEv}, (∀ x ∈ xs, ∀ (ε : VEv) (K : Option P → VEv → Prop), R ε → (∀ v ε2, T v → R ε2 → K (some v) ε2) → (∀ ε2, R ε2 → K none ε2) → f x ε K) → R ε → acc.length + xs.length ≤ sizeLine → (∀ (ys : List P) (ε2 : VEv), ys.length ≤ xs.length → (∀ y ∈ ys, T y) → R ε2 → Q (acc ++ ys) ε2) → vlcGo f acc xs ε Q
  | [], acc, ε, _, r, _, q => by
    have := q [] ε (Nat.le_refl _) (fun y hy => by cases hy) r
    rwa [List.append_nil] at this
  | x :: xs, acc, ε, hf, r, hl, q => by
    rw [List.length_cons] at hl
    refine hf x (List.mem_cons_self ..) ε _ r (fun v ε2 tv r2 => ⟨by omega, lc_any T R (fun y hy => hf y (List.mem_cons_of_mem _ hy)) r2 (by simp; omega) fun ys ε3 h1 h2 r3 => ?_⟩) fun ε2 r2 => lc_any T R (fun y hy => hf y (List.mem_cons_of_mem _ hy)) r2 (by omega) fun ys ε3 h1 h2 r3 => q ys ε3 (by rw [List.length_cons]; omega) h2 r3
    rw [List.append_assoc]
    exact q (v :: ys) ε3 (by simp; omega) (fun y hy => (List.mem_cons.mp hy).elim (fun e => e ▸ tv) (h2 y)) r3
/-- a for, by its turns -/
theorem for_ind {α σ : Type} {tb : VK → VEv → Prop} {asg : P → VEv → Option VEv} {K : VK} (f : α → P) (R : σ → VEv → Prop) (g : σ → α → σ) : ∀ {xs : List α} {s : σ} {ε : VEv},
    (∀ x ∈ xs, ∀ s ε (K' : VK), R s ε → K'.rt = K.rt → K'.bk = K.nx → K'.ct = K'.nx → (∀ ε2, R (g s x) ε2 → K'.nx ε2) → ∃ ε', asg (f x) ε = some ε' ∧ tb K' ε') → R s ε → (∀ ε2, R (xs.foldl g s) ε2 → K.nx ε2) → vforGo tb asg (xs.map f) K ε
  | [], s, ε, _, hr, hk => hk ε hr
  | x :: xs, s, ε, ht, hr, hk => by
    obtain ⟨ε', h1, h2⟩ := ht x (List.mem_cons_self ..) s ε { nx := vforGo tb asg (xs.map f) K, rt := K.rt, bk := K.nx, ct := vforGo tb asg (xs.map f) K } hr rfl rfl rfl fun ε2 h2 => for_ind f R g (fun y hy => ht y (List.mem_cons_of_mem _ hy)) h2 hk
    exact ⟨ε', h1, h2⟩
/-- a for that keeps something -/
theorem for_inv {α : Type} {tb : VK → VEv → Prop} {asg : P → VEv → Option VEv} {K : VK} (f : α → P) (R : VEv → Prop) {xs : List α} {ε : VEv}
    (h : ∀ x ∈ xs, ∀ ε (K' : VK), R ε → K'.rt = K.rt → K'.bk = K.nx → K'.ct = K'.nx → (∀ ε2, R ε2 → K'.nx ε2) → ∃ ε', asg (f x) ε = some ε' ∧ tb K' ε') (hr : R ε) (hk : ∀ ε2, R ε2 → K.nx ε2) : vforGo tb asg (xs.map f) K ε :=
  for_ind (σ := Unit) f (fun _ => R) (fun _ _ => ()) (s := ()) (fun x hx _ ε K' a b c d e => h x hx ε K' a b c d e) hr hk
/-- a while, by what holds and what falls -/
theorem whl_ind {V : VSig} {X : VX} {K : VK} {c : ME} {b : MS} (R : Nat → VEv → Prop) {m : Nat} {ε : VEv}
    (h : ∀ m ε (K' : VK), R m ε → K'.rt = K.rt → K'.bk = K.nx → K'.ct = K'.nx → (∀ m' ε2, m' < m → R m' ε2 → K'.nx ε2) → vE V c X ε (vtst fun k ε1 => iteV k (vS b V X K') K.nx ε1)) (hr : R m ε) : vS (.whl c b) V X K ε := by
  refine ⟨m + 1, ?_⟩
  have go : ∀ n m ε, m < n → R m ε → vwhGo (fun ε Q => vE V c X ε (vtst Q)) (vS b V X) n K ε := by
    intro n
    induction n with
    | zero => intro m ε hm; omega
    | succ n ih =>
      intro m ε hm hr
      exact h m ε { nx := vwhGo (fun ε Q => vE V c X ε (vtst Q)) (vS b V X) n K, rt := K.rt, bk := K.nx, ct := vwhGo (fun ε Q => vE V c X ε (vtst Q)) (vS b V X) n K } hr rfl rfl rfl fun m' ε2 hl h2 => ih m' ε2 (by omega) h2
  exact go (m + 1) m ε (Nat.lt_succ_self _) hr
theorem le_refl_iff {n : Nat} : (n ≤ n) = True := eq_true (Nat.le_refl n)
theorem vtake_e {m : Int} {Q : P → List P → Prop} {X : VX} : vtake [.opq, .int m] Q X = (m < 2 ^ 30 ∧ ∀ k : Int, 0 ≤ k → (k < m ∨ (k = 0 ∧ m < 2)) → Q (.int k) [.opq]) := rfl
local macro_rules | `(tactic| walk_at "v") => `(tactic| simp only [V_skip, V_seq, V_set, V_setTt, V_setTc, V_setTi, V_setTv, V_setTs, V_par, V_sub, V_expr, V_ret, V_retN, V_ite, V_for, V_rais1, V_rais0, V_brk, V_cont, T_bl, iteV_t, iteV_f, e_var, e_cst, e_cg, e_add, e_sub, e_mul, e_fdv, e_mod, e_pow, e_neg, e_cmp, e_cmp2, e_isN, e_not, e_and, e_or, e_ite, e_tup, e_lst, e_dic, e_dicT, e_idx, e_slc, e_xf, e_xis, e_blt, e_app, e_ext, e_pop, e_popAt, e_join, e_lc, e_un, e_lsZ, W_rev, W_lsR, W_zip, vEs, vO, vC, vI, vlook, vown, vent, k_ret, k_retT, frOK, frEs, ownV, Option.isSome_some, ioOut, ofD, List.zipIdx_cons, List.zipIdx_nil, List.map_cons, List.map_nil, List.length_cons, List.length_nil, List.cons_append, List.nil_append, List.replicate, List.getElem?_cons_zero, List.getElem?_cons_succ, List.getElem?_nil, List.set_cons_zero, List.set_cons_succ, B_len, B_abs, B_int, B_intB, B_list, B_tuple, B_str, B_isStr, B_isTup, B_isInt, B_isBool, L_tup, L_rot, L_rol, L_lst, L_str, C_lt, C_le, C_gt, C_ge, C_eq, C_ne, C_in, C_nin, E_ii, E_ss, E_bb, E_nn, E_ni, E_in, E_ns, E_sn, A_int, A_str, A_tup, A_lst, U_int, M_int, M_tup, B_sorted, F_int, O_int, P_int, N_int, I_tup, I_lst, I_rot, I_rol, I_str, S_tup, S_lst, S_rol, S_str, Q_tup, Q_lst, Q_rot, Q_rol, R_tup, R_lst, R_rot, R_rol, R_str, Z_lst, Z_rol, X_tup, X_lst, X_rol, M_app, M_ext, M_pop, M_popAt,
  List.contains_cons, List.contains_nil, beq_self_eq_true, Bool.true_or, Bool.or_true, Bool.false_or, Bool.or_false, Bool.true_and, Bool.and_true, Bool.not_true, Bool.not_false, Nat.reduceAdd, Nat.reduceSub, Nat.reduceBEq, Nat.reduceLT, pu_int, pu_str, pu_bl, pu_non, pu_tup, pu_rot, pu_rol, pu_lst, pu_dK, pu_dT, pu_opq, sp_lst, sp_opq, pureL_ints, pureL_strs, pureL_nil, pureL_cons, pureL_app,
  asg1_p, asg1_s, asg1_n, sole_p, sole_s, sole_n, asgT_p, asgL, parOK, rf, al, als, alI, keepsB, List.append_nil, if_true, if_false, Bool.false_eq_true, reduceIte, true_and, and_true, exists_eq_left, exists_eq_left', Option.some.injEq, List.cons.injEq, vtake_e, xaFree, isMut, vasgF, forall_const, vwipe, vbk, vasg, stOK, soleI, live_nil, demote_nil, forE_t, forE_f, live_cons, demote_cons, lv_s, lv_n, dm_s, dm_n, cond_true, cond_false, Bool.and_false, Bool.false_and, ite_self, P.lst.injEq, P.str.injEq, exists_eq', isKindP, isNP, decide_true, decide_false, in_tup, in_rot, in_rol, in_lst, sizeLine_eq, Nat.reduceLeDiff, Nat.zero_le, le_refl_iff])
def vpick : VFn := fun vs Q X => match vs with
  | [.opq, c] => ∃ xs, (c = .lst xs ∨ c = .tup xs ∨ c = .rot xs) ∧ xs ≠ [] ∧ xs.length < 2 ^ 30 ∧ ∀ d, d ∈ xs → Q d [.opq]
  | _ => False
theorem at_in {xs : List P} {k : Int} (h0 : 0 ≤ k) (h1 : k < xs.length) : ∃ d, atI xs k = some d ∧ d ∈ xs := by
  obtain ⟨n, rfl⟩ := Int.eq_ofNat_of_zero_le h0
  have hn : n < xs.length := by omega
  exact ⟨xs[n], atI_nat (List.getElem?_eq_getElem hn), List.getElem_mem hn⟩
section
variable {V : VSig} {n : Nat}
theorem cv_pick (hT : V.fn n = vtake) (hA : V.ar n = 2) (hI : V.io n = [0]) : ∀ vs Q X, vpick vs Q X → vs.length = 2 → vD (bPick n) V [0] false 2 vs Q X := by
  intro vs Q X h hl
  match vs, hl with
  | [.opq, c], _ =>
    obtain ⟨xs, hc, hne, hlen, hq⟩ := h
    have hp : 0 < xs.length := List.length_pos_iff.mpr hne
    have go : ∀ k : Int, 0 ≤ k → (k < (xs.length : Int) ∨ k = 0 ∧ (xs.length : Int) < 2) → ∃ d, atI xs k = some d ∧ Q d [.opq] := fun k h0 h1 => by
      obtain ⟨d, e1, e2⟩ := at_in (xs := xs) h0 (by omega)
      exact ⟨d, e1, hq d e2⟩
    unfold vD bPick
    rcases hc with rfl | rfl | rfl
    all_goals
      walk_at "v"
      simp only [call_1 hI, hT, hA]
      walk_at "v"
      exact ⟨by omega, go⟩
theorem eq_nilP {xs : List P} {ts : List PyData} {Q : Bool → Prop} (h : toTL xs = some ts) (hs : SeqAt.shaped (.list ts) = true) (q : Q xs.isEmpty) : eqP (.lst xs) (.lst []) Q := by
  have e : toT (.lst xs) = some (.list ts) := by rw [toT, h]; rfl
  refine ⟨.list ts, .list [], e, rfl, hs, by decide, ?_⟩
  cases xs with
  | nil => cases h; exact q
  | cons x xs =>
    cases ts with
    | nil =>
      rw [toTL] at h
      split at h <;> cases h
    | cons _ _ => exact q
/-- what may be compared -/
def Sh (v : P) : Prop := ∃ t, toT v = some t ∧ t.canLay0 = true ∧ t.depth ≤ 60
theorem Sh.list : ∀ {xs : List P}, (∀ x ∈ xs, Sh x) → ∃ ts, toTL xs = some ts ∧ PyData.canLayAll0 ts = true ∧ PyData.depthAll ts ≤ 60
  | [], _ => ⟨[], rfl, rfl, Nat.zero_le _⟩
  | x :: xs, h => by
    obtain ⟨t, a1, a2, a3⟩ := h x (List.mem_cons_self ..)
    obtain ⟨ts, b1, b2, b3⟩ := Sh.list fun y hy => h y (List.mem_cons_of_mem _ hy)
    refine ⟨t :: ts, by rw [toTL, a1, b1], ?_, ?_⟩
    · show (PyData.canLay0 t && PyData.canLayAll0 ts) = true
      rw [a2, b2]; rfl
    · show max (PyData.depth t) (PyData.depthAll ts) ≤ 60
      omega
def vmixed : VFn := fun vs Q X => match vs with
  | [.opq, c] => ∃ xs, (c = .lst xs ∨ c = .tup xs ∨ c = .rot xs) ∧ pureL xs = true ∧ (∀ x ∈ xs, Sh x) ∧ xs.length < 2 ^ 20 ∧ ∀ ys, ys.Perm xs → Q (.lst ys) [.opq]
  | _ => False
theorem take_out {α : Type} {zs : List α} {j : Nat} (hj : j < zs.length) : ([zs[j]] ++ zs.eraseIdx j).Perm zs := Bay.take_out hj
theorem cv_mixed (hT : V.fn n = vtake) (hA : V.ar n = 2) (hI : V.io n = [0]) : ∀ vs Q X, vmixed vs Q X → vs.length = 2 → vD (bMixed n) V [0] false 4 vs Q X := by
  intro vs Q X h hl
  match vs, hl with
  | [.opq, c], _ =>
    obtain ⟨xs, hc, hpu, hsh, hlen, hq⟩ := h
    unfold vD bMixed
    have turns : ∀ f : Bool, vS (.whl (.cmp .NotEq (.var 2) (.lst .nil)) (.seq (.expr (.mth .append (.var 3) (.cons (.mth .popAt (.var 2) (.cons (.call n (.cons (.var 0) (.cons (.blt .len (.cons (.var 2) .nil)) .nil))) .nil)) .nil))) .skip)) V X { nx := vS (.seq (.ret (.var 3)) .skip) V X { nx := vout [0] false Q true .non, rt := vout [0] false Q }, rt := vout [0] false Q } [some (.opq, true), some (c, f), some (.lst xs, true), some (.lst [], true)] := fun f => by
      refine whl_ind (R := fun m ε => ∃ zs ys, zs.length = m ∧ (ys ++ zs).Perm xs ∧ ε = [some (.opq, true), some (c, f), some (.lst zs, true), some (.lst ys, true)]) (m := xs.length) ?_ ⟨xs, [], rfl, by simp, rfl⟩
      rintro m ε K' ⟨zs, ys, hm, hp, rfl⟩ hrt hbk hct hn
      have hz : ∀ x ∈ zs, Sh x := fun x hx => hsh x (hp.subset (List.mem_append_right _ hx))
      have hzp : pureL zs = true := pureL_sub hpu fun y hy => hp.subset (List.mem_append_right _ hy)
      obtain ⟨ts, t1, t2, t3⟩ := Sh.list hz
      have hlen' := hp.length_eq
      rw [List.length_append] at hlen'
      walk_at "v"
      refine eq_nilP t1 (Pur.shp t2 t3) ?_
      cases zs with
      | nil =>
        rw [List.append_nil] at hp
        simp only [List.isEmpty_nil, Bool.not_true]
        walk_at "v"
        exact hq _ hp
      | cons z zs =>
        simp only [List.isEmpty_cons, Bool.not_false]
        walk_at "v"
        simp only [call_1 hI, hT, hA]
        walk_at "v"
        simp only [List.length_cons] at hm hlen'
        refine ⟨by omega, fun k h0 h1 => ?_⟩
        obtain ⟨j, rfl⟩ := Int.eq_ofNat_of_zero_le h0
        have hj : j < (z :: zs).length := by simp only [List.length_cons]; omega
        have hd : pure (z :: zs)[j] = true := pureL_iff.mp hzp _ (List.getElem_mem hj)
        refine ⟨j, (z :: zs)[j], rfl, by omega, List.getElem?_eq_getElem hj, by rw [hd]; rfl, by omega, hn zs.length _ (by omega) ⟨_, _, ?_, ?_, rfl⟩⟩
        · rw [List.length_eraseIdx, if_pos hj]; simp
        · refine List.Perm.trans ?_ hp
          rw [List.append_assoc]
          exact List.Perm.append_left ys (take_out hj)
    rcases hc with rfl | rfl | rfl
    all_goals
      walk_at "v"
      simp only [sole_s (v := P.lst xs) hpu]
      exact ⟨by rw [← sizeLine_eq]; show xs.length ≤ 16777216; omega, trivial, turns _⟩
theorem cut_to {xs : List P} (k : Nat) : cutL xs none (some (k : Int)) = xs.take k := Bay.cut_to xs k
theorem sh_str {x : Str} (h : PyData.strOk x = true) : Sh (.str x) := ⟨.str x, rfl, h, Nat.zero_le _⟩
theorem sh_int (i : Int) : Sh (.int i) := ⟨.int i, rfl, rfl, Nat.zero_le _⟩
theorem vEs_of {X : VX} {ε : VEv} : ∀ {xs : List Str} {Q : List P → VEv → Prop}, vEs V (esOf xs) X ε Q = Q (xs.map .str) ε
  | [], Q => rfl
  | x :: xs, Q => by
    show (vEs V (esOf xs) X ε fun vs ε2 => Q (.str x :: vs) ε2) = _
    rw [vEs_of]; rfl
theorem al_of {io : IO} : ∀ {xs : List Str} {k : Nat}, als io [] k (esOf xs) = []
  | [], _ => rfl
  | x :: xs, k => by
    show (if ([] : List Nat).contains k then [] else []) ++ als io [] (k + 1) (esOf xs) = []
    rw [al_of]; simp
/-- so many unlike names of the pool -/
def vnames : VFn := fun vs Q X => match vs with
  | [.opq, .int k] => ∃ m : Nat, k = m ∧ ∀ ns : List Str, ns.length = min m 28 → ns.Nodup → (∀ x ∈ ns, x ∈ pool1 ++ pool2) → Q (.lst (ns.map .str)) [.opq]
  | _ => False
theorem pool_nodup : (pool1 ++ pool2).Nodup := by decide +kernel
theorem perm_strs {ys : List P} : ∀ {ns : List Str}, ys.Perm (ns.map .str) → ∃ ms : List Str, ys = ms.map .str ∧ ms.Perm ns := fun {ns} h => by
  have : ∀ y ∈ ys, ∃ x ∈ ns, y = .str x := fun y hy => by
    obtain ⟨x, hx, rfl⟩ := List.mem_map.mp (h.subset hy)
    exact ⟨x, hx, rfl⟩
  let un : P → Str := fun v => match v with | .str x => x | _ => ""
  have e : (ys.map un).map .str = ys := by
    rw [List.map_map]
    conv => rhs; rw [← List.map_id ys]
    apply List.map_congr_left
    intro y hy
    obtain ⟨x, _, rfl⟩ := this y hy
    rfl
  refine ⟨ys.map un, e.symm, ?_⟩
  have := h.map un
  rw [List.map_map] at this
  have e2 : (ns.map (un ∘ P.str)) = ns := by
    conv => rhs; rw [← List.map_id ns]
    apply List.map_congr_left; intro x _; rfl
  rwa [e2] at this
theorem cv_names (hT : V.fn n = vmixed) (hA : V.ar n = 2) (hI : V.io n = [0]) : ∀ vs Q X, vnames vs Q X → vs.length = 2 → vD (bNames n) V [0] false 3 vs Q X := by
  intro vs Q X h hl
  match vs, hl with
  | [.opq, .int k], _ =>
    obtain ⟨m, rfl, hq⟩ := h
    unfold vD bNames
    walk_at "v"
    simp only [vEs_of, al_of]
    walk_at "v"
    refine ⟨by decide, by decide, by decide, ?_⟩
    simp only [call_1 hI, hT, hA]
    walk_at "v"
    refine ⟨pool1.map .str ++ pool2.map .str, .inl rfl, by simp, fun x hx => ?_, by decide, fun ys hy => ?_⟩
    · rw [← List.map_append] at hx
      obtain ⟨s, hs, rfl⟩ := List.mem_map.mp hx
      have := List.all_eq_true.mp pool_ok s hs
      exact sh_str (and2 this).1
    · rw [← List.map_append] at hy
      obtain ⟨ns, rfl, hp⟩ := perm_strs hy
      have hl : ns.length = 28 := by rw [hp.length_eq]; decide
      walk_at "v"
      rw [cut_to, ← List.map_take]
      refine ⟨by rw [List.length_map, List.length_take]; omega, hq _ (by rw [List.length_take]; omega) ?_ fun x hx => hp.subset (List.mem_of_mem_take hx)⟩
      exact List.Nodup.sublist (List.take_sublist _ _) ((hp.nodup_iff).mpr pool_nodup)
end
theorem vpick_l {xs : List P} {Q : P → List P → Prop} {X : VX} (h1 : xs ≠ []) (h2 : xs.length < 2 ^ 30) (h : ∀ d, d ∈ xs → Q d [.opq]) : vpick [.opq, .lst xs] Q X := ⟨xs, .inl rfl, h1, h2, h⟩
theorem vpick_t {xs : List P} {Q : P → List P → Prop} {X : VX} (h1 : xs ≠ []) (h2 : xs.length < 2 ^ 30) (h : ∀ d, d ∈ xs → Q d [.opq]) : vpick [.opq, .tup xs] Q X := ⟨xs, .inr (.inl rfl), h1, h2, h⟩
/-- one of some texts -/
theorem pick_strs {p : Str → Bool} {Q : P → List P → Prop} {X : VX} (L : List Str) (hl : (!L.isEmpty && decide (L.length < 1000) && L.all p) = true) (h : ∀ x, p x = true → Q (.str x) [.opq]) : vpick [.opq, .lst (L.map .str)] Q X := by
  obtain ⟨h1, h2, h3⟩ := and3 hl
  refine vpick_l (fun z => ?_) (by rw [List.length_map]; have := of_decide_eq_true h2; omega) fun d hd => ?_
  · rw [List.map_eq_nil_iff] at z; subst z; cases h1
  · obtain ⟨x, hx, rfl⟩ := List.mem_map.mp hd
    exact h x (List.all_eq_true.mp h3 x hx)
theorem pick_ints {Q : P → List P → Prop} {X : VX} {lo hi : Int} (L : List Int) (hl : (!L.isEmpty && decide (L.length < 1000) && L.all fun x => decide (lo ≤ x) && decide (x ≤ hi)) = true) (h : ∀ x, lo ≤ x → x ≤ hi → Q (.int x) [.opq]) : vpick [.opq, .lst (L.map .int)] Q X := by
  obtain ⟨h1, h2, h3⟩ := and3 hl
  refine vpick_l (fun z => ?_) (by rw [List.length_map]; have := of_decide_eq_true h2; omega) fun d hd => ?_
  · rw [List.map_eq_nil_iff] at z; subst z; cases h1
  · obtain ⟨x, hx, rfl⟩ := List.mem_map.mp hd
    obtain ⟨a, b⟩ := and2 (List.all_eq_true.mp h3 x hx)
    exact h x (of_decide_eq_true a) (of_decide_eq_true b)
end Cay

set_option Elab.async false
set_option linter.all false
set_option maxRecDepth 100000
/-! Cay: what is shown, compared. -/
namespace Cay
open PySem PySem.Spec PyProof.Rows L2 Bay
/-- a thing that may be shown and compared: its tree, its weight, its depth -/
structure Sw (w dp : Nat) (v : P) (t : PyData) : Prop where
  eq : toT v = some t
  sh : t.showable = true
  lay : t.canLay0 = true
  dep : t.depth ≤ dp
  lv : t.leavesShort 13 = true
  wt : t.weight ≤ w
structure SwL (w dp : Nat) (vs : List P) (ts : List PyData) : Prop where
  eq : toTL vs = some ts
  sh : PyData.showableAll ts = true
  lay : PyData.canLayAll0 ts = true
  dep : PyData.depthAll ts ≤ dp
  lv : PyData.leavesShortAll 13 ts = true
  wt : PyData.weightAll ts ≤ w
def Swx (w dp : Nat) (v : P) : Prop := ∃ t, Sw w dp v t
theorem Swx.mono {w w' dp dp' : Nat} {v : P} (h : Swx w dp v) (hw : w ≤ w') (hd : dp ≤ dp') : Swx w' dp' v := let ⟨t, a⟩ := h; ⟨t, ⟨a.eq, a.sh, a.lay, Nat.le_trans a.dep hd, a.lv, Nat.le_trans a.wt hw⟩⟩
theorem Swx.sh {w dp : Nat} {v : P} (h : Swx w dp v) (hd : dp ≤ 60) : Sh v := let ⟨t, a⟩ := h; ⟨t, a.eq, a.lay, Nat.le_trans a.dep hd⟩
theorem sw_non : Swx 0 0 .non := ⟨.none, rfl, rfl, rfl, Nat.le_refl _, rfl, Nat.le_refl _⟩
theorem sw_bl {b : Bool} : Swx 0 0 (.bl b) := ⟨.bool b, rfl, rfl, rfl, Nat.le_refl _, rfl, Nat.le_refl _⟩
theorem sw_int {i : Int} (h : i.natAbs < 1000000000000) : Swx 40 0 (.int i) := by
  have h2 : i.natAbs.log2 < 40 := by
    by_cases z : i.natAbs = 0
    · rw [z]; decide
    · exact (Nat.log2_lt z).mpr (Nat.lt_of_lt_of_le h (by decide))
  refine ⟨.int i, rfl, ?_, rfl, Nat.le_refl _, ?_, ?_⟩
  · show decide (i.natAbs.log2 < 1920) = true
    exact decide_eq_true (by omega)
  · show decide ((PyData.shown (.int i)).length ≤ 13) = true
    exact decide_eq_true (PyData.shown_int_le (by omega))
  · show (if i == 0 then 0 else i.natAbs.log2 + 1) ≤ 40
    split <;> omega
theorem sw_str {x : Str} {w : Nat} (h : PyData.strOk x = true) (hw : x.length ≤ w) : Swx w 0 (.str x) := by
  refine ⟨.str x, rfl, rfl, h, Nat.le_refl _, ?_, hw⟩
  show (x.cps.toList.all fun c => decide (c < 16 ^ 8)) = true
  rw [List.all_eq_true]
  intro c hc
  unfold PyData.strOk at h
  rw [Array.all_eq_true'] at h
  have := h c (by simpa using hc)
  have h3 : c < 0x110000 := by simpa using this
  exact decide_eq_true (by omega)
theorem SwL.nil {w dp : Nat} : SwL w dp [] [] := ⟨rfl, rfl, rfl, Nat.zero_le _, rfl, Nat.zero_le _⟩
theorem SwL.cons {w w' dp : Nat} {v : P} {vs : List P} {t : PyData} {ts : List PyData} (a : Sw w dp v t) (b : SwL w' dp vs ts) : SwL (w + 1 + w') dp (v :: vs) (t :: ts) := by
  refine ⟨by rw [toTL, a.eq, b.eq], ?_, ?_, ?_, ?_, ?_⟩
  · show (t.showable && PyData.showableAll ts) = true
    rw [a.sh, b.sh]; rfl
  · show (t.canLay0 && PyData.canLayAll0 ts) = true
    rw [a.lay, b.lay]; rfl
  · show max t.depth (PyData.depthAll ts) ≤ dp
    have := a.dep; have := b.dep; omega
  · show (t.leavesShort 13 && PyData.leavesShortAll 13 ts) = true
    rw [a.lv, b.lv]; rfl
  · show t.weight + 1 + PyData.weightAll ts ≤ _
    have := a.wt; have := b.wt; omega
theorem SwL.tup {w dp : Nat} {vs : List P} {ts : List PyData} (a : SwL w dp vs ts) : Sw w (dp + 1) (.tup vs) (.tuple ts) :=
  ⟨by rw [toT, a.eq]; rfl, a.sh, a.lay, by show PyData.depthAll ts + 1 ≤ _; have := a.dep; omega, a.lv, a.wt⟩
theorem SwL.lst {w dp : Nat} {vs : List P} {ts : List PyData} (a : SwL w dp vs ts) : Sw w (dp + 1) (.lst vs) (.list ts) :=
  ⟨by rw [toT, a.eq]; rfl, a.sh, a.lay, by show PyData.depthAll ts + 1 ≤ _; have := a.dep; omega, a.lv, a.wt⟩
/-- a row of things of one sort -/
theorem swl_of {w dp n : Nat} : ∀ {vs : List P}, (∀ v ∈ vs, Swx w dp v) → vs.length ≤ n → ∃ ts, SwL ((w + 1) * n) dp vs ts
  | [], _, _ => ⟨[], rfl, rfl, rfl, Nat.zero_le _, rfl, Nat.zero_le _⟩
  | v :: vs, h, hl => by
    rw [List.length_cons] at hl
    obtain ⟨t, ht⟩ := h v (List.mem_cons_self ..)
    obtain ⟨ts, hts⟩ := swl_of (w := w) (dp := dp) (n := vs.length) (fun u hu => h u (List.mem_cons_of_mem _ hu)) (Nat.le_refl _)
    have := SwL.cons ht hts
    refine ⟨_, this.eq, this.sh, this.lay, this.dep, this.lv, Nat.le_trans this.wt ?_⟩
    have e : (w + 1) * (vs.length + 1) ≤ (w + 1) * n := Nat.mul_le_mul_left _ hl
    rw [Nat.mul_add, Nat.mul_one] at e
    omega
theorem sw_tupN {w dp n : Nat} {vs : List P} (h : ∀ v ∈ vs, Swx w dp v) (hl : vs.length ≤ n) : Swx ((w + 1) * n) (dp + 1) (.tup vs) := let ⟨_, a⟩ := swl_of h hl; ⟨_, a.tup⟩
theorem sw_lstN {w dp n : Nat} {vs : List P} (h : ∀ v ∈ vs, Swx w dp v) (hl : vs.length ≤ n) : Swx ((w + 1) * n) (dp + 1) (.lst vs) := let ⟨_, a⟩ := swl_of h hl; ⟨_, a.lst⟩
theorem sw_l1 {w dp : Nat} {a : P} (ha : Swx w dp a) : Swx (w + 1) (dp + 1) (.lst [a]) := let ⟨_, x⟩ := ha; ⟨_, (SwL.cons x (SwL.nil (w := 0))).lst⟩
theorem sw_l2 {w w' dp : Nat} {a b : P} (ha : Swx w dp a) (hb : Swx w' dp b) : Swx (w + 1 + (w' + 1)) (dp + 1) (.lst [a, b]) := let ⟨_, x⟩ := ha; let ⟨_, y⟩ := hb; ⟨_, (SwL.cons x (SwL.cons y (SwL.nil (w := 0)))).lst⟩
theorem sw_t1 {w dp : Nat} {a : P} (ha : Swx w dp a) : Swx (w + 1) (dp + 1) (.tup [a]) := let ⟨_, x⟩ := ha; ⟨_, (SwL.cons x (SwL.nil (w := 0))).tup⟩
theorem sw_t2 {w w' dp : Nat} {a b : P} (ha : Swx w dp a) (hb : Swx w' dp b) : Swx (w + 1 + (w' + 1)) (dp + 1) (.tup [a, b]) := let ⟨_, x⟩ := ha; let ⟨_, y⟩ := hb; ⟨_, (SwL.cons x (SwL.cons y (SwL.nil (w := 0)))).tup⟩
theorem sw_t3 {w w' w2 dp : Nat} {a b c : P} (ha : Swx w dp a) (hb : Swx w' dp b) (hc : Swx w2 dp c) : Swx (w + 1 + (w' + 1 + (w2 + 1))) (dp + 1) (.tup [a, b, c]) := let ⟨_, x⟩ := ha; let ⟨_, y⟩ := hb; let ⟨_, z⟩ := hc; ⟨_, (SwL.cons x (SwL.cons y (SwL.cons z (SwL.nil (w := 0))))).tup⟩
/-- what a thing is shown as -/
def shw (v : P) : Str := match toT v with
  | some t => t.shown
  | none => ""
theorem repr_ok {w dp : Nat} {v : P} {Q : P → Prop} (h : Swx w dp v) (hw : 15 * w + 13 ≤ 16777216) (hd : dp ≤ 60) (q : Q (.str (shw v))) : bltP .repr [v] Q := by
  obtain ⟨t, a⟩ := h
  have e : shw v = t.shown := by unfold shw; rw [a.eq]
  rw [e] at q
  refine ⟨t, a.eq, a.sh, Nat.le_trans a.dep hd, ?_, q⟩
  have h1 := PyData.shown_le 13 (by decide) t a.lv
  have h2 := a.wt
  have : t.shown.length ≤ 16777216 := by omega
  exact this
/-- two showings of one thing -/
theorem repr_same {V : VSig} {X : VX} {ε : VEv} {w dp : Nat} {v : P} {Q : P → Prop} (h : Swx w dp v) (hw : 15 * w + 13 ≤ 16777216) (hd : dp ≤ 60) (q : Q (.bl true)) : bltP .repr [v] fun x => bltP .repr [v] fun y => eqP x y fun b => Q (.bl b) := by
  refine repr_ok h hw hd (repr_ok h hw hd ?_)
  show Q (.bl (decide (shw v = shw v)))
  rw [decide_eq_true rfl]; exact q
end Cay

set_option Elab.async false
set_option linter.all false
set_option maxRecDepth 100000
/-! Cay: calls by what is known of a def's number, whatever the law. -/
namespace Cay
open PySem PySem.Spec PyProof.Rows L2 Bay
/-- the def of a number: its promise, how many arguments, which it changes, whether what it gives shares with nothing -/
class Has (V : VSig) (f : Nat) (sp : outParam VFn) (ar : outParam Nat) (io : outParam (List Nat)) (fr : outParam Bool) : Prop where
  fn : V.fn f = sp
  ar : V.ar f = ar
  io : V.io f = io
  fr : V.io.fr f = fr
class NoXa (V : VSig) : Prop where
  no : V.xa = none
theorem xaN {V : VSig} [h : NoXa V] : V.xa = none := h.no
section
variable {V : VSig} {X : VX} {ε : VEv} {Q : P → VEv → Prop} {f x ar : Nat} {es : MEs} {sp : VFn} {fr : Bool} {io pm : List Nat}
theorem cH0 [h : Has V f sp ar [] fr] : vE V (.call f es) X ε Q = vEs V es X ε fun vs ε1 => vs.length = ar ∧ sp vs (fun r us => us = [] ∧ Q r ε1) X := by
  simp only [call_0 h.io, h.ar, h.fn]
theorem cH1 [h : Has V f sp ar [0] fr] : vE V (.call f (.cons (.var x) es)) X ε Q = vEs V (.cons (.var x) es) X ε fun vs ε1 => vs.length = ar ∧ ∃ v, vown ε1 x = some v ∧ sp (vs.set 0 v) (fun r us => ∃ u, us = [u] ∧ Q r (ε1.set x (some (u, true)))) X := by
  simp only [call_1 h.io, h.ar, h.fn]
theorem cHK [h : Has V f sp ar [] fr] : vE V (.callK f es pm) X ε Q = vEs V es X ε fun vs ε1 => vs.length = pm.length ∧ ∃ vs', permL pm vs = some vs' ∧ vs'.length = ar ∧ sp vs' (fun r _ => Q r ε1) X := by
  show (vEs V es X ε fun vs ε1 => V.io f = [] ∧ vs.length = pm.length ∧ ∃ vs', permL pm vs = some vs' ∧ vs'.length = V.ar f ∧ V.fn f vs' (fun r _ => Q r ε1) X) = _
  simp only [h.io, h.ar, h.fn, true_and]
theorem frH [h : Has V f sp ar io fr] : V.io.fr f = fr := h.fr
theorem ioH [h : Has V f sp ar io fr] : V.io.at_ f = io := h.io
end
/-- what is known to be pure, for the walk -/
class Pu (v : P) : Prop where
  p : pure v = true
class PuL (vs : List P) : Prop where
  p : pureL vs = true
theorem pu_i {v : P} [h : Pu v] : pure v = true := h.p
theorem puL_i {vs : List P} [h : PuL vs] : pureL vs = true := h.p
theorem asg1_d {x : Nat} {as : List Nat} {v : P} {ε : VEv} (h1 : pure v = false) (h2 : (live ε as).isEmpty = false) : asg1 x false as v ε = (demote (live ε as) ε).set x (some (v, false)) := by
  unfold asg1 sole
  rw [h1, h2]; rfl
end Cay

set_option Elab.async false
set_option linter.all false
set_option maxRecDepth 100000
set_option maxHeartbeats 1000000
/-! Cay: drawn plants. -/
namespace Cay.PL
open PySem PySem.Spec PyProof.Rows L2 Bay
/-- a text that is short and can be shown -/
def Oks (x : Str) : Prop := PyData.strOk x = true ∧ x.length ≤ 8
/-- a book of kinds below n -/
def Bk (n : Nat) (v : P) : Prop := ∃ qs : List (Int × Int), v = .tup (qs.map prP) ∧ qs.length ≤ 16 ∧ ∀ q ∈ qs, (0 ≤ q.1 ∧ q.1 < n) ∧ 0 ≤ q.2 ∧ q.2 < n
theorem Bk.mono {n m : Nat} {v : P} (h : Bk n v) (l : n ≤ m) : Bk m v := by
  obtain ⟨qs, e, h1, h2⟩ := h
  exact ⟨qs, e, h1, fun q hq => by have := h2 q hq; omega⟩
/-- bays, at most so many -/
def Ln (r : Nat) (v : P) : Prop := ∃ bs : List P, v = .tup bs ∧ bs.length ≤ r ∧ ∀ b ∈ bs, Bk 4 b
/-- a name with a thing -/
def Nd (T : P → Prop) (v : P) : Prop := ∃ x w, v = .tup [.str x, w] ∧ Oks x ∧ T w
def Pl (v : P) : Prop := ∃ (ws : List Str) (bs ls : List P), v = .tup [.tup (ws.map .str), .tup bs, .tup ls] ∧ ws.length ≤ 4 ∧ (∀ x ∈ ws, Oks x) ∧ bs.length ≤ 4 ∧ (∀ b ∈ bs, Nd (Bk 4) b) ∧ ls.length ≤ 4 ∧ ∀ l ∈ ls, Nd (Ln 6) l
theorem prs_pure (qs : List (Int × Int)) : pureL (qs.map prP) = true := pureL_map fun _ _ => rfl
theorem Bk.pu {n : Nat} {v : P} (h : Bk n v) : pure v = true := by
  obtain ⟨qs, rfl, _⟩ := h
  exact prs_pure qs
theorem Ln.pu {n : Nat} {v : P} (h : Ln n v) : pure v = true := by
  obtain ⟨bs, rfl, _, h⟩ := h
  exact pureL_iff.mpr fun b hb => (h b hb).pu
theorem Nd.pu {T : P → Prop} (ht : ∀ {w}, T w → pure w = true) {v : P} (h : Nd T v) : pure v = true := by
  obtain ⟨x, w, rfl, _, h⟩ := h
  show (true && (pure w && true)) = true
  rw [ht h]; rfl
theorem Pl.pu {v : P} (h : Pl v) : pure v = true := by
  obtain ⟨ws, bs, ls, rfl, _, _, _, hb, _, hl⟩ := h
  have h1 : pureL bs = true := pureL_iff.mpr fun b hh => (hb b hh).pu Bk.pu
  have h2 : pureL ls = true := pureL_iff.mpr fun b hh => (hl b hh).pu Ln.pu
  show (pureL (ws.map .str) && (pureL bs && (pureL ls && true))) = true
  rw [pureL_strs, h1, h2]; rfl
/-- the first thing of a name -/
def first (ps : List (Str × P)) (x : Str) : Option P := (ps.find? fun p => decide (p.1 = x)).map (·.2)
def ndP (p : Str × P) : P := .tup [.str p.1, p.2]
/-- how many words of a part, by its level -/
def pw : Nat → Nat
  | 0 => 3
  | d + 1 => 3 * pw d + 2
/-! ### the defs' promises -/
def vordered : VFn := fun vs Q X => match vs with
  | [.lst a, .lst b] => ∃ (ns : List Int) (ps : List (Int × Int)), a = ns.map .int ∧ b = ps.map prP ∧ ns.length ≤ 4 ∧ ns.Nodup ∧ ps.length ≤ 8 ∧ (∀ p ∈ ps, ∀ u w, ns = u ++ p.1 :: w → p.2 ∈ w) ∧
      ∀ qs : List (Int × Int), qs.length ≤ 16 → (∀ q ∈ qs, q.1 ∈ ns ∧ q.2 ∈ ns) → Q (.tup (qs.map prP)) []
  | _ => False
def vbelow : VFn := fun vs Q X => match vs with
  | [.lst a] => ∃ ns : List Int, a = ns.map .int ∧ ns.length ≤ 4 ∧ ∀ v, Bk ns.length v → Q v []
  | _ => False
def vbook : VFn := fun vs Q X => match vs with
  | [.opq, .int n] => ∃ m : Nat, n = m ∧ 1 ≤ m ∧ m ≤ 4 ∧ ∀ v, Bk m v → Q v [.opq]
  | _ => False
def vpwords : VFn := fun vs Q X => match vs with
  | [.opq, .lst ks, b] => ∃ ws : List Str, ks = ws.map .str ∧ Bk ws.length b ∧ ∀ xs : List Str, xs.length ≤ 60 → Q (.lst (xs.map .str)) [.opq]
  | _ => False
def vbwords : VFn := fun vs Q X => match vs with
  | [.opq, .lst ks, .lst mk] => ∃ ws : List Str, ks = ws.map .str ∧ 1 ≤ ws.length ∧ ws.length ≤ 4 ∧ mk.length ≤ 8 ∧ (∀ m ∈ mk, Nd (Bk ws.length) m) ∧ ∀ b (xs : List Str), Bk ws.length b → xs.length ≤ 64 → Q (.tup [b, .lst (xs.map .str)]) [.opq]
  | _ => False
def vpart (d : Nat) (k : Nat) : VFn := fun vs Q X => match vs with
  | [.opq, .lst mk, .int room, .int deep] => ∃ r : Nat, room = r ∧ r ≤ 6 ∧ deep = d ∧ mk ≠ [] ∧ mk.length ≤ 8 ∧ (∀ m ∈ mk, Nd (Ln 6) m) ∧ ∀ v (xs : List Str), Ln r v → xs.length ≤ k * pw d → Q (.tup [v, .lst (xs.map .str)]) [.opq]
  | _ => False
def vmade : VFn := fun vs Q X => match vs with
  | [.opq, .int most] => ∃ m : Nat, most = m ∧ m ≤ 4 ∧ ∀ v (xs : List Str), Pl v → Q (.tup [v, .lst (xs.map .str)]) [.opq]
  | _ => False
def bOrdered : MS := (.seq (.par [2, 3] (.cons (.dic [] .nil) (.cons (.lst .nil) .nil)))
(.seq (.for_ (.nm 4) (.gen (.un .rev (.var 0))) (.seq (.set 5 (.lc (.var 7) (.tp [6, 7]) (.gen (.var 1)) (.yes (.cmp .Eq (.var 6) (.var 4))) [("y", 6), ("h", 7)]))
(.seq (.for_ (.nm 7) (.gen (.blt .list (.cons (.var 5) .nil))) (.seq (.set 5 (.add (.var 5) (.idx (.var 2) (.var 7))))
.skip))
(.seq (.sub (.var 2) (.var 4) (.un .srtS (.var 5)))
(.seq (.set 3 (.add (.var 3) (.lc (.tup (.cons (.var 4) (.cons (.var 7) .nil))) (.nm 7) (.gen (.idx (.var 2) (.var 4))) .no [("h", 7)])))
.skip)))))
(.seq (.ret (.blt .tuple (.cons (.blt .sorted (.cons (.var 3) .nil)) .nil)))
.skip)))
def bBelow : MS := (.seq (.set 1 (.lst .nil))
(.seq (.for_ (.tp [2, 3]) (.enum (.var 0)) (.seq (.set 1 (.add (.var 1) (.lc (.tup (.cons (.var 2) (.cons (.var 4) .nil))) (.nm 4) (.rng1 (.blt .len (.cons (.var 0) .nil))) (.yes (.cmp .Lt (.var 3) (.idx (.var 0) (.var 4)))) [("h", 4)])))
.skip))
(.seq (.ret (.blt .tuple (.cons (.var 1) .nil)))
.skip)))
def bBook (t mx od bl : Nat) : MS := (.seq (.par [2, 3] (.cons (.call mx (.cons (.var 0) (.cons (.un .lsR (.var 1)) .nil))) (.cons (.call t (.cons (.var 0) (.cons (.cst (.int 8)) .nil))) .nil)))
(.seq (.ite (.cmp .Eq (.var 3) (.cst (.int 0))) (.seq (.ret (.tup .nil))
.skip) .skip)
(.seq (.ite (.cmp .Eq (.var 3) (.cst (.int 1))) (.seq (.ret (.call od (.cons (.var 2) (.cons (.lsZ (.var 2) (.slc (.var 2) (.yes (.cst (.int 1))) .no)) .nil))))
.skip) .skip)
(.seq (.ite (.cmp .Eq (.var 3) (.cst (.int 2))) (.seq (.set 4 (.lc (.call t (.cons (.var 0) (.cons (.cst (.int 3)) .nil))) (.nm 5) (.rng1 (.var 1)) .no [("x", 5)]))
(.seq (.ret (.call bl (.cons (.var 4) .nil)))
.skip)) .skip)
(.seq (.set 6 (.lst .nil))
(.seq (.for_ (.tp [7, 5]) (.enum (.var 2)) (.seq (.for_ (.nm 8) (.gen (.slc (.var 2) (.yes (.add (.var 7) (.cst (.int 1)))) .no)) (.seq (.ite (.cmp .Eq (.call t (.cons (.var 0) (.cons (.ite (.cmp .Lt (.var 3) (.cst (.int 6))) (.cst (.int 2)) (.cst (.int 4))) .nil))) (.cst (.int 0))) (.seq (.expr (.mth .append (.var 6) (.cons (.tup (.cons (.var 5) (.cons (.var 8) .nil))) .nil)))
.skip) .skip)
.skip))
.skip))
(.seq (.ite (.cmp .Eq (.var 3) (.cst (.int 5))) (.seq (.set 9 (.slc (.var 2) .no (.yes (.add (.cst (.int 1)) (.call t (.cons (.var 0) (.cons (.var 1) .nil)))))))
(.seq (.ret (.blt .tuple (.cons (.lc (.var 10) (.nm 10) (.gen (.call od (.cons (.var 2) (.cons (.var 6) .nil)))) (.yes (.cmp .In (.idx (.var 10) (.cst (.int 0))) (.var 9))) [("own", 10)]) .nil)))
.skip)) .skip)
(.seq (.ret (.call od (.cons (.var 2) (.cons (.var 6) .nil))))
.skip))))))))
def bPwords (t mx : Nat) : MS := (.seq (.set 3 (.lst (.cons (.cst (.str "pairs")) .nil)))
(.seq (.for_ (.tp [4, 5]) (.gen (.call mx (.cons (.var 0) (.cons (.add (.blt .list (.cons (.var 2) .nil)) (.slc (.blt .list (.cons (.var 2) .nil)) .no (.yes (.call t (.cons (.var 0) (.cons (.cst (.int 3)) .nil)))))) .nil)))) (.seq (.set 3 (.add (.var 3) (.lst (.cons (.idx (.var 1) (.var 4)) (.cons (.cst (.str ">")) (.cons (.idx (.var 1) (.var 5)) .nil))))))
.skip))
(.seq (.ret (.var 3))
.skip)))
def bBwords (t pk bl bk pw : Nat) : MS := (.seq (.setT [3, 4] (.tup (.cons (.blt .len (.cons (.var 1) .nil)) (.cons (.call t (.cons (.var 0) (.cons (.cst (.int 8)) .nil))) .nil))))
(.seq (.ite (.cmp .Eq (.var 4) (.cst (.int 0))) (.seq (.ret (.tup (.cons (.tup .nil) (.cons (.lst (.cons (.cst (.str "none")) .nil)) .nil))))
.skip) .skip)
(.seq (.ite (.cmp .Eq (.var 4) (.cst (.int 1))) (.seq (.ret (.tup (.cons (.call bl (.cons (.un .lsR (.var 3)) .nil)) (.cons (.lst (.cons (.cst (.str "full")) .nil)) .nil))))
.skip) .skip)
(.seq (.ite (.cmp .Eq (.var 4) (.cst (.int 2))) (.seq (.set 5 (.lc (.call pk (.cons (.var 0) (.cons (.lst (.cons (.cst (.int 0)) (.cons (.cst (.int 1)) (.cons (.cst (.int 2)) (.cons (.cst (.int 7)) (.cons (.cst (.int 999)) .nil)))))) .nil))) (.nm 6) (.rng1 (.var 3)) .no [("x", 6)]))
(.seq (.ret (.tup (.cons (.call bl (.cons (.var 5) .nil)) (.cons (.add (.lst (.cons (.cst (.str "ranks")) .nil)) (.lc (.blt .str (.cons (.var 7) .nil)) (.nm 7) (.gen (.var 5)) .no [("level", 7)])) .nil))))
.skip)) .skip)
(.seq (.ite (.or (.cmp .Lt (.var 4) (.cst (.int 5))) (.cmp .Eq (.var 2) (.lst .nil))) (.seq (.set 8 (.call bk (.cons (.var 0) (.cons (.var 3) .nil))))
(.seq (.ret (.tup (.cons (.var 8) (.cons (.call pw (.cons (.var 0) (.cons (.var 1) (.cons (.var 8) .nil)))) .nil))))
.skip)) .skip)
(.seq (.setT [9, 8] (.call pk (.cons (.var 0) (.cons (.var 2) .nil))))
(.seq (.ite (.cmp .Eq (.var 4) (.cst (.int 5))) (.seq (.set 10 (.lc (.call t (.cons (.var 0) (.cons (.var 3) .nil))) (.nm 11) (.rng1 (.add (.cst (.int 1)) (.call t (.cons (.var 0) (.cons (.add (.var 3) (.cst (.int 1))) .nil))))) .no [("turn", 11)]))
(.seq (.ret (.tup (.cons (.blt .tuple (.cons (.lc (.var 12) (.nm 12) (.gen (.var 8)) (.yes (.cmp .In (.idx (.var 12) (.cst (.int 0))) (.var 10))) [("own", 12)]) .nil)) (.cons (.add (.add (.lst (.cons (.cst (.str "only")) .nil)) (.lc (.idx (.var 1) (.var 6)) (.nm 6) (.gen (.var 10)) .no [("x", 6)])) (.lst (.cons (.cst (.str "of")) (.cons (.var 9) .nil)))) .nil))))
.skip)) .skip)
(.seq (.ite (.cmp .Eq (.var 4) (.cst (.int 6))) (.seq (.setT [13, 14] (.call pk (.cons (.var 0) (.cons (.var 2) .nil))))
(.seq (.ret (.tup (.cons (.blt .tuple (.cons (.lc (.var 12) (.nm 12) (.gen (.var 8)) (.yes (.cmp .In (.var 12) (.var 14))) [("own", 12)]) .nil)) (.cons (.lst (.cons (.cst (.str "common")) (.cons (.var 9) (.cons (.var 13) .nil)))) .nil))))
.skip)) .skip)
(.seq (.ret (.tup (.cons (.var 8) (.cons (.lst (.cons (.var 9) .nil)) .nil))))
.skip)))))))))
def bMade (t pk nm bw c : Nat) : MS := (.seq (.set 2 (.call pk (.cons (.var 0) (.cons (.lst (.cons (.cst (.int 1)) (.cons (.cst (.int 2)) (.cons (.cst (.int 2)) (.cons (.cst (.int 3)) (.cons (.cst (.int 3)) (.cons (.cst (.int 4)) .nil))))))) .nil))))
(.seq (.set 3 (.call nm (.cons (.var 0) (.cons (.add (.var 2) (.mul (.cst (.int 2)) (.var 1))) .nil))))
(.seq (.setT [4, 5, 6, 7] (.tup (.cons (.slc (.var 3) .no (.yes (.var 2))) (.cons (.add (.add (.lst (.cons (.cst (.str "kinds")) .nil)) (.slc (.var 3) .no (.yes (.var 2)))) (.lst (.cons (.cst (.str ";")) .nil))) (.cons (.lst .nil) (.cons (.lst .nil) .nil))))))
(.seq (.for_ (.nm 8) (.gen (.slc (.var 3) (.yes (.var 2)) (.yes (.add (.var 2) (.call t (.cons (.var 0) (.cons (.add (.var 1) (.cst (.int 1))) .nil))))))) (.seq (.setT [9, 10] (.call bw (.cons (.var 0) (.cons (.var 4) (.cons (.var 6) .nil)))))
(.seq (.expr (.mth .append (.var 6) (.cons (.tup (.cons (.var 8) (.cons (.var 9) .nil))) .nil)))
(.seq (.set 5 (.add (.add (.add (.var 5) (.lst (.cons (.cst (.str "book")) (.cons (.var 8) (.cons (.cst (.str "=")) .nil))))) (.var 10)) (.lst (.cons (.cst (.str ";")) .nil))))
.skip))))
(.seq (.set 11 (.lc (.tup (.cons (.var 8) (.cons (.tup (.cons (.var 9) .nil)) .nil))) (.tp [8, 9]) (.gen (.var 6)) .no [("name", 8), ("book", 9)]))
(.seq (.for_ (.nm 8) (.gen (.slc (.var 3) (.yes (.add (.var 2) (.var 1))) (.yes (.add (.add (.var 2) (.var 1)) (.call t (.cons (.var 0) (.cons (.add (.var 1) (.cst (.int 1))) .nil))))))) (.seq (.ite (.cmp .NotEq (.var 11) (.lst .nil)) (.seq (.setT [12, 10] (.call c (.cons (.var 0) (.cons (.var 11) (.cons (.cst (.int 6)) (.cons (.cst (.int 3)) .nil))))))
(.seq (.expr (.mth .append (.var 7) (.cons (.tup (.cons (.var 8) (.cons (.var 12) .nil))) .nil)))
(.seq (.expr (.mth .append (.var 11) (.cons (.tup (.cons (.var 8) (.cons (.var 12) .nil))) .nil)))
(.seq (.set 5 (.add (.add (.add (.var 5) (.lst (.cons (.cst (.str "line")) (.cons (.var 8) (.cons (.cst (.str "=")) .nil))))) (.var 10)) (.lst (.cons (.cst (.str ";")) .nil))))
.skip)))) .skip)
.skip))
(.seq (.ret (.tup (.cons (.tup (.cons (.blt .tuple (.cons (.var 4) .nil)) (.cons (.blt .tuple (.cons (.var 6) .nil)) (.cons (.blt .tuple (.cons (.var 7) .nil)) .nil)))) (.cons (.var 5) .nil))))
.skip)))))))
def bPart (t pk p c : Nat) : MS := (.seq (.set 4 (.ite (.cmp .Gt (.var 3) (.cst (.int 0))) (.call t (.cons (.var 0) (.cons (.cst (.int 6)) .nil))) (.cst (.int 0))))
(.seq (.ite (.cmp .Lt (.var 4) (.cst (.int 3))) (.seq (.set 5 (.lc (.var 6) (.nm 6) (.gen (.var 1)) (.yes (.cmp .LtE (.blt .len (.cons (.idx (.var 6) (.cst (.int 1))) .nil)) (.var 2))) [("own", 6)]))
(.seq (.ite (.cmp .NotEq (.var 5) (.lst .nil)) (.seq (.setT [7, 8] (.call pk (.cons (.var 0) (.cons (.var 5) .nil))))
(.seq (.ret (.tup (.cons (.var 8) (.cons (.lst (.cons (.var 7) .nil)) .nil))))
.skip)) .skip)
(.seq (.ret (.tup (.cons (.tup .nil) (.cons (.lst (.cons (.cst (.str "0")) (.cons (.cst (.str "*")) (.cons (.idx (.idx (.var 1) (.cst (.int 0))) (.cst (.int 0))) .nil)))) .nil))))
.skip))) .skip)
(.seq (.ite (.cmp .Eq (.var 4) (.cst (.int 3))) (.seq (.setT [8, 9] (.call c (.cons (.var 0) (.cons (.var 1) (.cons (.var 2) (.cons (.sub (.var 3) (.cst (.int 1))) .nil))))))
(.seq (.ret (.tup (.cons (.var 8) (.cons (.add (.add (.lst (.cons (.cst (.str "(")) .nil)) (.var 9)) (.lst (.cons (.cst (.str ")")) .nil))) .nil))))
.skip)) .skip)
(.seq (.set 10 (.call pk (.cons (.var 0) (.cons (.lst (.cons (.cst (.int 0)) (.cons (.cst (.int 1)) (.cons (.cst (.int 2)) (.cons (.cst (.int 3)) .nil))))) .nil))))
(.seq (.ite (.cmp .Eq (.var 10) (.cst (.int 0))) (.seq (.ret (.tup (.cons (.tup .nil) (.cons (.add (.lst (.cons (.cst (.str "0")) (.cons (.cst (.str "*")) .nil))) (.idx (.call p (.cons (.var 0) (.cons (.var 1) (.cons (.cst (.int 6)) (.cons (.sub (.var 3) (.cst (.int 1))) .nil))))) (.cst (.int 1)))) .nil))))
.skip) .skip)
(.seq (.setT [8, 9] (.call p (.cons (.var 0) (.cons (.var 1) (.cons (.fdv (.var 2) (.var 10)) (.cons (.sub (.var 3) (.cst (.int 1))) .nil))))))
(.seq (.ret (.tup (.cons (.mul (.var 8) (.var 10)) (.cons (.add (.lst (.cons (.blt .str (.cons (.var 10) .nil)) (.cons (.cst (.str "*")) .nil))) (.var 9)) .nil))))
.skip)))))))
def bParts (pk p : Nat) : MS := (.seq (.par [4, 5] (.cons (.tup .nil) (.cons (.lst .nil) .nil)))
(.seq (.for_ (.nm 6) (.rng1 (.call pk (.cons (.var 0) (.cons (.lst (.cons (.cst (.int 1)) (.cons (.cst (.int 1)) (.cons (.cst (.int 2)) (.cons (.cst (.int 3)) .nil))))) .nil)))) (.seq (.setT [7, 8] (.call p (.cons (.var 0) (.cons (.var 1) (.cons (.sub (.var 2) (.blt .len (.cons (.var 4) .nil))) (.cons (.var 3) .nil))))))
(.seq (.par [4, 5] (.cons (.add (.var 4) (.var 7)) (.cons (.add (.var 5) (.var 8)) .nil)))
.skip)))
(.seq (.ret (.tup (.cons (.var 4) (.cons (.var 5) .nil))))
.skip)))
/-- a for, by what is done -/
theorem for_pre {α : Type} {tb : VK → VEv → Prop} {asg : P → VEv → Option VEv} {K : VK} (f : α → P) (R : List α → VEv → Prop) {xs : List α}
    (h : ∀ (done : List α) (x : α) (rest : List α), xs = done ++ x :: rest → ∀ (ε : VEv) (K' : VK), R done ε → K'.rt = K.rt → K'.bk = K.nx → K'.ct = K'.nx → (∀ ε2, R (done ++ [x]) ε2 → K'.nx ε2) → ∃ ε', asg (f x) ε = some ε' ∧ tb K' ε') (hk : ∀ ε2, R xs ε2 → K.nx ε2) :
    ∀ {rest done : List α} {ε : VEv}, xs = done ++ rest → R done ε → vforGo tb asg (rest.map f) K ε
  | [], done, ε, e, hr => by
    rw [List.append_nil] at e
    exact hk ε (e ▸ hr)
  | x :: rest, done, ε, e, hr => by
    obtain ⟨ε', h1, h2⟩ := h done x rest e ε { nx := vforGo tb asg (rest.map f) K, rt := K.rt, bk := K.nx, ct := vforGo tb asg (rest.map f) K } hr rfl rfl rfl fun ε2 h2 => for_pre f R h hk (by rw [e, List.append_assoc]; rfl) h2
    exact ⟨ε', h1, h2⟩
theorem enum_ints (ns : List Int) : ((ns.map P.int).zipIdx.map fun p => P.tup [.int p.2, p.1]) = ns.zipIdx.map fun p => P.tup [.int p.2, .int p.1] := by
  rw [List.zipIdx_map, List.map_map]; rfl
theorem unmap {α : Type} {f : α → P} {C : α → Prop} : ∀ {ys : List P}, (∀ y ∈ ys, ∃ r, C r ∧ y = f r) → ∃ rs : List α, ys = rs.map f ∧ ∀ r ∈ rs, C r
  | [], _ => ⟨[], rfl, fun r h => by cases h⟩
  | y :: ys, h => by
    obtain ⟨r, c, e⟩ := h y (List.mem_cons_self ..)
    obtain ⟨rs, e2, h2⟩ := unmap fun z hz => h z (List.mem_cons_of_mem _ hz)
    exact ⟨r :: rs, by rw [e, e2]; rfl, fun q hq => (List.mem_cons.mp hq).elim (fun e => e ▸ c) (h2 q)⟩
theorem at_int {ns : List Int} {m : Nat} (h : m < ns.length) : atI (ns.map P.int) (m : Int) = some (.int ns[m]) := atI_nat (by rw [List.getElem?_map, List.getElem?_eq_getElem h]; rfl)
theorem valP_map {kvs : List (Key × P)} {k j : Key} {v : P} : valP (kvs.map fun kv => if kv.1 = k then (kv.1, v) else kv) j = if j = k then (if (kvs.any fun kv => decide (kv.1 = k)) = true then some v else none) else valP kvs j := by
  induction kvs with
  | nil => by_cases h : j = k <;> simp [valP, h]
  | cons kv kvs ih =>
    unfold valP at *
    rw [List.map_cons, List.find?_cons, List.any_cons]
    by_cases h1 : kv.1 = k
    · rw [if_pos h1]
      by_cases h2 : j = k
      · subst h2
        simp [h1]
      · have : ¬ kv.1 = j := fun e => h2 (e.symm.trans h1)
        simp only [this, decide_false, List.find?_cons]
        rw [if_neg h2] at ih ⊢
        exact ih
    · rw [if_neg h1]
      by_cases h3 : kv.1 = j
      · have h2 : ¬ j = k := fun e => h1 (h3.trans e)
        simp [h3, h2]
      · simp only [h3, h1, decide_false, List.find?_cons, Bool.false_or]
        exact ih
theorem valP_put {kvs : List (Key × P)} {k j : Key} {v : P} : valP (putP kvs k v) j = if j = k then some v else valP kvs j := by
  unfold putP
  by_cases h : (kvs.any fun kv => decide (kv.1 = k)) = true
  · rw [if_pos h, valP_map, if_pos h]
  · rw [if_neg h]
    have no : valP kvs k = none := by
      unfold valP
      rw [Option.map_eq_none_iff, List.find?_eq_none]
      intro x hx e
      exact h (List.any_eq_true.mpr ⟨x, hx, e⟩)
    unfold valP at *
    rw [List.find?_append]
    by_cases hj : j = k
    · subst hj
      rw [if_pos rfl]
      have : kvs.find? (fun kv => decide (kv.1 = j)) = none := by simpa using no
      rw [this]; simp
    · have hk : ¬ k = j := fun e => hj e.symm
      rw [if_neg hj]
      cases kvs.find? fun kv => decide (kv.1 = j) with
      | none => simp [hk]
      | some q => rfl
theorem put_len {kvs : List (Key × P)} {k : Key} {v : P} : (putP kvs k v).length ≤ kvs.length + 1 := by
  unfold putP
  split
  · rw [List.length_map]; omega
  · rw [List.length_append]; exact Nat.le_refl _
theorem Y_dK {kvs : List (Key × P)} {i v : P} {Q : P → Prop} : setP (.dK kvs) i v Q = ∃ k, keyP i = some k ∧ kvs.length < sizeLine ∧ Q (.dK (putP kvs k v)) := rfl
theorem perm_ints {ys : List P} {m : Nat} (h : ys.Perm ((List.range m).map fun i : Nat => P.int i)) : ∃ os : List Int, ys = os.map P.int ∧ os.Perm ((List.range m).map fun i : Nat => (i : Int)) := by
  have e : ((List.range m).map fun i : Nat => P.int i) = ((List.range m).map fun i : Nat => (i : Int)).map P.int := by rw [List.map_map]; rfl
  rw [e] at h
  let un : P → Int := fun v => match v with | .int i => i | _ => 0
  have e1 : (ys.map un).map P.int = ys := by
    rw [List.map_map]
    conv => rhs; rw [← List.map_id ys]
    apply List.map_congr_left
    intro y hy
    obtain ⟨x, _, rfl⟩ := List.mem_map.mp (h.subset hy)
    rfl
  refine ⟨ys.map un, e1.symm, ?_⟩
  have := h.map un
  rw [List.map_map] at this
  have e2 : ((List.range m).map fun i : Nat => (i : Int)).map (un ∘ P.int) = (List.range m).map fun i : Nat => (i : Int) := by
    conv => rhs; rw [← List.map_id ((List.range m).map fun i : Nat => (i : Int))]
    apply List.map_congr_left; intro x _; rfl
  rwa [e2] at this
theorem range_nd {m : Nat} : ((List.range m).map fun i : Nat => (i : Int)).Nodup := by
  rw [List.nodup_iff_pairwise_ne, List.pairwise_map]
  exact List.Pairwise.imp (fun h e => h (Int.ofNat.inj e)) List.nodup_range
theorem range_in {m : Nat} {x : Int} (h : x ∈ (List.range m).map fun i : Nat => (i : Int)) : 0 ≤ x ∧ x < m := by
  obtain ⟨i, hi, rfl⟩ := List.mem_map.mp h
  rw [List.mem_range] at hi
  omega
theorem nd_at {os : List Int} (h : os.Nodup) : ∀ {i j : Nat} {a : Int}, os[i]? = some a → os[j]? = some a → i = j := fun {i j a} h1 h2 => by
  obtain ⟨l1, e1⟩ := List.getElem?_eq_some_iff.mp h1
  obtain ⟨l2, e2⟩ := List.getElem?_eq_some_iff.mp h2
  rcases Nat.lt_trichotomy i j with q | q | q
  · exact absurd (e1.trans e2.symm) (List.pairwise_iff_getElem.mp h i j l1 l2 q)
  · exact q
  · exact absurd (e2.trans e1.symm) (List.pairwise_iff_getElem.mp h j i l2 l1 q)
theorem after_of {os : List Int} (h : os.Nodup) {i j : Nat} {a b : Int} (hij : i < j) (h1 : os[i]? = some a) (h2 : os[j]? = some b) {u w : List Int} (e : os = u ++ a :: w) : b ∈ w := by
  have h3 : os[u.length]? = some a := by rw [e, List.getElem?_append_right (Nat.le_refl _), Nat.sub_self]; rfl
  have hi := nd_at h h1 h3
  rw [e, List.getElem?_append_right (by omega)] at h2
  have : j - u.length = (j - u.length - 1) + 1 := by omega
  rw [this, List.getElem?_cons_succ] at h2
  exact List.mem_of_getElem? h2
theorem cut_from {α : Type} (xs : List α) (k : Nat) : cutL xs (some (k : Int)) none = xs.drop k := by
  have h1 : HT.sIx xs.length 0 (some (k : Int)) = min k xs.length := by
    unfold HT.sIx
    simp only
    rw [if_neg (by omega)]
    omega
  have h2 : HT.sIx xs.length xs.length none = xs.length := rfl
  unfold cutL
  rw [h1, h2]
  by_cases hk : k ≤ xs.length
  · rw [Nat.min_eq_left hk, List.take_of_length_le (by rw [List.length_drop]; exact Nat.le_refl _)]
  · rw [Nat.min_eq_right (by omega), List.drop_of_length_le (Nat.le_refl _), List.drop_of_length_le (by omega), List.take_nil]
/-- how many pairs are put in behind so many places, of four -/
def cb : Nat → Nat
  | 0 => 0
  | 1 => 3
  | 2 => 5
  | _ => 6
theorem cb_le (d : Nat) : cb d ≤ 6 := by
  match d with
  | 0 => decide
  | 1 => decide
  | 2 => decide
  | n + 3 => exact Nat.le_refl _
theorem cb_step {d : Nat} (h : d < 4) : cb d + (3 - d) ≤ cb (d + 1) := by
  match d, h with
  | 0, _ => decide
  | 1, _ => decide
  | 2, _ => decide
  | 3, _ => decide
/-- p's parts stand in this order -/
def InO (os : List Int) (p : Int × Int) : Prop := ∃ i j : Nat, i < j ∧ os[i]? = some p.1 ∧ os[j]? = some p.2
theorem at_str {ws : List Str} {m : Nat} (h : m < ws.length) : atI (ws.map P.str) (m : Int) = some (.str ws[m]) := atI_nat (by rw [List.getElem?_map, List.getElem?_eq_getElem h]; rfl)
/-- what may be compared, with its depth -/
def ShD (d : Nat) (v : P) : Prop := ∃ t, toT v = some t ∧ t.canLay0 = true ∧ t.depth ≤ d
theorem ShD.list {d : Nat} : ∀ {xs : List P}, (∀ x ∈ xs, ShD d x) → ∃ ts, toTL xs = some ts ∧ PyData.canLayAll0 ts = true ∧ PyData.depthAll ts ≤ d
  | [], _ => ⟨[], rfl, rfl, Nat.zero_le _⟩
  | x :: xs, h => by
    obtain ⟨t, a1, a2, a3⟩ := h x (List.mem_cons_self ..)
    obtain ⟨ts, b1, b2, b3⟩ := ShD.list fun y hy => h y (List.mem_cons_of_mem _ hy)
    refine ⟨t :: ts, by rw [toTL, a1, b1], ?_, ?_⟩
    · show (PyData.canLay0 t && PyData.canLayAll0 ts) = true
      rw [a2, b2]; rfl
    · show max (PyData.depth t) (PyData.depthAll ts) ≤ d
      omega
theorem ShD.tup {d : Nat} {xs : List P} (h : ∀ x ∈ xs, ShD d x) : ShD (d + 1) (.tup xs) := by
  obtain ⟨ts, a, b, c⟩ := ShD.list h
  refine ⟨.tuple ts, by rw [toT, a]; rfl, b, ?_⟩
  show PyData.depthAll ts + 1 ≤ d + 1
  omega
theorem ShD.sh {d : Nat} {v : P} (h : ShD d v) (l : d ≤ 60) : Sh v := by
  obtain ⟨t, a, b, c⟩ := h
  exact ⟨t, a, b, Nat.le_trans c l⟩
theorem ShD.up {d e : Nat} {v : P} (h : ShD d v) (l : d ≤ e) : ShD e v := by
  obtain ⟨t, a, b, c⟩ := h
  exact ⟨t, a, b, Nat.le_trans c l⟩
theorem shd_int (i : Int) : ShD 0 (.int i) := ⟨.int i, rfl, rfl, Nat.le_refl _⟩
theorem shd_str {x : Str} (h : PyData.strOk x = true) : ShD 0 (.str x) := ⟨.str x, rfl, h, Nat.le_refl _⟩
theorem shd_pr (p : Int × Int) : ShD 1 (prP p) := .tup fun x hx => by
  simp only [List.mem_cons, List.not_mem_nil, or_false] at hx
  rcases hx with rfl | rfl
  · exact shd_int _
  · exact shd_int _
theorem Bk.shd {n : Nat} {v : P} (h : Bk n v) : ShD 2 v := by
  obtain ⟨qs, rfl, _⟩ := h
  exact .tup fun x hx => by obtain ⟨q, _, rfl⟩ := List.mem_map.mp hx; exact shd_pr q
theorem Ln.shd {n : Nat} {v : P} (h : Ln n v) : ShD 3 v := by
  obtain ⟨bs, rfl, _, h⟩ := h
  exact .tup fun x hx => (h x hx).shd
theorem Nd.shd {T : P → Prop} {d : Nat} (ht : ∀ {w}, T w → ShD d w) {v : P} (h : Nd T v) : ShD (d + 1) v := by
  obtain ⟨x, w, rfl, ⟨hx, _⟩, h⟩ := h
  exact .tup fun y hy => by
    simp only [List.mem_cons, List.not_mem_nil, or_false] at hy
    rcases hy with rfl | rfl
    · exact (shd_str hx).up (Nat.zero_le _)
    · exact ht h
theorem live_l {v : P} {b : Bool} {ε : VEv} {as : List Nat} (h : pure v = false) : live (some (v, b) :: ε) (0 :: as) = 0 :: live (some (v, b) :: ε) as := by
  unfold live
  rw [List.filter_cons]
  simp [h]

local macro_rules | `(tactic| walk_at "v") => `(tactic| (try simp only [V_skip, V_seq, V_set, V_setTt, V_setTc, V_setTi, V_setTv, V_setTs, V_par, V_sub, V_expr, V_ret, V_retN, V_ite, V_for, V_rais1, V_rais0, V_brk, V_cont, T_bl, iteV_t, iteV_f, e_var, e_cst, e_cg, e_add, e_sub, e_mul, e_fdv, e_mod, e_pow, e_neg, e_cmp, e_cmp2, e_isN, e_not, e_and, e_or, e_ite, e_tup, e_lst, e_dic, e_dicT, e_idx, e_slc, e_xf, e_xis, e_blt, e_app, e_ext, e_pop, e_popAt, e_join, e_lc, e_un, e_lsZ, W_rev, W_lsR, W_zip, vEs, vO, vC, vI, vlook, vown, vent, k_ret, k_retT, frOK, frEs, ownV, Option.isSome_some, ioOut, ofD, List.zipIdx_cons, List.zipIdx_nil, List.map_cons, List.map_nil, List.length_cons, List.length_nil, List.cons_append, List.nil_append, List.replicate, List.getElem?_cons_zero, List.getElem?_cons_succ, List.getElem?_nil, List.set_cons_zero, List.set_cons_succ, B_len, B_abs, B_int, B_intB, B_list, B_tuple, B_str, B_isStr, B_isTup, B_isInt, B_isBool, L_tup, L_rot, L_rol, L_lst, L_str, C_lt, C_le, C_gt, C_ge, C_eq, C_ne, C_in, C_nin, E_ii, E_ss, E_bb, E_nn, E_ni, E_in, E_ns, E_sn, A_int, A_str, A_tup, A_lst, U_int, M_int, M_tup, B_sorted, F_int, O_int, P_int, N_int, I_tup, I_lst, I_rot, I_rol, I_str, S_tup, S_lst, S_rol, S_str, Q_tup, Q_lst, Q_rot, Q_rol, R_tup, R_lst, R_rot, R_rol, R_str, Z_lst, Z_rol, X_tup, X_lst, X_rol, M_app, M_ext, M_pop, M_popAt,
  List.contains_cons, List.contains_nil, beq_self_eq_true, Bool.true_or, Bool.or_true, Bool.false_or, Bool.or_false, Bool.true_and, Bool.and_true, Bool.not_true, Bool.not_false, Nat.reduceAdd, Nat.reduceSub, Nat.reduceBEq, Nat.reduceLT, pu_int, pu_str, pu_bl, pu_non, pu_tup, pu_rot, pu_rol, pu_lst, pu_dK, pu_dT, pu_opq, sp_lst, sp_opq, pureL_ints, pureL_strs, pureL_nil, pureL_cons, pureL_app,
  asg1_p, asg1_s, asg1_n, sole_p, sole_s, sole_n, asgT_p, asgL, parOK, rf, al, als, alI, keepsB, List.append_nil, if_true, if_false, Bool.false_eq_true, reduceIte, true_and, and_true, exists_eq_left, exists_eq_left', Option.some.injEq, List.cons.injEq, vtake_e, xaFree, isMut, vasgF, forall_const, vwipe, vbk, vasg, stOK, soleI, live_nil, demote_nil, forE_t, forE_f, live_cons, demote_cons, lv_s, lv_n, dm_s, dm_n, cond_true, cond_false, Bool.and_false, Bool.false_and, ite_self, P.lst.injEq, P.str.injEq, exists_eq', isKindP, isNP, decide_true, decide_false, in_tup, in_rot, in_rol, in_lst, sizeLine_eq, Nat.reduceLeDiff, Nat.zero_le, le_refl_iff, asg1_l, xaN, cH0, cH1, cHK, frH, ioH, permL, reduceCtorEq, List.isEmpty_nil, vendH, Option.map_some, Prod.mk.injEq]))
theorem cv_below {V : VSig} [NoXa V] : ∀ vs Q X, vbelow vs Q X → vs.length = 1 → vD bBelow V [] false 5 vs Q X := by
  intro vs Q X h hl
  match vs, hl with
  | [.lst a], _ =>
    obtain ⟨ns, rfl, hn, hq⟩ := h
    unfold vD bBelow
    walk_at "v"
    rw [enum_ints]
    refine for_pre (xs := ns.zipIdx) (fun p : Int × Nat => P.tup [.int p.2, .int p.1]) (fun done ε => ∃ (qs : List (Int × Int)) (o2 o3 o4 : Option (P × Bool)), ε = [some (.lst (ns.map .int), false), some (.lst (qs.map prP), true), o2, o3, o4] ∧ qs.length ≤ 4 * done.length ∧ ∀ q ∈ qs, (0 ≤ q.1 ∧ q.1 < ns.length) ∧ 0 ≤ q.2 ∧ q.2 < ns.length) ?_ ?_ (done := []) rfl ⟨[], none, none, none, rfl, Nat.zero_le _, fun q hq => by cases hq⟩
    · rintro done ⟨x, i⟩ rest hx ε K' ⟨qs, o2, o3, o4, rfl, hl, hb⟩ e1 e2 e3 hk
      have hi : i < ns.length := by
        have : (x, i) ∈ ns.zipIdx := by rw [hx]; simp
        obtain ⟨_, h2, _⟩ := List.mem_zipIdx this
        omega
      have hd : done.length < 4 := by
        have := congrArg List.length hx
        simp at this
        omega
      walk_at "v"
      refine ⟨_, rfl, ?_⟩
      walk_at "v"
      have hlen : (ns.map P.int).length = ns.length := List.length_map ..
      refine ⟨⟨by unfold rngS; omega, by unfold rngS; omega⟩, ?_⟩
      refine lc_any (fun v => ∃ r : Int × Int, ((0 ≤ r.1 ∧ r.1 < ns.length) ∧ 0 ≤ r.2 ∧ r.2 < ns.length) ∧ v = prP r) (fun ε => ε = [some (.lst (ns.map .int), false), some (.lst (qs.map prP), true), some (.int i, true), some (.int x, true), o4]) ?_ rfl (by rw [List.length_nil, List.length_map, List.length_range, sizeLine_eq]; omega) ?_
      · rintro y hy ε K rfl k1 k2
        obtain ⟨m, hm, rfl⟩ := List.mem_map.mp hy
        rw [List.mem_range] at hm
        have hm' : m < ns.length := by omega
        rw [lcB_e]
        walk_at "v"
        refine ⟨_, at_int hm', ?_⟩
        walk_at "v"
        refine iteV_of (fun _ => ?_) fun _ => ?_
        · walk_at "v"
          exact k1 _ _ ⟨(i, m), ⟨⟨by omega, by omega⟩, by omega, by omega⟩, rfl⟩ rfl
        · walk_at "v"
          exact k2 _ rfl
      · rintro ys ε2 hl2 hT rfl
        obtain ⟨rs, rfl, hr⟩ := unmap hT
        rw [List.nil_append]
        have hrl : rs.length ≤ 4 := by
          rw [List.length_map, List.length_map, List.length_range] at hl2
          omega
        refine ⟨by rw [List.length_map, List.length_map]; omega, ?_⟩
        rw [asg1_s (by show pureL (qs.map prP ++ rs.map prP) = true; rw [pureL_app, prs_pure, prs_pure]; rfl)]
        walk_at "v"
        refine hk _ ⟨qs ++ rs, _, _, _, by rw [List.map_append], ?_, fun q hq' => (List.mem_append.mp hq').elim (hb q) (hr q)⟩
        rw [List.length_append, List.length_append, List.length_singleton]; omega
    · rintro ε2 ⟨qs, o2, o3, o4, rfl, hl, hb⟩
      walk_at "v"
      rw [List.length_zipIdx] at hl
      exact hq _ ⟨qs, rfl, by omega, hb⟩
theorem cv_ordered {V : VSig} [NoXa V] : ∀ vs Q X, vordered vs Q X → vs.length = 2 → vD bOrdered V [] false 8 vs Q X := by
  intro vs Q X h hl
  match vs, hl with
  | [.lst a, .lst b], _ =>
    obtain ⟨ns, ps, rfl, rfl, hn, hnd, hp, hps, hq⟩ := h
    unfold vD bOrdered
    walk_at "v"
    rw [← List.map_reverse]
    walk_at "v"
    refine ⟨by rw [List.length_map]; omega, ?_⟩
    refine for_pre (xs := ns.reverse) P.int (fun done ε => ∃ (kvs : List (Key × P)) (qs : List (Int × Int)) (o4 o5 o6 o7 : Option (P × Bool)), ε = [some (.lst (ns.map .int), false), some (.lst (ps.map prP), false), some (.dK kvs, true), some (.lst (qs.map prP), true), o4, o5, o6, o7] ∧ kvs.length ≤ done.length ∧
      (∀ y ∈ done, ∃ ms : List Int, valP kvs (.inl y) = some (.lst (ms.map .int)) ∧ ms.length ≤ 4 ∧ ∀ m ∈ ms, m ∈ ns) ∧ qs.length ≤ 4 * done.length ∧ ∀ q ∈ qs, q.1 ∈ ns ∧ q.2 ∈ ns) ?_ ?_ (done := []) rfl ⟨[], [], none, none, none, none, rfl, Nat.zero_le _, fun y hy => (by cases hy), Nat.zero_le _, fun q hq => (by cases hq)⟩
    · rintro done x rest hx ε K' ⟨kvs, qs, o4, o5, o6, o7, rfl, hkl, hkv, hql, hqs⟩ e1 e2 e3 hk
      have hlen := congrArg List.length hx
      rw [List.length_reverse, List.length_append, List.length_cons] at hlen
      have hns : ns = rest.reverse ++ x :: done.reverse := by
        have := congrArg List.reverse hx
        rw [List.reverse_reverse] at this
        rw [this]; simp
      have hxn : x ∈ ns := by rw [hns]; simp
      have hdn : ∀ y ∈ done, y ∈ ns := fun y hy => by rw [hns]; simp [hy]
      refine ⟨_, rfl, ?_⟩
      walk_at "v"
      refine lc_any (fun v => ∃ m : Int, m ∈ done ∧ v = .int m) (fun ε => ε = [some (.lst (ns.map .int), false), some (.lst (ps.map prP), false), some (.dK kvs, true), some (.lst (qs.map prP), true), some (.int x, true), o5, o6, o7]) ?_ rfl (by rw [List.length_nil, List.length_map, sizeLine_eq]; omega) ?_
      · rintro y hy ε K rfl k1 k2
        obtain ⟨p, hp', rfl⟩ := List.mem_map.mp hy
        rw [lcB_e]
        unfold prP
        walk_at "v"
        refine iteV_of (fun hc => ?_) fun _ => ?_
        · walk_at "v"
          have : p.2 ∈ done.reverse := hps p hp' rest.reverse done.reverse (by rw [show p.1 = x from of_decide_eq_true hc]; exact hns)
          exact k1 _ _ ⟨p.2, by simpa using this, rfl⟩ rfl
        · walk_at "v"
          exact k2 _ rfl
      · rintro ys ε2 hl2 hT rfl
        obtain ⟨ms0, rfl, hm0⟩ := unmap hT
        rw [List.nil_append]
        rw [List.length_map, List.length_map] at hl2
        walk_at "v"
        refine ⟨by rw [List.length_map]; omega, ?_⟩
        refine for_pre (xs := ms0) P.int (fun done2 ε => ∃ (ms : List Int) (o6 o7 : Option (P × Bool)), ε = [some (.lst (ns.map .int), false), some (.lst (ps.map prP), false), some (.dK kvs, true), some (.lst (qs.map prP), true), some (.int x, true), some (.lst (ms.map .int), true), o6, o7] ∧ (∀ m ∈ ms, m ∈ ns) ∧ ms.length ≤ 8 + 4 * done2.length) ?_ ?_ (done := []) rfl ⟨ms0, _, _, rfl, fun m hm => hdn m (hm0 m hm), by omega⟩
        · rintro done2 z rest2 hz ε K2 ⟨ms, o6, o7, rfl, hms, hml⟩ f1 f2 f3 hk2
          have hzd : z ∈ done := hm0 z (by rw [hz]; simp)
          have hzl := congrArg List.length hz
          rw [List.length_append, List.length_cons] at hzl
          obtain ⟨mz, hv, hmz, hmzn⟩ := hkv z hzd
          refine ⟨_, rfl, ?_⟩
          walk_at "v"
          refine ⟨.inl z, _, rfl, hv, ?_⟩
          walk_at "v"
          refine ⟨by rw [List.length_map, List.length_map]; omega, ?_⟩
          refine hk2 _ ⟨ms ++ mz, _, _, by rw [List.map_append], fun m hm => (List.mem_append.mp hm).elim (hms m) (hmzn m), ?_⟩
          rw [List.length_append, List.length_append, List.length_singleton]; omega
        · rintro ε3 ⟨ms, o6, o7, rfl, hms, hml⟩
          walk_at "v"
          refine ⟨ms, rfl, by omega, fun ns' h1 h2 => ?_⟩
          have hl' : ns'.length ≤ ns.length := nodup_len (h1.imp fun h => Int.ne_of_lt h) fun k hk' => hms k ((h2 k).mp hk')
          walk_at "v"
          rw [Y_dK]
          refine ⟨.inl x, rfl, by rw [sizeLine_eq]; omega, ?_⟩
          walk_at "v"
          refine ⟨.inl x, _, rfl, by rw [valP_put, if_pos rfl], ?_⟩
          walk_at "v"
          refine lc_any (fun v => ∃ r : Int × Int, (r.1 ∈ ns ∧ r.2 ∈ ns) ∧ v = prP r) (fun ε => ε = [some (.lst (ns.map .int), false), some (.lst (ps.map prP), false), some (.dK (putP kvs (.inl x) (.lst (ns'.map .int))), true), some (.lst (qs.map prP), true), some (.int x, true), some (.lst (ms.map .int), true), o6, o7]) ?_ rfl (by rw [List.length_nil, List.length_map, sizeLine_eq]; omega) ?_
          · rintro y hy ε K rfl k1 k2
            obtain ⟨m, hm, rfl⟩ := List.mem_map.mp hy
            rw [lcB_e]
            walk_at "v"
            exact k1 _ _ ⟨(x, m), ⟨hxn, hms m ((h2 m).mp hm)⟩, rfl⟩ rfl
          · rintro ys ε2 hl3 hT3 rfl
            obtain ⟨rs, rfl, hr⟩ := unmap hT3
            rw [List.nil_append]
            rw [List.length_map, List.length_map] at hl3
            refine ⟨by rw [List.length_map, List.length_map]; omega, ?_⟩
            rw [asg1_s (by show pureL (qs.map prP ++ rs.map prP) = true; rw [pureL_app, prs_pure, prs_pure]; rfl)]
            walk_at "v"
            refine hk _ ⟨_, qs ++ rs, _, _, _, _, by rw [List.map_append], ?_, ?_, ?_, fun q hq' => (List.mem_append.mp hq').elim (hqs q) (hr q)⟩
            · rw [List.length_append, List.length_singleton]
              exact Nat.le_trans put_len (by omega)
            · intro y hy
              rw [valP_put]
              by_cases hyx : y = x
              · subst hyx
                exact ⟨ns', by rw [if_pos rfl], by omega, fun m hm => hms m ((h2 m).mp hm)⟩
              · rw [if_neg (fun e => hyx (by cases e; rfl))]
                rw [List.mem_append, List.mem_singleton] at hy
                exact hkv y (hy.resolve_right hyx)
            · rw [List.length_append, List.length_append, List.length_singleton]; omega
    · rintro ε2 ⟨kvs, qs, o4, o5, o6, o7, rfl, hkl, hkv, hql, hqs⟩
      walk_at "v"
      rw [List.length_reverse] at hql
      refine ⟨by rw [List.length_map]; omega, .inr ⟨qs, rfl, fun ps' h1 h2 => ?_⟩⟩
      walk_at "v"
      exact hq ps' (by rw [h1.length_eq]; omega) fun q hq' => hqs q (h1.mem_iff.mp hq')
theorem mem_any {v : P} {xs : List P} {Q : Bool → Prop} (hv : Sh v) (hx : ∀ x ∈ xs, Sh x) (h : ∀ b, Q b) : memP v xs Q := by
  obtain ⟨t, a1, a2, a3⟩ := hv
  obtain ⟨ts, b1, b2, b3⟩ := Sh.list hx
  exact ⟨t, ts, a1, b1, by unfold SeqAt.shaped; rw [a2]; simp; omega, Pur.shp b2 b3, h _⟩
theorem cv_book {V : VSig} {t mx od bl : Nat} [Has V t vtake 2 [0] false] [Has V mx vmixed 2 [0] false] [Has V od vordered 2 [] false] [Has V bl vbelow 1 [] false] [NoXa V] : ∀ vs Q X, vbook vs Q X → vs.length = 2 → vD (bBook t mx od bl) V [0] false 11 vs Q X := by
  intro vs Q X h hl
  match vs, hl with
  | [.opq, .int n], _ =>
    obtain ⟨m, rfl, h1, h4, hq⟩ := h
    unfold vD bBook
    walk_at "v"
    refine ⟨⟨by omega, by omega⟩, _, .inl rfl, ?_, fun x hx => ?_, ?_, fun ys hp => ?_⟩
    · exact pureL_map fun _ _ => rfl
    · obtain ⟨i, _, rfl⟩ := List.mem_map.mp hx
      exact sh_int _
    · rw [List.length_map, List.length_range]; omega
    · obtain ⟨os, rfl, ho⟩ := perm_ints hp
      refine ⟨_, rfl, ?_⟩
      walk_at "v"
      refine ⟨by omega, fun k k0 k1 => ?_⟩
      have hol : os.length = m := by rw [ho.length_eq]; simp
      have hon : os.Nodup := ho.nodup_iff.mpr range_nd
      have hor : ∀ x ∈ os, 0 ≤ x ∧ x < m := fun x hx => range_in (ho.mem_iff.mp hx)
      refine iteV_of (fun _ => ?_) fun _ => ?_
      · walk_at "v"
        exact hq _ ⟨[], rfl, Nat.zero_le _, fun q h => by cases h⟩
      walk_at "v"
      refine iteV_of (fun _ => ?_) fun _ => ?_
      · walk_at "v"
        have ec : cutL (os.map P.int) (some 1) none = (os.drop 1).map P.int := by
          rw [List.map_drop]; exact cut_from _ 1
        have ez : (((os.map P.int).zip ((os.drop 1).map P.int)).map fun p => P.tup [p.1, p.2]) = (os.zip (os.drop 1)).map prP := by
          rw [List.zip_map, List.map_map]; rfl
        rw [ec, ez]
        refine ⟨by rw [List.length_map, List.length_drop]; omega, by rw [List.length_map]; omega, ?_⟩
        refine ⟨os, os.zip (os.drop 1), rfl, rfl, by omega, hon, by rw [List.length_zip]; omega, fun p hp' u w e => ?_, fun qs q1 q2 => ?_⟩
        · obtain ⟨i, hi⟩ := List.getElem?_of_mem hp'
          rw [List.getElem?_zip_eq_some, List.getElem?_drop] at hi
          exact after_of hon (by omega : i < 1 + i) hi.1 hi.2 e
        · walk_at "v"
          exact hq _ ⟨qs, rfl, q1, fun q hq' => ⟨hor _ (q2 q hq').1, hor _ (q2 q hq').2⟩⟩
      walk_at "v"
      refine iteV_of (fun _ => ?_) fun _ => ?_
      · walk_at "v"
        refine ⟨⟨by unfold rngS; omega, by unfold rngS; omega⟩, ?_⟩
        refine lc_rel (fun v => ∃ i : Int, True ∧ v = .int i) (fun ε => ε = [some (.opq, true), some (.int m, true), some (.lst (os.map .int), true), some (.int k, true), none, none, none, none, none, none, none]) ?_ rfl (by rw [List.length_nil, List.length_map, List.length_range, sizeLine_eq]; omega) ?_
        · rintro y hy ε K rfl k2
          obtain ⟨i, hi, rfl⟩ := List.mem_map.mp hy
          rw [lcB_e]
          walk_at "v"
          exact ⟨by omega, fun j j0 j1 => k2 _ _ ⟨j, trivial, rfl⟩ rfl⟩
        · rintro ys ε2 hl2 hT rfl
          obtain ⟨ls, rfl, _⟩ := unmap hT
          rw [List.nil_append]
          rw [List.length_map, List.length_map, List.length_range] at hl2
          walk_at "v"
          refine ⟨ls, rfl, by omega, fun v hv => ?_⟩
          walk_at "v"
          exact hq _ (hv.mono (by omega))
      walk_at "v"
      rw [enum_ints]
      refine for_pre (xs := os.zipIdx) (fun p : Int × Nat => P.tup [.int p.2, .int p.1]) (fun done ε => ∃ (ps : List (Int × Int)) (o5 o7 o8 : Option (P × Bool)), ε = [some (.opq, true), some (.int m, true), some (.lst (os.map .int), false), some (.int k, true), none, o5, some (.lst (ps.map prP), true), o7, o8, none, none] ∧ ps.length ≤ cb done.length ∧ ∀ p ∈ ps, InO os p) ?_ ?_ (done := []) rfl ⟨[], none, none, none, rfl, Nat.zero_le _, fun q hq => by cases hq⟩
      · rintro done ⟨x, i⟩ rest hx ε K' ⟨ps, o5, o7, o8, rfl, hpl, hpo⟩ e1 e2 e3 hk
        have hdl : done.length < 4 := by
          have := congrArg List.length hx
          simp at this
          omega
        have hxi : os[i]? = some x ∧ i = done.length := by
          have h0 : os.zipIdx[done.length]? = some (x, i) := by rw [hx, List.getElem?_append_right (Nat.le_refl _), Nat.sub_self]; rfl
          rw [List.getElem?_zipIdx] at h0
          cases h5 : os[done.length]? with
          | none => rw [h5] at h0; cases h0
          | some y =>
            rw [h5] at h0
            simp at h0
            obtain ⟨rfl, rfl⟩ := h0
            exact ⟨h5, rfl⟩
        refine ⟨_, rfl, ?_⟩
        walk_at "v"
        have ec : cutL (os.map P.int) (some ((i : Int) + 1)) none = (os.drop (i + 1)).map P.int := by
          rw [List.map_drop]; exact cut_from _ (i + 1)
        rw [ec]
        walk_at "v"
        refine ⟨by rw [List.length_map, List.length_drop]; omega, ?_⟩
        refine for_pre (xs := os.drop (i + 1)) P.int (fun done2 ε => ∃ (ps : List (Int × Int)) (o8 : Option (P × Bool)), ε = [some (.opq, true), some (.int m, true), some (.lst (os.map .int), false), some (.int k, true), none, some (.int x, true), some (.lst (ps.map prP), true), some (.int i, true), o8, none, none] ∧ ps.length ≤ cb done.length + done2.length ∧ ∀ p ∈ ps, InO os p) ?_ ?_ (done := []) rfl ⟨ps, _, rfl, hpl, hpo⟩
        · rintro done2 y rest2 hy ε K2 ⟨ps2, o8', rfl, hpl2, hpo2⟩ f1 f2 f3 hk2
          have hyj : os[i + 1 + done2.length]? = some y := by
            have h0 : (os.drop (i + 1))[done2.length]? = some y := by rw [hy, List.getElem?_append_right (Nat.le_refl _), Nat.sub_self]; rfl
            rwa [List.getElem?_drop] at h0
          have hyl : done2.length < 4 := by
            have := congrArg List.length hy
            simp at this
            omega
          refine ⟨_, rfl, ?_⟩
          walk_at "v"
          refine ite_of (fun _ => ⟨by omega, fun _ _ _ => ?_⟩) fun _ => ⟨by omega, fun _ _ _ => ?_⟩
          all_goals
            refine iteV_of (fun _ => ?_) fun _ => ?_
            · walk_at "v"
              have hcb := cb_le done.length
              refine ⟨by rw [List.length_map]; omega, ?_⟩
              refine hk2 _ ⟨ps2 ++ [(x, y)], _, by rw [List.map_append]; rfl, ?_, fun p hp' => (List.mem_append.mp hp').elim (hpo2 p) fun h => ?_⟩
              · rw [List.length_append, List.length_append, List.length_singleton, List.length_singleton]; omega
              · rw [List.mem_singleton] at h
                rw [h]
                exact ⟨i, i + 1 + done2.length, by omega, hxi.1, hyj⟩
            · walk_at "v"
              exact hk2 _ ⟨ps2, _, rfl, by rw [List.length_append, List.length_singleton]; omega, hpo2⟩
        · rintro ε3 ⟨ps2, o8', rfl, hpl2, hpo2⟩
          walk_at "v"
          refine hk _ ⟨ps2, _, _, _, rfl, ?_, hpo2⟩
          rw [List.length_append, List.length_singleton]
          rw [List.length_drop] at hpl2
          have := cb_step hdl
          omega
      · rintro ε2 ⟨ps, o5, o7, o8, rfl, hpl, hpo⟩
        walk_at "v"
        have hcb := cb_le os.zipIdx.length
        have ord : ∀ {Q' : P → List P → Prop} {X' : VX}, (∀ qs : List (Int × Int), qs.length ≤ 16 → (∀ q ∈ qs, q.1 ∈ os ∧ q.2 ∈ os) → Q' (.tup (qs.map prP)) []) → vordered [.lst (os.map .int), .lst (ps.map prP)] Q' X' := fun {Q' X'} hQ =>
          ⟨os, ps, rfl, rfl, by omega, hon, by omega, fun p hp' u w e => (by obtain ⟨i, j, hij, g1, g2⟩ := hpo p hp'; exact after_of hon hij g1 g2 e), hQ⟩
        refine iteV_of (fun _ => ?_) fun _ => ?_
        · walk_at "v"
          refine ⟨by omega, fun j j0 j1 => ?_⟩
          obtain ⟨n, rfl⟩ := Int.eq_ofNat_of_zero_le j0
          have ec : cutL (os.map P.int) none (some (1 + (n : Int))) = (os.take (1 + n)).map P.int := by
            rw [List.map_take]; exact cut_to (1 + n)
          rw [ec]
          walk_at "v"
          refine ⟨by rw [List.length_map, List.length_take]; omega, ?_⟩
          refine ord fun qs q1 q2 => ?_
          walk_at "v"
          refine lc_any (fun v => ∃ r : Int × Int, (r.1 ∈ os ∧ r.2 ∈ os) ∧ v = prP r) (fun ε => ε = [some (.opq, true), some (.int m, true), some (.lst (os.map .int), false), some (.int k, true), none, o5, some (.lst (ps.map prP), true), o7, o8, some (.lst ((os.take (1 + n)).map .int), true), none]) ?_ rfl (by rw [List.length_nil, List.length_map, sizeLine_eq]; omega) ?_
          · rintro y hy ε K rfl k2 k3
            obtain ⟨r, hr, rfl⟩ := List.mem_map.mp hy
            have hrs := q2 r hr
            rw [lcB_e]
            unfold prP
            walk_at "v"
            refine ⟨_, rfl, ?_⟩
            walk_at "v"
            refine mem_any (sh_int _) (fun z hz => ?_) fun b => ?_
            · obtain ⟨i, _, rfl⟩ := List.mem_map.mp hz
              exact sh_int i
            walk_at "v"
            refine iteV_of (fun _ => ?_) fun _ => ?_
            · walk_at "v"
              exact k2 _ _ ⟨r, hrs, rfl⟩ rfl
            · walk_at "v"
              exact k3 _ rfl
          · rintro ys ε2 hl2 hT rfl
            obtain ⟨rs, rfl, hr⟩ := unmap hT
            rw [List.nil_append]
            rw [List.length_map, List.length_map] at hl2
            walk_at "v"
            exact hq _ ⟨rs, rfl, by omega, fun q hq' => ⟨hor _ (hr q hq').1, hor _ (hr q hq').2⟩⟩
        · walk_at "v"
          refine ord fun qs q1 q2 => ?_
          walk_at "v"
          exact hq _ ⟨qs, rfl, q1, fun q hq' => ⟨hor _ (q2 q hq').1, hor _ (q2 q hq').2⟩⟩
theorem sh_pr (p : Int × Int) : Sh (prP p) := ⟨.tuple [.int p.1, .int p.2], rfl, rfl, by simp [PyData.depth, PyData.depthAll]⟩
theorem cv_pwords {V : VSig} {t mx : Nat} [Has V t vtake 2 [0] false] [Has V mx vmixed 2 [0] false] [NoXa V] : ∀ vs Q X, vpwords vs Q X → vs.length = 3 → vD (bPwords t mx) V [0] true 6 vs Q X := by
  intro vs Q X h hl
  match vs, hl with
  | [.opq, .lst a, b], _ =>
    obtain ⟨ws, rfl, ⟨qs, rfl, hql, hqr⟩, hq⟩ := h
    have hpu := prs_pure qs
    unfold vD bPwords
    walk_at "v"
    simp only [hpu, Bool.or_true]
    walk_at "v"
    have hlm : (qs.map prP).length = qs.length := List.length_map ..
    refine ⟨by omega, by omega, by omega, fun k k0 k1 => ?_⟩
    obtain ⟨n, rfl⟩ := Int.eq_ofNat_of_zero_le k0
    have ec : cutL (qs.map prP) none (some (n : Int)) = (qs.take n).map prP := by rw [List.map_take]; exact cut_to n
    have hlt : ((qs.take n).map prP).length ≤ 2 := by rw [List.length_map, List.length_take]; omega
    rw [ec]
    refine ⟨by omega, by omega, _, .inl rfl, ?_, fun x hx => ?_, by rw [List.length_append]; omega, fun ys hp => ?_⟩
    · rw [pureL_app, hpu, prs_pure]; rfl
    · rcases List.mem_append.mp hx with hx | hx <;> obtain ⟨r, _, rfl⟩ := List.mem_map.mp hx <;> exact sh_pr r
    · have hin : ∀ y ∈ ys, ∃ r, r ∈ qs ∧ y = prP r := fun y hy => by
        rcases List.mem_append.mp (hp.mem_iff.mp hy) with hx | hx
        · obtain ⟨r, h1, rfl⟩ := List.mem_map.mp hx; exact ⟨r, h1, rfl⟩
        · obtain ⟨r, h1, rfl⟩ := List.mem_map.mp hx; exact ⟨r, List.mem_of_mem_take h1, rfl⟩
      obtain ⟨rs, rfl, hrs⟩ := unmap hin
      have hrl := hp.length_eq
      rw [List.length_map, List.length_append] at hrl
      refine ⟨_, rfl, ?_⟩
      walk_at "v"
      refine for_pre (xs := rs) prP (fun done ε => ∃ (xs : List Str) (o4 o5 : Option (P × Bool)), ε = [some (.opq, true), some (.lst (ws.map .str), false), some (.tup (qs.map prP), true), some (.lst (xs.map .str), true), o4, o5] ∧ xs.length ≤ 1 + 3 * done.length) ?_ ?_ (done := []) rfl ⟨["pairs"], none, none, rfl, Nat.le_refl _⟩
      · rintro done r rest hr ε K' ⟨xs, o4, o5, rfl, hxl⟩ e1 e2 e3 hk
        have hrq := hqr r (hrs r (by rw [hr]; simp))
        have hdl := congrArg List.length hr
        rw [List.length_append, List.length_cons] at hdl
        obtain ⟨i, hi⟩ := Int.eq_ofNat_of_zero_le hrq.1.1
        obtain ⟨j, hj⟩ := Int.eq_ofNat_of_zero_le hrq.2.1
        have hi' : i < ws.length := by omega
        have hj' : j < ws.length := by omega
        refine ⟨_, rfl, ?_⟩
        walk_at "v"
        rw [hi, hj]
        refine ⟨_, at_str hi', ?_⟩
        walk_at "v"
        refine ⟨_, at_str hj', ?_⟩
        walk_at "v"
        refine ⟨by rw [List.length_map]; omega, ?_⟩
        refine hk _ ⟨xs ++ [ws[i], ">", ws[j]], _, _, by rw [List.map_append]; rfl, ?_⟩
        rw [List.length_append, List.length_append, List.length_singleton]
        show xs.length + 3 ≤ _
        omega
      · rintro ε2 ⟨xs, o4, o5, rfl, hxl⟩
        walk_at "v"
        exact hq xs (by omega)
end Cay.PL

set_option Elab.async false
set_option linter.all false
set_option maxRecDepth 100000
set_option maxHeartbeats 1000000
namespace Cay.PL
open PySem PySem.Spec PyProof.Rows L2 Bay
local macro_rules | `(tactic| walk_at "v") => `(tactic| (try simp only [V_skip, V_seq, V_set, V_setTt, V_setTc, V_setTi, V_setTv, V_setTs, V_par, V_sub, V_expr, V_ret, V_retN, V_ite, V_for, V_rais1, V_rais0, V_brk, V_cont, T_bl, iteV_t, iteV_f, e_var, e_cst, e_cg, e_add, e_sub, e_mul, e_fdv, e_mod, e_pow, e_neg, e_cmp, e_cmp2, e_isN, e_not, e_and, e_or, e_ite, e_tup, e_lst, e_dic, e_dicT, e_idx, e_slc, e_xf, e_xis, e_blt, e_app, e_ext, e_pop, e_popAt, e_join, e_lc, e_un, e_lsZ, W_rev, W_lsR, W_zip, vEs, vO, vC, vI, vlook, vown, vent, k_ret, k_retT, frOK, frEs, ownV, Option.isSome_some, ioOut, ofD, List.zipIdx_cons, List.zipIdx_nil, List.map_cons, List.map_nil, List.length_cons, List.length_nil, List.cons_append, List.nil_append, List.replicate, List.getElem?_cons_zero, List.getElem?_cons_succ, List.getElem?_nil, List.set_cons_zero, List.set_cons_succ, B_len, B_abs, B_int, B_intB, B_list, B_tuple, B_str, B_isStr, B_isTup, B_isInt, B_isBool, L_tup, L_rot, L_rol, L_lst, L_str, C_lt, C_le, C_gt, C_ge, C_eq, C_ne, C_in, C_nin, E_ii, E_ss, E_bb, E_nn, E_ni, E_in, E_ns, E_sn, A_int, A_str, A_tup, A_lst, U_int, M_int, M_tup, B_sorted, F_int, O_int, P_int, N_int, I_tup, I_lst, I_rot, I_rol, I_str, S_tup, S_lst, S_rol, S_str, Q_tup, Q_lst, Q_rot, Q_rol, R_tup, R_lst, R_rot, R_rol, R_str, Z_lst, Z_rol, X_tup, X_lst, X_rol, M_app, M_ext, M_pop, M_popAt,
  List.contains_cons, List.contains_nil, beq_self_eq_true, Bool.true_or, Bool.or_true, Bool.false_or, Bool.or_false, Bool.true_and, Bool.and_true, Bool.not_true, Bool.not_false, Nat.reduceAdd, Nat.reduceSub, Nat.reduceBEq, Nat.reduceLT, pu_int, pu_str, pu_bl, pu_non, pu_tup, pu_rot, pu_rol, pu_lst, pu_dK, pu_dT, pu_opq, sp_lst, sp_opq, pureL_ints, pureL_strs, pureL_nil, pureL_cons, pureL_app,
  asg1_p, asg1_s, asg1_n, sole_p, sole_s, sole_n, asgT_p, asgL, parOK, rf, al, als, alI, keepsB, List.append_nil, if_true, if_false, Bool.false_eq_true, reduceIte, true_and, and_true, exists_eq_left, exists_eq_left', Option.some.injEq, List.cons.injEq, vtake_e, xaFree, isMut, vasgF, forall_const, vwipe, vbk, vasg, stOK, soleI, live_nil, demote_nil, forE_t, forE_f, live_cons, demote_cons, lv_s, lv_n, dm_s, dm_n, cond_true, cond_false, Bool.and_false, Bool.false_and, ite_self, P.lst.injEq, P.str.injEq, exists_eq', isKindP, isNP, decide_true, decide_false, in_tup, in_rot, in_rol, in_lst, sizeLine_eq, Nat.reduceLeDiff, Nat.zero_le, le_refl_iff, asg1_l, xaN, cH0, cH1, cHK, frH, ioH, permL, reduceCtorEq, List.isEmpty_nil, vendH, Option.map_some, Prod.mk.injEq]))
theorem cv_bwords {V : VSig} {t pk bl bk pw : Nat} [Has V t vtake 2 [0] false] [Has V pk vpick 2 [0] false] [Has V bl vbelow 1 [] false] [Has V bk vbook 2 [0] false] [Has V pw vpwords 3 [0] true] [NoXa V] : ∀ vs Q X, vbwords vs Q X → vs.length = 3 → vD (bBwords t pk bl bk pw) V [0] true 15 vs Q X := by
  intro vs Q X h hl
  match vs, hl with
  | [.opq, .lst a, .lst mk], _ =>
    obtain ⟨ws, rfl, h1, h4, hml, hm, hq⟩ := h
    have hwl : (ws.map P.str).length = ws.length := List.length_map ..
    unfold vD bBwords
    walk_at "v"
    refine ⟨by omega, fun k k0 k1 => ?_⟩
    refine iteV_of (fun _ => ?_) fun _ => ?_
    · walk_at "v"
      exact hq _ ["none"] ⟨[], rfl, Nat.zero_le _, fun q h => by cases h⟩ (by decide)
    walk_at "v"
    refine iteV_of (fun _ => ?_) fun _ => ?_
    · walk_at "v"
      refine ⟨⟨by omega, by omega⟩, (List.range ws.length).map fun i : Nat => (i : Int), ?_, by rw [List.length_map, List.length_range]; omega, fun v hv => ?_⟩
      · rw [List.map_map, hwl]; rfl
      · refine ⟨rfl, hq v ["full"] (hv.mono ?_) (by decide)⟩
        rw [List.length_map, List.length_range]; exact Nat.le_refl _
    walk_at "v"
    refine iteV_of (fun _ => ?_) fun _ => ?_
    · walk_at "v"
      refine ⟨⟨by unfold rngS; omega, by unfold rngS; omega⟩, ?_⟩
      refine lc_rel (fun v => ∃ i : Int, (0 ≤ i ∧ i < 1000) ∧ v = .int i) (fun ε => ε = [some (.opq, true), some (.lst (ws.map .str), false), some (.lst mk, false), some (.int (ws.map P.str).length, true), some (.int k, true), none, none, none, none, none, none, none, none, none, none]) ?_ rfl (by rw [List.length_nil, List.length_map, List.length_range, sizeLine_eq]; omega) ?_
      · rintro y hy ε K rfl k2
        obtain ⟨i, hi, rfl⟩ := List.mem_map.mp hy
        rw [lcB_e]
        walk_at "v"
        refine ⟨_, .inl rfl, by simp, by decide, fun d hd => ?_⟩
        refine ⟨_, rfl, ?_⟩
        walk_at "v"
        simp only [List.mem_cons, List.not_mem_nil, or_false] at hd
        rcases hd with rfl | rfl | rfl | rfl | rfl
        all_goals exact k2 _ _ ⟨_, ⟨by decide, by decide⟩, rfl⟩ rfl
      · rintro ys ε2 hl2 hT rfl
        obtain ⟨is, rfl, hi⟩ := unmap hT
        rw [List.nil_append]
        rw [List.length_map, List.length_map, List.length_range] at hl2
        walk_at "v"
        refine ⟨is, rfl, by omega, fun v hv => ?_⟩
        walk_at "v"
        refine lc_rel (fun v => ∃ t : Str, True ∧ v = .str t) (fun ε => ε = [some (.opq, true), some (.lst (ws.map .str), false), some (.lst mk, false), some (.int (ws.map P.str).length, true), some (.int k, true), some (.lst (is.map .int), true), none, none, none, none, none, none, none, none, none]) ?_ rfl (by rw [List.length_nil, List.length_map, sizeLine_eq]; omega) ?_
        · rintro y hy ε K rfl k2
          obtain ⟨i, hii, rfl⟩ := List.mem_map.mp hy
          have hib := hi i hii
          rw [lcB_e]
          walk_at "v"
          exact ⟨Nat.lt_of_le_of_lt (Nat.log2_le_self _) (by omega), k2 _ _ ⟨_, trivial, rfl⟩ rfl⟩
        · rintro ys ε2 hl3 hT3 rfl
          obtain ⟨ts, rfl, _⟩ := unmap hT3
          rw [List.nil_append]
          rw [List.length_map, List.length_map] at hl3
          rw [sole_p hv.pu]
          walk_at "v"
          refine ⟨by rw [List.length_map]; omega, ?_⟩
          exact hq v (("ranks" : Str) :: ts) (hv.mono (by omega)) (by rw [List.length_cons]; omega)
    walk_at "v"
    refine ite_of (fun _ => ?_) fun _ => ?_
    · refine ⟨ws.length, by rw [hwl], h1, h4, fun v hv => ⟨_, rfl, ?_⟩⟩
      have hvp := hv.pu
      refine ⟨ws, rfl, hv, fun xs hx => ⟨_, rfl, ?_⟩⟩
      walk_at "v"
      exact hq v xs hv (by omega)
    · obtain ⟨ts, t1, t2, t3⟩ := Sh.list fun m h => ((hm m h).shd (d := 2) Bk.shd).sh (by decide)
      refine eq_nilP t1 (Pur.shp t2 t3) ?_
      refine iteV_of (fun _ => ?_) fun hne => ?_
      · walk_at "v"
        refine ⟨ws.length, by rw [hwl], h1, h4, fun v hv => ⟨_, rfl, ?_⟩⟩
        have hvp := hv.pu
        refine ⟨ws, rfl, hv, fun xs hx => ⟨_, rfl, ?_⟩⟩
        walk_at "v"
        exact hq v xs hv (by omega)
      · walk_at "v"
        have hmk : mk ≠ [] := fun e => by rw [e] at hne; cases hne
        refine ⟨mk, .inl rfl, hmk, by omega, fun d hd => ⟨_, rfl, ?_⟩⟩
        obtain ⟨nm, w, rfl, hnm, hw⟩ := hm d hd
        have hwp := hw.pu
        rw [asgT_p (by show (true && (pure w && true)) = true; rw [hwp]; rfl)]
        refine ⟨_, rfl, ?_⟩
        walk_at "v"
        refine iteV_of (fun _ => ?_) fun _ => ?_
        · walk_at "v"
          refine ⟨by omega, fun j j0 j1 => ⟨⟨by unfold rngS; omega, by unfold rngS; omega⟩, ?_⟩⟩
          obtain ⟨qs, rfl, hql, hqr⟩ := id hw
          refine lc_rel (fun v => ∃ i : Int, (0 ≤ i ∧ i < ws.length) ∧ v = .int i) (fun ε => ε = [some (.opq, true), some (.lst (ws.map .str), false), some (.lst mk, false), some (.int (ws.map P.str).length, true), some (.int k, true), none, none, none, some (.tup (qs.map prP), true), some (.str nm, true), none, none, none, none, none]) ?_ rfl (by rw [List.length_nil, List.length_map, List.length_range, sizeLine_eq]; omega) ?_
          · rintro y hy ε K rfl k2
            obtain ⟨i, hi, rfl⟩ := List.mem_map.mp hy
            rw [lcB_e]
            walk_at "v"
            exact ⟨by omega, fun i i0 i1 => k2 _ _ ⟨i, ⟨i0, by omega⟩, rfl⟩ rfl⟩
          · rintro ys ε2 hl2 hT rfl
            obtain ⟨is, rfl, hi⟩ := unmap hT
            rw [List.nil_append]
            rw [List.length_map, List.length_map, List.length_range] at hl2
            walk_at "v"
            refine lc_any (fun v => ∃ r : Int × Int, r ∈ qs ∧ v = prP r) (fun ε => ε = [some (.opq, true), some (.lst (ws.map .str), false), some (.lst mk, false), some (.int (ws.map P.str).length, true), some (.int k, true), none, none, none, some (.tup (qs.map prP), true), some (.str nm, true), some (.lst (is.map .int), true), none, none, none, none]) ?_ rfl (by rw [List.length_nil, List.length_map, sizeLine_eq]; omega) ?_
            · rintro y hy ε K rfl k2 k3
              obtain ⟨r, hr, rfl⟩ := List.mem_map.mp hy
              rw [lcB_e]
              unfold prP
              walk_at "v"
              refine ⟨_, rfl, ?_⟩
              walk_at "v"
              refine mem_any (sh_int _) (fun z hz => ?_) fun b => ?_
              · obtain ⟨i, _, rfl⟩ := List.mem_map.mp hz
                exact sh_int i
              walk_at "v"
              refine iteV_of (fun _ => ?_) fun _ => ?_
              · walk_at "v"
                exact k2 _ _ ⟨r, hr, rfl⟩ rfl
              · walk_at "v"
                exact k3 _ rfl
            · rintro ys ε2 hl3 hT3 rfl
              obtain ⟨rs, rfl, hrr⟩ := unmap hT3
              rw [List.nil_append]
              rw [List.length_map, List.length_map] at hl3
              walk_at "v"
              refine lc_rel (fun v => ∃ t : Str, True ∧ v = .str t) (fun ε => ε = [some (.opq, true), some (.lst (ws.map .str), false), some (.lst mk, false), some (.int (ws.map P.str).length, true), some (.int k, true), none, none, none, some (.tup (qs.map prP), true), some (.str nm, true), some (.lst (is.map .int), true), none, none, none, none]) ?_ rfl (by rw [List.length_nil, List.length_map, sizeLine_eq]; omega) ?_
              · rintro y hy ε K rfl k2
                obtain ⟨i, hii, rfl⟩ := List.mem_map.mp hy
                have hib := hi i hii
                obtain ⟨n, rfl⟩ := Int.eq_ofNat_of_zero_le hib.1
                rw [lcB_e]
                walk_at "v"
                refine ⟨_, at_str (by omega), ?_⟩
                walk_at "v"
                exact k2 _ _ ⟨_, trivial, rfl⟩ rfl
              · rintro zs ε2 hl4 hT4 rfl
                obtain ⟨ts, rfl, _⟩ := unmap hT4
                rw [List.nil_append]
                rw [List.length_map, List.length_map] at hl4
                walk_at "v"
                refine ⟨by rw [List.length_map]; omega, by rw [List.length_map]; omega, sole_p (prs_pure rs), ?_⟩
                have := hq (.tup (rs.map prP)) (("only" : Str) :: (ts ++ [("of" : Str), nm])) ⟨rs, rfl, by omega, fun q hq' => hqr q (hrr q hq')⟩ (by simp; omega)
                simpa using this
        walk_at "v"
        refine iteV_of (fun _ => ?_) fun _ => ?_
        · walk_at "v"
          refine ⟨mk, .inl rfl, hmk, by omega, fun d2 hd2 => ⟨_, rfl, ?_⟩⟩
          obtain ⟨nm2, w2, rfl, hnm2, hw2⟩ := hm d2 hd2
          have hwp2 := hw2.pu
          rw [asgT_p (by show (true && (pure w2 && true)) = true; rw [hwp2]; rfl)]
          refine ⟨_, rfl, ?_⟩
          obtain ⟨qs, rfl, hql, hqr⟩ := id hw
          obtain ⟨qs2, rfl, hql2, hqr2⟩ := id hw2
          walk_at "v"
          refine lc_any (fun v => ∃ r : Int × Int, r ∈ qs ∧ v = prP r) (fun ε => ε = [some (.opq, true), some (.lst (ws.map .str), false), some (.lst mk, false), some (.int (ws.map P.str).length, true), some (.int k, true), none, none, none, some (.tup (qs.map prP), true), some (.str nm, true), none, none, none, some (.str nm2, true), some (.tup (qs2.map prP), true)]) ?_ rfl (by rw [List.length_nil, List.length_map, sizeLine_eq]; omega) ?_
          · rintro y hy ε K rfl k2 k3
            obtain ⟨r, hr, rfl⟩ := List.mem_map.mp hy
            rw [lcB_e]
            walk_at "v"
            refine ⟨rfl, mem_any (sh_pr _) (fun z hz => ?_) fun b => ?_⟩
            · obtain ⟨i, _, rfl⟩ := List.mem_map.mp hz
              exact sh_pr i
            walk_at "v"
            refine iteV_of (fun _ => ?_) fun _ => ?_
            · walk_at "v"
              exact k2 _ _ ⟨r, hr, rfl⟩ rfl
            · walk_at "v"
              exact k3 _ rfl
          · rintro ys ε2 hl3 hT3 rfl
            obtain ⟨rs, rfl, hrr⟩ := unmap hT3
            rw [List.nil_append]
            rw [List.length_map, List.length_map] at hl3
            walk_at "v"
            exact ⟨sole_p (prs_pure rs), hq (.tup (rs.map prP)) [("common" : Str), nm, nm2] ⟨rs, rfl, by omega, fun q hq' => hqr q (hrr q hq')⟩ (by show 3 ≤ 64; decide)⟩
        walk_at "v"
        exact hq w [nm] hw (by rw [List.length_singleton]; omega)

def bNear (pk : Nat) : MS := (.seq (.set 5 (.lc (.var 6) (.nm 6) (.gen (.var 1)) (.yes (.cmp .LtE (.blt .len (.cons (.idx (.var 6) (.cst (.int 1))) .nil)) (.var 2))) [("own", 6)]))
(.seq (.ite (.cmp .NotEq (.var 5) (.lst .nil)) (.seq (.setT [7, 8] (.call pk (.cons (.var 0) (.cons (.var 5) .nil))))
(.seq (.ret (.tup (.cons (.var 8) (.cons (.lst (.cons (.var 7) .nil)) .nil))))
.skip)) .skip)
(.seq (.ret (.tup (.cons (.tup .nil) (.cons (.lst (.cons (.cst (.str "0")) (.cons (.cst (.str "*")) (.cons (.idx (.idx (.var 1) (.cst (.int 0))) (.cst (.int 0))) .nil)))) .nil))))
.skip)))
theorem near_ok {V : VSig} {pk : Nat} [Has V pk vpick 2 [0] false] [NoXa V] {X : VX} {Q : P → List P → Prop} {nx : VEv → Prop} {mk : List P} {r : Nat} {dp way : Int} (hne : mk ≠ []) (hl : mk.length ≤ 8) (hm : ∀ m ∈ mk, Nd (Ln 6) m)
    (hq : ∀ v (xs : List Str), Ln r v → xs.length ≤ 3 → Q (.tup [v, .lst (xs.map .str)]) [.opq]) :
    vS (bNear pk) V X { nx := nx, rt := vout [0] true Q } [some (.opq, true), some (.lst mk, false), some (.int r, true), some (.int dp, true), some (.int way, true), none, none, none, none, none, none] := by
  have hmp : pureL mk = true := pureL_iff.mpr fun m h => (hm m h).pu Ln.pu
  unfold bNear
  walk_at "v"
  refine lc_any (fun v => v ∈ mk ∧ ∃ x w, v = .tup [.str x, w] ∧ Ln r w) (fun ε => ε = [some (.opq, true), some (.lst mk, false), some (.int r, true), some (.int dp, true), some (.int way, true), none, none, none, none, none, none]) ?_ rfl (by rw [List.length_nil, sizeLine_eq]; omega) ?_
  · rintro y hy ε K rfl k1 k2
    obtain ⟨x, w, rfl, hx, bs, rfl, hbl, hbs⟩ := hm y hy
    have hyp' : pureL bs = true := pureL_iff.mpr fun b hb => (hbs b hb).pu
    rw [lcB_e]
    walk_at "v"
    refine ⟨hyp', _, rfl, ?_⟩
    walk_at "v"
    refine iteV_of (fun hc => ?_) fun _ => ?_
    · walk_at "v"
      exact k1 _ _ ⟨hy, x, _, rfl, bs, rfl, by have := of_decide_eq_true hc; omega, hbs⟩ rfl
    · walk_at "v"
      exact k2 _ rfl
  · rintro ys ε2 hl2 hT rfl
    rw [List.nil_append]
    have hyp : pureL ys = true := pureL_sub hmp fun y hy => (hT y hy).1
    rw [asg1_s (v := .lst ys) hyp]
    walk_at "v"
    obtain ⟨ts, t1, t2, t3⟩ := Sh.list fun m h => ((hm m (hT m h).1).shd (d := 3) Ln.shd).sh (by decide)
    refine eq_nilP t1 (Pur.shp t2 t3) ?_
    refine iteV_of (fun hc => ?_) fun _ => ?_
    · walk_at "v"
      refine vpick_l (fun e => by rw [e] at hc; cases hc) (by omega) fun d hd => ⟨_, rfl, ?_⟩
      obtain ⟨_, x, w, rfl, hw⟩ := hT d hd
      have hwp := hw.pu
      rw [asgT_p (by show (true && (pure w && true)) = true; rw [hwp]; rfl)]
      refine ⟨_, rfl, ?_⟩
      walk_at "v"
      exact hq w [x] hw (by rw [List.length_singleton]; decide)
    · walk_at "v"
      cases mk with
      | nil => exact absurd rfl hne
      | cons m mk =>
        obtain ⟨x, w, rfl, hx, _⟩ := hm m (List.mem_cons_self ..)
        refine ⟨_, atI_nat (j := 0) rfl, ?_⟩
        walk_at "v"
        refine ⟨_, rfl, ?_⟩
        walk_at "v"
        exact hq (.tup []) [("0" : Str), "*", x] ⟨[], rfl, Nat.zero_le _, fun b h => by cases h⟩ (by show 3 ≤ 3; decide)
theorem Ln.mono {r s : Nat} {v : P} (h : Ln r v) (l : r ≤ s) : Ln s v := by
  obtain ⟨bs, e, h1, h2⟩ := h
  exact ⟨bs, e, by omega, h2⟩
theorem pw_pos (d : Nat) : 3 ≤ pw d := by
  induction d with
  | zero => decide
  | succ d ih => show 3 ≤ 3 * pw d + 2; omega
theorem pw_le {d : Nat} (h : d ≤ 3) : pw d ≤ 107 := by
  match d, h with
  | 0, _ => decide
  | 1, _ => decide
  | 2, _ => decide
  | 3, _ => decide
theorem asgT_vl {i j : Nat} {v : P} {xs : List P} {ε : VEv} (h : pure v = true) : asgT [i, j] [] (.tup [v, .lst xs]) ε = some (asgL true [i, j] [v, .lst xs] ε) := by
  rw [asgT_n rfl (by simp [one1, h])]; rfl
theorem forE_0 {b : Bool} {ε : VEv} : forE b [] ε = ε := by cases b <;> rfl
theorem repL_len {α : Type} {xs : List α} {m : Nat} : (repL xs (m : Int)).length = m * xs.length := by
  unfold repL
  simp [List.length_flatten]
theorem repL_mem {α : Type} {xs : List α} {m : Int} {x : α} (h : x ∈ repL xs m) : x ∈ xs := by
  unfold repL at h
  obtain ⟨l, hl, hx⟩ := List.mem_flatten.mp h
  rw [List.eq_of_mem_replicate hl] at hx
  exact hx
theorem cv_part0 {V : VSig} {t pk p c : Nat} [Has V t vtake 2 [0] false] [Has V pk vpick 2 [0] false] [NoXa V] : ∀ vs Q X, vpart 0 1 vs Q X → vs.length = 4 → vD (bPart t pk p c) V [0] true 11 vs Q X := by
  intro vs Q X h hl
  match vs, hl with
  | [.opq, .lst mk, .int room, .int deep], _ =>
    obtain ⟨r, rfl, hr, rfl, hne, hml, hm, hq⟩ := h
    unfold vD bPart
    walk_at "v"
    refine ite_of (fun hc => absurd (of_decide_eq_true hc) (by decide)) fun _ => ?_
    rw [show decide ((0 : Int) < 3) = true from rfl, iteV_t]
    exact near_ok hne hml hm fun v xs h1 h2 => hq v xs h1 (by rw [Nat.one_mul]; exact h2)
theorem cv_partS {V : VSig} {t pk p c d : Nat} [Has V t vtake 2 [0] false] [Has V pk vpick 2 [0] false] [Has V p (vpart d 1) 4 [0] true] [Has V c (vpart d 3) 4 [0] true] [NoXa V] (hd3 : d ≤ 3) : ∀ vs Q X, vpart (d + 1) 1 vs Q X → vs.length = 4 → vD (bPart t pk p c) V [0] true 11 vs Q X := by
  intro vs Q X h hl
  match vs, hl with
  | [.opq, .lst mk, .int room, .int deep], _ =>
    obtain ⟨r, rfl, hr, rfl, hne, hml, hm, hq⟩ := h
    have hpd := pw_pos d
    have hpl := pw_le hd3
    have hps : pw (d + 1) = 3 * pw d + 2 := rfl
    unfold vD bPart
    walk_at "v"
    refine ite_of (fun _ => ⟨by decide, fun k k0 k1 => ?_⟩) fun hc => absurd hc (by simp)
    refine iteV_of (fun _ => near_ok hne hml hm fun v xs h1 h2 => hq v xs h1 (by omega)) fun _ => ?_
    walk_at "v"
    refine iteV_of (fun _ => ?_) fun _ => ?_
    · walk_at "v"
      refine ⟨r, rfl, hr, by omega, hne, hml, hm, fun v xs h1 h2 => ⟨_, rfl, ?_⟩⟩
      have hvp := h1.pu
      rw [asgT_vl hvp]
      refine ⟨_, rfl, ?_⟩
      walk_at "v"
      refine ⟨by rw [List.length_map]; omega, by simp; omega, ?_⟩
      have := hq v (("(" : Str) :: (xs ++ [(")" : Str)])) h1 (by simp; omega)
      simpa using this
    walk_at "v"
    refine pick_ints (lo := 0) (hi := 3) [0, 1, 2, 3] rfl fun m m0 m1 => ⟨_, rfl, ?_⟩
    walk_at "v"
    refine iteV_of (fun _ => ?_) fun hm0 => ?_
    · walk_at "v"
      refine ⟨6, rfl, by decide, by omega, hne, hml, hm, fun v xs h1 h2 => ⟨_, rfl, ?_⟩⟩
      refine ⟨_, rfl, ?_⟩
      walk_at "v"
      refine ⟨by rw [List.length_map]; omega, ?_⟩
      have := hq (.tup []) (("0" : Str) :: ("*" : Str) :: xs) ⟨[], rfl, Nat.zero_le _, fun b h => by cases h⟩ (by simp; omega)
      simpa using this
    · walk_at "v"
      have hmp : 0 < m := by have := of_decide_eq_false hm0; omega
      obtain ⟨mn, rfl⟩ := Int.eq_ofNat_of_zero_le m0
      refine ⟨⟨hmp, by omega⟩, r / mn, by omega, Nat.le_trans (Nat.div_le_self _ _) hr, by omega, hne, hml, hm, fun v xs h1 h2 => ⟨_, rfl, ?_⟩⟩
      have hvp := h1.pu
      rw [asgT_vl hvp]
      refine ⟨_, rfl, ?_⟩
      obtain ⟨bs, rfl, hb1, hb2⟩ := h1
      walk_at "v"
      have hrm : mn * bs.length ≤ r := Nat.le_trans (Nat.mul_le_mul_left _ hb1) (Nat.mul_div_le r mn)
      have hL : Ln r (.tup (repL bs (mn : Int))) := ⟨_, rfl, by rw [repL_len]; exact hrm, fun b hb => hb2 b (repL_mem hb)⟩
      have hb6 : bs.length ≤ 6 := Nat.le_trans hb1 (Nat.le_trans (Nat.div_le_self _ _) hr)
      refine ⟨⟨by omega, by omega, by omega⟩, Nat.lt_of_le_of_lt (Nat.log2_le_self _) (by omega), by rw [List.length_map]; omega, sole_p hL.pu, ?_⟩
      have := hq _ (((toString (mn : Int) : String) : Str) :: ("*" : Str) :: xs) hL (by simp; omega)
      simpa using this
theorem cv_parts {V : VSig} {pk p d : Nat} [Has V pk vpick 2 [0] false] [Has V p (vpart d 1) 4 [0] true] [NoXa V] (hd3 : d ≤ 3) : ∀ vs Q X, vpart d 3 vs Q X → vs.length = 4 → vD (bParts pk p) V [0] true 9 vs Q X := by
  intro vs Q X h hl
  match vs, hl with
  | [.opq, .lst mk, .int room, .int deep], _ =>
    obtain ⟨r, rfl, hr, rfl, hne, hml, hm, hq⟩ := h
    have hpl := pw_le hd3
    unfold vD bParts
    walk_at "v"
    refine pick_ints (lo := 1) (hi := 3) [1, 1, 2, 3] rfl fun m m0 m1 => ⟨_, rfl, ?_⟩
    walk_at "v"
    rw [forE_0]
    obtain ⟨mn, rfl⟩ := Int.eq_ofNat_of_zero_le (show 0 ≤ m by omega)
    refine ⟨⟨by unfold rngS; omega, by unfold rngS; omega⟩, ?_⟩
    refine for_pre (xs := List.range (mn : Int).toNat) (fun i : Nat => P.int i) (fun done ε => ∃ (bs : List P) (xs : List Str) (o6 o7 o8 : Option (P × Bool)), ε = [some (.opq, true), some (.lst mk, false), some (.int r, true), some (.int d, true), some (.tup bs, true), some (.lst (xs.map .str), true), o6, o7, o8] ∧ bs.length ≤ r ∧ (∀ b ∈ bs, Bk 4 b) ∧ xs.length ≤ done.length * pw d) ?_ ?_ (done := []) rfl ⟨[], [], none, none, none, rfl, Nat.zero_le _, fun b h => (by cases h), Nat.zero_le _⟩
    · rintro done x rest hx ε K' ⟨bs, xs, o6, o7, o8, rfl, hbl, hbs, hxl⟩ e1 e2 e3 hk
      have hdl := congrArg List.length hx
      rw [List.length_range, List.length_append, List.length_cons] at hdl
      have hbp : pureL bs = true := pureL_iff.mpr fun b hb => (hbs b hb).pu
      refine ⟨_, rfl, ?_⟩
      walk_at "v"
      refine ⟨r - bs.length, by omega, by omega, rfl, hne, hml, hm, fun v ys h1 h2 => ⟨_, rfl, ?_⟩⟩
      have hvp := h1.pu
      rw [asgT_vl hvp]
      refine ⟨_, rfl, ?_⟩
      obtain ⟨bs2, rfl, hb1, hb2⟩ := h1
      have hbp2 : pureL bs2 = true := hvp
      walk_at "v"
      have hxb : done.length * pw d ≤ 3 * pw d := Nat.mul_le_mul_right _ (by omega)
      refine ⟨by omega, by rw [List.length_map, List.length_map]; omega, sole_p (by show pureL (bs ++ bs2) = true; rw [pureL_app, hbp, hbp2]; rfl), ?_⟩
      refine hk _ ⟨bs ++ bs2, xs ++ ys, _, _, _, by rw [List.map_append], by rw [List.length_append]; omega, fun b hb => (List.mem_append.mp hb).elim (hbs b) (hb2 b), ?_⟩
      rw [List.length_append, List.length_append, List.length_singleton, Nat.add_mul]
      omega
    · rintro ε2 ⟨bs, xs, o6, o7, o8, rfl, hbl, hbs, hxl⟩
      walk_at "v"
      rw [List.length_range] at hxl
      exact hq _ xs ⟨bs, rfl, hbl, hbs⟩ (Nat.le_trans hxl (Nat.mul_le_mul_right _ (by omega)))
end Cay.PL

set_option Elab.async false
set_option linter.all false
set_option maxRecDepth 100000
set_option maxHeartbeats 1000000
namespace Cay.PL
open PySem PySem.Spec PyProof.Rows L2 Bay
local macro_rules | `(tactic| walk_at "v") => `(tactic| (try simp only [V_skip, V_seq, V_set, V_setTt, V_setTc, V_setTi, V_setTv, V_setTs, V_par, V_sub, V_expr, V_ret, V_retN, V_ite, V_for, V_rais1, V_rais0, V_brk, V_cont, T_bl, iteV_t, iteV_f, e_var, e_cst, e_cg, e_add, e_sub, e_mul, e_fdv, e_mod, e_pow, e_neg, e_cmp, e_cmp2, e_isN, e_not, e_and, e_or, e_ite, e_tup, e_lst, e_dic, e_dicT, e_idx, e_slc, e_xf, e_xis, e_blt, e_app, e_ext, e_pop, e_popAt, e_join, e_lc, e_un, e_lsZ, W_rev, W_lsR, W_zip, vEs, vO, vC, vI, vlook, vown, vent, k_ret, k_retT, frOK, frEs, ownV, Option.isSome_some, ioOut, ofD, List.zipIdx_cons, List.zipIdx_nil, List.map_cons, List.map_nil, List.length_cons, List.length_nil, List.cons_append, List.nil_append, List.replicate, List.getElem?_cons_zero, List.getElem?_cons_succ, List.getElem?_nil, List.set_cons_zero, List.set_cons_succ, B_len, B_abs, B_int, B_intB, B_list, B_tuple, B_str, B_isStr, B_isTup, B_isInt, B_isBool, L_tup, L_rot, L_rol, L_lst, L_str, C_lt, C_le, C_gt, C_ge, C_eq, C_ne, C_in, C_nin, E_ii, E_ss, E_bb, E_nn, E_ni, E_in, E_ns, E_sn, A_int, A_str, A_tup, A_lst, U_int, M_int, M_tup, B_sorted, F_int, O_int, P_int, N_int, I_tup, I_lst, I_rot, I_rol, I_str, S_tup, S_lst, S_rol, S_str, Q_tup, Q_lst, Q_rot, Q_rol, R_tup, R_lst, R_rot, R_rol, R_str, Z_lst, Z_rol, X_tup, X_lst, X_rol, M_app, M_ext, M_pop, M_popAt,
  List.contains_cons, List.contains_nil, beq_self_eq_true, Bool.true_or, Bool.or_true, Bool.false_or, Bool.or_false, Bool.true_and, Bool.and_true, Bool.not_true, Bool.not_false, Nat.reduceAdd, Nat.reduceSub, Nat.reduceBEq, Nat.reduceLT, pu_int, pu_str, pu_bl, pu_non, pu_tup, pu_rot, pu_rol, pu_lst, pu_dK, pu_dT, pu_opq, sp_lst, sp_opq, pureL_ints, pureL_strs, pureL_nil, pureL_cons, pureL_app,
  asg1_p, asg1_s, asg1_n, sole_p, sole_s, sole_n, asgT_p, asgL, parOK, rf, al, als, alI, keepsB, List.append_nil, if_true, if_false, Bool.false_eq_true, reduceIte, true_and, and_true, exists_eq_left, exists_eq_left', Option.some.injEq, List.cons.injEq, vtake_e, xaFree, isMut, vasgF, forall_const, vwipe, vbk, vasg, stOK, soleI, live_nil, demote_nil, forE_t, forE_f, live_cons, demote_cons, lv_s, lv_n, dm_s, dm_n, cond_true, cond_false, Bool.and_false, Bool.false_and, ite_self, P.lst.injEq, P.str.injEq, exists_eq', isKindP, isNP, decide_true, decide_false, in_tup, in_rot, in_rol, in_lst, sizeLine_eq, Nat.reduceLeDiff, Nat.zero_le, le_refl_iff, asg1_l, xaN, cH0, cH1, cHK, frH, ioH, permL, reduceCtorEq, List.isEmpty_nil, vendH, Option.map_some, Prod.mk.injEq]))
theorem cut_map {α β : Type} {f : α → β} {xs : List α} {lo hi : Option Int} : cutL (xs.map f) lo hi = (cutL xs lo hi).map f := by
  unfold cutL
  rw [List.length_map, ← List.map_drop, ← List.map_take]
theorem cut_mem {α : Type} {xs : List α} {lo hi : Option Int} {x : α} (h : x ∈ cutL xs lo hi) : x ∈ xs := by
  unfold cutL at h
  exact List.mem_of_mem_drop (List.mem_of_mem_take h)
theorem cut_len2 {α : Type} {xs : List α} {a b : Nat} : (cutL xs (some (a : Int)) (some (b : Int))).length ≤ b - a := by
  unfold cutL
  rw [List.length_take, HT.sIx_nat, HT.sIx_nat]
  omega
theorem pool_oks {x : Str} (h : x ∈ pool1 ++ pool2) : Oks x := by
  obtain ⟨a, b⟩ := and2 (List.all_eq_true.mp pool_ok x h)
  exact ⟨a, of_decide_eq_true b⟩
theorem cv_made {V : VSig} {t pk nm bw c : Nat} [Has V t vtake 2 [0] false] [Has V pk vpick 2 [0] false] [Has V nm vnames 2 [0] false] [Has V bw vbwords 3 [0] true] [Has V c (vpart 3 3) 4 [0] true] [NoXa V] : ∀ vs Q X, vmade vs Q X → vs.length = 2 → vD (bMade t pk nm bw c) V [0] false 13 vs Q X := by
  intro vs Q X h hl
  match vs, hl with
  | [.opq, .int most], _ =>
    obtain ⟨m, rfl, hm, hq⟩ := h
    unfold vD bMade
    walk_at "v"
    refine pick_ints (lo := 1) (hi := 4) [1, 2, 2, 3, 3, 4] rfl fun n n0 n1 => ⟨_, rfl, ?_⟩
    obtain ⟨n, rfl⟩ := Int.eq_ofNat_of_zero_le (show 0 ≤ n by omega)
    walk_at "v"
    refine ⟨.inl ⟨by omega, by omega⟩, n + 2 * m, by omega, fun ns hnl hnd hnp => ⟨_, rfl, ?_⟩⟩
    walk_at "v"
    have ek : cutL (List.map P.str ns) none (some (n : Int)) = (ns.take n).map .str := by rw [cut_to, List.map_take]
    have hok : ∀ x ∈ ns, Oks x := fun x hx => pool_oks (hnp x hx)
    have hwl : (ns.take n).length = n := by rw [List.length_take]; omega
    have hwo : ∀ x ∈ ns.take n, Oks x := fun x hx => hok x (List.mem_of_mem_take hx)
    have hwm : ((ns.take n).map P.str).length = n := by rw [List.length_map]; exact hwl
    rw [ek]
    generalize ns.take n = ws at *
    walk_at "v"
    refine ⟨by omega, by omega, by omega, by omega, by omega, fun k k0 k1 => ?_⟩
    obtain ⟨k, rfl⟩ := Int.eq_ofNat_of_zero_le k0
    have hml : (cutL ns (some (n : Int)) (some ((n : Int) + k))).length ≤ m := Nat.le_trans (cut_len2 (b := n + k)) (by omega)
    have hmo : ∀ x ∈ cutL ns (some (n : Int)) (some ((n : Int) + k)), Oks x := fun x hx => hok x (cut_mem hx)
    rw [cut_map]
    generalize cutL ns (some (n : Int)) (some ((n : Int) + k)) = ms at *
    walk_at "v"
    refine ⟨by rw [List.length_map]; omega, ?_⟩
    refine for_pre (xs := ms) P.str (fun done ε => ∃ (xs : List Str) (ss : List P) (o8 o9 o10 : Option (P × Bool)), ε = [some (.opq, true), some (.int m, true), some (.int n, true), some (.lst (ns.map .str), true), some (.lst (ws.map .str), true), some (.lst (xs.map .str), true), some (.lst ss, true), some (.lst [], true), o8, o9, o10, none, none] ∧ ss.length ≤ done.length ∧ (∀ s ∈ ss, Nd (Bk n) s) ∧ xs.length ≤ 6 + 68 * done.length) ?_ ?_ (done := []) rfl ⟨("kinds" : Str) :: (ws ++ [(";" : Str)]), [], none, none, none, by simp, Nat.le_refl _, fun b h => (by cases h), by simp; omega⟩
    · rintro done x rest hx ε K' ⟨xs, ss, o8, o9, o10, rfl, hsl, hss, hxl⟩ e1 e2 e3 hk
      have hdl := congrArg List.length hx
      rw [List.length_append, List.length_cons] at hdl
      have hox := hmo x (by rw [hx]; simp)
      refine ⟨_, rfl, ?_⟩
      walk_at "v"
      refine ⟨ws, rfl, by omega, by omega, by omega, by rw [hwl]; exact hss, fun b ys hb hy => ⟨_, rfl, ?_⟩⟩
      have hbp := hb.pu
      rw [asgT_vl hbp]
      refine ⟨_, rfl, ?_⟩
      walk_at "v"
      refine ⟨by rw [hbp]; rfl, by omega, by rw [List.length_map]; omega, by simp; omega, by simp; omega, ?_⟩
      refine hk _ ⟨xs ++ [("book" : Str), x, ("=" : Str)] ++ ys ++ [(";" : Str)], ss ++ [.tup [.str x, b]], some (.str x, true), some (b, true), some (.lst (ys.map .str), true), by simp, by simp; omega, fun s hs => (List.mem_append.mp hs).elim (hss s) fun h => ?_, by simp; omega⟩
      rw [List.mem_singleton] at h
      rw [hwl] at hb
      exact ⟨x, b, h, hox, hb⟩
    · rintro ε2 ⟨xs, ss, o8, o9, o10, rfl, hsl, hss, hxl⟩
      walk_at "v"
      have hssp : pureL ss = true := pureL_iff.mpr fun s hs => (hss s hs).pu Bk.pu
      refine lc_rel (Nd (Ln 6)) (fun ε => ε = [some (.opq, true), some (.int m, true), some (.int n, true), some (.lst (ns.map .str), true), some (.lst (ws.map .str), true), some (.lst (xs.map .str), true), some (.lst ss, true), some (.lst [], true), o8, o9, o10, none, none]) ?_ rfl (by rw [List.length_nil, sizeLine_eq]; omega) ?_
      · rintro y hy ε K rfl k2
        obtain ⟨x, b, rfl, hx, hb⟩ := hss y hy
        have hbp := hb.pu
        rw [lcB_e]
        walk_at "v"
        refine ⟨by simp [hbp], _, by rw [asgT_p (by simp [hbp])]; rfl, ?_⟩
        walk_at "v"
        exact k2 _ _ ⟨x, _, rfl, hx, [b], rfl, by show 1 ≤ 6; decide, fun c hc => by rw [List.mem_singleton] at hc; rw [hc]; exact hb.mono (by omega)⟩ rfl
      · rintro ys ε3 hl2 hT rfl
        rw [List.nil_append]
        have hyp : pureL ys = true := pureL_iff.mpr fun s hs => (hT s hs).pu Ln.pu
        walk_at "v"
        simp only [asg1_s (v := P.lst ys) hyp]
        walk_at "v"
        refine ⟨by omega, fun k2 k20 k21 => ?_⟩
        obtain ⟨k2, rfl⟩ := Int.eq_ofNat_of_zero_le k20
        rw [show (n : Int) + m = ((n + m : Nat) : Int) by omega]
        have hml2 : (cutL ns (some ((n + m : Nat) : Int)) (some (((n + m : Nat) : Int) + k2))).length ≤ m := Nat.le_trans (cut_len2 (b := n + m + k2)) (by omega)
        have hmo2 : ∀ x ∈ cutL ns (some ((n + m : Nat) : Int)) (some (((n + m : Nat) : Int) + k2)), Oks x := fun x hx => hok x (cut_mem hx)
        rw [cut_map]
        generalize cutL ns (some ((n + m : Nat) : Int)) (some (((n + m : Nat) : Int) + k2)) = ms2 at *
        walk_at "v"
        refine ⟨by rw [List.length_map]; omega, ?_⟩
        refine for_pre (xs := ms2) P.str (fun done ε => ∃ (xs : List Str) (ls mk : List P) (o8 o9 o10 o12 : Option (P × Bool)), ε = [some (.opq, true), some (.int m, true), some (.int n, true), some (.lst (ns.map .str), true), some (.lst (ws.map .str), true), some (.lst (xs.map .str), true), some (.lst ss, true), some (.lst ls, true), o8, o9, o10, some (.lst mk, true), o12] ∧ ls.length ≤ done.length ∧ (∀ s ∈ ls, Nd (Ln 6) s) ∧ mk.length ≤ ss.length + done.length ∧ (∀ s ∈ mk, Nd (Ln 6) s) ∧ xs.length ≤ 1000 + 1000 * done.length) ?_ ?_ (done := []) rfl ⟨xs, [], ys, _, _, _, _, rfl, Nat.le_refl _, fun b h => (by cases h), by simp; omega, hT, by simp; omega⟩
        · rintro done x rest hx ε K' ⟨xs, ls, mk, o8, o9, o10, o12, rfl, hll, hls, hml, hms, hxl⟩ e1 e2 e3 hk
          have hdl := congrArg List.length hx
          rw [List.length_append, List.length_cons] at hdl
          have hox := hmo2 x (by rw [hx]; simp)
          refine ⟨_, rfl, ?_⟩
          walk_at "v"
          obtain ⟨ts, t1, t2, t3⟩ := Sh.list fun m h => ((hms m h).shd (d := 3) Ln.shd).sh (by decide)
          refine eq_nilP t1 (Pur.shp t2 t3) ?_
          refine iteV_of (fun hc => ?_) fun _ => ?_
          · walk_at "v"
            refine ⟨6, rfl, by decide, rfl, (fun e => by rw [e] at hc; cases hc), by omega, hms, fun v zs hv hz => ⟨_, rfl, ?_⟩⟩
            have hvp := hv.pu
            rw [asgT_vl hvp]
            refine ⟨_, rfl, ?_⟩
            have hz' : zs.length ≤ 321 := hz
            walk_at "v"
            refine ⟨by rw [hvp]; rfl, by omega, by rw [hvp]; rfl, by omega, by rw [List.length_map]; omega, by simp; omega, by simp; omega, ?_⟩
            refine hk _ ⟨xs ++ [("line" : Str), x, ("=" : Str)] ++ zs ++ [(";" : Str)], ls ++ [.tup [.str x, v]], mk ++ [.tup [.str x, v]], some (.str x, true), o9, some (.lst (zs.map .str), true), some (v, true), by simp, by simp; omega, fun s hs => (List.mem_append.mp hs).elim (hls s) fun h => ?_, by simp; omega, fun s hs => (List.mem_append.mp hs).elim (hms s) fun h => ?_, by simp; omega⟩
            all_goals
              rw [List.mem_singleton] at h
              exact ⟨x, v, h, hox, hv⟩
          · walk_at "v"
            exact hk _ ⟨xs, ls, mk, _, _, _, _, rfl, by simp; omega, hls, by simp; omega, hms, by simp; omega⟩
        · rintro ε4 ⟨xs, ls, mk, o8, o9, o10, o12, rfl, hll, hls, hml, hms, hxl⟩
          walk_at "v"
          exact hq _ xs ⟨ws, ss, ls, rfl, by omega, hwo, by omega, fun b hb => (by obtain ⟨x, w, e, h1, h2⟩ := hss b hb; exact ⟨x, w, e, h1, h2.mono (by omega)⟩), by omega, hls⟩
end Cay.PL

set_option Elab.async false
set_option linter.all false
set_option maxRecDepth 100000
namespace K75
open PySem PySem.Spec PyProof.Rows L2 Bay
/-! the law's defs, in the small language (printed by bayprint.py) -/
def top (i : Nat) : Stmt := PySem.Challenge.pw_baylines_k75_books_and_lines_by_names.main.body.getD i (.Pass ⟨0, 0, 0, 0⟩)
def fnN : List Str := ["_law_urn", "_law_take", "_law_pick", "_law_mixed", "_law_names", "_law_ordered", "_law_below", "_law_book", "_law_pairs_words", "_law_book_words", "_law_part", "_law_parts", "_law_part", "_law_parts", "_law_part", "_law_parts", "_law_part", "_law_parts", "_law_part", "_law_parts", "_law_made", "found_in", "line_in", "book_in", "_law_heard", "law"]
def tab : Tab := { fns := fnN, cgs := [], cat := ["NoName", "BayError"], kws := [(22, ["name", "plant"], [1, 0]), (23, ["name", "plant"], [1, 0])] }
/-! _law_urn -/
abbrev s__law_urn : Stmt := top 8
def n__law_urn : List Str := ["script", "urn", "cell", "own"]
theorem f__law_urn : L2.FnScope n__law_urn ["script"] (defScope s__law_urn) := ⟨by decide +kernel, by decide +kernel, by decide +kernel, by decide +kernel, by decide +kernel, by decide +kernel, by decide +kernel⟩
def b__law_urn : MS := (.seq (.set 1 (.dic ["deep", "state", "turn"] (.cons (.lst .nil) (.cons (.add (.cst (.int 530075)) (.blt .len (.cons (.slc (.var 0) .no (.yes (.cst (.int 63)))) .nil))) (.cons (.cst (.int 0)) .nil)))))
(.seq (.for_ (.nm 2) (.gen (.slc (.var 0) .no (.yes (.cst (.int 63))))) (.seq (.ite (.cmp .GtE (.blt .abs (.cons (.var 2) .nil)) (.pow (.cst (.int 10)) (.cst (.int 18)))) (.seq (.sub (.var 1) (.cst (.str "deep")) (.add (.lst (.cons (.blt .abs (.cons (.var 2) .nil)) .nil)) (.idx (.var 1) (.cst (.str "deep")))))
.skip) .skip)
(.seq (.set 3 (.add (.mul (.cst (.int 2)) (.blt .abs (.cons (.var 2) .nil))) (.blt .int (.cons (.cmp .Lt (.var 2) (.cst (.int 0))) .nil))))
(.seq (.sub (.var 1) (.cst (.str "state")) (.mod (.blt .int (.cons (.add (.mul (.add (.add (.idx (.var 1) (.cst (.str "state"))) (.var 3)) (.cst (.int 1))) (.cst (.int 2862933555777941757))) (.cst (.int 3037000493))) .nil)) (.cst (.int 2305843009213693951))))
.skip))))
(.seq (.ret (.var 1))
.skip)))
theorem k__law_urn : ckSs n__law_urn b__law_urn { tab with fns := fnN.take 0 } (defScope s__law_urn) (defBody s__law_urn) = true := by decide +kernel
/-! _law_take -/
abbrev s__law_take : Stmt := top 9
def n__law_take : List Str := ["urn", "many", "great", "state"]
theorem f__law_take : L2.FnScope n__law_take ["urn", "many"] (defScope s__law_take) := ⟨by decide +kernel, by decide +kernel, by decide +kernel, by decide +kernel, by decide +kernel, by decide +kernel, by decide +kernel⟩
def b__law_take : MS := (.seq (.ite (.cmp .Lt (.var 1) (.cst (.int 2))) (.seq (.ret (.cst (.int 0)))
.skip) .skip)
(.seq (.ite (.cmp .NotEq (.idx (.var 0) (.cst (.str "deep"))) (.lst .nil)) (.seq (.set 2 (.mth .pop (.idx (.var 0) (.cst (.str "deep"))) .nil))
(.seq (.ite (.cmp .GtE (.var 2) (.var 1)) (.seq (.expr (.mth .append (.idx (.var 0) (.cst (.str "deep"))) (.cons (.fdv (.var 2) (.var 1)) .nil)))
.skip) .skip)
(.seq (.ret (.mod (.blt .int (.cons (.var 2) .nil)) (.var 1)))
.skip))) .skip)
(.seq (.sub (.var 0) (.cst (.str "turn")) (.add (.idx (.var 0) (.cst (.str "turn"))) (.cst (.int 1))))
(.seq (.set 3 (.mod (.blt .int (.cons (.add (.mul (.idx (.var 0) (.cst (.str "state"))) (.cst (.int 2862933555777941757))) (.mul (.cst (.int 3037000493)) (.idx (.var 0) (.cst (.str "turn"))))) .nil)) (.cst (.int 2305843009213693951))))
(.seq (.sub (.var 0) (.cst (.str "state")) (.var 3))
(.seq (.ret (.mod (.blt .int (.cons (.fdv (.mod (.blt .int (.cons (.add (.mul (.var 3) (.var 3)) (.mul (.cst (.int 362436069)) (.var 3))) .nil)) (.cst (.int 2305843009213693921))) (.cst (.int 4194304))) .nil)) (.var 1)))
.skip))))))
theorem k__law_take : ckSs n__law_take b__law_take { tab with fns := fnN.take 1 } (defScope s__law_take) (defBody s__law_take) = true := by decide +kernel
/-! _law_pick -/
abbrev s__law_pick : Stmt := top 10
def n__law_pick : List Str := ["urn", "some"]
theorem f__law_pick : L2.FnScope n__law_pick ["urn", "some"] (defScope s__law_pick) := ⟨by decide +kernel, by decide +kernel, by decide +kernel, by decide +kernel, by decide +kernel, by decide +kernel, by decide +kernel⟩
def b__law_pick : MS := (.seq (.ret (.idx (.var 1) (.call 1 (.cons (.var 0) (.cons (.blt .len (.cons (.var 1) .nil)) .nil)))))
.skip)
theorem k__law_pick : ckSs n__law_pick b__law_pick { tab with fns := fnN.take 2 } (defScope s__law_pick) (defBody s__law_pick) = true := by decide +kernel
/-! _law_mixed -/
abbrev s__law_mixed : Stmt := top 11
def n__law_mixed : List Str := ["urn", "some", "left", "found"]
theorem f__law_mixed : L2.FnScope n__law_mixed ["urn", "some"] (defScope s__law_mixed) := ⟨by decide +kernel, by decide +kernel, by decide +kernel, by decide +kernel, by decide +kernel, by decide +kernel, by decide +kernel⟩
def b__law_mixed : MS := (.seq (.par [2, 3] (.cons (.blt .list (.cons (.var 1) .nil)) (.cons (.lst .nil) .nil)))
(.seq (.whl (.cmp .NotEq (.var 2) (.lst .nil)) (.seq (.expr (.mth .append (.var 3) (.cons (.mth .popAt (.var 2) (.cons (.call 1 (.cons (.var 0) (.cons (.blt .len (.cons (.var 2) .nil)) .nil))) .nil)) .nil)))
.skip))
(.seq (.ret (.var 3))
.skip)))
theorem k__law_mixed : ckSs n__law_mixed b__law_mixed { tab with fns := fnN.take 3 } (defScope s__law_mixed) (defBody s__law_mixed) = true := by decide +kernel
/-! _law_names -/
abbrev s__law_names : Stmt := top 12
def n__law_names : List Str := ["urn", "many", "pool"]
theorem f__law_names : L2.FnScope n__law_names ["urn", "many"] (defScope s__law_names) := ⟨by decide +kernel, by decide +kernel, by decide +kernel, by decide +kernel, by decide +kernel, by decide +kernel, by decide +kernel⟩
def b__law_names : MS := (.seq (.set 2 (.lst (.cons (.cst (.str "red")) (.cons (.cst (.str "tan")) (.cons (.cst (.str "sky")) (.cons (.cst (.str "a")) (.cons (.cst (.str "b")) (.cons (.cst (.str "c")) (.cons (.cst (.str "up")) (.cons (.cst (.str "few")) (.cons (.cst (.str "odd")) (.cons (.cst (.str "by")) (.cons (.cst (.str "both")) (.cons (.cst (.str "main")) (.cons (.cst (.str "less")) (.cons (.cst (.str "off")) (.cons (.cst (.str "ofx")) (.cons (.cst (.str "pair")) .nil))))))))))))))))))
(.seq (.set 2 (.add (.var 2) (.lst (.cons (.cst (.str "kind")) (.cons (.cst (.str "rank")) (.cons (.cst (.str "fuller")) (.cons (.cst (.str "abcdefgh")) (.cons (.cst (.str "z")) (.cons (.cst (.str "onl")) (.cons (.cst (.str "nones")) (.cons (.cst (.str "lin")) (.cons (.cst (.str "bookish")) (.cons (.cst (.str "o")) (.cons (.cst (.str "kindsa")) (.cons (.cst (.str "zzzzz")) .nil)))))))))))))))
(.seq (.ret (.slc (.call 3 (.cons (.var 0) (.cons (.var 2) .nil))) .no (.yes (.var 1))))
.skip)))
theorem k__law_names : ckSs n__law_names b__law_names { tab with fns := fnN.take 4 } (defScope s__law_names) (defBody s__law_names) = true := by decide +kernel
/-! _law_ordered -/
abbrev s__law_ordered : Stmt := top 13
def n__law_ordered : List Str := ["order", "direct", "below", "found", "x", "mine", "y", "h"]
theorem f__law_ordered : L2.FnScope n__law_ordered ["order", "direct"] (defScope s__law_ordered) := ⟨by decide +kernel, by decide +kernel, by decide +kernel, by decide +kernel, by decide +kernel, by decide +kernel, by decide +kernel⟩
def b__law_ordered : MS := (.seq (.par [2, 3] (.cons (.dic [] .nil) (.cons (.lst .nil) .nil)))
(.seq (.for_ (.nm 4) (.gen (.un .rev (.var 0))) (.seq (.set 5 (.lc (.var 7) (.tp [6, 7]) (.gen (.var 1)) (.yes (.cmp .Eq (.var 6) (.var 4))) [("y", 6), ("h", 7)]))
(.seq (.for_ (.nm 7) (.gen (.blt .list (.cons (.var 5) .nil))) (.seq (.set 5 (.add (.var 5) (.idx (.var 2) (.var 7))))
.skip))
(.seq (.sub (.var 2) (.var 4) (.un .srtS (.var 5)))
(.seq (.set 3 (.add (.var 3) (.lc (.tup (.cons (.var 4) (.cons (.var 7) .nil))) (.nm 7) (.gen (.idx (.var 2) (.var 4))) .no [("h", 7)])))
.skip)))))
(.seq (.ret (.blt .tuple (.cons (.blt .sorted (.cons (.var 3) .nil)) .nil)))
.skip)))
theorem k__law_ordered : ckSs n__law_ordered b__law_ordered { tab with fns := fnN.take 5 } (defScope s__law_ordered) (defBody s__law_ordered) = true := by decide +kernel
/-! _law_below -/
abbrev s__law_below : Stmt := top 15
def n__law_below : List Str := ["levels", "found", "x", "level", "h"]
theorem f__law_below : L2.FnScope n__law_below ["levels"] (defScope s__law_below) := ⟨by decide +kernel, by decide +kernel, by decide +kernel, by decide +kernel, by decide +kernel, by decide +kernel, by decide +kernel⟩
def b__law_below : MS := (.seq (.set 1 (.lst .nil))
(.seq (.for_ (.tp [2, 3]) (.enum (.var 0)) (.seq (.set 1 (.add (.var 1) (.lc (.tup (.cons (.var 2) (.cons (.var 4) .nil))) (.nm 4) (.rng1 (.blt .len (.cons (.var 0) .nil))) (.yes (.cmp .Lt (.var 3) (.idx (.var 0) (.var 4)))) [("h", 4)])))
.skip))
(.seq (.ret (.blt .tuple (.cons (.var 1) .nil)))
.skip)))
theorem k__law_below : ckSs n__law_below b__law_below { tab with fns := fnN.take 6 } (defScope s__law_below) (defBody s__law_below) = true := by decide +kernel
/-! _law_book -/
abbrev s__law_book : Stmt := top 14
def n__law_book : List Str := ["urn", "n", "order", "way", "levels", "x", "direct", "place", "h", "some", "own"]
theorem f__law_book : L2.FnScope n__law_book ["urn", "n"] (defScope s__law_book) := ⟨by decide +kernel, by decide +kernel, by decide +kernel, by decide +kernel, by decide +kernel, by decide +kernel, by decide +kernel⟩
def b__law_book : MS := (.seq (.par [2, 3] (.cons (.call 3 (.cons (.var 0) (.cons (.un .lsR (.var 1)) .nil))) (.cons (.call 1 (.cons (.var 0) (.cons (.cst (.int 8)) .nil))) .nil)))
(.seq (.ite (.cmp .Eq (.var 3) (.cst (.int 0))) (.seq (.ret (.tup .nil))
.skip) .skip)
(.seq (.ite (.cmp .Eq (.var 3) (.cst (.int 1))) (.seq (.ret (.call 5 (.cons (.var 2) (.cons (.lsZ (.var 2) (.slc (.var 2) (.yes (.cst (.int 1))) .no)) .nil))))
.skip) .skip)
(.seq (.ite (.cmp .Eq (.var 3) (.cst (.int 2))) (.seq (.set 4 (.lc (.call 1 (.cons (.var 0) (.cons (.cst (.int 3)) .nil))) (.nm 5) (.rng1 (.var 1)) .no [("x", 5)]))
(.seq (.ret (.call 6 (.cons (.var 4) .nil)))
.skip)) .skip)
(.seq (.set 6 (.lst .nil))
(.seq (.for_ (.tp [7, 5]) (.enum (.var 2)) (.seq (.for_ (.nm 8) (.gen (.slc (.var 2) (.yes (.add (.var 7) (.cst (.int 1)))) .no)) (.seq (.ite (.cmp .Eq (.call 1 (.cons (.var 0) (.cons (.ite (.cmp .Lt (.var 3) (.cst (.int 6))) (.cst (.int 2)) (.cst (.int 4))) .nil))) (.cst (.int 0))) (.seq (.expr (.mth .append (.var 6) (.cons (.tup (.cons (.var 5) (.cons (.var 8) .nil))) .nil)))
.skip) .skip)
.skip))
.skip))
(.seq (.ite (.cmp .Eq (.var 3) (.cst (.int 5))) (.seq (.set 9 (.slc (.var 2) .no (.yes (.add (.cst (.int 1)) (.call 1 (.cons (.var 0) (.cons (.var 1) .nil)))))))
(.seq (.ret (.blt .tuple (.cons (.lc (.var 10) (.nm 10) (.gen (.call 5 (.cons (.var 2) (.cons (.var 6) .nil)))) (.yes (.cmp .In (.idx (.var 10) (.cst (.int 0))) (.var 9))) [("own", 10)]) .nil)))
.skip)) .skip)
(.seq (.ret (.call 5 (.cons (.var 2) (.cons (.var 6) .nil))))
.skip))))))))
theorem k__law_book : ckSs n__law_book b__law_book { tab with fns := fnN.take 7 } (defScope s__law_book) (defBody s__law_book) = true := by decide +kernel
/-! _law_pairs_words -/
abbrev s__law_pairs_words : Stmt := top 16
def n__law_pairs_words : List Str := ["urn", "kinds", "book", "found", "x", "h"]
theorem f__law_pairs_words : L2.FnScope n__law_pairs_words ["urn", "kinds", "book"] (defScope s__law_pairs_words) := ⟨by decide +kernel, by decide +kernel, by decide +kernel, by decide +kernel, by decide +kernel, by decide +kernel, by decide +kernel⟩
def b__law_pairs_words : MS := (.seq (.set 3 (.lst (.cons (.cst (.str "pairs")) .nil)))
(.seq (.for_ (.tp [4, 5]) (.gen (.call 3 (.cons (.var 0) (.cons (.add (.blt .list (.cons (.var 2) .nil)) (.slc (.blt .list (.cons (.var 2) .nil)) .no (.yes (.call 1 (.cons (.var 0) (.cons (.cst (.int 3)) .nil)))))) .nil)))) (.seq (.set 3 (.add (.var 3) (.lst (.cons (.idx (.var 1) (.var 4)) (.cons (.cst (.str ">")) (.cons (.idx (.var 1) (.var 5)) .nil))))))
.skip))
(.seq (.ret (.var 3))
.skip)))
theorem k__law_pairs_words : ckSs n__law_pairs_words b__law_pairs_words { tab with fns := fnN.take 8 } (defScope s__law_pairs_words) (defBody s__law_pairs_words) = true := by decide +kernel
/-! _law_book_words -/
abbrev s__law_book_words : Stmt := top 17
def n__law_book_words : List Str := ["urn", "kinds", "made", "n", "way", "levels", "x", "level", "book", "name", "some", "turn", "own", "other", "more"]
theorem f__law_book_words : L2.FnScope n__law_book_words ["urn", "kinds", "made"] (defScope s__law_book_words) := ⟨by decide +kernel, by decide +kernel, by decide +kernel, by decide +kernel, by decide +kernel, by decide +kernel, by decide +kernel⟩
def b__law_book_words : MS := (.seq (.setT [3, 4] (.tup (.cons (.blt .len (.cons (.var 1) .nil)) (.cons (.call 1 (.cons (.var 0) (.cons (.cst (.int 8)) .nil))) .nil))))
(.seq (.ite (.cmp .Eq (.var 4) (.cst (.int 0))) (.seq (.ret (.tup (.cons (.tup .nil) (.cons (.lst (.cons (.cst (.str "none")) .nil)) .nil))))
.skip) .skip)
(.seq (.ite (.cmp .Eq (.var 4) (.cst (.int 1))) (.seq (.ret (.tup (.cons (.call 6 (.cons (.un .lsR (.var 3)) .nil)) (.cons (.lst (.cons (.cst (.str "full")) .nil)) .nil))))
.skip) .skip)
(.seq (.ite (.cmp .Eq (.var 4) (.cst (.int 2))) (.seq (.set 5 (.lc (.call 2 (.cons (.var 0) (.cons (.lst (.cons (.cst (.int 0)) (.cons (.cst (.int 1)) (.cons (.cst (.int 2)) (.cons (.cst (.int 7)) (.cons (.cst (.int 999)) .nil)))))) .nil))) (.nm 6) (.rng1 (.var 3)) .no [("x", 6)]))
(.seq (.ret (.tup (.cons (.call 6 (.cons (.var 5) .nil)) (.cons (.add (.lst (.cons (.cst (.str "ranks")) .nil)) (.lc (.blt .str (.cons (.var 7) .nil)) (.nm 7) (.gen (.var 5)) .no [("level", 7)])) .nil))))
.skip)) .skip)
(.seq (.ite (.or (.cmp .Lt (.var 4) (.cst (.int 5))) (.cmp .Eq (.var 2) (.lst .nil))) (.seq (.set 8 (.call 7 (.cons (.var 0) (.cons (.var 3) .nil))))
(.seq (.ret (.tup (.cons (.var 8) (.cons (.call 8 (.cons (.var 0) (.cons (.var 1) (.cons (.var 8) .nil)))) .nil))))
.skip)) .skip)
(.seq (.setT [9, 8] (.call 2 (.cons (.var 0) (.cons (.var 2) .nil))))
(.seq (.ite (.cmp .Eq (.var 4) (.cst (.int 5))) (.seq (.set 10 (.lc (.call 1 (.cons (.var 0) (.cons (.var 3) .nil))) (.nm 11) (.rng1 (.add (.cst (.int 1)) (.call 1 (.cons (.var 0) (.cons (.add (.var 3) (.cst (.int 1))) .nil))))) .no [("turn", 11)]))
(.seq (.ret (.tup (.cons (.blt .tuple (.cons (.lc (.var 12) (.nm 12) (.gen (.var 8)) (.yes (.cmp .In (.idx (.var 12) (.cst (.int 0))) (.var 10))) [("own", 12)]) .nil)) (.cons (.add (.add (.lst (.cons (.cst (.str "only")) .nil)) (.lc (.idx (.var 1) (.var 6)) (.nm 6) (.gen (.var 10)) .no [("x", 6)])) (.lst (.cons (.cst (.str "of")) (.cons (.var 9) .nil)))) .nil))))
.skip)) .skip)
(.seq (.ite (.cmp .Eq (.var 4) (.cst (.int 6))) (.seq (.setT [13, 14] (.call 2 (.cons (.var 0) (.cons (.var 2) .nil))))
(.seq (.ret (.tup (.cons (.blt .tuple (.cons (.lc (.var 12) (.nm 12) (.gen (.var 8)) (.yes (.cmp .In (.var 12) (.var 14))) [("own", 12)]) .nil)) (.cons (.lst (.cons (.cst (.str "common")) (.cons (.var 9) (.cons (.var 13) .nil)))) .nil))))
.skip)) .skip)
(.seq (.ret (.tup (.cons (.var 8) (.cons (.lst (.cons (.var 9) .nil)) .nil))))
.skip)))))))))
theorem k__law_book_words : ckSs n__law_book_words b__law_book_words { tab with fns := fnN.take 9 } (defScope s__law_book_words) (defBody s__law_book_words) = true := by decide +kernel
/-! _law_part -/
abbrev s__law_part : Stmt := top 18
def n__law_part : List Str := ["urn", "made", "room", "deep", "way", "apt", "own", "name", "bays", "told", "many"]
theorem f__law_part : L2.FnScope n__law_part ["urn", "made", "room", "deep"] (defScope s__law_part) := ⟨by decide +kernel, by decide +kernel, by decide +kernel, by decide +kernel, by decide +kernel, by decide +kernel, by decide +kernel⟩
/-! _law_parts -/
abbrev s__law_parts : Stmt := top 19
def n__law_parts : List Str := ["urn", "made", "room", "deep", "bays", "told", "turn", "more", "own"]
theorem f__law_parts : L2.FnScope n__law_parts ["urn", "made", "room", "deep"] (defScope s__law_parts) := ⟨by decide +kernel, by decide +kernel, by decide +kernel, by decide +kernel, by decide +kernel, by decide +kernel, by decide +kernel⟩
def b__law_part_0 : MS := (.seq (.set 4 (.ite (.cmp .Gt (.var 3) (.cst (.int 0))) (.call 1 (.cons (.var 0) (.cons (.cst (.int 6)) .nil))) (.cst (.int 0))))
(.seq (.ite (.cmp .Lt (.var 4) (.cst (.int 3))) (.seq (.set 5 (.lc (.var 6) (.nm 6) (.gen (.var 1)) (.yes (.cmp .LtE (.blt .len (.cons (.idx (.var 6) (.cst (.int 1))) .nil)) (.var 2))) [("own", 6)]))
(.seq (.ite (.cmp .NotEq (.var 5) (.lst .nil)) (.seq (.setT [7, 8] (.call 2 (.cons (.var 0) (.cons (.var 5) .nil))))
(.seq (.ret (.tup (.cons (.var 8) (.cons (.lst (.cons (.var 7) .nil)) .nil))))
.skip)) .skip)
(.seq (.ret (.tup (.cons (.tup .nil) (.cons (.lst (.cons (.cst (.str "0")) (.cons (.cst (.str "*")) (.cons (.idx (.idx (.var 1) (.cst (.int 0))) (.cst (.int 0))) .nil)))) .nil))))
.skip))) .skip)
(.seq (.ite (.cmp .Eq (.var 4) (.cst (.int 3))) (.seq (.setT [8, 9] (.call 11 (.cons (.var 0) (.cons (.var 1) (.cons (.var 2) (.cons (.sub (.var 3) (.cst (.int 1))) .nil))))))
(.seq (.ret (.tup (.cons (.var 8) (.cons (.add (.add (.lst (.cons (.cst (.str "(")) .nil)) (.var 9)) (.lst (.cons (.cst (.str ")")) .nil))) .nil))))
.skip)) .skip)
(.seq (.set 10 (.call 2 (.cons (.var 0) (.cons (.lst (.cons (.cst (.int 0)) (.cons (.cst (.int 1)) (.cons (.cst (.int 2)) (.cons (.cst (.int 3)) .nil))))) .nil))))
(.seq (.ite (.cmp .Eq (.var 10) (.cst (.int 0))) (.seq (.ret (.tup (.cons (.tup .nil) (.cons (.add (.lst (.cons (.cst (.str "0")) (.cons (.cst (.str "*")) .nil))) (.idx (.call 10 (.cons (.var 0) (.cons (.var 1) (.cons (.cst (.int 6)) (.cons (.sub (.var 3) (.cst (.int 1))) .nil))))) (.cst (.int 1)))) .nil))))
.skip) .skip)
(.seq (.setT [8, 9] (.call 10 (.cons (.var 0) (.cons (.var 1) (.cons (.fdv (.var 2) (.var 10)) (.cons (.sub (.var 3) (.cst (.int 1))) .nil))))))
(.seq (.ret (.tup (.cons (.mul (.var 8) (.var 10)) (.cons (.add (.lst (.cons (.blt .str (.cons (.var 10) .nil)) (.cons (.cst (.str "*")) .nil))) (.var 9)) .nil))))
.skip)))))))
theorem k__law_part_0 : ckSs n__law_part b__law_part_0 { tab with fns := fnN.take 12 } (defScope s__law_part) (defBody s__law_part) = true := by decide +kernel
def b__law_parts_0 : MS := (.seq (.par [4, 5] (.cons (.tup .nil) (.cons (.lst .nil) .nil)))
(.seq (.for_ (.nm 6) (.rng1 (.call 2 (.cons (.var 0) (.cons (.lst (.cons (.cst (.int 1)) (.cons (.cst (.int 1)) (.cons (.cst (.int 2)) (.cons (.cst (.int 3)) .nil))))) .nil)))) (.seq (.setT [7, 8] (.call 12 (.cons (.var 0) (.cons (.var 1) (.cons (.sub (.var 2) (.blt .len (.cons (.var 4) .nil))) (.cons (.var 3) .nil))))))
(.seq (.par [4, 5] (.cons (.add (.var 4) (.var 7)) (.cons (.add (.var 5) (.var 8)) .nil)))
.skip)))
(.seq (.ret (.tup (.cons (.var 4) (.cons (.var 5) .nil))))
.skip)))
theorem k__law_parts_0 : ckSs n__law_parts b__law_parts_0 { tab with fns := fnN.take 13 } (defScope s__law_parts) (defBody s__law_parts) = true := by decide +kernel
def b__law_part_1 : MS := (.seq (.set 4 (.ite (.cmp .Gt (.var 3) (.cst (.int 0))) (.call 1 (.cons (.var 0) (.cons (.cst (.int 6)) .nil))) (.cst (.int 0))))
(.seq (.ite (.cmp .Lt (.var 4) (.cst (.int 3))) (.seq (.set 5 (.lc (.var 6) (.nm 6) (.gen (.var 1)) (.yes (.cmp .LtE (.blt .len (.cons (.idx (.var 6) (.cst (.int 1))) .nil)) (.var 2))) [("own", 6)]))
(.seq (.ite (.cmp .NotEq (.var 5) (.lst .nil)) (.seq (.setT [7, 8] (.call 2 (.cons (.var 0) (.cons (.var 5) .nil))))
(.seq (.ret (.tup (.cons (.var 8) (.cons (.lst (.cons (.var 7) .nil)) .nil))))
.skip)) .skip)
(.seq (.ret (.tup (.cons (.tup .nil) (.cons (.lst (.cons (.cst (.str "0")) (.cons (.cst (.str "*")) (.cons (.idx (.idx (.var 1) (.cst (.int 0))) (.cst (.int 0))) .nil)))) .nil))))
.skip))) .skip)
(.seq (.ite (.cmp .Eq (.var 4) (.cst (.int 3))) (.seq (.setT [8, 9] (.call 13 (.cons (.var 0) (.cons (.var 1) (.cons (.var 2) (.cons (.sub (.var 3) (.cst (.int 1))) .nil))))))
(.seq (.ret (.tup (.cons (.var 8) (.cons (.add (.add (.lst (.cons (.cst (.str "(")) .nil)) (.var 9)) (.lst (.cons (.cst (.str ")")) .nil))) .nil))))
.skip)) .skip)
(.seq (.set 10 (.call 2 (.cons (.var 0) (.cons (.lst (.cons (.cst (.int 0)) (.cons (.cst (.int 1)) (.cons (.cst (.int 2)) (.cons (.cst (.int 3)) .nil))))) .nil))))
(.seq (.ite (.cmp .Eq (.var 10) (.cst (.int 0))) (.seq (.ret (.tup (.cons (.tup .nil) (.cons (.add (.lst (.cons (.cst (.str "0")) (.cons (.cst (.str "*")) .nil))) (.idx (.call 12 (.cons (.var 0) (.cons (.var 1) (.cons (.cst (.int 6)) (.cons (.sub (.var 3) (.cst (.int 1))) .nil))))) (.cst (.int 1)))) .nil))))
.skip) .skip)
(.seq (.setT [8, 9] (.call 12 (.cons (.var 0) (.cons (.var 1) (.cons (.fdv (.var 2) (.var 10)) (.cons (.sub (.var 3) (.cst (.int 1))) .nil))))))
(.seq (.ret (.tup (.cons (.mul (.var 8) (.var 10)) (.cons (.add (.lst (.cons (.blt .str (.cons (.var 10) .nil)) (.cons (.cst (.str "*")) .nil))) (.var 9)) .nil))))
.skip)))))))
theorem k__law_part_1 : ckSs n__law_part b__law_part_1 { tab with fns := fnN.take 14 } (defScope s__law_part) (defBody s__law_part) = true := by decide +kernel
def b__law_parts_1 : MS := (.seq (.par [4, 5] (.cons (.tup .nil) (.cons (.lst .nil) .nil)))
(.seq (.for_ (.nm 6) (.rng1 (.call 2 (.cons (.var 0) (.cons (.lst (.cons (.cst (.int 1)) (.cons (.cst (.int 1)) (.cons (.cst (.int 2)) (.cons (.cst (.int 3)) .nil))))) .nil)))) (.seq (.setT [7, 8] (.call 14 (.cons (.var 0) (.cons (.var 1) (.cons (.sub (.var 2) (.blt .len (.cons (.var 4) .nil))) (.cons (.var 3) .nil))))))
(.seq (.par [4, 5] (.cons (.add (.var 4) (.var 7)) (.cons (.add (.var 5) (.var 8)) .nil)))
.skip)))
(.seq (.ret (.tup (.cons (.var 4) (.cons (.var 5) .nil))))
.skip)))
theorem k__law_parts_1 : ckSs n__law_parts b__law_parts_1 { tab with fns := fnN.take 15 } (defScope s__law_parts) (defBody s__law_parts) = true := by decide +kernel
def b__law_part_2 : MS := (.seq (.set 4 (.ite (.cmp .Gt (.var 3) (.cst (.int 0))) (.call 1 (.cons (.var 0) (.cons (.cst (.int 6)) .nil))) (.cst (.int 0))))
(.seq (.ite (.cmp .Lt (.var 4) (.cst (.int 3))) (.seq (.set 5 (.lc (.var 6) (.nm 6) (.gen (.var 1)) (.yes (.cmp .LtE (.blt .len (.cons (.idx (.var 6) (.cst (.int 1))) .nil)) (.var 2))) [("own", 6)]))
(.seq (.ite (.cmp .NotEq (.var 5) (.lst .nil)) (.seq (.setT [7, 8] (.call 2 (.cons (.var 0) (.cons (.var 5) .nil))))
(.seq (.ret (.tup (.cons (.var 8) (.cons (.lst (.cons (.var 7) .nil)) .nil))))
.skip)) .skip)
(.seq (.ret (.tup (.cons (.tup .nil) (.cons (.lst (.cons (.cst (.str "0")) (.cons (.cst (.str "*")) (.cons (.idx (.idx (.var 1) (.cst (.int 0))) (.cst (.int 0))) .nil)))) .nil))))
.skip))) .skip)
(.seq (.ite (.cmp .Eq (.var 4) (.cst (.int 3))) (.seq (.setT [8, 9] (.call 15 (.cons (.var 0) (.cons (.var 1) (.cons (.var 2) (.cons (.sub (.var 3) (.cst (.int 1))) .nil))))))
(.seq (.ret (.tup (.cons (.var 8) (.cons (.add (.add (.lst (.cons (.cst (.str "(")) .nil)) (.var 9)) (.lst (.cons (.cst (.str ")")) .nil))) .nil))))
.skip)) .skip)
(.seq (.set 10 (.call 2 (.cons (.var 0) (.cons (.lst (.cons (.cst (.int 0)) (.cons (.cst (.int 1)) (.cons (.cst (.int 2)) (.cons (.cst (.int 3)) .nil))))) .nil))))
(.seq (.ite (.cmp .Eq (.var 10) (.cst (.int 0))) (.seq (.ret (.tup (.cons (.tup .nil) (.cons (.add (.lst (.cons (.cst (.str "0")) (.cons (.cst (.str "*")) .nil))) (.idx (.call 14 (.cons (.var 0) (.cons (.var 1) (.cons (.cst (.int 6)) (.cons (.sub (.var 3) (.cst (.int 1))) .nil))))) (.cst (.int 1)))) .nil))))
.skip) .skip)
(.seq (.setT [8, 9] (.call 14 (.cons (.var 0) (.cons (.var 1) (.cons (.fdv (.var 2) (.var 10)) (.cons (.sub (.var 3) (.cst (.int 1))) .nil))))))
(.seq (.ret (.tup (.cons (.mul (.var 8) (.var 10)) (.cons (.add (.lst (.cons (.blt .str (.cons (.var 10) .nil)) (.cons (.cst (.str "*")) .nil))) (.var 9)) .nil))))
.skip)))))))
theorem k__law_part_2 : ckSs n__law_part b__law_part_2 { tab with fns := fnN.take 16 } (defScope s__law_part) (defBody s__law_part) = true := by decide +kernel
def b__law_parts_2 : MS := (.seq (.par [4, 5] (.cons (.tup .nil) (.cons (.lst .nil) .nil)))
(.seq (.for_ (.nm 6) (.rng1 (.call 2 (.cons (.var 0) (.cons (.lst (.cons (.cst (.int 1)) (.cons (.cst (.int 1)) (.cons (.cst (.int 2)) (.cons (.cst (.int 3)) .nil))))) .nil)))) (.seq (.setT [7, 8] (.call 16 (.cons (.var 0) (.cons (.var 1) (.cons (.sub (.var 2) (.blt .len (.cons (.var 4) .nil))) (.cons (.var 3) .nil))))))
(.seq (.par [4, 5] (.cons (.add (.var 4) (.var 7)) (.cons (.add (.var 5) (.var 8)) .nil)))
.skip)))
(.seq (.ret (.tup (.cons (.var 4) (.cons (.var 5) .nil))))
.skip)))
theorem k__law_parts_2 : ckSs n__law_parts b__law_parts_2 { tab with fns := fnN.take 17 } (defScope s__law_parts) (defBody s__law_parts) = true := by decide +kernel
def b__law_part_3 : MS := (.seq (.set 4 (.ite (.cmp .Gt (.var 3) (.cst (.int 0))) (.call 1 (.cons (.var 0) (.cons (.cst (.int 6)) .nil))) (.cst (.int 0))))
(.seq (.ite (.cmp .Lt (.var 4) (.cst (.int 3))) (.seq (.set 5 (.lc (.var 6) (.nm 6) (.gen (.var 1)) (.yes (.cmp .LtE (.blt .len (.cons (.idx (.var 6) (.cst (.int 1))) .nil)) (.var 2))) [("own", 6)]))
(.seq (.ite (.cmp .NotEq (.var 5) (.lst .nil)) (.seq (.setT [7, 8] (.call 2 (.cons (.var 0) (.cons (.var 5) .nil))))
(.seq (.ret (.tup (.cons (.var 8) (.cons (.lst (.cons (.var 7) .nil)) .nil))))
.skip)) .skip)
(.seq (.ret (.tup (.cons (.tup .nil) (.cons (.lst (.cons (.cst (.str "0")) (.cons (.cst (.str "*")) (.cons (.idx (.idx (.var 1) (.cst (.int 0))) (.cst (.int 0))) .nil)))) .nil))))
.skip))) .skip)
(.seq (.ite (.cmp .Eq (.var 4) (.cst (.int 3))) (.seq (.setT [8, 9] (.call 17 (.cons (.var 0) (.cons (.var 1) (.cons (.var 2) (.cons (.sub (.var 3) (.cst (.int 1))) .nil))))))
(.seq (.ret (.tup (.cons (.var 8) (.cons (.add (.add (.lst (.cons (.cst (.str "(")) .nil)) (.var 9)) (.lst (.cons (.cst (.str ")")) .nil))) .nil))))
.skip)) .skip)
(.seq (.set 10 (.call 2 (.cons (.var 0) (.cons (.lst (.cons (.cst (.int 0)) (.cons (.cst (.int 1)) (.cons (.cst (.int 2)) (.cons (.cst (.int 3)) .nil))))) .nil))))
(.seq (.ite (.cmp .Eq (.var 10) (.cst (.int 0))) (.seq (.ret (.tup (.cons (.tup .nil) (.cons (.add (.lst (.cons (.cst (.str "0")) (.cons (.cst (.str "*")) .nil))) (.idx (.call 16 (.cons (.var 0) (.cons (.var 1) (.cons (.cst (.int 6)) (.cons (.sub (.var 3) (.cst (.int 1))) .nil))))) (.cst (.int 1)))) .nil))))
.skip) .skip)
(.seq (.setT [8, 9] (.call 16 (.cons (.var 0) (.cons (.var 1) (.cons (.fdv (.var 2) (.var 10)) (.cons (.sub (.var 3) (.cst (.int 1))) .nil))))))
(.seq (.ret (.tup (.cons (.mul (.var 8) (.var 10)) (.cons (.add (.lst (.cons (.blt .str (.cons (.var 10) .nil)) (.cons (.cst (.str "*")) .nil))) (.var 9)) .nil))))
.skip)))))))
theorem k__law_part_3 : ckSs n__law_part b__law_part_3 { tab with fns := fnN.take 18 } (defScope s__law_part) (defBody s__law_part) = true := by decide +kernel
def b__law_parts_3 : MS := (.seq (.par [4, 5] (.cons (.tup .nil) (.cons (.lst .nil) .nil)))
(.seq (.for_ (.nm 6) (.rng1 (.call 2 (.cons (.var 0) (.cons (.lst (.cons (.cst (.int 1)) (.cons (.cst (.int 1)) (.cons (.cst (.int 2)) (.cons (.cst (.int 3)) .nil))))) .nil)))) (.seq (.setT [7, 8] (.call 18 (.cons (.var 0) (.cons (.var 1) (.cons (.sub (.var 2) (.blt .len (.cons (.var 4) .nil))) (.cons (.var 3) .nil))))))
(.seq (.par [4, 5] (.cons (.add (.var 4) (.var 7)) (.cons (.add (.var 5) (.var 8)) .nil)))
.skip)))
(.seq (.ret (.tup (.cons (.var 4) (.cons (.var 5) .nil))))
.skip)))
theorem k__law_parts_3 : ckSs n__law_parts b__law_parts_3 { tab with fns := fnN.take 19 } (defScope s__law_parts) (defBody s__law_parts) = true := by decide +kernel
/-! _law_made -/
abbrev s__law_made : Stmt := top 20
def n__law_made : List Str := ["urn", "most", "n", "names", "kinds", "told", "some", "bays", "name", "book", "own", "made", "line"]
theorem f__law_made : L2.FnScope n__law_made ["urn", "most"] (defScope s__law_made) := ⟨by decide +kernel, by decide +kernel, by decide +kernel, by decide +kernel, by decide +kernel, by decide +kernel, by decide +kernel⟩
def b__law_made : MS := (.seq (.set 2 (.call 2 (.cons (.var 0) (.cons (.lst (.cons (.cst (.int 1)) (.cons (.cst (.int 2)) (.cons (.cst (.int 2)) (.cons (.cst (.int 3)) (.cons (.cst (.int 3)) (.cons (.cst (.int 4)) .nil))))))) .nil))))
(.seq (.set 3 (.call 4 (.cons (.var 0) (.cons (.add (.var 2) (.mul (.cst (.int 2)) (.var 1))) .nil))))
(.seq (.setT [4, 5, 6, 7] (.tup (.cons (.slc (.var 3) .no (.yes (.var 2))) (.cons (.add (.add (.lst (.cons (.cst (.str "kinds")) .nil)) (.slc (.var 3) .no (.yes (.var 2)))) (.lst (.cons (.cst (.str ";")) .nil))) (.cons (.lst .nil) (.cons (.lst .nil) .nil))))))
(.seq (.for_ (.nm 8) (.gen (.slc (.var 3) (.yes (.var 2)) (.yes (.add (.var 2) (.call 1 (.cons (.var 0) (.cons (.add (.var 1) (.cst (.int 1))) .nil))))))) (.seq (.setT [9, 10] (.call 9 (.cons (.var 0) (.cons (.var 4) (.cons (.var 6) .nil)))))
(.seq (.expr (.mth .append (.var 6) (.cons (.tup (.cons (.var 8) (.cons (.var 9) .nil))) .nil)))
(.seq (.set 5 (.add (.add (.add (.var 5) (.lst (.cons (.cst (.str "book")) (.cons (.var 8) (.cons (.cst (.str "=")) .nil))))) (.var 10)) (.lst (.cons (.cst (.str ";")) .nil))))
.skip))))
(.seq (.set 11 (.lc (.tup (.cons (.var 8) (.cons (.tup (.cons (.var 9) .nil)) .nil))) (.tp [8, 9]) (.gen (.var 6)) .no [("name", 8), ("book", 9)]))
(.seq (.for_ (.nm 8) (.gen (.slc (.var 3) (.yes (.add (.var 2) (.var 1))) (.yes (.add (.add (.var 2) (.var 1)) (.call 1 (.cons (.var 0) (.cons (.add (.var 1) (.cst (.int 1))) .nil))))))) (.seq (.ite (.cmp .NotEq (.var 11) (.lst .nil)) (.seq (.setT [12, 10] (.call 19 (.cons (.var 0) (.cons (.var 11) (.cons (.cst (.int 6)) (.cons (.cst (.int 3)) .nil))))))
(.seq (.expr (.mth .append (.var 7) (.cons (.tup (.cons (.var 8) (.cons (.var 12) .nil))) .nil)))
(.seq (.expr (.mth .append (.var 11) (.cons (.tup (.cons (.var 8) (.cons (.var 12) .nil))) .nil)))
(.seq (.set 5 (.add (.add (.add (.var 5) (.lst (.cons (.cst (.str "line")) (.cons (.var 8) (.cons (.cst (.str "=")) .nil))))) (.var 10)) (.lst (.cons (.cst (.str ";")) .nil))))
.skip)))) .skip)
.skip))
(.seq (.ret (.tup (.cons (.tup (.cons (.blt .tuple (.cons (.var 4) .nil)) (.cons (.blt .tuple (.cons (.var 6) .nil)) (.cons (.blt .tuple (.cons (.var 7) .nil)) .nil)))) (.cons (.var 5) .nil))))
.skip)))))))
theorem k__law_made : ckSs n__law_made b__law_made { tab with fns := fnN.take 20 } (defScope s__law_made) (defBody s__law_made) = true := by decide +kernel
/-! found_in -/
abbrev s_found_in : Stmt := top 4
def n_found_in : List Str := ["pairs", "name", "own", "thing"]
theorem f_found_in : L2.FnScope n_found_in ["pairs", "name"] (defScope s_found_in) := ⟨by decide +kernel, by decide +kernel, by decide +kernel, by decide +kernel, by decide +kernel, by decide +kernel, by decide +kernel⟩
def b_found_in : MS := (.seq (.for_ (.tp [2, 3]) (.gen (.var 0)) (.seq (.ite (.cmp .Eq (.var 2) (.var 1)) (.seq (.ret (.var 3))
.skip) .skip)
.skip))
(.seq (.rais "NoName" (some "given") (.yes (.var 1)))
.skip))
theorem k_found_in : ckSs n_found_in b_found_in { tab with fns := fnN.take 21 } (defScope s_found_in) (defBody s_found_in) = true := by decide +kernel
/-! line_in -/
abbrev s_line_in : Stmt := top 6
def n_line_in : List Str := ["plant", "name"]
theorem f_line_in : L2.FnScope n_line_in ["plant", "name"] (defScope s_line_in) := ⟨by decide +kernel, by decide +kernel, by decide +kernel, by decide +kernel, by decide +kernel, by decide +kernel, by decide +kernel⟩
def b_line_in : MS := (.seq (.ret (.call 21 (.cons (.idx (.var 0) (.cst (.int 2))) (.cons (.var 1) .nil))))
.skip)
theorem k_line_in : ckSs n_line_in b_line_in { tab with fns := fnN.take 22 } (defScope s_line_in) (defBody s_line_in) = true := by decide +kernel
/-! book_in -/
abbrev s_book_in : Stmt := top 5
def n_book_in : List Str := ["plant", "name"]
theorem f_book_in : L2.FnScope n_book_in ["plant", "name"] (defScope s_book_in) := ⟨by decide +kernel, by decide +kernel, by decide +kernel, by decide +kernel, by decide +kernel, by decide +kernel, by decide +kernel⟩
def b_book_in : MS := (.seq (.ret (.call 21 (.cons (.idx (.var 0) (.cst (.int 1))) (.cons (.var 1) .nil))))
.skip)
theorem k_book_in : ckSs n_book_in b_book_in { tab with fns := fnN.take 23 } (defScope s_book_in) (defBody s_book_in) = true := by decide +kernel
/-! _law_heard -/
abbrev s__law_heard : Stmt := top 21
def n__law_heard : List Str := ["plant", "name", "is_line", "is_named", "error"]
theorem f__law_heard : L2.FnScope n__law_heard ["plant", "name", "is_line", "is_named"] (defScope s__law_heard) := ⟨by decide +kernel, by decide +kernel, by decide +kernel, by decide +kernel, by decide +kernel, by decide +kernel, by decide +kernel⟩
def b__law_heard : MS := (.seq (.try_ (some 4) "NoName" (.seq (.ite (.var 3) (.seq (.ret (.lst (.cons (.cst (.str "told")) (.cons (.ite (.var 2) (.callK 22 (.cons (.var 1) (.cons (.var 0) .nil)) [1, 0]) (.callK 23 (.cons (.var 1) (.cons (.var 0) .nil)) [1, 0])) .nil))))
.skip) .skip)
(.seq (.ret (.lst (.cons (.cst (.str "told")) (.cons (.ite (.var 2) (.call 22 (.cons (.var 0) (.cons (.var 1) .nil))) (.call 23 (.cons (.var 0) (.cons (.var 1) .nil)))) .nil))))
.skip)) (.seq (.ret (.lst (.cons (.cst (.str "none")) (.cons (.xf 4 "given") (.cons (.xis 4 "BayError") .nil)))))
.skip))
.skip)
theorem k__law_heard : ckSs n__law_heard b__law_heard { tab with fns := fnN.take 24 } (defScope s__law_heard) (defBody s__law_heard) = true := by decide +kernel
/-! law -/
abbrev s_law : Stmt := top 22
def n_law : List Str := ["script", "urn", "turn", "plant", "known", "names", "own", "nth", "name", "is_line", "found", "due", "told"]
theorem f_law : L2.FnScope n_law ["script"] (defScope s_law) := ⟨by decide +kernel, by decide +kernel, by decide +kernel, by decide +kernel, by decide +kernel, by decide +kernel, by decide +kernel⟩
def b_law : MS := (.seq (.set 1 (.call 0 (.cons (.var 0) .nil)))
(.seq (.for_ (.nm 2) (.rng1 (.cst (.int 8))) (.seq (.set 3 (.idx (.call 20 (.cons (.var 1) (.cons (.call 2 (.cons (.var 1) (.cons (.lst (.cons (.cst (.int 0)) (.cons (.cst (.int 2)) (.cons (.cst (.int 4)) .nil)))) .nil))) .nil))) (.cst (.int 0))))
(.seq (.par [4, 5] (.cons (.blt .repr (.cons (.var 3) .nil)) (.cons (.add (.blt .list (.cons (.idx (.var 3) (.cst (.int 0))) .nil)) (.lc (.idx (.var 6) (.cst (.int 0))) (.nm 6) (.gen (.add (.idx (.var 3) (.cst (.int 1))) (.idx (.var 3) (.cst (.int 2))))) .no [("own", 6)])) .nil)))
(.seq (.set 5 (.add (.var 5) (.call 2 (.cons (.var 1) (.cons (.lst (.cons (.lst (.cons (.cst (.str "full")) (.cons (.cst (.str "")) .nil))) (.cons (.lst (.cons (.cst (.str "abcdefgh")) (.cons (.cst (.str "Red")) .nil))) (.cons (.lst (.cons (.cst (.str "line")) (.cons (.cst (.str "zz")) .nil))) (.cons (.lst (.cons (.cst (.str "a")) (.cons (.cst (.str "b c")) .nil))) .nil))))) .nil)))))
(.seq (.for_ (.tp [7, 8]) (.enum (.call 3 (.cons (.var 1) (.cons (.var 5) .nil)))) (.seq (.for_ (.nm 9) (.gen (.tup (.cons (.cst (.bl false)) (.cons (.cst (.bl true)) .nil)))) (.seq (.set 10 (.lc (.idx (.var 6) (.cst (.int 1))) (.nm 6) (.gen (.idx (.var 3) (.ite (.var 9) (.cst (.int 2)) (.cst (.int 1))))) (.yes (.cmp .Eq (.idx (.var 6) (.cst (.int 0))) (.var 8))) [("own", 6)]))
(.seq (.set 11 (.ite (.cmp .NotEq (.var 10) (.lst .nil)) (.lst (.cons (.cst (.str "told")) (.cons (.idx (.var 10) (.cst (.int 0))) .nil))) (.lst (.cons (.cst (.str "none")) (.cons (.var 8) (.cons (.cst (.bl true)) .nil))))))
(.seq (.set 12 (.lst (.cons (.call 24 (.cons (.var 3) (.cons (.var 8) (.cons (.var 9) (.cons (.cmp .Eq (.var 7) (.var 2)) .nil))))) (.cons (.call 24 (.cons (.var 3) (.cons (.var 8) (.cons (.var 9) (.cons (.cst (.bl false)) .nil))))) .nil))))
(.seq (.ite (.cmp .NotEq (.blt .repr (.cons (.var 12) .nil)) (.blt .repr (.cons (.lst (.cons (.var 11) (.cons (.var 11) .nil))) .nil))) (.seq (.ret (.cst (.bl false)))
.skip) .skip)
.skip)))))
.skip))
(.seq (.ite (.cmp .NotEq (.blt .repr (.cons (.var 3) .nil)) (.var 4)) (.seq (.ret (.cst (.bl false)))
.skip) .skip)
.skip))))))
(.seq (.ret (.cst (.bl true)))
.skip)))
theorem k_law : ckSs n_law b_law { tab with fns := fnN.take 25 } (defScope s_law) (defBody s_law) = true := by decide +kernel
end K75

set_option Elab.async false
set_option linter.all false
set_option maxRecDepth 100000
set_option maxHeartbeats 1000000
namespace Cay.J75
open PySem PySem.Spec PyProof.Rows L2 Bay K75 Cay.PL
def vfound : VFn := fun vs Q X => match vs with
  | [.tup ps, .str x] => ∃ qs : List (Str × P), ps = qs.map ndP ∧ (∀ q ∈ qs, pure q.2 = true) ∧ match first qs x with
    | some v => Q v []
    | none => X ⟨"NoName", some ("given", .str x)⟩
  | _ => False
/-- line_in, book_in: the part of the plant -/
def vin (k : Nat) : VFn := fun vs Q X => match vs with
  | [.tup ps, .str x] => ∃ qs : List (Str × P), ps[k]? = some (.tup (qs.map ndP)) ∧ k < 3 ∧ (∀ p ∈ ps, pure p = true) ∧ match first qs x with
    | some v => Q v []
    | none => X ⟨"NoName", some ("given", .str x)⟩
  | _ => False
def heardP (qs : List (Str × P)) (x : Str) : P := match first qs x with
  | some v => .lst [.str "told", v]
  | none => .lst [.str "none", .str x, .bl true]
def vheard : VFn := fun vs Q X => match vs with
  | [.tup ps, .str x, .bl l, .bl n] => ∃ bs ls : List (Str × P), ps[1]? = some (.tup (bs.map ndP)) ∧ ps[2]? = some (.tup (ls.map ndP)) ∧ ps.length = 3 ∧ (∀ p ∈ ps, pure p = true) ∧ Q (heardP (if l then ls else bs) x) []
  | _ => False
def vnone : VFn := fun _ _ _ => False
def vlaw : VFn := fun vs Q X => match vs with
  | [.rol ns] => ∃ is : List Int, ns = is.map .int ∧ is.length ≤ 63 ∧ Q (.bl true) []
  | _ => False
def fnL : List VFn := [vurn, vtake, vpick, vmixed, vnames, vordered, vbelow, vbook, vpwords, vbwords, vnone, vnone, vpart 0 1, vpart 0 3, vpart 1 1, vpart 1 3, vpart 2 1, vpart 2 3, vpart 3 1, vpart 3 3, vmade, vfound, vin 2, vin 1, vheard, vlaw]
def arL : List Nat := [1, 2, 2, 2, 2, 2, 1, 2, 3, 3, 4, 4, 4, 4, 4, 4, 4, 4, 4, 4, 2, 2, 2, 2, 4, 1]
def ioL : List (List Nat) := [[], [0], [0], [0], [0], [], [], [0], [0], [0], [0], [0], [0], [0], [0], [0], [0], [0], [0], [0], [0], [], [], [], [], []]
def frL : List Bool := [false, false, false, false, false, false, false, false, true, true, false, false, true, true, true, true, true, true, true, true, false, false, false, false, false, false]
def io : IO := { at_ := fun f => ioL.getD f [], fr := fun f => frL.getD f false }
def V : VSig := { fn := fun f => fnL.getD f vnone, ar := fun f => arL.getD f 0, io := io, cg := fun _ => .non, exs := [("NoName", some "given")], sub := fun x c => decide (x = c) || (decide (x = "NoName") && decide (c = "BayError")) }
instance : NoXa V := ⟨rfl⟩
instance i0 : Has V 0 vurn 1 [] false := ⟨rfl, rfl, rfl, rfl⟩
instance i1 : Has V 1 vtake 2 [0] false := ⟨rfl, rfl, rfl, rfl⟩
instance i2 : Has V 2 vpick 2 [0] false := ⟨rfl, rfl, rfl, rfl⟩
instance i3 : Has V 3 vmixed 2 [0] false := ⟨rfl, rfl, rfl, rfl⟩
instance i4 : Has V 4 vnames 2 [0] false := ⟨rfl, rfl, rfl, rfl⟩
instance i5 : Has V 5 vordered 2 [] false := ⟨rfl, rfl, rfl, rfl⟩
instance i6 : Has V 6 vbelow 1 [] false := ⟨rfl, rfl, rfl, rfl⟩
instance i7 : Has V 7 vbook 2 [0] false := ⟨rfl, rfl, rfl, rfl⟩
instance i8 : Has V 8 vpwords 3 [0] true := ⟨rfl, rfl, rfl, rfl⟩
instance i9 : Has V 9 vbwords 3 [0] true := ⟨rfl, rfl, rfl, rfl⟩
instance i10 : Has V 10 vnone 4 [0] false := ⟨rfl, rfl, rfl, rfl⟩
instance i11 : Has V 11 vnone 4 [0] false := ⟨rfl, rfl, rfl, rfl⟩
instance i12 : Has V 12 (vpart 0 1) 4 [0] true := ⟨rfl, rfl, rfl, rfl⟩
instance i13 : Has V 13 (vpart 0 3) 4 [0] true := ⟨rfl, rfl, rfl, rfl⟩
instance i14 : Has V 14 (vpart 1 1) 4 [0] true := ⟨rfl, rfl, rfl, rfl⟩
instance i15 : Has V 15 (vpart 1 3) 4 [0] true := ⟨rfl, rfl, rfl, rfl⟩
instance i16 : Has V 16 (vpart 2 1) 4 [0] true := ⟨rfl, rfl, rfl, rfl⟩
instance i17 : Has V 17 (vpart 2 3) 4 [0] true := ⟨rfl, rfl, rfl, rfl⟩
instance i18 : Has V 18 (vpart 3 1) 4 [0] true := ⟨rfl, rfl, rfl, rfl⟩
instance i19 : Has V 19 (vpart 3 3) 4 [0] true := ⟨rfl, rfl, rfl, rfl⟩
instance i20 : Has V 20 vmade 2 [0] false := ⟨rfl, rfl, rfl, rfl⟩
instance i21 : Has V 21 vfound 2 [] false := ⟨rfl, rfl, rfl, rfl⟩
instance i22 : Has V 22 (vin 2) 2 [] false := ⟨rfl, rfl, rfl, rfl⟩
instance i23 : Has V 23 (vin 1) 2 [] false := ⟨rfl, rfl, rfl, rfl⟩
instance i24 : Has V 24 vheard 4 [] false := ⟨rfl, rfl, rfl, rfl⟩
instance i25 : Has V 25 vlaw 1 [] false := ⟨rfl, rfl, rfl, rfl⟩
theorem subB : V.sub "NoName" "NoName" = true := by decide +kernel
theorem subE : V.sub "NoName" "BayError" = true := by decide +kernel
end Cay.J75

set_option Elab.async false
set_option linter.all false
set_option maxRecDepth 100000
set_option maxHeartbeats 1000000
namespace Cay.J75
open PySem PySem.Spec PyProof.Rows L2 Bay K75 Cay.PL
local macro_rules | `(tactic| walk_at "v") => `(tactic| (try simp only [V_skip, V_seq, V_set, V_setTt, V_setTc, V_setTi, V_setTv, V_setTs, V_par, V_sub, V_expr, V_ret, V_retN, V_ite, V_for, V_rais1, V_rais0, V_brk, V_cont, T_bl, iteV_t, iteV_f, e_var, e_cst, e_cg, e_add, e_sub, e_mul, e_fdv, e_mod, e_pow, e_neg, e_cmp, e_cmp2, e_isN, e_not, e_and, e_or, e_ite, e_tup, e_lst, e_dic, e_dicT, e_idx, e_slc, e_xf, e_xis, e_blt, e_app, e_ext, e_pop, e_popAt, e_join, e_lc, e_un, e_lsZ, W_rev, W_lsR, W_zip, vEs, vO, vC, vI, vlook, vown, vent, k_ret, k_retT, frOK, frEs, ownV, Option.isSome_some, ioOut, ofD, List.zipIdx_cons, List.zipIdx_nil, List.map_cons, List.map_nil, List.length_cons, List.length_nil, List.cons_append, List.nil_append, List.replicate, List.getElem?_cons_zero, List.getElem?_cons_succ, List.getElem?_nil, List.set_cons_zero, List.set_cons_succ, B_len, B_abs, B_int, B_intB, B_list, B_tuple, B_str, B_isStr, B_isTup, B_isInt, B_isBool, L_tup, L_rot, L_rol, L_lst, L_str, C_lt, C_le, C_gt, C_ge, C_eq, C_ne, C_in, C_nin, E_ii, E_ss, E_bb, E_nn, E_ni, E_in, E_ns, E_sn, A_int, A_str, A_tup, A_lst, U_int, M_int, M_tup, B_sorted, F_int, O_int, P_int, N_int, I_tup, I_lst, I_rot, I_rol, I_str, S_tup, S_lst, S_rol, S_str, Q_tup, Q_lst, Q_rot, Q_rol, R_tup, R_lst, R_rot, R_rol, R_str, Z_lst, Z_rol, X_tup, X_lst, X_rol, M_app, M_ext, M_pop, M_popAt,
  List.contains_cons, List.contains_nil, beq_self_eq_true, Bool.true_or, Bool.or_true, Bool.false_or, Bool.or_false, Bool.true_and, Bool.and_true, Bool.not_true, Bool.not_false, Nat.reduceAdd, Nat.reduceSub, Nat.reduceBEq, Nat.reduceLT, pu_int, pu_str, pu_bl, pu_non, pu_tup, pu_rot, pu_rol, pu_lst, pu_dK, pu_dT, pu_opq, sp_lst, sp_opq, pureL_ints, pureL_strs, pureL_nil, pureL_cons, pureL_app,
  asg1_p, asg1_s, asg1_n, sole_p, sole_s, sole_n, asgT_p, asgL, parOK, rf, al, als, alI, keepsB, List.append_nil, if_true, if_false, Bool.false_eq_true, reduceIte, true_and, and_true, exists_eq_left, exists_eq_left', Option.some.injEq, List.cons.injEq, vtake_e, xaFree, isMut, vasgF, forall_const, vwipe, vbk, vasg, stOK, soleI, live_nil, demote_nil, forE_t, forE_f, live_cons, demote_cons, lv_s, lv_n, dm_s, dm_n, cond_true, cond_false, Bool.and_false, Bool.false_and, ite_self, P.lst.injEq, P.str.injEq, exists_eq', isKindP, isNP, decide_true, decide_false, in_tup, in_rot, in_rol, in_lst, sizeLine_eq, Nat.reduceLeDiff, Nat.zero_le, le_refl_iff, pu_i, puL_i, asg1_l, asg1_d, List.isEmpty_cons, xaN, cH0, cH1, cHK, frH, ioH, permL, reduceCtorEq, List.isEmpty_nil, vendH, Option.map_some, Prod.mk.injEq, subB, subE]))
theorem first_app {done rest : List (Str × P)} {p : Str × P} {x : Str} (h : first done x = none) : first (done ++ p :: rest) x = if p.1 = x then some p.2 else first (done ++ [p] ++ rest) x := by
  unfold first at *
  have hd : done.find? (fun p => decide (p.1 = x)) = none := by
    cases q : done.find? (fun p => decide (p.1 = x)) with
    | none => rfl
    | some z => rw [q] at h; cases h
  by_cases hp : p.1 = x
  · rw [if_pos hp, List.find?_append, hd, List.find?_cons]
    simp [hp]
  · rw [if_neg hp, List.append_assoc]; rfl
theorem first_snoc {done : List (Str × P)} {p : Str × P} {x : Str} (h : first done x = none) (hp : ¬ p.1 = x) : first (done ++ [p]) x = none := by
  unfold first at *
  have hd : done.find? (fun p => decide (p.1 = x)) = none := by
    cases q : done.find? (fun p => decide (p.1 = x)) with
    | none => rfl
    | some z => rw [q] at h; cases h
  rw [List.find?_append, hd]
  simp [hp]
theorem nds_pure {qs : List (Str × P)} (h : ∀ q ∈ qs, pure q.2 = true) : pureL (qs.map ndP) = true := pureL_map fun q hq => by
  show (true && (pure q.2 && true)) = true
  rw [h q hq]; rfl
theorem c_found : ∀ vs Q X, vfound vs Q X → vs.length = 2 → vD b_found_in V [] false 4 vs Q X := by
  intro vs Q X h hl
  match vs, hl with
  | [.tup a, .str x], _ =>
    obtain ⟨qs, rfl, hp, hq⟩ := h
    have hpu := nds_pure hp
    unfold vD b_found_in
    walk_at "v"
    simp only [hpu, Bool.or_true]
    walk_at "v"
    refine for_pre (xs := qs) ndP (fun done ε => ∃ (o2 o3 : Option (P × Bool)), ε = [some (.tup (qs.map ndP), true), some (.str x, true), o2, o3] ∧ first done x = none) ?_ ?_ (done := []) rfl ⟨none, none, rfl, rfl⟩
    · rintro done p rest hr ε K' ⟨o2, o3, rfl, hf⟩ e1 e2 e3 hk
      have hpp := hp p (by rw [hr]; simp)
      have hfa := first_app (rest := rest) (p := p) hf
      rw [← hr] at hfa
      unfold ndP
      walk_at "v"
      refine ⟨_, rfl, ?_⟩
      walk_at "v"
      refine iteV_of (fun hc => ?_) fun hc => ?_
      · rw [if_pos (of_decide_eq_true hc)] at hfa
        rw [hfa] at hq
        walk_at "v"
        rw [e1]
        walk_at "v"
        exact hq
      · walk_at "v"
        exact hk _ ⟨_, _, rfl, first_snoc hf (of_decide_eq_false hc)⟩
    · rintro ε2 ⟨o2, o3, rfl, hf⟩
      rw [hf] at hq
      walk_at "v"
      exact ⟨List.mem_singleton.mpr rfl, hq⟩
theorem nds_of {qs : List (Str × P)} (h : pureL (qs.map ndP) = true) : ∀ q ∈ qs, pure q.2 = true := fun q hq => by
  have := pureL_iff.mp h (ndP q) (List.mem_map.mpr ⟨q, hq, rfl⟩)
  have h2 : (true && (pure q.2 && true)) = true := this
  rwa [Bool.true_and, Bool.and_true] at h2
theorem in_found {ps : List P} {k : Nat} {x : Str} {qs : List (Str × P)} {Q : P → List P → Prop} {X : VX} (he : ps[k]? = some (.tup (qs.map ndP))) (hp : ∀ p ∈ ps, pure p = true) (h : match first qs x with
    | some v => Q v []
    | none => X ⟨"NoName", some ("given", .str x)⟩) : vfound [.tup (qs.map ndP), .str x] Q X :=
  ⟨qs, rfl, nds_of (hp _ (List.mem_of_getElem? he)), h⟩
theorem c_line_in : ∀ vs Q X, vin 2 vs Q X → vs.length = 2 → vD b_line_in V [] false 2 vs Q X := by
  intro vs Q X h hl
  match vs, hl with
  | [.tup ps, .str x], _ =>
    obtain ⟨qs, he, hk, hp, hq⟩ := h
    have hpu : pureL ps = true := pureL_iff.mpr hp
    unfold vD b_line_in
    walk_at "v"
    refine ⟨_, atI_nat (j := 2) he, ?_⟩
    walk_at "v"
    refine in_found he hp ?_
    cases hf : first qs x with
    | none => rw [hf] at hq; exact hq
    | some v => rw [hf] at hq; exact ⟨rfl, hq⟩
theorem c_book_in : ∀ vs Q X, vin 1 vs Q X → vs.length = 2 → vD b_book_in V [] false 2 vs Q X := by
  intro vs Q X h hl
  match vs, hl with
  | [.tup ps, .str x], _ =>
    obtain ⟨qs, he, hk, hp, hq⟩ := h
    have hpu : pureL ps = true := pureL_iff.mpr hp
    unfold vD b_book_in
    walk_at "v"
    refine ⟨_, atI_nat (j := 1) he, ?_⟩
    walk_at "v"
    refine in_found he hp ?_
    cases hf : first qs x with
    | none => rw [hf] at hq; exact hq
    | some v => rw [hf] at hq; exact ⟨rfl, hq⟩
theorem c_heard : ∀ vs Q X, vheard vs Q X → vs.length = 4 → vD b__law_heard V [] false 5 vs Q X := by
  intro vs Q X h hl
  match vs, hl with
  | [.tup ps, .str x, .bl l, .bl n], _ =>
    obtain ⟨bs, ls, hb, hls, h3, hp, hq⟩ := h
    have hpu : pureL ps = true := pureL_iff.mpr hp
    have fin : ∀ (Q' : P → List P → Prop) (X' : VX), (∀ v, first (if l then ls else bs) x = some v → Q' v []) → (first (if l then ls else bs) x = none → X' ⟨"NoName", some ("given", .str x)⟩) → (if l = true then vin 2 [.tup ps, .str x] Q' X' else vin 1 [.tup ps, .str x] Q' X') := by
      intro Q' X' h1 h2
      refine ite_of (fun hl => ?_) fun hl => ?_
      · rw [hl, if_pos rfl] at h1 h2
        refine ⟨ls, hls, by decide, hp, ?_⟩
        cases hf : first ls x with
        | none => exact h2 hf
        | some v => exact h1 v hf
      · rw [hl, if_neg Bool.false_ne_true] at h1 h2
        refine ⟨bs, hb, by decide, hp, ?_⟩
        cases hf : first bs x with
        | none => exact h2 hf
        | some v => exact h1 v hf
    unfold vD b__law_heard
    walk_at "v"
    rw [V_try]
    refine ⟨rfl, ?_⟩
    have hP : ∀ v, first (if l then ls else bs) x = some v → Q (.lst [.str "told", v]) [] := fun v hv => by
      unfold heardP at hq
      rw [hv] at hq; exact hq
    have hN : first (if l then ls else bs) x = none → Q (.lst [.str "none", .str x, .bl true]) [] := fun hv => by
      unfold heardP at hq
      rw [hv] at hq; exact hq
    refine iteV_of (fun _ => ?_) fun _ => ?_
    · walk_at "v"
      refine fin _ _ (fun v hv => ?_) fun hv => ?_
      · walk_at "v"
        exact hP v hv
      · walk_at "v"
        exact ⟨.head _, _, _, rfl, rfl, hN hv⟩
    · walk_at "v"
      refine fin _ _ (fun v hv => ?_) fun hv => ?_
      · walk_at "v"
        exact hP v hv
      · walk_at "v"
        exact ⟨.head _, _, _, rfl, rfl, hN hv⟩
end Cay.J75

set_option Elab.async false
set_option linter.all false
set_option maxRecDepth 100000
set_option maxHeartbeats 1000000
namespace Cay.J75
open PySem PySem.Spec PyProof.Rows L2 Bay K75 Cay.PL
local macro_rules | `(tactic| walk_at "v") => `(tactic| (try simp only [V_skip, V_seq, V_set, V_setTt, V_setTc, V_setTi, V_setTv, V_setTs, V_par, V_sub, V_expr, V_ret, V_retN, V_ite, V_for, V_rais1, V_rais0, V_brk, V_cont, T_bl, iteV_t, iteV_f, e_var, e_cst, e_cg, e_add, e_sub, e_mul, e_fdv, e_mod, e_pow, e_neg, e_cmp, e_cmp2, e_isN, e_not, e_and, e_or, e_ite, e_tup, e_lst, e_dic, e_dicT, e_idx, e_slc, e_xf, e_xis, e_blt, e_app, e_ext, e_pop, e_popAt, e_join, e_lc, e_un, e_lsZ, W_rev, W_lsR, W_zip, vEs, vO, vC, vI, vlook, vown, vent, k_ret, k_retT, frOK, frEs, ownV, Option.isSome_some, ioOut, ofD, List.zipIdx_cons, List.zipIdx_nil, List.map_cons, List.map_nil, List.length_cons, List.length_nil, List.cons_append, List.nil_append, List.replicate, List.getElem?_cons_zero, List.getElem?_cons_succ, List.getElem?_nil, List.set_cons_zero, List.set_cons_succ, B_len, B_abs, B_int, B_intB, B_list, B_tuple, B_str, B_isStr, B_isTup, B_isInt, B_isBool, L_tup, L_rot, L_rol, L_lst, L_str, C_lt, C_le, C_gt, C_ge, C_eq, C_ne, C_in, C_nin, E_ii, E_ss, E_bb, E_nn, E_ni, E_in, E_ns, E_sn, A_int, A_str, A_tup, A_lst, U_int, M_int, M_tup, B_sorted, F_int, O_int, P_int, N_int, I_tup, I_lst, I_rot, I_rol, I_str, S_tup, S_lst, S_rol, S_str, Q_tup, Q_lst, Q_rot, Q_rol, R_tup, R_lst, R_rot, R_rol, R_str, Z_lst, Z_rol, X_tup, X_lst, X_rol, M_app, M_ext, M_pop, M_popAt,
  List.contains_cons, List.contains_nil, beq_self_eq_true, Bool.true_or, Bool.or_true, Bool.false_or, Bool.or_false, Bool.true_and, Bool.and_true, Bool.not_true, Bool.not_false, Nat.reduceAdd, Nat.reduceSub, Nat.reduceBEq, Nat.reduceLT, pu_int, pu_str, pu_bl, pu_non, pu_tup, pu_rot, pu_rol, pu_lst, pu_dK, pu_dT, pu_opq, sp_lst, sp_opq, pureL_ints, pureL_strs, pureL_nil, pureL_cons, pureL_app,
  asg1_p, asg1_s, asg1_n, sole_p, sole_s, sole_n, asgT_p, asgL, parOK, rf, al, als, alI, keepsB, List.append_nil, if_true, if_false, Bool.false_eq_true, reduceIte, true_and, and_true, exists_eq_left, exists_eq_left', Option.some.injEq, List.cons.injEq, vtake_e, xaFree, isMut, vasgF, forall_const, vwipe, vbk, vasg, stOK, soleI, live_nil, demote_nil, forE_t, forE_f, live_cons, demote_cons, lv_s, lv_n, dm_s, dm_n, cond_true, cond_false, Bool.and_false, Bool.false_and, ite_self, P.lst.injEq, P.str.injEq, exists_eq', isKindP, isNP, decide_true, decide_false, in_tup, in_rot, in_rol, in_lst, sizeLine_eq, Nat.reduceLeDiff, Nat.zero_le, le_refl_iff, pu_i, puL_i, asg1_l, asg1_d, List.isEmpty_cons, xaN, cH0, cH1, cHK, frH, ioH, permL, reduceCtorEq, List.isEmpty_nil, vendH, Option.map_some, Prod.mk.injEq, subB, subE]))
theorem bk_sw {v : P} (h : Bk 4 v) : Swx 1328 2 v := by
  obtain ⟨qs, rfl, hl, hb⟩ := h
  refine sw_tupN (w := 82) (n := 16) (dp := 1) (fun v hv => ?_) (by rw [List.length_map]; exact hl)
  obtain ⟨q, hq, rfl⟩ := List.mem_map.mp hv
  have := hb q hq
  exact sw_t2 (sw_int (by omega)) (sw_int (by omega))
theorem ln_sw {v : P} (h : Ln 6 v) : Swx 7974 3 v := by
  obtain ⟨bs, rfl, hl, hb⟩ := h
  exact sw_tupN (w := 1328) (n := 6) (fun v hv => bk_sw (hb v hv)) hl
theorem oks_sw {x : Str} (h : Oks x) : Swx 8 0 (.str x) := sw_str h.1 h.2
theorem nd_sw {T : P → Prop} {k d : Nat} (ht : ∀ {w}, T w → Swx k d w) {v : P} (h : Nd T v) : Swx (k + 10) (d + 1) v := by
  obtain ⟨x, w, rfl, hx, hw⟩ := h
  exact (sw_t2 ((oks_sw hx).mono (Nat.le_refl _) (Nat.zero_le d)) (ht hw)).mono (by omega) (Nat.le_refl _)
theorem pl_sw {v : P} (h : Pl v) : Swx 60000 6 v := by
  obtain ⟨ws, bs, ls, rfl, h1, h2, h3, h4, h5, h6⟩ := h
  have a : Swx 36 1 (.tup (ws.map .str)) := sw_tupN (w := 8) (n := 4) (fun v hv => by obtain ⟨x, hx, rfl⟩ := List.mem_map.mp hv; exact oks_sw (h2 x hx)) (by rw [List.length_map]; exact h1)
  have b : Swx 5356 4 (.tup bs) := sw_tupN (w := 1338) (n := 4) (dp := 3) (fun v hv => nd_sw bk_sw (h4 v hv)) h3
  have c : Swx 31940 5 (.tup ls) := sw_tupN (w := 7984) (n := 4) (dp := 4) (fun v hv => nd_sw ln_sw (h6 v hv)) h5
  exact (sw_t3 (a.mono (Nat.le_refl _) (show 1 ≤ 5 by decide)) (b.mono (Nat.le_refl _) (show 4 ≤ 5 by decide)) c).mono (by decide) (by decide)
theorem first_mem {qs : List (Str × P)} {x : Str} {v : P} (h : first qs x = some v) : ∃ q ∈ qs, q.1 = x ∧ q.2 = v := by
  unfold first at h
  cases hf : qs.find? (fun p => decide (p.1 = x)) with
  | none => rw [hf] at h; cases h
  | some q =>
    rw [hf] at h
    have h2 := List.find?_some hf
    exact ⟨q, List.mem_of_find?_eq_some hf, of_decide_eq_true h2, by cases h; rfl⟩
theorem nds_get {T : P → Prop} : ∀ {ss : List P}, (∀ s ∈ ss, Nd T s) → ∃ qs : List (Str × P), ss = qs.map ndP ∧ ∀ q ∈ qs, Oks q.1 ∧ T q.2
  | [], _ => ⟨[], rfl, fun q h => by cases h⟩
  | s :: ss, h => by
    obtain ⟨x, w, e, hx, hw⟩ := h s (List.mem_cons_self ..)
    obtain ⟨qs, e2, h2⟩ := nds_get fun z hz => h z (List.mem_cons_of_mem _ hz)
    exact ⟨(x, w) :: qs, by rw [e, e2]; rfl, fun q hq => (List.mem_cons.mp hq).elim (fun e => by rw [e]; exact ⟨hx, hw⟩) (h2 q)⟩
theorem sw_l3 {w w' w2 dp : Nat} {a b c : P} (ha : Swx w dp a) (hb : Swx w' dp b) (hc : Swx w2 dp c) : Swx (w + 1 + (w' + 1 + (w2 + 1))) (dp + 1) (.lst [a, b, c]) := let ⟨_, x⟩ := ha; let ⟨_, y⟩ := hb; let ⟨_, z⟩ := hc; ⟨_, (SwL.cons x (SwL.cons y (SwL.cons z (SwL.nil (w := 0))))).lst⟩
theorem heard_sw {qs : List (Str × P)} {x : Str} {k : Nat} (hk : 60 ≤ k) (hx : Oks x) (h : ∀ q ∈ qs, Swx k 3 q.2) : Swx (k + 70) 4 (heardP qs x) := by
  unfold heardP
  cases hf : first qs x with
  | none =>
    exact (sw_l3 (sw_str (x := "none") (w := 4) (by decide +kernel) (by decide +kernel)) (oks_sw hx) (sw_bl (b := true))).mono (by omega) (by decide)
  | some v =>
    obtain ⟨q, hq, _, rfl⟩ := first_mem hf
    exact (sw_l2 ((sw_str (x := "told") (w := 4) (by decide +kernel) (by decide +kernel)).mono (Nat.le_refl _) (Nat.zero_le 3)) (h q hq)).mono (by omega) (by decide)
theorem enum_strs (ns : List Str) : ((ns.map P.str).zipIdx.map fun p => P.tup [.int p.2, p.1]) = ns.zipIdx.map fun p => P.tup [.int p.2, .str p.1] := by
  rw [List.zipIdx_map, List.map_map]; rfl
theorem first_filter {qs : List (Str × P)} {x : Str} : first qs x = ((qs.filter fun q => decide (q.1 = x)).map (·.2)).head? := by
  unfold first
  rw [List.head?_map, List.head?_filter]
theorem pick_part {a : P} {qb ql : List (Str × P)} {b : Bool} {F : P → Prop} (h : F (.tup ((if b then ql else qb).map ndP))) : if b = true then idxP (.tup [a, .tup (qb.map ndP), .tup (ql.map ndP)]) (.int 2) F else idxP (.tup [a, .tup (qb.map ndP), .tup (ql.map ndP)]) (.int 1) F := by
  cases b
  · exact ⟨_, rfl, h⟩
  · exact ⟨_, rfl, h⟩
theorem c_law : ∀ vs Q X, vlaw vs Q X → vs.length = 1 → vD b_law V [] false 13 vs Q X := by
  intro vs Q X h hl
  match vs, hl with
  | [.rol ns], _ =>
    obtain ⟨is, rfl, hi, hq⟩ := h
    unfold vD b_law
    walk_at "v"
    refine ⟨is, rfl, rfl, ?_⟩
    walk_at "v"
    refine ⟨by unfold rngS; omega, ?_⟩
    rw [forE_0]
    refine for_pre (xs := List.range (8 : Int).toNat) (fun i : Nat => P.int i) (fun done ε => ∃ (o2 o3 o4 o5 o6 o7 o8 o9 o10 o11 o12 : Option (P × Bool)), ε = [some (.rol (is.map .int), true), some (.opq, true), o2, o3, o4, o5, o6, o7, o8, o9, o10, o11, o12]) ?_ ?_ (done := []) rfl ⟨_, _, _, _, _, _, _, _, _, _, _, rfl⟩
    · rintro done i rest hx ε K' ⟨o2, o3, o4, o5, o6, o7, o8, o9, o10, o11, o12, rfl⟩ e1 e2 e3 hk
      refine ⟨_, rfl, ?_⟩
      walk_at "v"
      refine pick_ints (lo := 0) (hi := 4) [0, 2, 4] rfl fun m m0 m1 => ⟨_, rfl, ?_⟩
      obtain ⟨m, rfl⟩ := Int.eq_ofNat_of_zero_le m0
      walk_at "v"
      refine ⟨m, rfl, by omega, fun v xs hv => ⟨_, rfl, _, rfl, ?_⟩⟩
      have hvp := hv.pu
      walk_at "v"
      refine repr_ok (pl_sw hv) (by decide) (by decide) ?_
      have hsw := pl_sw hv
      obtain ⟨ws, bs, ls, rfl, h1, h2, h3, h4, h5, h6⟩ := hv
      obtain ⟨qb, rfl, hb⟩ := nds_get h4
      obtain ⟨ql, rfl, hll⟩ := nds_get h6
      refine ⟨_, rfl, ?_⟩
      walk_at "v"
      refine ⟨by rw [List.length_map]; omega, _, rfl, _, rfl, ?_⟩
      have hqm : ∀ s ∈ qb.map ndP ++ ql.map ndP, ∃ (x : Str) (w : P), s = .tup [.str x, w] ∧ Oks x ∧ pure w = true := fun s hs => by
        rcases List.mem_append.mp hs with h | h
        · obtain ⟨q, hq', rfl⟩ := List.mem_map.mp h
          exact ⟨_, _, rfl, (hb q hq').1, (hb q hq').2.pu⟩
        · obtain ⟨q, hq', rfl⟩ := List.mem_map.mp h
          exact ⟨_, _, rfl, (hll q hq').1, (hll q hq').2.pu⟩
      rw [List.length_map] at h3 h5
      walk_at "v"
      refine ⟨by rw [List.length_map, List.length_map]; omega, ?_⟩
      refine lc_rel (fun v => ∃ x : Str, Oks x ∧ v = .str x) (fun ε => ε = [some (.rol (is.map .int), true), some (.opq, true), some (.int i, true), some (.tup [.tup (ws.map .str), .tup (qb.map ndP), .tup (ql.map ndP)], true), o4, o5, o6, o7, o8, o9, o10, o11, o12]) ?_ rfl (by rw [List.length_nil, List.length_append, List.length_map, List.length_map, sizeLine_eq]; omega) ?_
      · rintro y hy ε K rfl k2
        obtain ⟨x, w, rfl, hx, hwp⟩ := hqm y hy
        rw [lcB_e]
        walk_at "v"
        refine ⟨by simp [hwp], ?_⟩
        walk_at "v"
        refine ⟨_, rfl, ?_⟩
        walk_at "v"
        exact k2 _ _ ⟨x, hx, rfl⟩ rfl
      · rintro ys ε2 hyl hT rfl
        obtain ⟨ns, rfl, hns⟩ := unmap hT
        rw [List.nil_append]
        rw [List.length_map, List.length_append, List.length_map, List.length_map] at hyl
        walk_at "v"
        rw [← List.map_append]
        have hwn : ∀ x ∈ ws ++ ns, Oks x := fun x hx => (List.mem_append.mp hx).elim (h2 x) (hns x)
        have hwl : (ws ++ ns).length ≤ 12 := by rw [List.length_append]; omega
        refine ⟨by rw [List.length_map, List.length_map]; omega, ?_⟩
        generalize ws ++ ns = us at *
        walk_at "v"
        refine ⟨_, .inl rfl, by simp, by decide, fun d hd => ?_⟩
        have hd' : ∃ es : List Str, d = .lst (es.map .str) ∧ es.length = 2 ∧ ∀ x ∈ es, Oks x := by
          have ok : ∀ es : List Str, es.all (fun x => PyData.strOk x && decide (x.length ≤ 8)) = true → ∀ x ∈ es, Oks x := fun es h x hx => by
            obtain ⟨a, b⟩ := and2 (List.all_eq_true.mp h x hx)
            exact ⟨a, of_decide_eq_true b⟩
          simp only [List.mem_cons, List.not_mem_nil, or_false] at hd
          rcases hd with rfl | rfl | rfl | rfl
          · exact ⟨["full", ""], rfl, rfl, ok _ (by decide +kernel)⟩
          · exact ⟨["abcdefgh", "Red"], rfl, rfl, ok _ (by decide +kernel)⟩
          · exact ⟨["line", "zz"], rfl, rfl, ok _ (by decide +kernel)⟩
          · exact ⟨["a", "b c"], rfl, rfl, ok _ (by decide +kernel)⟩
        obtain ⟨es, rfl, hel, heo⟩ := hd'
        refine ⟨_, rfl, ?_⟩
        walk_at "v"
        rw [← List.map_append]
        have hso : ∀ x ∈ us ++ es, Oks x := fun x hx => (List.mem_append.mp hx).elim (hwn x) (heo x)
        have hsl : (us ++ es).length ≤ 14 := by rw [List.length_append]; omega
        refine ⟨by rw [List.length_map, List.length_map]; omega, ?_⟩
        generalize us ++ es = ts at *
        walk_at "v"
        refine ⟨_, .inl rfl, pureL_strs, fun x hx => ?_, by rw [List.length_map]; omega, fun zs hz => ?_⟩
        · obtain ⟨y, hy, rfl⟩ := List.mem_map.mp hx
          exact sh_str (hso y hy).1
        obtain ⟨ns2, rfl, hp2⟩ := perm_strs hz
        have hno : ∀ x ∈ ns2, Oks x := fun x hx => hso x (hp2.mem_iff.mp hx)
        refine ⟨_, rfl, ?_⟩
        walk_at "v"
        rw [enum_strs]
        generalize hpl : P.tup [P.tup (ws.map .str), P.tup (qb.map ndP), P.tup (ql.map ndP)] = pl at *
        refine for_pre (xs := ns2.zipIdx) (fun p : Str × Nat => P.tup [.int p.2, .str p.1]) (fun done ε => ∃ (o5 o6 o7 o8 o9 o10 o11 o12 : Option (P × Bool)), ε = [some (.rol (is.map .int), true), some (.opq, true), some (.int i, true), some (pl, true), some (.str (shw pl), true), o5, o6, o7, o8, o9, o10, o11, o12]) ?_ ?_ (done := []) rfl ⟨_, _, _, _, _, _, _, _, rfl⟩
        · rintro done ⟨x, j⟩ rest hx ε K' ⟨o5, o6, o7, o8, o9, o10, o11, o12, rfl⟩ e1' e2' e3' hk'
          have hxo : Oks x := hno x (by
            have : (x, j) ∈ ns2.zipIdx := by rw [hx]; simp
            obtain ⟨_, h2, h3⟩ := List.mem_zipIdx this
            rw [h3]; exact List.getElem_mem _)
          refine ⟨_, rfl, ?_⟩
          walk_at "v"
          refine for_pre (xs := [false, true]) P.bl (fun done ε => ∃ (o6 o9 o10 o11 o12 : Option (P × Bool)), ε = [some (.rol (is.map .int), true), some (.opq, true), some (.int i, true), some (pl, true), some (.str (shw pl), true), o5, o6, some (.int j, true), some (.str x, true), o9, o10, o11, o12]) ?_ ?_ (done := []) rfl ⟨_, _, _, _, _, rfl⟩
          · rintro done2 b rest2 hx2 ε K2 ⟨o6, o9, o10, o11, o12, rfl⟩ f1 f2 f3 hk2
            refine ⟨_, rfl, ?_⟩
            walk_at "v"
            rw [← hpl]
            refine pick_part ?_
            have hQ : ∀ q ∈ (if b then ql else qb), Oks q.1 ∧ Swx 7974 3 q.2 ∧ pure q.2 = true := by
              cases b
              · exact fun q hq' => ⟨(hb q hq').1, (bk_sw (hb q hq').2).mono (by decide) (by decide), (hb q hq').2.pu⟩
              · exact fun q hq' => ⟨(hll q hq').1, ln_sw (hll q hq').2, (hll q hq').2.pu⟩
            have hQl : (if b then ql else qb).length ≤ 4 := by
              cases b
              · exact h3
              · exact h5
            rw [hpl]
            have hheard : ∀ (n : Bool) (Q' : P → List P → Prop) (X' : VX), Q' (heardP (if b then ql else qb) x) [] → vheard [pl, .str x, .bl b, .bl n] Q' X' := by
              intro n Q' X' h
              rw [← hpl]
              refine ⟨qb, ql, rfl, rfl, rfl, fun p hp => ?_, h⟩
              exact pureL_iff.mp (by rw [← hpl] at hvp; exact hvp) p hp
            generalize (if b then ql else qb) = qs at *
            haveI : Pu pl := ⟨hvp⟩
            walk_at "v"
            refine lc_map ndP (fun q : Str × P => decide (q.1 = x)) (fun q => q.2) (fun q hq' K hK => ?_) (by rw [List.length_nil, sizeLine_eq]; omega) ?_
            · rw [lcB_e]
              have hqp := (hQ q hq').2.2
              unfold ndP
              walk_at "v"
              refine ⟨hqp, _, rfl, ?_⟩
              walk_at "v"
              refine iteV_of (fun hc => ?_) fun hc => ?_
              · rw [if_pos hc] at hK
                walk_at "v"
                refine ⟨_, rfl, ?_⟩
                walk_at "v"
                exact hK
              · rw [if_neg (by rw [hc]; exact Bool.false_ne_true)] at hK
                walk_at "v"
                exact hK
            · rw [List.nil_append]
              have hff := first_filter (qs := qs) (x := x)
              have hfm : ∀ v ∈ (qs.filter fun q => decide (q.1 = x)).map (·.2), Swx 7974 3 v ∧ pure v = true := fun v hv => by
                obtain ⟨q, hq', rfl⟩ := List.mem_map.mp hv
                exact (hQ q (List.mem_filter.mp hq').1).2
              generalize (qs.filter fun q => decide (q.1 = x)).map (·.2) = fs at *
              have hfp : pureL fs = true := pureL_iff.mpr fun v hv => (hfm v hv).2
              obtain ⟨ts, t1, t2, t3⟩ := Sh.list fun v hv => (hfm v hv).1.sh (by decide)
              have hhs : Swx 8044 4 (heardP qs x) := heard_sw (k := 7974) (by decide) hxo fun q hq' => (hQ q hq').2.1
              simp only [asg1_s (v := P.lst fs) hfp]
              walk_at "v"
              refine eq_nilP t1 (Pur.shp t2 t3) ?_
              cases fs with
              | nil =>
                have he : heardP qs x = .lst [.str "none", .str x, .bl true] := by unfold heardP; rw [hff]; rfl
                rw [he] at hheard hhs
                simp only [List.isEmpty_nil, Bool.not_true]
                walk_at "v"
                refine hheard _ _ _ ⟨rfl, hheard _ _ _ ⟨rfl, ?_⟩⟩
                walk_at "v"
                refine repr_ok (sw_l2 hhs hhs) (by decide) (by decide) ?_
                refine repr_ok (sw_l2 hhs hhs) (by decide) (by decide) ?_
                walk_at "v"
                exact hk2 _ ⟨_, _, _, _, _, rfl⟩
              | cons v r =>
                have he : heardP qs x = .lst [.str "told", v] := by unfold heardP; rw [hff]; rfl
                rw [he] at hheard hhs
                simp only [List.isEmpty_cons, Bool.not_false]
                walk_at "v"
                refine ⟨_, atI_nat (j := 0) rfl, ?_⟩
                walk_at "v"
                refine hheard _ _ _ ⟨rfl, hheard _ _ _ ⟨rfl, ?_⟩⟩
                walk_at "v"
                refine repr_ok (sw_l2 hhs hhs) (by decide) (by decide) ?_
                refine repr_ok (sw_l2 hhs hhs) (by decide) (by decide) ?_
                walk_at "v"
                exact hk2 _ ⟨_, _, _, _, _, rfl⟩
          · rintro ε2 ⟨o6, o9, o10, o11, o12, rfl⟩
            walk_at "v"
            exact hk' _ ⟨_, _, _, _, _, _, _, _, rfl⟩
        · rintro ε2 ⟨o5, o6, o7, o8, o9, o10, o11, o12, rfl⟩
          walk_at "v"
          refine repr_ok hsw (by decide) (by decide) ?_
          walk_at "v"
          exact hk _ ⟨_, _, _, _, _, _, _, _, _, _, _, rfl⟩
    · rintro ε2 ⟨o2, o3, o4, o5, o6, o7, o8, o9, o10, o11, o12, rfl⟩
      walk_at "v"
      exact hq
end Cay.J75

set_option Elab.async false
set_option linter.all false
set_option maxRecDepth 100000
set_option maxHeartbeats 1000000
namespace Cay.J75
open PySem PySem.Spec PyProof.Rows L2 Bay K75 Cay.PL
def cgL : List D := []
def Γ : Sig := { fn := fun f => lift UrnO (V.io f) (V.io.fr f) (V.fn f), ar := V.ar, cg := fun i => cgL.getD i .non, exs := V.exs, sub := V.sub }
theorem sg : SigR UrnO V Γ where
  ar := rfl
  fn := fun f ds S Q X h => h
  cg := fun i => match i with
    | n => ⟨rfl, fun S F => .non⟩
  exs := rfl
  sub := rfl
theorem t__law_urn : Takes1 "_law_urn" s__law_urn ["script"] := fun _ _ _ _ _ _ us hl => match us, hl with | [_], _ => rfl
theorem t__law_take : Takes1 "_law_take" s__law_take ["urn", "many"] := fun _ _ _ _ _ _ us hl => match us, hl with | [_, _], _ => rfl
theorem t__law_pick : Takes1 "_law_pick" s__law_pick ["urn", "some"] := fun _ _ _ _ _ _ us hl => match us, hl with | [_, _], _ => rfl
theorem t__law_mixed : Takes1 "_law_mixed" s__law_mixed ["urn", "some"] := fun _ _ _ _ _ _ us hl => match us, hl with | [_, _], _ => rfl
theorem t__law_names : Takes1 "_law_names" s__law_names ["urn", "many"] := fun _ _ _ _ _ _ us hl => match us, hl with | [_, _], _ => rfl
theorem t__law_ordered : Takes1 "_law_ordered" s__law_ordered ["order", "direct"] := fun _ _ _ _ _ _ us hl => match us, hl with | [_, _], _ => rfl
theorem t__law_below : Takes1 "_law_below" s__law_below ["levels"] := fun _ _ _ _ _ _ us hl => match us, hl with | [_], _ => rfl
theorem t__law_book : Takes1 "_law_book" s__law_book ["urn", "n"] := fun _ _ _ _ _ _ us hl => match us, hl with | [_, _], _ => rfl
theorem t__law_pairs_words : Takes1 "_law_pairs_words" s__law_pairs_words ["urn", "kinds", "book"] := fun _ _ _ _ _ _ us hl => match us, hl with | [_, _, _], _ => rfl
theorem t__law_book_words : Takes1 "_law_book_words" s__law_book_words ["urn", "kinds", "made"] := fun _ _ _ _ _ _ us hl => match us, hl with | [_, _, _], _ => rfl
theorem t__law_part : Takes1 "_law_part" s__law_part ["urn", "made", "room", "deep"] := fun _ _ _ _ _ _ us hl => match us, hl with | [_, _, _, _], _ => rfl
theorem t__law_parts : Takes1 "_law_parts" s__law_parts ["urn", "made", "room", "deep"] := fun _ _ _ _ _ _ us hl => match us, hl with | [_, _, _, _], _ => rfl
theorem t__law_made : Takes1 "_law_made" s__law_made ["urn", "most"] := fun _ _ _ _ _ _ us hl => match us, hl with | [_, _], _ => rfl
theorem t_found_in : Takes1 "found_in" s_found_in ["pairs", "name"] := fun _ _ _ _ _ _ us hl => match us, hl with | [_, _], _ => rfl
theorem t_line_in : Takes1 "line_in" s_line_in ["plant", "name"] := fun _ _ _ _ _ _ us hl => match us, hl with | [_, _], _ => rfl
theorem t_book_in : Takes1 "book_in" s_book_in ["plant", "name"] := fun _ _ _ _ _ _ us hl => match us, hl with | [_, _], _ => rfl
theorem t__law_heard : Takes1 "_law_heard" s__law_heard ["plant", "name", "is_line", "is_named"] := fun _ _ _ _ _ _ us hl => match us, hl with | [_, _, _, _], _ => rfl
theorem t_law : Takes1 "law" s_law ["script"] := fun _ _ _ _ _ _ us hl => match us, hl with | [_], _ => rfl
theorem kb_22 (ks : List Str) (perm : List Nat) (z : (22, ks, perm) ∈ tab.kws) : TakesK "line_in" s_line_in ["plant", "name"] ks perm := by
  simp [tab] at z
  obtain ⟨rfl, rfl⟩ := z
  exact fun _ _ _ _ _ _ ws ws' hl hp => match ws, hl, hp with | [_, _], _, hp => by cases hp; rfl
theorem kb_23 (ks : List Str) (perm : List Nat) (z : (23, ks, perm) ∈ tab.kws) : TakesK "book_in" s_book_in ["plant", "name"] ks perm := by
  simp [tab] at z
  obtain ⟨rfl, rfl⟩ := z
  exact fun _ _ _ _ _ _ ws ws' hl hp => match ws, hl, hp with | [_, _], _, hp => by cases hp; rfl
theorem w0 : ∀ ds S Q X, Γ.fn 0 ds S Q X → ds.length = V.ar 0 → wD b__law_urn Γ n__law_urn.length ds S Q X := fun ds S Q X h hl => ok_urn (c := 530075) (by decide) (by decide) ds S Q X (urn_lift h) hl
theorem w1 : ∀ ds S Q X, Γ.fn 1 ds S Q X → ds.length = V.ar 1 → wD b__law_take Γ n__law_take.length ds S Q X := fun ds S Q X h hl => ok_take ds S Q X (take_lift h) hl
theorem w2 : ∀ ds S Q X, Γ.fn 2 ds S Q X → ds.length = V.ar 2 → wD b__law_pick Γ n__law_pick.length ds S Q X := def_c sg rfl (by decide +kernel) (by decide) (by decide) (cv_pick (n := 1) rfl rfl rfl)
theorem w3 : ∀ ds S Q X, Γ.fn 3 ds S Q X → ds.length = V.ar 3 → wD b__law_mixed Γ n__law_mixed.length ds S Q X := def_c sg rfl (by decide +kernel) (by decide) (by decide) (cv_mixed (n := 1) rfl rfl rfl)
theorem w4 : ∀ ds S Q X, Γ.fn 4 ds S Q X → ds.length = V.ar 4 → wD b__law_names Γ n__law_names.length ds S Q X := def_c sg rfl (by decide +kernel) (by decide) (by decide) (cv_names (n := 3) rfl rfl rfl)
theorem w5 : ∀ ds S Q X, Γ.fn 5 ds S Q X → ds.length = V.ar 5 → wD b__law_ordered Γ n__law_ordered.length ds S Q X := def_c sg rfl (by decide +kernel) (by decide) (by decide) (cv_ordered)
theorem w6 : ∀ ds S Q X, Γ.fn 6 ds S Q X → ds.length = V.ar 6 → wD b__law_below Γ n__law_below.length ds S Q X := def_c sg rfl (by decide +kernel) (by decide) (by decide) (cv_below)
theorem w7 : ∀ ds S Q X, Γ.fn 7 ds S Q X → ds.length = V.ar 7 → wD b__law_book Γ n__law_book.length ds S Q X := def_c sg rfl (by decide +kernel) (by decide) (by decide) (cv_book (t := 1) (mx := 3) (od := 5) (bl := 6))
theorem w8 : ∀ ds S Q X, Γ.fn 8 ds S Q X → ds.length = V.ar 8 → wD b__law_pairs_words Γ n__law_pairs_words.length ds S Q X := def_c sg rfl (by decide +kernel) (by decide) (by decide) (cv_pwords (t := 1) (mx := 3))
theorem w9 : ∀ ds S Q X, Γ.fn 9 ds S Q X → ds.length = V.ar 9 → wD b__law_book_words Γ n__law_book_words.length ds S Q X := def_c sg rfl (by decide +kernel) (by decide) (by decide) (cv_bwords (t := 1) (pk := 2) (bl := 6) (bk := 7) (pw := 8))
theorem w12 : ∀ ds S Q X, Γ.fn 12 ds S Q X → ds.length = V.ar 12 → wD b__law_part_0 Γ n__law_part.length ds S Q X := def_c sg rfl (by decide +kernel) (by decide) (by decide) (cv_part0 (t := 1) (pk := 2) (p := 10) (c := 11))
theorem w13 : ∀ ds S Q X, Γ.fn 13 ds S Q X → ds.length = V.ar 13 → wD b__law_parts_0 Γ n__law_parts.length ds S Q X := def_c sg rfl (by decide +kernel) (by decide) (by decide) (cv_parts (pk := 2) (p := 12) (d := 0) (by decide))
theorem w14 : ∀ ds S Q X, Γ.fn 14 ds S Q X → ds.length = V.ar 14 → wD b__law_part_1 Γ n__law_part.length ds S Q X := def_c sg rfl (by decide +kernel) (by decide) (by decide) (cv_partS (t := 1) (pk := 2) (p := 12) (c := 13) (d := 0) (by decide))
theorem w15 : ∀ ds S Q X, Γ.fn 15 ds S Q X → ds.length = V.ar 15 → wD b__law_parts_1 Γ n__law_parts.length ds S Q X := def_c sg rfl (by decide +kernel) (by decide) (by decide) (cv_parts (pk := 2) (p := 14) (d := 1) (by decide))
theorem w16 : ∀ ds S Q X, Γ.fn 16 ds S Q X → ds.length = V.ar 16 → wD b__law_part_2 Γ n__law_part.length ds S Q X := def_c sg rfl (by decide +kernel) (by decide) (by decide) (cv_partS (t := 1) (pk := 2) (p := 14) (c := 15) (d := 1) (by decide))
theorem w17 : ∀ ds S Q X, Γ.fn 17 ds S Q X → ds.length = V.ar 17 → wD b__law_parts_2 Γ n__law_parts.length ds S Q X := def_c sg rfl (by decide +kernel) (by decide) (by decide) (cv_parts (pk := 2) (p := 16) (d := 2) (by decide))
theorem w18 : ∀ ds S Q X, Γ.fn 18 ds S Q X → ds.length = V.ar 18 → wD b__law_part_3 Γ n__law_part.length ds S Q X := def_c sg rfl (by decide +kernel) (by decide) (by decide) (cv_partS (t := 1) (pk := 2) (p := 16) (c := 17) (d := 2) (by decide))
theorem w19 : ∀ ds S Q X, Γ.fn 19 ds S Q X → ds.length = V.ar 19 → wD b__law_parts_3 Γ n__law_parts.length ds S Q X := def_c sg rfl (by decide +kernel) (by decide) (by decide) (cv_parts (pk := 2) (p := 18) (d := 3) (by decide))
theorem w20 : ∀ ds S Q X, Γ.fn 20 ds S Q X → ds.length = V.ar 20 → wD b__law_made Γ n__law_made.length ds S Q X := def_c sg rfl (by decide +kernel) (by decide) (by decide) (cv_made (t := 1) (pk := 2) (nm := 4) (bw := 9) (c := 19))
theorem w21 : ∀ ds S Q X, Γ.fn 21 ds S Q X → ds.length = V.ar 21 → wD b_found_in Γ n_found_in.length ds S Q X := def_c sg rfl (by decide +kernel) (by decide) (by decide) (c_found)
theorem w22 : ∀ ds S Q X, Γ.fn 22 ds S Q X → ds.length = V.ar 22 → wD b_line_in Γ n_line_in.length ds S Q X := def_c sg rfl (by decide +kernel) (by decide) (by decide) (c_line_in)
theorem w23 : ∀ ds S Q X, Γ.fn 23 ds S Q X → ds.length = V.ar 23 → wD b_book_in Γ n_book_in.length ds S Q X := def_c sg rfl (by decide +kernel) (by decide) (by decide) (c_book_in)
theorem w24 : ∀ ds S Q X, Γ.fn 24 ds S Q X → ds.length = V.ar 24 → wD b__law_heard Γ n__law_heard.length ds S Q X := def_c sg rfl (by decide +kernel) (by decide) (by decide) (c_heard)
theorem w25 : ∀ ds S Q X, Γ.fn 25 ds S Q X → ds.length = V.ar 25 → wD b_law Γ n_law.length ds S Q X := def_c sg rfl (by decide +kernel) (by decide) (by decide) (c_law)
theorem all_mk {P : Program} {w : World} {K : PySem.W.Frag} {h : Heap} {mg : Str → Option Value} {fa : Addr} {cl : Str → Value} (X : K.In h) (G : h.Ns mainGlobals mg) (hfa : mg "law" = some (.ref fa))
    (d__law_urn : DefIn K "_law_urn" s__law_urn) (d__law_take : DefIn K "_law_take" s__law_take) (d__law_pick : DefIn K "_law_pick" s__law_pick) (d__law_mixed : DefIn K "_law_mixed" s__law_mixed) (d__law_names : DefIn K "_law_names" s__law_names) (d__law_ordered : DefIn K "_law_ordered" s__law_ordered) (d__law_below : DefIn K "_law_below" s__law_below) (d__law_book : DefIn K "_law_book" s__law_book) (d__law_pairs_words : DefIn K "_law_pairs_words" s__law_pairs_words) (d__law_book_words : DefIn K "_law_book_words" s__law_book_words) (d__law_part : DefIn K "_law_part" s__law_part) (d__law_parts : DefIn K "_law_parts" s__law_parts) (d__law_made : DefIn K "_law_made" s__law_made) (d_found_in : DefIn K "found_in" s_found_in) (d_line_in : DefIn K "line_in" s_line_in) (d_book_in : DefIn K "book_in" s_book_in) (d__law_heard : DefIn K "_law_heard" s__law_heard) (d_law : DefIn K "law" s_law)
    (hcg : ∀ (i : Nat) (x : Str), tab.cgs[i]? = some x → ∃ u v, mg x = some u ∧ RelV v u ∧ ∀ H, Rp K H v (Γ.cg i)) (hbl : ∀ x ∈ bltNames, mg x = none) (hex : ∀ c ∈ Γ.exs, ExK P K mg cl c.1 c.2)
    (hca : ∀ y ∈ tab.cat, mg y = some (cl y) ∧ (∃ b, cl y = .ref b) ∧ ∀ c ∈ Γ.exs, PySem.W.exmOne K (cl c.1) (cl y) = some (Γ.sub c.1 y) ∧ PySem.W.kitOne K (cl c.1) (cl y) = some (Γ.sub c.1 y)) :
    ∀ base : Heap, K.In base → base.Ns mainGlobals mg → Told P w K mg base 27 fa (Γ.fn 25) := by
  intro base _ _
  have M0 : ModG P w K mg base cl Γ { tab with fns := fnN.take 0 } 1 := ⟨rfl, rfl, Nat.le_refl _, fun i x z => by simp at z, hcg, hbl, hex, hca⟩
  have M1 := M0.step (i := 0) (names := fnN) (T := tab) d__law_urn X G rfl f__law_urn k__law_urn t__law_urn (fun ks perm z => by simp [tab] at z) rfl w0
  have M2 := M1.step (i := 1) (names := fnN) (T := tab) d__law_take X G rfl f__law_take k__law_take t__law_take (fun ks perm z => by simp [tab] at z) rfl w1
  have M3 := M2.step (i := 2) (names := fnN) (T := tab) d__law_pick X G rfl f__law_pick k__law_pick t__law_pick (fun ks perm z => by simp [tab] at z) rfl w2
  have M4 := M3.step (i := 3) (names := fnN) (T := tab) d__law_mixed X G rfl f__law_mixed k__law_mixed t__law_mixed (fun ks perm z => by simp [tab] at z) rfl w3
  have M5 := M4.step (i := 4) (names := fnN) (T := tab) d__law_names X G rfl f__law_names k__law_names t__law_names (fun ks perm z => by simp [tab] at z) rfl w4
  have M6 := M5.step (i := 5) (names := fnN) (T := tab) d__law_ordered X G rfl f__law_ordered k__law_ordered t__law_ordered (fun ks perm z => by simp [tab] at z) rfl w5
  have M7 := M6.step (i := 6) (names := fnN) (T := tab) d__law_below X G rfl f__law_below k__law_below t__law_below (fun ks perm z => by simp [tab] at z) rfl w6
  have M8 := M7.step (i := 7) (names := fnN) (T := tab) d__law_book X G rfl f__law_book k__law_book t__law_book (fun ks perm z => by simp [tab] at z) rfl w7
  have M9 := M8.step (i := 8) (names := fnN) (T := tab) d__law_pairs_words X G rfl f__law_pairs_words k__law_pairs_words t__law_pairs_words (fun ks perm z => by simp [tab] at z) rfl w8
  have M10 := M9.step (i := 9) (names := fnN) (T := tab) d__law_book_words X G rfl f__law_book_words k__law_book_words t__law_book_words (fun ks perm z => by simp [tab] at z) rfl w9
  have M11 := M10.stub (i := 10) (names := fnN) (T := tab) d__law_part X G rfl t__law_part (fun ks perm z => by simp [tab] at z) (fun ds S Q X h => by obtain ⟨_, _, _, _, _, _, _, _, _, hv, _⟩ := h; exact hv)
  have M12 := M11.stub (i := 11) (names := fnN) (T := tab) d__law_parts X G rfl t__law_parts (fun ks perm z => by simp [tab] at z) (fun ds S Q X h => by obtain ⟨_, _, _, _, _, _, _, _, _, hv, _⟩ := h; exact hv)
  have M13 := M12.step (i := 12) (names := fnN) (T := tab) d__law_part X G rfl f__law_part k__law_part_0 t__law_part (fun ks perm z => by simp [tab] at z) rfl w12
  have M14 := M13.step (i := 13) (names := fnN) (T := tab) d__law_parts X G rfl f__law_parts k__law_parts_0 t__law_parts (fun ks perm z => by simp [tab] at z) rfl w13
  have M15 := M14.step (i := 14) (names := fnN) (T := tab) d__law_part X G rfl f__law_part k__law_part_1 t__law_part (fun ks perm z => by simp [tab] at z) rfl w14
  have M16 := M15.step (i := 15) (names := fnN) (T := tab) d__law_parts X G rfl f__law_parts k__law_parts_1 t__law_parts (fun ks perm z => by simp [tab] at z) rfl w15
  have M17 := M16.step (i := 16) (names := fnN) (T := tab) d__law_part X G rfl f__law_part k__law_part_2 t__law_part (fun ks perm z => by simp [tab] at z) rfl w16
  have M18 := M17.step (i := 17) (names := fnN) (T := tab) d__law_parts X G rfl f__law_parts k__law_parts_2 t__law_parts (fun ks perm z => by simp [tab] at z) rfl w17
  have M19 := M18.step (i := 18) (names := fnN) (T := tab) d__law_part X G rfl f__law_part k__law_part_3 t__law_part (fun ks perm z => by simp [tab] at z) rfl w18
  have M20 := M19.step (i := 19) (names := fnN) (T := tab) d__law_parts X G rfl f__law_parts k__law_parts_3 t__law_parts (fun ks perm z => by simp [tab] at z) rfl w19
  have M21 := M20.step (i := 20) (names := fnN) (T := tab) d__law_made X G rfl f__law_made k__law_made t__law_made (fun ks perm z => by simp [tab] at z) rfl w20
  have M22 := M21.step (i := 21) (names := fnN) (T := tab) d_found_in X G rfl f_found_in k_found_in t_found_in (fun ks perm z => by simp [tab] at z) rfl w21
  have M23 := M22.step (i := 22) (names := fnN) (T := tab) d_line_in X G rfl f_line_in k_line_in t_line_in kb_22 rfl w22
  have M24 := M23.step (i := 23) (names := fnN) (T := tab) d_book_in X G rfl f_book_in k_book_in t_book_in kb_23 rfl w23
  have M25 := M24.step (i := 24) (names := fnN) (T := tab) d__law_heard X G rfl f__law_heard k__law_heard t__law_heard (fun ks perm z => by simp [tab] at z) rfl w24
  have M26 := M25.step (i := 25) (names := fnN) (T := tab) d_law X G rfl f_law k_law t_law (fun ks perm z => by simp [tab] at z) rfl w25
  exact M26.told (i := 25) (x := "law") rfl hfa rfl
/-- a class's n-th statement -/
def inC (j i : Nat) : Stmt := match top j with
  | .ClassDef _ _ _ body _ _ _ _ _ _ _ => body.getD i (.Pass ⟨0, 0, 0, 0⟩)
  | _ => .Pass ⟨0, 0, 0, 0⟩
theorem all_fin {P : Program} {w : World} {K : PySem.W.Frag} {h : Heap} {mg : Str → Option Value} {fa C0 C1 : Addr} (X : K.In h) (G : h.Ns mainGlobals mg) (hfa : mg "law" = some (.ref fa))
    (d__law_urn : DefIn K "_law_urn" s__law_urn) (d__law_take : DefIn K "_law_take" s__law_take) (d__law_pick : DefIn K "_law_pick" s__law_pick) (d__law_mixed : DefIn K "_law_mixed" s__law_mixed) (d__law_names : DefIn K "_law_names" s__law_names) (d__law_ordered : DefIn K "_law_ordered" s__law_ordered) (d__law_below : DefIn K "_law_below" s__law_below) (d__law_book : DefIn K "_law_book" s__law_book) (d__law_pairs_words : DefIn K "_law_pairs_words" s__law_pairs_words) (d__law_book_words : DefIn K "_law_book_words" s__law_book_words) (d__law_part : DefIn K "_law_part" s__law_part) (d__law_parts : DefIn K "_law_parts" s__law_parts) (d__law_made : DefIn K "_law_made" s__law_made) (d_found_in : DefIn K "found_in" s_found_in) (d_line_in : DefIn K "line_in" s_line_in) (d_book_in : DefIn K "book_in" s_book_in) (d__law_heard : DefIn K "_law_heard" s__law_heard) (d_law : DefIn K "law" s_law)
    (aC0 : PySem.W.nsIn K mainGlobals "NoName" = some (some (.ref C0)))
    (aC1 : PySem.W.nsIn K mainGlobals "BayError" = some (some (.ref C1)))
    (sup : PySem.W.nsIn K mainGlobals "super" = some none)
    (XI0 : PySem.BayX.ExI P K C0 "self" (some ("given", "given"))) (xf0 : L2.XfC K C0) (xb0 : PySem.W.BayIs K C0)
    (xn0 : PySem.W.findIn K (.ref C0) "given" = some none)
    (n0_0 : PySem.W.BayCat K C0 C0 true)
    (n0_1 : PySem.W.BayCat K C0 C1 true)
    (hbl : ∀ x ∈ bltNames, PySem.W.nsIn K mainGlobals x = some none) : ∀ base : Heap, K.In base → base.Ns mainGlobals mg → Told P w K mg base 27 fa (Γ.fn 25) := by
  have m0 := PySem.W.mg_of X G aC0
  have m1 := PySem.W.mg_of X G aC1
  refine all_mk (cl := fun x => if x = "NoName" then .ref C0 else if x = "BayError" then .ref C1 else .none) X G hfa d__law_urn d__law_take d__law_pick d__law_mixed d__law_names d__law_ordered d__law_below d__law_book d__law_pairs_words d__law_book_words d__law_part d__law_parts d__law_made d_found_in d_line_in d_book_in d__law_heard d_law ?_ (fun x hx => PySem.W.mg_none_of X G (hbl x hx)) ?_ ?_
  · intro i x hx
    match i, hx with
    | n, hx => simp [tab] at hx
  · intro c hc
    simp [Γ, V] at hc
    subst hc
    exact exk_one m0 rfl (PySem.W.mg_none_of X G sup) XI0 xf0 xb0 xn0
  · intro y hy
    simp [tab] at hy
    rcases hy with rfl | rfl
    · refine ⟨m0, ⟨_, rfl⟩, fun c hc => ?_⟩
      simp [Γ, V] at hc
      subst hc
      exact ⟨n0_0.exm, n0_0.kit fun _ => rfl⟩
    · refine ⟨m1, ⟨_, rfl⟩, fun c hc => ?_⟩
      simp [Γ, V] at hc
      subst hc
      exact ⟨n0_1.exm, n0_1.kit fun _ => rfl⟩
end Cay.J75

set_option Elab.async false
set_option linter.all false
set_option maxRecDepth 100000
open PySem PySem.W PyProof.Rows
set_option maxHeartbeats 0 in
theorem PySem.Challenge.cw_baylines_k75_books_and_lines_by_names_holds : PySem.Challenge.rw_baylines_k75_books_and_lines_by_names.Holds := by
  w_on; o_law; k_head; (case hw => w_witness2)
  k_fill
  refine Bay.walk_bay (l := PySem.Challenge.rw_baylines_k75_books_and_lines_by_names) (n := 63) (k := 27) (sp := Cay.J75.Γ.fn 25) rfl (by decide) rfl ⟨rfl, by decide, by decide⟩ (fun w h Y => PySem.W.kIn_of Y) ?F ?S
  case S => exact Cay.kept_c fun ns hn => ⟨ns, rfl, by first | exact hn | rfl, rfl⟩
  case F =>
    intro w mg fa h KX G hmg
    refine' Cay.J75.all_fin KX G hmg ?qd__law_urn ?qd__law_take ?qd__law_pick ?qd__law_mixed ?qd__law_names ?qd__law_ordered ?qd__law_below ?qd__law_book ?qd__law_pairs_words ?qd__law_book_words ?qd__law_part ?qd__law_parts ?qd__law_made ?qd_found_in ?qd_line_in ?qd_book_in ?qd__law_heard ?qd_law ?qaC0 ?qaC1 ?qsup ?qXI0 ?qxf0 ?qxb0 ?qxn0 ?qn0_0 ?qn0_1 ?qbl
    (case qaC0 => k_is)
    (case qaC1 => k_is)
    (case qsup => k_is)
    (case qbl => (intro x hx; simp [Bay.bltNames] at hx; rcases hx with rfl | rfl | rfl | rfl | rfl | rfl | rfl | rfl | rfl | rfl | rfl | rfl | rfl | rfl | rfl | rfl | rfl | rfl | rfl | rfl <;> k_is))
    (case qxf0 => (refine' ⟨?x1, ?x2, ?x3, ?x4⟩ <;> k_is))
    (case qxb0 => (refine' ⟨?x1, ?x2, ?x3, ?x4, ?x5, ?x6, ?x7, ?x8⟩ <;> k_is))
    (case qxn0 => k_is)
    (case qn0_0 => (constructor <;> k_is))
    (case qn0_1 => (constructor <;> k_is))
    (case qXI0 =>
      refine' PySem.BayX.exI_mk (sf := "self") (more := (some ("given", "given"))) (name := "__init__") (qual := "NoName.__init__") (params := L2.defArgs (Cay.J75.inC 2 0)) (body := L2.defBody (Cay.J75.inC 2 0)) (scope := L2.defScope (Cay.J75.inC 2 0)) ?oL ?oM ?o1 ?o2 ?o3 ?o4 ?q1 ?q2 ?q3 ?q4 ?q5 ?q6 ?q7 ?q8 ?q10 ?q11 ?q12 ?q13 ?r0 ?r1 ?r2 ?r3 ?r4 ?r5 ?r6 ?r7 ?r8 ?r9 ?hev ?hm ?hbi ?hdV
      (case oL => k_is)
      (case oM => decide +kernel)
      (case o1 => k_is)
      (case o2 => k_is)
      (case o3 => k_is)
      (case o4 => k_is)
      (case q1 => k_is)
      (case q2 => k_is)
      (case q3 => k_is)
      (case q4 => k_is)
      (case q5 => k_is)
      (case q6 => rfl)
      (case q7 => decide +kernel)
      (case q8 => k_is)
      (case q10 => k_is)
      (case q11 => k_is)
      (case q12 => k_is)
      (case q13 => first | rfl | kernel_rfl | (simp only [alongIn]; k_is))
      (case hm => exact ⟨by decide, by decide, by decide, by decide +kernel, by k_is, _, _, _, _, rfl⟩)
      (case r0 => rfl)
      (case r1 => rfl)
      (case r2 => decide +kernel)
      (case r3 => decide +kernel)
      (case r4 => decide +kernel)
      (case r5 => decide +kernel)
      (case r6 => decide +kernel)
      (case r7 => decide +kernel)
      (case r8 => decide +kernel)
      (case r9 => decide +kernel)
      (case hev => exact fun env => rfl)
      (case hbi => exact fun _ _ _ _ _ _ _ us hl => match us, hl with | [_, _], _ => rfl)
      (case hdV => rfl))
    (case qd__law_urn => (refine' Bay.defIn_mk ?ca ?cl ?cc ?ck; (case ca => k_is); (case cl => k_is); (case cc => k_is); (case ck => k_is)))
    (case qd__law_take => (refine' Bay.defIn_mk ?ca ?cl ?cc ?ck; (case ca => k_is); (case cl => k_is); (case cc => k_is); (case ck => k_is)))
    (case qd__law_pick => (refine' Bay.defIn_mk ?ca ?cl ?cc ?ck; (case ca => k_is); (case cl => k_is); (case cc => k_is); (case ck => k_is)))
    (case qd__law_mixed => (refine' Bay.defIn_mk ?ca ?cl ?cc ?ck; (case ca => k_is); (case cl => k_is); (case cc => k_is); (case ck => k_is)))
    (case qd__law_names => (refine' Bay.defIn_mk ?ca ?cl ?cc ?ck; (case ca => k_is); (case cl => k_is); (case cc => k_is); (case ck => k_is)))
    (case qd__law_ordered => (refine' Bay.defIn_mk ?ca ?cl ?cc ?ck; (case ca => k_is); (case cl => k_is); (case cc => k_is); (case ck => k_is)))
    (case qd__law_below => (refine' Bay.defIn_mk ?ca ?cl ?cc ?ck; (case ca => k_is); (case cl => k_is); (case cc => k_is); (case ck => k_is)))
    (case qd__law_book => (refine' Bay.defIn_mk ?ca ?cl ?cc ?ck; (case ca => k_is); (case cl => k_is); (case cc => k_is); (case ck => k_is)))
    (case qd__law_pairs_words => (refine' Bay.defIn_mk ?ca ?cl ?cc ?ck; (case ca => k_is); (case cl => k_is); (case cc => k_is); (case ck => k_is)))
    (case qd__law_book_words => (refine' Bay.defIn_mk ?ca ?cl ?cc ?ck; (case ca => k_is); (case cl => k_is); (case cc => k_is); (case ck => k_is)))
    (case qd__law_part => (refine' Bay.defIn_mk ?ca ?cl ?cc ?ck; (case ca => k_is); (case cl => k_is); (case cc => k_is); (case ck => k_is)))
    (case qd__law_parts => (refine' Bay.defIn_mk ?ca ?cl ?cc ?ck; (case ca => k_is); (case cl => k_is); (case cc => k_is); (case ck => k_is)))
    (case qd__law_made => (refine' Bay.defIn_mk ?ca ?cl ?cc ?ck; (case ca => k_is); (case cl => k_is); (case cc => k_is); (case ck => k_is)))
    (case qd_found_in => (refine' Bay.defIn_mk ?ca ?cl ?cc ?ck; (case ca => k_is); (case cl => k_is); (case cc => k_is); (case ck => k_is)))
    (case qd_line_in => (refine' Bay.defIn_mk ?ca ?cl ?cc ?ck; (case ca => k_is); (case cl => k_is); (case cc => k_is); (case ck => k_is)))
    (case qd_book_in => (refine' Bay.defIn_mk ?ca ?cl ?cc ?ck; (case ca => k_is); (case cl => k_is); (case cc => k_is); (case ck => k_is)))
    (case qd__law_heard => (refine' Bay.defIn_mk ?ca ?cl ?cc ?ck; (case ca => k_is); (case cl => k_is); (case cc => k_is); (case ck => k_is)))
    (case qd_law => (refine' Bay.defIn_mk ?ca ?cl ?cc ?ck; (case ca => k_is); (case cl => k_is); (case cc => k_is); (case ck => k_is)))

