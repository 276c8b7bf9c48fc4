import PyProof.Rows.All
import Wide.All
import OpenK.AllK
import Wide.FinOn
import HandS.ForMost
import HandS.ForExc
import HandS.Walk
import HandS.Deep
import HandS.IsInst
import HandS.More
import KE.KDictKeyed
import HandS.Small
import HandS.TupAny
import HandS.TupLe
import HandS.Style
import HandS.Wide
import KE.KTupSum
import HandS.RaiseMore
import KE.GoesZip
import KE.GoesMore
import HandS.Words
import HandS.Ends
import PySem.Challenge.RW_coinmaster_k60_whole_numbers_of_unknown
set_option Elab.async false
set_option linter.all false
set_option maxRecDepth 100000
/-! The pure layer: data by value over the abstract heap. -/
namespace L2.Pu
open PySem PySem.Spec PyProof.Rows

/-- the world of a proof: program, world, the written part; one class with one attribute that holds a dict -/
structure Ev where
  P : Program
  w : World
  K : PySem.W.Frag
  C : Addr
  fld : Str

/-- a list that never changes any more -/
def FzL (K : PySem.W.Frag) (H : Hp) (a : Addr) (xs : List V) : Prop := ∃ o, H a = some (.frz o (.lst xs))
theorem FzL.sq {K : PySem.W.Frag} {H : Hp} {a : Addr} {xs : List V} (h : FzL K H a xs) : SqL K H a xs := let ⟨o, h⟩ := h; .inl (.inr ⟨o, h⟩)

/-- the law's own list, as it was handed in -/
def ScrL (K : PySem.W.Frag) (H : Hp) (a : Addr) (xs : List V) : Prop :=
  FzL K H a xs ∨ ∃ (o : Obj) (its : Array Value) (n : Nat), K.lookup a = some o ∧ o.cls = .type "list" ∧ o.dict = none ∧ o.data = .seq its n ∧ its.size ≤ sizeLine ∧ Vals xs its.toList
theorem ScrL.sq {K : PySem.W.Frag} {H : Hp} {a : Addr} {xs : List V} (h : ScrL K H a xs) : SqL K H a xs := by
  rcases h with h | h
  · exact h.sq
  · exact .inr h

def keyD : Key → PyData
  | .inl i => .int i
  | .inr x => .str x

/-- a dict whose keys are tuples, nested -/
def DX (P : Program) (w : World) (a : Addr) (xs : List (NestedKey × Addr × Value)) : HO :=
  .ext fun h => xs.length ≤ sizeLine ∧ (a == sysModules) = false ∧ ∃ o es ep, h.get? a = some o ∧ o.ExactDict ∧ o.data = .dict es ep ∧ es.toList = xs.map (entryOfKey (nestedKind P w)) ∧ (xs.map (·.1)).Nodup

mutual
def nkOf : PyData → Option NestedKey
  | .none => some .none
  | .bool b => some (.num (if b then 1 else 0))
  | .int i => some (.num i)
  | .str x => some (.text x)
  | .tuple ds => (nksOf ds).map .tup
  | _ => none
def nksOf : List PyData → Option (List NestedKey)
  | [] => some []
  | d :: ds => match nkOf d, nksOf ds with
    | some k, some ks => some (k :: ks)
    | _, _ => none
end

def nkC (d : PyData) : Option NestedKey := match nkOf d with
  | some k => if k.depth ≤ 8 then some k else none
  | none => none

mutual
/-- what stands for a datum, for ever -/
inductive Rep (E : Ev) (H : Hp) : V → PyData → Prop
  | non : Rep E H .non .none
  | bl (b : Bool) : Rep E H (.bl b) (.bool b)
  | int (i : Int) : Rep E H (.int i) (.int i)
  | str (x : Str) : Rep E H (.str x) (.str x)
  | lst {a : Addr} {xs : List V} {ds : List PyData} : FzL E.K H a xs → RepAll E H xs ds → Rep E H (.ref a) (.list ds)
  | tup {a : Addr} {xs : List V} {ds : List PyData} : SqT E.K H a xs → RepAll E H xs ds → Rep E H (.ref a) (.tuple ds)
  | dK {a : Addr} {o : Obj} {ks : List (Key × V)} {kvs : List (PyData × PyData)} : H a = some (.frz o (.dK ks)) → RepK E H ks kvs → Rep E H (.ref a) (.dict kvs)
  | dX {a : Addr} {o : Obj} {xs : List (NestedKey × Addr × Value)} {kvs : List (PyData × PyData)} : H a = some (.frz o (DX E.P E.w a xs)) → RepX E H xs kvs → Rep E H (.ref a) (.dict ((.none, .none) :: kvs))
  | scr {a : Addr} {xs : List V} {ds : List PyData} : ScrL E.K H a xs → RepAll E H xs ds → Rep E H (.ref a) (.dict [(.bool true, .list ds)])
inductive RepAll (E : Ev) (H : Hp) : List V → List PyData → Prop
  | nil : RepAll E H [] []
  | cons {v : V} {vs : List V} {d : PyData} {ds : List PyData} : Rep E H v d → RepAll E H vs ds → RepAll E H (v :: vs) (d :: ds)
inductive RepK (E : Ev) (H : Hp) : List (Key × V) → List (PyData × PyData) → Prop
  | nil : RepK E H [] []
  | cons {k : Key} {v : V} {ks : List (Key × V)} {d : PyData} {ds : List (PyData × PyData)} : Rep E H v d → RepK E H ks ds → RepK E H ((k, v) :: ks) ((keyD k, d) :: ds)
inductive RepX (E : Ev) (H : Hp) : List (NestedKey × Addr × Value) → List (PyData × PyData) → Prop
  | nil : RepX E H [] []
  | cons {nk : NestedKey} {b : Addr} {u : Value} {v : V} {xs : List (NestedKey × Addr × Value)} {k d : PyData} {ds : List (PyData × PyData)} : nkC k = some nk → Rep E H (.ref b) k → RelV v u → Rep E H v d → RepX E H xs ds →
      RepX E H ((nk, b, u) :: xs) ((k, d) :: ds)
end

/-- tuples and locked things stay -/
structure Pers (H H' : Hp) : Prop where
  tup : ∀ b xs, H b = some (.tup xs) → H' b = some (.tup xs)
  frz : ∀ b o u, H b = some (.frz o u) → H' b = some (.frz o u)
  ins : ∀ b C dx f v, H b = some (.ins C dx [(f, v)]) → H' b = some (.ins C dx [(f, v)])
theorem Pers.refl (H : Hp) : Pers H H := ⟨fun _ _ h => h, fun _ _ _ h => h, fun _ _ _ _ _ h => h⟩
theorem Pers.trans {H H1 H2 : Hp} (a : Pers H H1) (b : Pers H1 H2) : Pers H H2 := ⟨fun c xs h => b.tup c xs (a.tup c xs h), fun c o u h => b.frz c o u (a.frz c o u h), fun c C dx f v h => b.ins c C dx f v (a.ins c C dx f v h)⟩
theorem Pers.of_same {H H' : Hp} (s : Same H H') : Pers H H' := ⟨fun b _ h => s b _ h, fun b _ _ h => s b _ h, fun b _ _ _ _ h => s b _ h⟩
/-- what may be changed (or locked) without harm -/
def Free : Option HO → Prop
  | some (.lst _) => True
  | some (.dK _) => True
  | some (.ext _) => True
  | none => True
  | _ => False
theorem Pers.off {H H' : Hp} {a : Addr} (f : Free (H a)) (off : ∀ b, b ≠ a → H' b = H b) : Pers H H' :=
  ⟨fun b xs h => by rw [off b fun z => by rw [z] at h; rw [h] at f; exact f]; exact h, fun b o u h => by rw [off b fun z => by rw [z] at h; rw [h] at f; exact f]; exact h,
    fun b C dx g v h => by rw [off b fun z => by rw [z] at h; rw [h] at f; exact f]; exact h⟩
theorem Pers.fzl {K : PySem.W.Frag} {H H' : Hp} {a : Addr} {xs : List V} (p : Pers H H') (h : FzL K H a xs) : FzL K H' a xs := let ⟨o, h⟩ := h; ⟨o, p.frz _ _ _ h⟩
theorem Pers.sqt {K : PySem.W.Frag} {H H' : Hp} {a : Addr} {xs : List V} (p : Pers H H') (h : SqT K H a xs) : SqT K H' a xs := by
  rcases h with (h | ⟨o, h⟩) | h
  · exact .inl (.inl (p.tup _ _ h))
  · exact .inl (.inr ⟨o, p.frz _ _ _ h⟩)
  · exact .inr h
mutual
theorem Rep.pers {E : Ev} {H H' : Hp} (p : Pers H H') : ∀ {v : V} {d : PyData}, Rep E H v d → Rep E H' v d
  | _, _, .non => .non
  | _, _, .bl b => .bl b
  | _, _, .int i => .int i
  | _, _, .str x => .str x
  | _, _, .lst h t => .lst (p.fzl h) (RepAll.pers p t)
  | _, _, .tup h t => .tup (p.sqt h) (RepAll.pers p t)
  | _, _, .dK h t => .dK (p.frz _ _ _ h) (RepK.pers p t)
  | _, _, .dX h t => .dX (p.frz _ _ _ h) (RepX.pers p t)
  | _, _, .scr h t => .scr (h.imp p.fzl id) (RepAll.pers p t)
theorem RepAll.pers {E : Ev} {H H' : Hp} (p : Pers H H') : ∀ {v : List V} {d : List PyData}, RepAll E H v d → RepAll E H' v d
  | _, _, .nil => .nil
  | _, _, .cons h t => .cons (Rep.pers p h) (RepAll.pers p t)
theorem RepK.pers {E : Ev} {H H' : Hp} (p : Pers H H') : ∀ {v : List (Key × V)} {d : List (PyData × PyData)}, RepK E H v d → RepK E H' v d
  | _, _, .nil => .nil
  | _, _, .cons h t => .cons (Rep.pers p h) (RepK.pers p t)
theorem RepX.pers {E : Ev} {H H' : Hp} (p : Pers H H') : ∀ {v : List (NestedKey × Addr × Value)} {d : List (PyData × PyData)}, RepX E H v d → RepX E H' v d
  | _, _, .nil => .nil
  | _, _, .cons a b c d t => .cons a (Rep.pers p b) c (Rep.pers p d) (RepX.pers p t)
end
theorem RepAll.length {E : Ev} {H : Hp} : ∀ {v : List V} {d : List PyData}, RepAll E H v d → v.length = d.length
  | _, _, .nil => rfl
  | _, _, .cons _ t => by simp [RepAll.length t]
theorem RepAll.get {E : Ev} {H : Hp} : ∀ {vs : List V} {ds : List PyData} {i : Nat} {v : V}, RepAll E H vs ds → vs[i]? = some v → ∃ d, ds[i]? = some d ∧ Rep E H v d
  | _, _, _, _, .nil, e => by simp at e
  | _, _, 0, _, .cons h _, e => by simp at e; subst e; exact ⟨_, rfl, h⟩
  | _, _, i + 1, _, .cons _ t, e => by
    obtain ⟨d, h1, h2⟩ := RepAll.get (i := i) t (by simpa using e)
    exact ⟨d, by simpa using h1, h2⟩
theorem RepAll.getD {E : Ev} {H : Hp} : ∀ {vs : List V} {ds : List PyData} {i : Nat} {d : PyData}, RepAll E H vs ds → ds[i]? = some d → ∃ v, vs[i]? = some v ∧ Rep E H v d
  | _, _, _, _, .nil, e => by simp at e
  | _, _, 0, _, .cons h _, e => by simp at e; subst e; exact ⟨_, rfl, h⟩
  | _, _, i + 1, _, .cons _ t, e => by
    obtain ⟨d, h1, h2⟩ := RepAll.getD (i := i) t (by simpa using e)
    exact ⟨d, by simpa using h1, h2⟩
theorem RepAll.append {E : Ev} {H : Hp} : ∀ {vs ws : List V} {ds es : List PyData}, RepAll E H vs ds → RepAll E H ws es → RepAll E H (vs ++ ws) (ds ++ es)
  | _, _, _, _, .nil, s => s
  | _, _, _, _, .cons h t, s => .cons h (RepAll.append t s)
theorem RepAll.take {E : Ev} {H : Hp} : ∀ {vs : List V} {ds : List PyData} (n : Nat), RepAll E H vs ds → RepAll E H (vs.take n) (ds.take n)
  | _, _, 0, _ => by simp; exact .nil
  | _, _, n + 1, .nil => by simp; exact .nil
  | _, _, n + 1, .cons h t => .cons h (RepAll.take n t)
theorem RepAll.drop {E : Ev} {H : Hp} : ∀ {vs : List V} {ds : List PyData} (n : Nat), RepAll E H vs ds → RepAll E H (vs.drop n) (ds.drop n)
  | _, _, 0, h => h
  | _, _, n + 1, .nil => by simp; exact .nil
  | _, _, n + 1, .cons h t => RepAll.drop n t
theorem RepAll.set {E : Ev} {H : Hp} {v : V} {d : PyData} (r : Rep E H v d) : ∀ {vs : List V} {ds : List PyData} (n : Nat), RepAll E H vs ds → RepAll E H (vs.set n v) (ds.set n d)
  | _, _, _, .nil => .nil
  | _, _, 0, .cons _ t => .cons r t
  | _, _, n + 1, .cons h t => .cons h (RepAll.set r n t)
theorem RepAll.reverse {E : Ev} {H : Hp} {vs : List V} {ds : List PyData} (h : RepAll E H vs ds) : RepAll E H vs.reverse ds.reverse := by
  induction ds generalizing vs with
  | nil => cases h; exact .nil
  | cons d ds ih => cases h with
    | cons a b => rw [List.reverse_cons, List.reverse_cons]; exact (ih b).append (.cons a .nil)

/-- a list, a dict that may change, known to one alone -/
inductive OwnR (E : Ev) (H : Hp) : Addr → PyData → Prop
  | lst {a : Addr} {xs : List V} {ds : List PyData} : H a = some (.lst xs) → RepAll E H xs ds → OwnR E H a (.list ds)
  | dK {a : Addr} {ks : List (Key × V)} {kvs : List (PyData × PyData)} : H a = some (.dK ks) → RepK E H ks kvs → OwnR E H a (.dict kvs)
  | dX {a : Addr} {xs : List (NestedKey × Addr × Value)} {kvs : List (PyData × PyData)} : H a = some (DX E.P E.w a xs) → RepX E H xs kvs → OwnR E H a (.dict ((.none, .none) :: kvs))
/-- .. itself, or within an object -/
inductive OwnS (E : Ev) (H : Hp) : Bool → Addr → PyData → List Addr → Prop
  | plain {a : Addr} {d : PyData} : OwnR E H a d → OwnS E H false a d [a]
  | obj {a b dx : Addr} {d : PyData} : H a = some (.ins E.C dx [(E.fld, .ref b)]) → OwnR E H b d → OwnS E H true a d [a, b]
/-- what an operation may read -/
def RepO (E : Ev) (H : Hp) (v : V) (d : PyData) : Prop := Rep E H v d ∨ ∃ a, v = .ref a ∧ OwnR E H a d
theorem OwnR.free {E : Ev} {H : Hp} {a : Addr} {d : PyData} (h : OwnR E H a d) : Free (H a) := by
  cases h with
  | lst h _ => rw [h]; exact trivial
  | dK h _ => rw [h]; exact trivial
  | dX h _ => rw [h]; exact trivial
theorem OwnR.ex {E : Ev} {H : Hp} {a : Addr} {d : PyData} (h : OwnR E H a d) : Mut (H a) ∧ ∃ o, H a = some o := by
  cases h with
  | lst h _ => exact ⟨by rw [h]; exact trivial, _, h⟩
  | dK h _ => exact ⟨by rw [h]; exact trivial, _, h⟩
  | dX h _ => exact ⟨by rw [h]; exact trivial, _, h⟩
theorem OwnR.keep {E : Ev} {H H' : Hp} {a : Addr} {d : PyData} (p : Pers H H') (k : ∀ o, H a = some o → H' a = some o) (h : OwnR E H a d) : OwnR E H' a d := by
  cases h with
  | lst h t => exact .lst (k _ h) (t.pers p)
  | dK h t => exact .dK (k _ h) (t.pers p)
  | dX h t => exact .dX (k _ h) (t.pers p)
theorem OwnS.mut {E : Ev} {H : Hp} {ob : Bool} {a : Addr} {d : PyData} {fp : List Addr} (h : OwnS E H ob a d fp) : ∀ b ∈ fp, Mut (H b) ∧ ∃ o, H b = some o := by
  cases h with
  | plain h => intro b hb; simp at hb; subst hb; exact h.ex
  | obj h h' =>
    intro b hb
    simp at hb
    rcases hb with rfl | rfl
    · exact ⟨by rw [h]; exact trivial, _, h⟩
    · exact h'.ex
theorem OwnS.keep {E : Ev} {H H' : Hp} {ob : Bool} {a : Addr} {d : PyData} {fp : List Addr} (p : Pers H H') (h : OwnS E H ob a d fp) (k : ∀ b ∈ fp, ∀ o, H b = some o → H' b = some o) : OwnS E H' ob a d fp := by
  cases h with
  | plain h => exact .plain (h.keep p (k _ (by simp)))
  | obj h h' => exact .obj (k _ (by simp) _ h) (h'.keep p (k _ (by simp)))
theorem OwnS.uniq {E : Ev} {H : Hp} {ob : Bool} {a : Addr} {d d' : PyData} {fp fp' : List Addr} (h : OwnS E H ob a d fp) (h' : OwnS E H ob a d' fp') : fp = fp' := by
  cases h with
  | plain h => cases h'; rfl
  | obj h _ => cases h' with
    | obj g _ => rw [h] at g; cases g; rfl
theorem OwnS.head {E : Ev} {H : Hp} {ob : Bool} {a : Addr} {d : PyData} {fp : List Addr} (h : OwnS E H ob a d fp) : a ∈ fp := by
  cases h <;> simp

/-- what a slot holds: nothing known; a datum for ever; something of one's own (io: handed in, to be handed back; ob: within an object); any value as it is -/
inductive Sl
  | un
  | val (d : PyData)
  | own (io ob : Bool) (d : PyData)
  | raw (v : V)
abbrev Env := List Sl

structure Gd where
  H0 : Hp
  S : List Addr
  pins : List (Nat × Addr)

structure StR (E : Ev) (G : Gd) (H : Hp) (σ : St) (ρ : Pu.Env) : Prop where
  len : σ.length = ρ.length
  val : ∀ (i : Nat) d, ρ[i]? = some (.val d) → ∃ v, σ[i]? = some (some v) ∧ Rep E H v d
  raw : ∀ (i : Nat) v, ρ[i]? = some (.raw v) → σ[i]? = some (some v)
  own : ∀ (i : Nat) io ob d, ρ[i]? = some (.own io ob d) → ∃ a fp, σ[i]? = some (some (.ref a)) ∧ OwnS E H ob a d fp ∧ (∀ b ∈ fp, b ∈ G.S ∨ G.H0 b = none) ∧ (io = true → (i, a) ∈ G.pins)
  sep : ∀ (i j : Nat) io ob d io' ob' d' a a' fp fp', i ≠ j → ρ[i]? = some (.own io ob d) → ρ[j]? = some (.own io' ob' d') → σ[i]? = some (some (.ref a)) → σ[j]? = some (some (.ref a')) →
    OwnS E H ob a d fp → OwnS E H ob' a' d' fp' → ∀ b ∈ fp, b ∉ fp'
  frm : ∀ b o, G.H0 b = some o → b ∉ G.S → H b = some o

section
variable {E : Ev} {G : Gd} {H H' : Hp} {σ σ' : St} {ρ ρ' : Pu.Env}
theorem StR.lt (x : StR E G H σ ρ) {i : Nat} {s : Sl} (h : ρ[i]? = some s) : i < σ.length := by
  rw [x.len]; exact (List.getElem?_eq_some_iff.mp h).1
/-- the heap grew, or changed where nothing of ours stands -/
theorem StR.keep (x : StR E G H σ ρ) (p : Pers H H') (k : ∀ (i : Nat) io ob d a fp, ρ[i]? = some (.own io ob d) → σ[i]? = some (some (.ref a)) → OwnS E H ob a d fp → ∀ b ∈ fp, ∀ o, H b = some o → H' b = some o)
    (f : ∀ b o, G.H0 b = some o → b ∉ G.S → H b = some o → H' b = some o) : StR E G H' σ ρ where
  len := x.len
  val := fun i d h => let ⟨v, h1, h2⟩ := x.val i d h; ⟨v, h1, h2.pers p⟩
  raw := x.raw
  own := fun i io ob d h => let ⟨a, fp, h1, h2, h3, h4⟩ := x.own i io ob d h; ⟨a, fp, h1, h2.keep p (k i io ob d a fp h h1 h2), h3, h4⟩
  sep := fun i j io ob d io' ob' d' a a' fp fp' hij h h' e e' o o' => by
    obtain ⟨b, g, h1, h2, _⟩ := x.own i io ob d h
    obtain ⟨b', g', h1', h2', _⟩ := x.own j io' ob' d' h'
    rw [e] at h1; cases h1
    rw [e'] at h1'; cases h1'
    have z := h2.keep p (k i io ob d a g h e h2)
    have z' := h2'.keep p (k j io' ob' d' a' g' h' e' h2')
    rw [o.uniq z, o'.uniq z']
    exact x.sep i j io ob d io' ob' d' a a' g g' hij h h' e e' h2 h2'
  frm := fun b o h n => f b o h n (x.frm b o h n)
theorem StR.same (x : StR E G H σ ρ) (s : Same H H') : StR E G H' σ ρ :=
  x.keep (.of_same s) (fun _ _ _ _ _ _ _ _ _ b _ o h => s b o h) fun b o _ _ h => s b o h
/-- slots are forgotten, or get a datum -/
theorem StR.setVal (x : StR E G H σ ρ) {i : Nat} {v : V} {d : PyData} (r : Rep E H v d) : StR E G H (σ.set i (some v)) (ρ.set i (.val d)) where
  len := by simp [x.len]
  val := fun j e h => by
    by_cases hj : j = i
    · subst hj
      have hl := (List.getElem?_eq_some_iff.mp h).1
      rw [List.length_set] at hl
      rw [List.getElem?_set_self hl] at h
      cases h
      exact ⟨v, List.getElem?_set_self (by rw [x.len]; exact hl), r⟩
    · rw [List.getElem?_set_ne (Ne.symm hj)] at h ⊢
      exact x.val j e h
  raw := fun j e h => by
    by_cases hj : j = i
    · subst hj
      have hl := (List.getElem?_eq_some_iff.mp h).1
      rw [List.length_set] at hl
      rw [List.getElem?_set_self hl] at h
      cases h
    · rw [List.getElem?_set_ne (Ne.symm hj)] at h ⊢
      exact x.raw j e h
  own := fun j io ob e h => by
    by_cases hj : j = i
    · subst hj
      have hl := (List.getElem?_eq_some_iff.mp h).1
      rw [List.length_set] at hl
      rw [List.getElem?_set_self hl] at h
      cases h
    · rw [List.getElem?_set_ne (Ne.symm hj)] at h ⊢
      exact x.own j io ob e h
  sep := fun j k io ob e io' ob' e' a a' fp fp' hjk h h' g g' o o' => by
    have nj : j ≠ i := fun z => by
      subst z
      have hl := (List.getElem?_eq_some_iff.mp h).1
      rw [List.length_set] at hl
      rw [List.getElem?_set_self hl] at h
      cases h
    have nk : k ≠ i := fun z => by
      subst z
      have hl := (List.getElem?_eq_some_iff.mp h').1
      rw [List.length_set] at hl
      rw [List.getElem?_set_self hl] at h'
      cases h'
    rw [List.getElem?_set_ne (Ne.symm nj)] at h g
    rw [List.getElem?_set_ne (Ne.symm nk)] at h' g'
    exact x.sep j k io ob e io' ob' e' a a' fp fp' hjk h h' g g' o o'
  frm := x.frm
theorem StR.setRaw (x : StR E G H σ ρ) {i : Nat} {v : V} : StR E G H (σ.set i (some v)) (ρ.set i (.raw v)) where
  len := by simp [x.len]
  val := fun j e h => by
    by_cases hj : j = i
    · subst hj
      have hl := (List.getElem?_eq_some_iff.mp h).1
      rw [List.length_set] at hl
      rw [List.getElem?_set_self hl] at h
      cases h
    · rw [List.getElem?_set_ne (Ne.symm hj)] at h ⊢
      exact x.val j e h
  raw := fun j e h => by
    by_cases hj : j = i
    · subst hj
      have hl := (List.getElem?_eq_some_iff.mp h).1
      rw [List.length_set] at hl
      rw [List.getElem?_set_self hl] at h
      cases h
      exact List.getElem?_set_self (by rw [x.len]; exact hl)
    · rw [List.getElem?_set_ne (Ne.symm hj)] at h ⊢
      exact x.raw j e h
  own := fun j io ob e h => by
    by_cases hj : j = i
    · subst hj
      have hl := (List.getElem?_eq_some_iff.mp h).1
      rw [List.length_set] at hl
      rw [List.getElem?_set_self hl] at h
      cases h
    · rw [List.getElem?_set_ne (Ne.symm hj)] at h ⊢
      exact x.own j io ob e h
  sep := fun j k io ob e io' ob' e' a a' fp fp' hjk h h' g g' o o' => by
    have nj : j ≠ i := fun z => by
      subst z
      have hl := (List.getElem?_eq_some_iff.mp h).1
      rw [List.length_set] at hl
      rw [List.getElem?_set_self hl] at h
      cases h
    have nk : k ≠ i := fun z => by
      subst z
      have hl := (List.getElem?_eq_some_iff.mp h').1
      rw [List.length_set] at hl
      rw [List.getElem?_set_self hl] at h'
      cases h'
    rw [List.getElem?_set_ne (Ne.symm nj)] at h g
    rw [List.getElem?_set_ne (Ne.symm nk)] at h' g'
    exact x.sep j k io ob e io' ob' e' a a' fp fp' hjk h h' g g' o o'
  frm := x.frm
/-- a slot gets something of its own -/
theorem StR.setOwn (x : StR E G H σ ρ) {i : Nat} {a : Addr} {ob io : Bool} {d : PyData} {fp : List Addr} (o : OwnS E H ob a d fp) (n : ∀ b ∈ fp, b ∈ G.S ∨ G.H0 b = none) (hp : io = true → (i, a) ∈ G.pins)
    (ap : ∀ (j : Nat) io' ob' d' a' fp', j ≠ i → ρ[j]? = some (.own io' ob' d') → σ[j]? = some (some (.ref a')) → OwnS E H ob' a' d' fp' → ∀ b ∈ fp', b ∉ fp) :
    StR E G H (σ.set i (some (.ref a))) (ρ.set i (.own io ob d)) where
  len := by simp [x.len]
  val := fun j e h => by
    by_cases hj : j = i
    · subst hj
      have hl := (List.getElem?_eq_some_iff.mp h).1
      rw [List.length_set] at hl
      rw [List.getElem?_set_self hl] at h
      cases h
    · rw [List.getElem?_set_ne (Ne.symm hj)] at h ⊢
      exact x.val j e h
  raw := fun j e h => by
    by_cases hj : j = i
    · subst hj
      have hl := (List.getElem?_eq_some_iff.mp h).1
      rw [List.length_set] at hl
      rw [List.getElem?_set_self hl] at h
      cases h
    · rw [List.getElem?_set_ne (Ne.symm hj)] at h ⊢
      exact x.raw j e h
  own := fun j io' ob' e h => by
    by_cases hj : j = i
    · subst hj
      have hl := (List.getElem?_eq_some_iff.mp h).1
      rw [List.length_set] at hl
      rw [List.getElem?_set_self hl] at h
      cases h
      exact ⟨a, fp, List.getElem?_set_self (by rw [x.len]; exact hl), o, n, hp⟩
    · rw [List.getElem?_set_ne (Ne.symm hj)] at h ⊢
      exact x.own j io' ob' e h
  sep := fun j k io1 ob1 e io' ob' e' a1 a' fp1 fp' hjk h h' g g' o1 o' => by
    have hl1 := (List.getElem?_eq_some_iff.mp h).1
    have hl2 := (List.getElem?_eq_some_iff.mp h').1
    rw [List.length_set] at hl1 hl2
    by_cases hj : j = i
    · subst hj
      rw [List.getElem?_set_self hl1] at h
      rw [List.getElem?_set_self (by rw [x.len]; exact hl1)] at g
      cases h; cases g
      rw [List.getElem?_set_ne hjk] at h' g'
      rw [o1.uniq o]
      intro b hb hb'
      exact ap k io' ob' e' a' fp' (Ne.symm hjk) h' g' o' b hb' hb
    · rw [List.getElem?_set_ne (Ne.symm hj)] at h g
      by_cases hk : k = i
      · subst hk
        rw [List.getElem?_set_self hl2] at h'
        rw [List.getElem?_set_self (by rw [x.len]; exact hl2)] at g'
        cases h'; cases g'
        rw [o'.uniq o]
        exact ap j io1 ob1 e a1 fp1 hj h g o1
      · rw [List.getElem?_set_ne (Ne.symm hk)] at h' g'
        exact x.sep j k io1 ob1 e io' ob' e' a1 a' fp1 fp' hjk h h' g g' o1 o'
  frm := x.frm
/-- a new thing of its own -/
theorem StR.setNew (x : StR E G H σ ρ) (s : Same H H') {i : Nat} {a : Addr} {d : PyData} (o : OwnR E H' a d) (n : H a = none) : StR E G H' (σ.set i (some (.ref a))) (ρ.set i (.own false false d)) := by
  refine (x.same s).setOwn (.plain o) (fun b hb => ?_) (fun z => nomatch z) fun j io' ob' d' a' fp' _ h h' o' b hb hb' => ?_
  · simp at hb
    subst hb
    cases e : G.H0 b with
    | none => exact .inr rfl
    | some u =>
      by_cases hS : b ∈ G.S
      · exact .inl hS
      · have := x.frm b u e hS
        rw [n] at this; cases this
  · simp at hb'
    subst hb'
    obtain ⟨a2, fp2, h1, h2, _⟩ := x.own j io' ob' d' h
    rw [h'] at h1; cases h1
    have z := h2.keep (.of_same s) fun c _ o' e => s c o' e
    rw [o'.uniq z] at hb
    obtain ⟨_, u, hu⟩ := h2.mut b hb
    rw [n] at hu; cases hu
/-- what a slot's own thing is changed to -/
theorem StR.write (x : StR E G H σ ρ) {i : Nat} {io ob : Bool} {d d' : PyData} {a b : Addr} {fp fp' : List Addr} (hi : ρ[i]? = some (.own io ob d)) (ha : σ[i]? = some (some (.ref a))) (o : OwnS E H ob a d fp) (hb : b ∈ fp)
    (p : Pers H H') (k : ∀ c u, c ≠ b → H c = some u → H' c = some u) (o' : OwnS E H' ob a d' fp) : StR E G H' σ (ρ.set i (.own io ob d')) := by
  obtain ⟨a1, fp1, h1, h2, h3, h4⟩ := x.own i io ob d hi
  rw [ha] at h1; cases h1
  have e1 := o.uniq h2
  subst e1
  have hl := (List.getElem?_eq_some_iff.mp hi).1
  have other : ∀ (j : Nat) io' ob' e a' fp', j ≠ i → ρ[j]? = some (.own io' ob' e) → σ[j]? = some (some (.ref a')) → OwnS E H ob' a' e fp' → ∀ c ∈ fp', c ≠ b := fun j io' ob' e a' fp' hj h h' o2 c hc z => by
    subst z
    exact x.sep i j io ob d io' ob' e a a' fp fp' (Ne.symm hj) hi h ha h' o o2 c hb hc
  refine ⟨by simp [x.len], fun j e h => ?_, fun j e h => ?_, fun j io1 ob1 e h => ?_, fun j l io1 ob1 e1 io2 ob2 e2 a1 a2 fp1 fp2 hjl h h' g g' o1 o2 => ?_, fun c u hc hn => ?_⟩
  · by_cases hj : j = i
    · subst hj; rw [List.getElem?_set_self hl] at h; cases h
    · rw [List.getElem?_set_ne (Ne.symm hj)] at h
      obtain ⟨v, q1, q2⟩ := x.val j e h
      exact ⟨v, q1, q2.pers p⟩
  · by_cases hj : j = i
    · subst hj; rw [List.getElem?_set_self hl] at h; cases h
    · rw [List.getElem?_set_ne (Ne.symm hj)] at h
      exact x.raw j e h
  · by_cases hj : j = i
    · subst hj; rw [List.getElem?_set_self hl] at h; cases h
      exact ⟨a, fp, ha, o', h3, h4⟩
    · rw [List.getElem?_set_ne (Ne.symm hj)] at h
      obtain ⟨a2, fp2, q1, q2, q3, q4⟩ := x.own j io1 ob1 e h
      exact ⟨a2, fp2, q1, q2.keep p fun c hc u hu => k c u (other j io1 ob1 e a2 fp2 hj h q1 q2 c hc) hu, q3, q4⟩
  · have back : ∀ (j : Nat) io1 ob1 e1 a1 fp1, (ρ.set i (.own io ob d'))[j]? = some (.own io1 ob1 e1) → σ[j]? = some (some (.ref a1)) → OwnS E H' ob1 a1 e1 fp1 → ∃ e0, ρ[j]? = some (.own io1 ob1 e0) ∧ OwnS E H ob1 a1 e0 fp1 := fun j io1 ob1 e1 a1 fp1 h g o1 => by
      by_cases hj : j = i
      · subst hj; rw [List.getElem?_set_self hl] at h; cases h
        rw [ha] at g; cases g
        have e3 := o1.uniq o'
        subst e3
        exact ⟨d, hi, o⟩
      · rw [List.getElem?_set_ne (Ne.symm hj)] at h
        obtain ⟨a2, fp2, q1, q2, q3, q4⟩ := x.own j io1 ob1 e1 h
        rw [g] at q1; cases q1
        have z := q2.keep p fun c hc u hu => k c u (other j io1 ob1 e1 a1 fp2 hj h g q2 c hc) hu
        have e3 := o1.uniq z
        subst e3
        exact ⟨e1, h, q2⟩
    obtain ⟨e3, h3, o3⟩ := back j io1 ob1 e1 a1 fp1 h g o1
    obtain ⟨e4, h4, o4⟩ := back l io2 ob2 e2 a2 fp2 h' g' o2
    exact x.sep j l io1 ob1 e3 io2 ob2 e4 a1 a2 fp1 fp2 hjl h3 h4 g g' o3 o4
  · have z := x.frm c u hc hn
    refine k c u (fun q => ?_) z
    subst q
    rcases h3 c hb with r | r
    · exact hn r
    · rw [hc] at r; cases r
/-- for temporaries: all that stands now is kept -/
theorem StR.rebase (x : StR E G H σ ρ) : ∃ S', StR E ⟨H, S', G.pins⟩ H σ ρ ∧ (∀ b ∈ S', ∃ (i : Nat) (io ob : Bool) (d : PyData) (a : Addr) (fp : List Addr), ρ[i]? = some (.own io ob d) ∧ σ[i]? = some (some (.ref a)) ∧ OwnS E H ob a d fp ∧ b ∈ fp) ∧
    (∀ b ∈ S', Mut (H b)) ∧ ∀ H' σ' ρ', StR E ⟨H, S', G.pins⟩ H' σ' ρ' → StR E G H' σ' ρ' := by
  -- the addresses of all that is ours
  have ex : ∃ S' : List Addr, ∀ b, b ∈ S' ↔ ∃ (i : Nat) (io ob : Bool) (d : PyData) (a : Addr) (fp : List Addr), i < ρ.length ∧ ρ[i]? = some (.own io ob d) ∧ σ[i]? = some (some (.ref a)) ∧ OwnS E H ob a d fp ∧ b ∈ fp := by
    have step : ∀ n : Nat, ∃ S' : List Addr, ∀ b, b ∈ S' ↔ ∃ (i : Nat) (io ob : Bool) (d : PyData) (a : Addr) (fp : List Addr), i < n ∧ ρ[i]? = some (.own io ob d) ∧ σ[i]? = some (some (.ref a)) ∧ OwnS E H ob a d fp ∧ b ∈ fp := by
      intro n
      induction n with
      | zero => exact ⟨[], fun b => ⟨fun z => (by cases z), fun ⟨i, _, _, _, _, _, h, _⟩ => absurd h (Nat.not_lt_zero _)⟩⟩
      | succ n ih =>
        obtain ⟨S, hS⟩ := ih
        by_cases hn : ∃ (io ob : Bool) (d : PyData) (a : Addr) (fp : List Addr), ρ[n]? = some (.own io ob d) ∧ σ[n]? = some (some (.ref a)) ∧ OwnS E H ob a d fp
        · obtain ⟨io, ob, d, a, fp, h1, h2, h3⟩ := hn
          refine ⟨fp ++ S, fun b => ⟨fun hb => ?_, fun ⟨i, io', ob', d', a', fp', hi, g1, g2, g3, g4⟩ => ?_⟩⟩
          · rcases List.mem_append.mp hb with hb | hb
            · exact ⟨n, io, ob, d, a, fp, Nat.lt_succ_self _, h1, h2, h3, hb⟩
            · obtain ⟨i, io', ob', d', a', fp', hi, r⟩ := (hS b).mp hb
              exact ⟨i, io', ob', d', a', fp', Nat.lt_succ_of_lt hi, r⟩
          · by_cases e : i = n
            · subst e
              rw [h1] at g1; cases g1
              rw [h2] at g2; cases g2
              rw [g3.uniq h3] at g4
              exact List.mem_append_left _ g4
            · exact List.mem_append_right _ ((hS b).mpr ⟨i, io', ob', d', a', fp', by omega, g1, g2, g3, g4⟩)
        · refine ⟨S, fun b => ⟨fun hb => ?_, fun ⟨i, io', ob', d', a', fp', hi, g1, g2, g3, g4⟩ => ?_⟩⟩
          · obtain ⟨i, io', ob', d', a', fp', hi, r⟩ := (hS b).mp hb
            exact ⟨i, io', ob', d', a', fp', Nat.lt_succ_of_lt hi, r⟩
          · by_cases e : i = n
            · subst e
              exact absurd ⟨io', ob', d', a', fp', g1, g2, g3⟩ hn
            · exact (hS b).mpr ⟨i, io', ob', d', a', fp', by omega, g1, g2, g3, g4⟩
    exact step _
  obtain ⟨S', hS⟩ := ex
  have inG : ∀ b ∈ S', b ∈ G.S ∨ G.H0 b = none := fun b hb => by
    obtain ⟨i, io, ob, d, a, fp, _, h1, h2, h3, h4⟩ := (hS b).mp hb
    obtain ⟨a2, fp2, q1, q2, q3, _⟩ := x.own i io ob d h1
    rw [h2] at q1; cases q1
    rw [h3.uniq q2] at h4
    exact q3 b h4
  refine ⟨S', ⟨x.len, x.val, x.raw, fun i io ob d h => ?_, x.sep, fun b o h _ => h⟩, fun b hb => ?_, fun b hb => ?_, fun H' σ' ρ' y => ⟨y.len, y.val, y.raw, fun i io ob d h => ?_, y.sep, fun b o h n => ?_⟩⟩
  · obtain ⟨a, fp, q1, q2, q3, q4⟩ := x.own i io ob d h
    exact ⟨a, fp, q1, q2, fun b hb => .inl ((hS b).mpr ⟨i, io, ob, d, a, fp, (List.getElem?_eq_some_iff.mp h).1, h, q1, q2, hb⟩), q4⟩
  · obtain ⟨i, io, ob, d, a, fp, _, r⟩ := (hS b).mp hb
    exact ⟨i, io, ob, d, a, fp, r⟩
  · obtain ⟨i, io, ob, d, a, fp, _, _, _, h3, h4⟩ := (hS b).mp hb
    exact (h3.mut b h4).1
  · obtain ⟨a, fp, q1, q2, q3, q4⟩ := y.own i io ob d h
    refine ⟨a, fp, q1, q2, fun b hb => ?_, q4⟩
    rcases q3 b hb with z | z
    · exact inG b z
    · cases e : G.H0 b with
      | none => exact .inr rfl
      | some u =>
        by_cases hS : b ∈ G.S
        · exact .inl hS
        · have := x.frm b u e hS
          have z : H b = none := z
          rw [z] at this; cases this
  · refine y.frm b o (x.frm b o h n) fun hb => ?_
    rcases inG b hb with z | z
    · exact n z
    · rw [h] at z; cases z
end
end L2.Pu

/-! The pure layer, 2: judgements; names, constants, operations. -/
namespace L2.Pu
open PySem PySem.Spec PyProof.Rows

abbrev evO (O : Addr × Str) (X : Cx) : Ev := ⟨X.prog, X.w, X.K, O.1, O.2⟩

inductive Opd
  | d (x : PyData)
  | sl (i : Nat)
  | fl (i : Nat)
def OpdR (E : Ev) (H : Hp) (σ : St) (v : V) : Opd → Prop
  | .d x => Rep E H v x
  | .sl i => σ[i]? = some (some v)
  | .fl i => ∃ a dx b, σ[i]? = some (some (.ref a)) ∧ H a = some (.ins E.C dx [(E.fld, .ref b)]) ∧ v = .ref b
def slD : Option Sl → Option PyData
  | some (.val d) => some d
  | some (.own _ false d) => some d
  | _ => none
def rsv (ρ : Pu.Env) : Opd → Option PyData
  | .d x => some x
  | .sl i => slD ρ[i]?
  | .fl i => match ρ[i]? with
    | some (.own _ true d) => some d
    | _ => none
theorem Rep.uniqV {E : Ev} {H : Hp} {v v' : V} {σ : St} {i : Nat} (h : σ[i]? = some (some v)) (h' : σ[i]? = some (some v')) : v = v' := by
  rw [h] at h'; cases h'; rfl
section
variable {E : Ev} {G : Gd} {H H' : Hp} {σ σ' : St} {ρ ρ' : Pu.Env} {v : V} {o : Opd} {d : PyData}
theorem OpdR.pers (p : Pers H H') (h : OpdR E H σ v o) : OpdR E H' σ v o := by
  cases o with
  | d x => exact Rep.pers p h
  | sl i => exact h
  | fl i => obtain ⟨a, dx, b, h1, h2, h3⟩ := h; exact ⟨a, dx, b, h1, p.ins _ _ _ _ _ h2, h3⟩
theorem rsv_ok (x : StR E G H σ ρ) (h : OpdR E H σ v o) (e : rsv ρ o = some d) : RepO E H v d := by
  cases o with
  | d y => cases e; exact .inl h
  | sl i =>
    have h : σ[i]? = some (some v) := h
    have e : slD ρ[i]? = some d := e
    unfold slD at e
    split at e
    · rename_i d' hq
      cases e
      obtain ⟨w, h1, h2⟩ := x.val i _ hq
      rw [h] at h1; cases h1
      exact .inl h2
    · rename_i io d' hq
      cases e
      obtain ⟨a, fp, h1, h2, _⟩ := x.own i _ _ _ hq
      rw [h] at h1; cases h1
      cases h2 with
      | plain h2 => exact .inr ⟨a, rfl, h2⟩
    · cases e
  | fl i =>
    obtain ⟨a, dx, b, g1, g2, g3⟩ := h
    have e : (match ρ[i]? with
      | some (.own _ true d) => some d
      | _ => none) = some d := e
    split at e
    · rename_i io d' hq
      cases e
      obtain ⟨a', fp, h1, h2, _⟩ := x.own i _ _ _ hq
      rw [g1] at h1; cases h1
      cases h2 with
      | obj h2 h3 =>
        rw [g2] at h2; cases h2
        exact .inr ⟨b, g3, h3⟩
    · cases e
theorem RepO.pers_same (s : Same H H') (h : RepO E H v d) : RepO E H' v d := by
  rcases h with h | ⟨a, rfl, h⟩
  · exact .inl (h.pers (.of_same s))
  · exact .inr ⟨a, rfl, h.keep (.of_same s) fun o e => s a o e⟩
end

/-! ### readings -/
abbrev FE := Pu.Env → Option (PyData × Pu.Env)
abbrev FO := Pu.Env → Option (Opd × Pu.Env)
abbrev FA := Pu.Env → Option (List Opd × Pu.Env)
abbrev FB := Pu.Env → Option (Bool × Pu.Env)
def tv (E : Ev) (f : FE) : TE := fun σ H Q => ∃ G ρ, StR E G H σ ρ ∧ ∃ d ρ', f ρ = some (d, ρ') ∧ ∀ v H', StR E G H' σ ρ' → Pers H H' → Rep E H' v d → Q v H'
def tn (E : Ev) (f : FE) : TE := fun σ H Q => ∃ G ρ, StR E G H σ ρ ∧ ∃ d ρ', f ρ = some (d, ρ') ∧ ∀ a H1 H', StR E G H1 σ ρ' → Pers H H1 → Same H1 H' → H1 a = none → OwnR E H' a d → Q (.ref a) H'
def to (E : Ev) (f : FO) : TE := fun σ H Q => ∃ G ρ, StR E G H σ ρ ∧ ∃ d ρ', f ρ = some (d, ρ') ∧ ∀ v H', StR E G H' σ ρ' → Pers H H' → OpdR E H' σ v d → Q v H'
inductive OpdsR (E : Ev) (H : Hp) (σ : St) : List V → List Opd → Prop
  | nil : OpdsR E H σ [] []
  | cons {v : V} {vs : List V} {o : Opd} {os : List Opd} : OpdR E H σ v o → OpdsR E H σ vs os → OpdsR E H σ (v :: vs) (o :: os)
theorem OpdsR.pers {E : Ev} {H H' : Hp} {σ : St} (p : Pers H H') : ∀ {vs : List V} {os : List Opd}, OpdsR E H σ vs os → OpdsR E H' σ vs os
  | _, _, .nil => .nil
  | _, _, .cons h t => .cons (h.pers p) (t.pers p)
def ta (E : Ev) (f : FA) : TA := fun σ H Q => ∃ G ρ, StR E G H σ ρ ∧ ∃ d ρ', f ρ = some (d, ρ') ∧ ∀ vs H', StR E G H' σ ρ' → Pers H H' → OpdsR E H' σ vs d → Q vs H'
def tt (E : Ev) (f : FB) : TT := fun σ H Q => ∃ G ρ, StR E G H σ ρ ∧ ∃ d ρ', f ρ = some (d, ρ') ∧ ∀ H', StR E G H' σ ρ' → Pers H H' → Q d H'
/-- a value -/
def PEv (O : Addr × Str) (X : Cx) (e : Expr) (f : FE) : Prop := PE X e (tv (evO O X) f)
/-- a new list or dict, nobody else's -/
def PEn (O : Addr × Str) (X : Cx) (e : Expr) (f : FE) : Prop := PE X e (tn (evO O X) f)
/-- an operand -/
def PEo (O : Addr × Str) (X : Cx) (e : Expr) (f : FO) : Prop := PE X e (to (evO O X) f)
def PAo (O : Addr × Str) (X : Cx) (es : List Expr) (f : FA) : Prop := PA X es (ta (evO O X) f)
def PTb (O : Addr × Str) (X : Cx) (e : Expr) (f : FB) : Prop := PT X e (tt (evO O X) f)
theorem PE_imp {X : Cx} {e : Expr} {t t' : TE} (h : PE X e t) (k : ∀ σ H Q, t' σ H Q → t σ H Q) : PE X e t' := ⟨fun pins s σ H Q I q => h.run pins s σ H Q I (k σ H Q q)⟩
theorem PA_imp {X : Cx} {e : List Expr} {t t' : TA} (h : PA X e t) (k : ∀ σ H Q, t' σ H Q → t σ H Q) : PA X e t' := ⟨fun pos pins s σ H Q I q => h.run pos pins s σ H Q I (k σ H Q q)⟩
theorem PT_imp {X : Cx} {e : Expr} {t t' : TT} (h : PT X e t) (k : ∀ σ H Q, t' σ H Q → t σ H Q) : PT X e t' := ⟨fun pins s σ H Q I q => h.run pins s σ H Q I (k σ H Q q)⟩
theorem PS_imp {X : Cx} {e : Stmt} {t t' : TS} (h : PS X e t) (k : ∀ D σ H, t' D σ H → t D σ H) : PS X e t' := ⟨fun pins s σ H D I q => h.run pins s σ H D I (k D σ H q)⟩
theorem PSs_imp {X : Cx} {e : List Stmt} {t t' : TS} (h : PSs X e t) (k : ∀ D σ H, t' D σ H → t D σ H) : PSs X e t' := ⟨fun pins s σ H D I q => h.run pins s σ H D I (k D σ H q)⟩

/-! ### freezing -/
theorem freeze_at {O : Addr × Str} {X : Cx} {pins : List (Addr × Obj)} {σ : St} {H : Hp} {s : Shared} {a : Addr} {d : PyData} (I : Inv X pins σ H s) (o : OwnR (evO O X) H a d) :
    ∃ H', Inv X pins σ H' s ∧ Rep (evO O X) H' (.ref a) d ∧ Pers H H' ∧ ∀ b, b ≠ a → H' b = H b := by
  obtain ⟨mu, u, hu⟩ := o.ex
  have mu' : Mut (some u) := by rw [← hu]; exact mu
  obtain ⟨od, I'⟩ := I.lock hu mu'
  have off : ∀ b, b ≠ a → upd H a (.frz od u) b = H b := fun b hb => upd_ne hb
  have p : Pers H (upd H a (.frz od u)) := .off o.free off
  refine ⟨_, I', ?_, p, off⟩
  cases o with
  | lst h t => rw [hu] at h; cases h; exact .lst ⟨od, upd_same⟩ (t.pers p)
  | dK h t => rw [hu] at h; cases h; exact .dK upd_same (t.pers p)
  | dX h t => rw [hu] at h; cases h; exact .dX upd_same (t.pers p)
section
variable {E : Ev} {G : Gd} {H H' : Hp} {σ σ' : St} {ρ ρ' : Pu.Env} {v : V} {o : Opd} {d : PyData}
/-- a slot is forgotten -/
theorem StR.drop (x : StR E G H σ ρ) (i : Nat) : StR E G H σ (ρ.set i .un) where
  len := by simp [x.len]
  val := fun j e h => by
    by_cases hj : j = i
    · subst hj
      have hl := (List.getElem?_eq_some_iff.mp h).1
      rw [List.length_set] at hl
      rw [List.getElem?_set_self hl] at h
      cases h
    · rw [List.getElem?_set_ne (Ne.symm hj)] at h
      exact x.val j e h
  raw := fun j e h => by
    by_cases hj : j = i
    · subst hj
      have hl := (List.getElem?_eq_some_iff.mp h).1
      rw [List.length_set] at hl
      rw [List.getElem?_set_self hl] at h
      cases h
    · rw [List.getElem?_set_ne (Ne.symm hj)] at h
      exact x.raw j e h
  own := fun j io ob e h => by
    by_cases hj : j = i
    · subst hj
      have hl := (List.getElem?_eq_some_iff.mp h).1
      rw [List.length_set] at hl
      rw [List.getElem?_set_self hl] at h
      cases h
    · rw [List.getElem?_set_ne (Ne.symm hj)] at h
      exact x.own j io ob e h
  sep := fun j k io ob e io' ob' e' a a' fp fp' hjk h h' g g' o o' => by
    have nj : j ≠ i := fun z => by
      subst z
      have hl := (List.getElem?_eq_some_iff.mp h).1
      rw [List.length_set] at hl
      rw [List.getElem?_set_self hl] at h
      cases h
    have nk : k ≠ i := fun z => by
      subst z
      have hl := (List.getElem?_eq_some_iff.mp h').1
      rw [List.length_set] at hl
      rw [List.getElem?_set_self hl] at h'
      cases h'
    rw [List.getElem?_set_ne (Ne.symm nj)] at h
    rw [List.getElem?_set_ne (Ne.symm nk)] at h'
    exact x.sep j k io ob e io' ob' e' a a' fp fp' hjk h h' g g' o o'
  frm := x.frm
/-- the thing of slot i is locked for ever -/
theorem StR.freeze (x : StR E G H σ ρ) {i : Nat} {io : Bool} {a : Addr} (hi : ρ[i]? = some (.own io false d)) (ha : σ[i]? = some (some (.ref a))) (r : Rep E H' (.ref a) d) (p : Pers H H') (off : ∀ b, b ≠ a → H' b = H b) :
    StR E G H' σ (ρ.set i (.val d)) := by
  obtain ⟨a1, fp1, h1, h2, h3, h4⟩ := x.own i io false d hi
  rw [ha] at h1; cases h1
  obtain ⟨-, u, hu⟩ := h2.mut a h2.head
  have hl := (List.getElem?_eq_some_iff.mp hi).1
  have y : StR E G H' σ (ρ.set i .un) := by
    refine (x.drop i).keep p (fun j io' ob' e a' fp' hj hs o b hb u' hu' => ?_) fun b o hb hn hq => ?_
    · have nj : j ≠ i := fun z => by
        subst z
        rw [List.getElem?_set_self hl] at hj
        cases hj
      rw [List.getElem?_set_ne (Ne.symm nj)] at hj
      have : b ≠ a := fun z => by
        subst z
        exact x.sep j i io' ob' e io false d a' b fp' fp1 nj hj hi hs ha o h2 b hb h2.head
      rw [off b this]; exact hu'
    · have : b ≠ a := fun z => by
        subst z
        rcases h3 b h2.head with w | w
        · exact hn w
        · rw [hb] at w; cases w
      rw [off b this]; exact hq
  have z := y.setVal (i := i) r
  rw [List.set_set] at z
  have e : σ.set i (some (.ref a)) = σ := by
    refine List.ext_getElem? fun j => ?_
    by_cases hj : j = i
    · subst hj
      rw [List.getElem?_set_self (by rw [x.len]; exact hl), ha]
    · rw [List.getElem?_set_ne (Ne.symm hj)]
  rw [e] at z
  exact z
end

/-! ### names, constants -/
section
variable {O : Addr × Str} {X : Cx}
def vE (i : Nat) : FE := fun ρ => match ρ[i]? with
  | some (.val d) => some (d, ρ)
  | some (.own false false d) => some (d, ρ.set i (.val d))
  | _ => none
theorem pv_var {i : Nat} {x : Str} {pos : Pos} (h : PE X (.Name x pos) (tVar i)) : PEv O X (.Name x pos) (vE i) := by
  refine ⟨fun pins s σ H Q I q => ?_⟩
  obtain ⟨G, ρ, st, d, ρ', e, q⟩ := q
  unfold vE at e
  split at e
  · rename_i d' hq
    cases e
    obtain ⟨v, h1, h2⟩ := st.val i _ hq
    exact h.run pins s σ H Q I ⟨v, h1, q v H st (.refl H) h2⟩
  · rename_i d' hq
    cases e
    obtain ⟨a, fp, h1, h2, _⟩ := st.own i _ _ _ hq
    cases h2 with
    | plain h2 =>
      obtain ⟨H', I', r, p, off⟩ := freeze_at I h2
      exact h.run pins s σ H' Q I' ⟨.ref a, h1, q (.ref a) H' (st.freeze hq h1 r p off) p r⟩
  · cases e
def slE (i : Nat) : FO := fun ρ => match ρ[i]? with
  | some (.val _) => some (.sl i, ρ)
  | some (.own _ _ _) => some (.sl i, ρ)
  | _ => none
theorem po_var {i : Nat} {x : Str} {pos : Pos} (h : PE X (.Name x pos) (tVar i)) : PEo O X (.Name x pos) (slE i) := by
  refine ⟨fun pins s σ H Q I q => ?_⟩
  obtain ⟨G, ρ, st, d, ρ', e, q⟩ := q
  unfold slE at e
  split at e
  · rename_i d' hq
    cases e
    obtain ⟨v, h1, h2⟩ := st.val i _ hq
    exact h.run pins s σ H Q I ⟨v, h1, q v H st (.refl H) h1⟩
  · rename_i io ob d' hq
    cases e
    obtain ⟨a, fp, h1, h2, _⟩ := st.own i _ _ _ hq
    exact h.run pins s σ H Q I ⟨_, h1, q _ H st (.refl H) h1⟩
  · cases e
def valE (f : FE) : FO := fun ρ => match f ρ with
  | some (d, ρ') => some (.d d, ρ')
  | none => none
theorem po_val {e : Expr} {f : FE} (h : PEv O X e f) : PEo O X e (valE f) := by
  refine PE_imp h fun σ H Q q => ?_
  obtain ⟨G, ρ, st, d, ρ', e, q⟩ := q
  unfold valE at e
  split at e
  · rename_i d' ρ2 hq
    cases e
    exact ⟨G, ρ, st, d', ρ', hq, fun v H' a b c => q v H' a b c⟩
  · cases e
def cE (d : PyData) : FE := fun ρ => some (d, ρ)
theorem pv_const {e : Expr} {v : V} {d : PyData} (h : PE X e (tC v)) (r : ∀ H, Rep (evO O X) H v d) : PEv O X e (cE d) := by
  refine PE_imp h fun σ H Q q => ?_
  obtain ⟨G, ρ, st, d, ρ', e, q⟩ := q
  cases e
  exact q v H st (.refl H) (r H)
theorem pv_int {i j pos} : PEv O X (.Constant (.int i) j pos) (cE (.int i)) := pv_const pe_int fun _ => .int i
theorem pv_bl {i j pos} : PEv O X (.Constant (.bool i) j pos) (cE (.bool i)) := pv_const pe_bl fun _ => .bl i
theorem pv_str {i j pos} : PEv O X (.Constant (.str i) j pos) (cE (.str i)) := pv_const pe_str fun _ => .str i
theorem pv_non {j pos} : PEv O X (.Constant .none j pos) (cE .none) := pv_const pe_non fun _ => .non
/-- a new thing as a value -/
theorem pv_new {e : Expr} {f : FE} (h : PEn O X e f) : PEv O X e f := by
  refine ⟨fun pins s σ H Q I q => ?_⟩
  obtain ⟨G, ρ, st, d, ρ', e, q⟩ := q
  refine thn (h.run pins s σ H (fun v H' => ∃ a H1, v = .ref a ∧ StR (evO O X) G H1 σ ρ' ∧ Pers H H1 ∧ Same H1 H' ∧ H1 a = none ∧ OwnR (evO O X) H' a d) I ⟨G, ρ, st, d, ρ', e, fun a H1 H' x1 x2 x3 x4 x5 => ⟨a, H1, rfl, x1, x2, x3, x4, x5⟩⟩) fun u s' ⟨v, H', I', rv, a, H1, ev, x1, x2, x3, x4, x5⟩ => ?_
  subst ev
  obtain ⟨H2, I2, r, p, off⟩ := freeze_at I' x5
  have s2 : Same H1 H2 := fun b o hb => by
    rw [off b (fun z => by subst z; rw [x4] at hb; cases hb)]
    exact x3 b o hb
  exact ⟨.ref a, H2, I2, rv, q _ _ (x1.same s2) (x2.trans (.of_same s2)) r⟩
end

/-! ### operations on values -/
/-- what a one- or two-place operation answers -/
def Ans (O : Addr × Str) (X : Cx) (pins : List (Addr × Obj)) (σ : St) (H : Hp) (z : PyData) (w : Value) (s' : Shared) : Prop :=
  ∃ x' H', Inv X pins σ H' s' ∧ RelV x' w ∧ Rep (evO O X) H' x' z ∧ Same H H'
def AnsN (O : Addr × Str) (X : Cx) (pins : List (Addr × Obj)) (σ : St) (H : Hp) (z : PyData) (w : Value) (s' : Shared) : Prop :=
  ∃ a H', Inv X pins σ H' s' ∧ w = .ref a ∧ H a = none ∧ OwnR (evO O X) H' a z ∧ Same H H'
theorem AnsN.ans {O : Addr × Str} {X : Cx} {pins : List (Addr × Obj)} {σ : St} {H : Hp} {z : PyData} {w : Value} {s' : Shared} (h : AnsN O X pins σ H z w s') : Ans O X pins σ H z w s' := by
  obtain ⟨a, H', I, rfl, n, o, s⟩ := h
  obtain ⟨H2, I2, r, p, off⟩ := freeze_at I o
  exact ⟨.ref a, H2, I2, rfl, r, fun b o hb => by rw [off b (fun z => by subst z; rw [n] at hb; cases hb)]; exact s b o hb⟩
def OpD (O : Addr × Str) (X : Cx) (f : Value → Value → Sem Value) (r : PyData → PyData → Option PyData) : Prop :=
  ∀ (pins : List (Addr × Obj)) (s : Shared) (σ : St) (H : Hp) (x y : V) (v u : Value) (d e z : PyData), Inv X pins σ H s → RelV x v → RelV y u → RepO (evO O X) H x d → RepO (evO O X) H y e → r d e = some z →
    wpAny (model X.prog X.w) X.A (f v u) (Ans O X pins σ H z) X.xe s
def OpN (O : Addr × Str) (X : Cx) (f : Value → Value → Sem Value) (r : PyData → PyData → Option PyData) : Prop :=
  ∀ (pins : List (Addr × Obj)) (s : Shared) (σ : St) (H : Hp) (x y : V) (v u : Value) (d e z : PyData), Inv X pins σ H s → RelV x v → RelV y u → RepO (evO O X) H x d → RepO (evO O X) H y e → r d e = some z →
    wpAny (model X.prog X.w) X.A (f v u) (AnsN O X pins σ H z) X.xe s
theorem OpN.d {O : Addr × Str} {X : Cx} {f : Value → Value → Sem Value} {r : PyData → PyData → Option PyData} (h : OpN O X f r) : OpD O X f r :=
  fun pins s σ H x y v u d e z I rx ry dx dy q => thn (h pins s σ H x y v u d e z I rx ry dx dy q) fun _ _ q => q.ans
theorem OpD.of {O : Addr × Str} {X : Cx} {f : Value → Value → Sem Value} {r : PyData → PyData → Option PyData} {R : R2} (h : OpR X f R)
    (k : ∀ H x y d e z, RepO (evO O X) H x d → RepO (evO O X) H y e → r d e = some z → R x y H fun x' H' => Rep (evO O X) H' x' z ∧ Same H H') : OpD O X f r :=
  fun pins s σ H x y v u d e z I rx ry dx dy q => thn (h pins s σ H x y v u _ I rx ry (k H x y d e z dx dy q)) fun w s' ⟨x', H', I', rw', r', s⟩ => ⟨x', H', I', rw', r', s⟩
theorem OpN.of {O : Addr × Str} {X : Cx} {f : Value → Value → Sem Value} {r : PyData → PyData → Option PyData} {R : R2} (h : OpR X f R)
    (k : ∀ H x y d e z, RepO (evO O X) H x d → RepO (evO O X) H y e → r d e = some z → R x y H fun x' H' => ∃ a, x' = .ref a ∧ H a = none ∧ OwnR (evO O X) H' a z ∧ Same H H') : OpN O X f r :=
  fun pins s σ H x y v u d e z I rx ry dx dy q => thn (h pins s σ H x y v u _ I rx ry (k H x y d e z dx dy q)) fun w s' ⟨x', H', I', rw', a, ea, n, o, s⟩ => by
    subst ea
    exact ⟨a, H', I', rw', n, o, s⟩
def OpD.or {O : Addr × Str} {X : Cx} {f : Value → Value → Sem Value} {r r' : PyData → PyData → Option PyData} (h : OpD O X f r) (h' : OpD O X f r') : OpD O X f fun d e => (r d e).or (r' d e) := by
  intro pins s σ H x y v u d e z I rx ry dx dy q
  dsimp only at q
  cases hr : r d e with
  | some z' =>
    rw [hr] at q
    cases q
    exact h pins s σ H x y v u d e _ I rx ry dx dy hr
  | none =>
    rw [hr] at q
    exact h' pins s σ H x y v u d e _ I rx ry dx dy q
/-- two operands and an operation -/
def binE (r : PyData → PyData → Option PyData) (fa fb : FO) : FE := fun ρ => match fa ρ with
  | some (o1, ρ1) => match fb ρ1 with
    | some (o2, ρ2) => match rsv ρ2 o1, rsv ρ2 o2 with
      | some d1, some d2 => match r d1 d2 with
        | some z => some (z, ρ2)
        | none => none
      | _, _ => none
    | none => none
  | none => none
section
variable {O : Addr × Str} {X : Cx} {a b : Expr} {fa fb : FO} {pos : Pos}
theorem bin_run {f : Value → Value → Sem Value} {r : PyData → PyData → Option PyData} (ho : OpD O X f r) {G : Gd} {ρ ρ' : Pu.Env} {z : PyData} {Q : VK} {σ : St} {H : Hp} (st : StR (evO O X) G H σ ρ) (e : binE r fa fb ρ = some (z, ρ'))
    (q : ∀ v H', StR (evO O X) G H' σ ρ' → Pers H H' → Rep (evO O X) H' v z → Q v H') :
    to (evO O X) fa σ H fun x H1 => to (evO O X) fb σ H1 fun y H2 => ∃ d1 d2, RepO (evO O X) H2 x d1 ∧ RepO (evO O X) H2 y d2 ∧ r d1 d2 = some z ∧ StR (evO O X) G H2 σ ρ' ∧ ∀ v H', Rep (evO O X) H' v z → Same H2 H' → Q v H' := by
  unfold binE at e
  split at e
  · rename_i o1 ρ1 h1
    split at e
    · rename_i o2 ρ2 h2
      split at e
      · rename_i d1 d2 h3 h4
        split at e
        · rename_i z' h5
          cases e
          refine ⟨G, ρ, st, o1, ρ1, h1, fun x H1 st1 p1 r1 => ⟨G, ρ1, st1, o2, ρ', h2, fun y H2 st2 p2 r2 => ?_⟩⟩
          exact ⟨d1, d2, rsv_ok st2 (r1.pers p2) h3, rsv_ok st2 r2 h4, h5, st2, fun v H' rv sm => q v H' (st2.same sm) ((p1.trans p2).trans (.of_same sm)) rv⟩
        · cases e
      · cases e
    · cases e
  · cases e
theorem pv_bin {op : Operator} {r : PyData → PyData → Option PyData} (ho : OpD O X (binaryOp op) r) (ha : PEo O X a fa) (hb : PEo O X b fb) : PEv O X (.BinOp a op b pos) (binE r fa fb) := by
  refine ⟨fun pins s σ H Q I h => ?_⟩
  obtain ⟨G, ρ, st, d, ρ', e, q⟩ := h
  refine wpAny_BinOp (binT ha hb I (bin_run ho st e q) fun v u s2 x y H2 I2 rx ry ⟨d1, d2, r1, r2, e', st2, k⟩ => ?_)
  exact thn (ho pins s2 σ H2 x y v u d1 d2 d I2 rx ry r1 r2 e') fun w s3 ⟨x', H', I3, rw', r3, sm⟩ => ⟨x', H', I3, rw', k x' H' r3 sm⟩
theorem pv_cmp {op : CmpOp} {r : PyData → PyData → Option PyData} (ho : OpD O X (compareOp op) r) (ha : PEo O X a fa) (hb : PEo O X b fb) (hm : behindInMarks op b = false) : PEv O X (.Compare a [op] [b] pos) (binE r fa fb) := by
  refine ⟨fun pins s σ H Q I h => ?_⟩
  obtain ⟨G, ρ, st, d, ρ', e, q⟩ := h
  refine wpAny_Compare1 (binT ha hb I (bin_run ho st e q) fun v u s2 x y H2 I2 rx ry ⟨d1, d2, r1, r2, e', st2, k⟩ => ?_) hm
  exact thn (ho pins s2 σ H2 x y v u d1 d2 d I2 rx ry r1 r2 e') fun w s3 ⟨x', H', I3, rw', r3, sm⟩ => ⟨x', H', I3, rw', k x' H' r3 sm⟩
/-- a value that is a bool -/
def asB (f : FE) : FB := fun ρ => match f ρ with
  | some (.bool b, ρ') => some (b, ρ')
  | _ => none
theorem pt_cmp' {op : CmpOp} {r : PyData → PyData → Option PyData} (ho : OpD O X (compareOp op) r) (ha : PEo O X a fa) (hb : PEo O X b fb) (hm : behindInMarks op b = false) : PTb O X (.Compare a [op] [b] pos) (asB (binE r fa fb)) := by
  refine ⟨fun pins s σ H Q I h => ?_⟩
  obtain ⟨G, ρ, st, d, ρ', e, q⟩ := h
  unfold asB at e
  split at e
  · rename_i b' ρ2 hq
    cases e
    have R := bin_run (Q := fun v H' => ∃ k, v = .bl k ∧ Q k H') ho st hq fun v H' st' p' rv => by
      cases rv
      exact ⟨_, rfl, q H' st' p'⟩
    refine wpAny_isTrue_Compare1 (thn (ha.run pins s σ H _ I R) fun v s1 ⟨x, H1, I1, r1, q1⟩ => thn (hb.run pins s1 σ H1 _ I1 q1) fun u s2 ⟨y, H2, I2, r2, q2⟩ => ?_) hm
    obtain ⟨d1, d2, k1, k2, e', st2, k⟩ := q2
    refine thn (ho pins s2 σ H2 x y v u d1 d2 _ I2 r1 r2 k1 k2 e') fun c s3 ⟨x', H', I3, rw', r3, sm⟩ => ?_
    obtain ⟨b, eb, qb⟩ := k x' H' r3 sm
    subst eb
    cases rw'
    exact wpAny_truthy_bool ⟨H', I3, qb⟩
  · cases e
theorem pt_val' {e : Expr} {f : FE} (h : PEv O X e f) (he : ∀ whole, isTrue e X.env whole = (do let v ← whole; standAt e.pos; holding [v] (truthy v)) := by intro _; rfl) : PTb O X e (asB f) := by
  refine PT_imp (pt_val h he) fun σ H Q q => ?_
  obtain ⟨G, ρ, st, d, ρ', e, q⟩ := q
  unfold asB at e
  split at e
  · rename_i b' ρ2 hq
    cases e
    refine ⟨G, ρ, st, _, ρ', hq, fun v H' a b c => ?_⟩
    cases c
    exact ⟨_, rfl, q H' a b⟩
  · cases e
/-! ### tests -/
def andB (f g : FB) : FB := fun ρ => match f ρ with
  | some (true, ρ1) => g ρ1
  | some (false, ρ1) => some (false, ρ1)
  | none => none
def orB (f g : FB) : FB := fun ρ => match f ρ with
  | some (true, ρ1) => some (true, ρ1)
  | some (false, ρ1) => g ρ1
  | none => none
def notB (f : FB) : FB := fun ρ => match f ρ with
  | some (b, ρ1) => some (!b, ρ1)
  | none => none
def PWb (O : Addr × Str) (X : Cx) (e : Expr) (f : FB) : Prop := PW X e (tt (evO O X) f)
theorem PW_imp {X : Cx} {e : Expr} {t t' : TT} (h : PW X e t) (k : ∀ σ H Q, t' σ H Q → t σ H Q) : PW X e t' := ⟨fun wh pins s σ H Q I q => h.run wh pins s σ H Q I (k σ H Q q)⟩
variable {rest : List Expr} {f g : FB}
theorem pt_of {e : Expr} (h : PWb O X e f) : PTb O X e f := PW.pt h
theorem pw_and1' (h : PTb O X a f) : PWb O X (.BoolOp .And [a] pos) f := pw_and1 h
theorem pw_or1' (h : PTb O X a f) : PWb O X (.BoolOp .Or [a] pos) f := pw_or1 h
theorem pw_and' (h : PTb O X a f) (h' : PWb O X (.BoolOp .And (b :: rest) pos) g) : PWb O X (.BoolOp .And (a :: b :: rest) pos) (andB f g) := by
  refine PW_imp (pw_and h h') fun σ H Q q => ?_
  obtain ⟨G, ρ, st, d, ρ', e, q⟩ := q
  unfold andB at e
  split at e
  · rename_i ρ1 h1
    exact ⟨G, ρ, st, true, ρ1, h1, fun H1 st1 p1 => iteT ⟨G, ρ1, st1, d, ρ', e, fun H2 st2 p2 => q H2 st2 (p1.trans p2)⟩⟩
  · rename_i ρ1 h1
    cases e
    exact ⟨G, ρ, st, false, ρ', h1, fun H1 st1 p1 => iteF (q H1 st1 p1)⟩
  · cases e
theorem pw_or' (h : PTb O X a f) (h' : PWb O X (.BoolOp .Or (b :: rest) pos) g) : PWb O X (.BoolOp .Or (a :: b :: rest) pos) (orB f g) := by
  refine PW_imp (pw_or h h') fun σ H Q q => ?_
  obtain ⟨G, ρ, st, d, ρ', e, q⟩ := q
  unfold orB at e
  split at e
  · rename_i ρ1 h1
    cases e
    exact ⟨G, ρ, st, true, ρ', h1, fun H1 st1 p1 => iteT (q H1 st1 p1)⟩
  · rename_i ρ1 h1
    exact ⟨G, ρ, st, false, ρ1, h1, fun H1 st1 p1 => iteF ⟨G, ρ1, st1, d, ρ', e, fun H2 st2 p2 => q H2 st2 (p1.trans p2)⟩⟩
  · cases e
theorem pt_not' (h : PTb O X a f) : PTb O X (.UnaryOp .Not a pos) (notB f) := by
  refine PT_imp (pt_not h) fun σ H Q q => ?_
  obtain ⟨G, ρ, st, d, ρ', e, q⟩ := q
  unfold notB at e
  split at e
  · rename_i b ρ1 h1
    cases e
    exact ⟨G, ρ, st, b, ρ', h1, q⟩
  · cases e
/-! ### and, or, not as values (bools) -/
def toV (f : FB) : FE := fun ρ => match f ρ with
  | some (b, ρ1) => some (.bool b, ρ1)
  | none => none
def andV (f g : FE) : FE := fun ρ => match f ρ with
  | some (.bool true, ρ1) => g ρ1
  | some (.bool false, ρ1) => some (.bool false, ρ1)
  | _ => none
def orV (f g : FE) : FE := fun ρ => match f ρ with
  | some (.bool true, ρ1) => some (.bool true, ρ1)
  | some (.bool false, ρ1) => g ρ1
  | _ => none
def notV (f : FE) : FE := fun ρ => match f ρ with
  | some (.bool b, ρ1) => some (.bool (!b), ρ1)
  | _ => none
variable {fv gv : FE}
theorem pv_one {op} (h : PEv O X a fv) : PEv O X (.BoolOp op [a] pos) fv := pe_one h
theorem pv_and (h : PEv O X a fv) (h' : PEv O X (.BoolOp .And (b :: rest) pos) gv) : PEv O X (.BoolOp .And (a :: b :: rest) pos) (andV fv gv) := by
  refine PE_imp (pe_and h h') fun σ H Q q => ?_
  obtain ⟨G, ρ, st, d, ρ', e, q⟩ := q
  unfold andV at e
  split at e
  · rename_i ρ1 h1
    refine ⟨G, ρ, st, _, ρ1, h1, fun v H1 st1 p1 r1 => ?_⟩
    cases r1
    exact ⟨true, rfl, iteT ⟨G, ρ1, st1, d, ρ', e, fun v H2 st2 p2 r2 => q v H2 st2 (p1.trans p2) r2⟩⟩
  · rename_i ρ1 h1
    cases e
    refine ⟨G, ρ, st, _, ρ', h1, fun v H1 st1 p1 r1 => ?_⟩
    cases r1
    exact ⟨false, rfl, iteF (q _ H1 st1 p1 (.bl false))⟩
  · cases e
theorem pv_or (h : PEv O X a fv) (h' : PEv O X (.BoolOp .Or (b :: rest) pos) gv) : PEv O X (.BoolOp .Or (a :: b :: rest) pos) (orV fv gv) := by
  refine PE_imp (pe_or h h') fun σ H Q q => ?_
  obtain ⟨G, ρ, st, d, ρ', e, q⟩ := q
  unfold orV at e
  split at e
  · rename_i ρ1 h1
    cases e
    refine ⟨G, ρ, st, _, ρ', h1, fun v H1 st1 p1 r1 => ?_⟩
    cases r1
    exact ⟨true, rfl, iteT (q _ H1 st1 p1 (.bl true))⟩
  · rename_i ρ1 h1
    refine ⟨G, ρ, st, _, ρ1, h1, fun v H1 st1 p1 r1 => ?_⟩
    cases r1
    exact ⟨false, rfl, iteF ⟨G, ρ1, st1, d, ρ', e, fun v H2 st2 p2 r2 => q v H2 st2 (p1.trans p2) r2⟩⟩
  · cases e
theorem pv_not (h : PEv O X a fv) : PEv O X (.UnaryOp .Not a pos) (notV fv) := by
  refine PE_imp (pe_not h) fun σ H Q q => ?_
  obtain ⟨G, ρ, st, d, ρ', e, q⟩ := q
  unfold notV at e
  split at e
  · rename_i b ρ1 h1
    cases e
    refine ⟨G, ρ, st, _, ρ', h1, fun v H1 st1 p1 r1 => ?_⟩
    cases r1
    exact ⟨b, rfl, q _ H1 st1 p1 (.bl _)⟩
  · cases e
/-- a if c else b -/
def ifE (c : FB) (f g : FE) : FE := fun ρ => match c ρ with
  | some (true, ρ1) => f ρ1
  | some (false, ρ1) => g ρ1
  | none => none
theorem pv_if {c : Expr} (hc : PTb O X c f) (ha : PEv O X a fv) (hb : PEv O X b gv) : PEv O X (.IfExp c a b pos) (ifE f fv gv) := by
  refine PE_imp (pe_ifExp hc ha hb) fun σ H Q q => ?_
  obtain ⟨G, ρ, st, d, ρ', e, q⟩ := q
  unfold ifE at e
  split at e
  · rename_i ρ1 h1
    exact ⟨G, ρ, st, true, ρ1, h1, fun H1 st1 p1 => iteT ⟨G, ρ1, st1, d, ρ', e, fun v H2 st2 p2 r2 => q v H2 st2 (p1.trans p2) r2⟩⟩
  · rename_i ρ1 h1
    exact ⟨G, ρ, st, false, ρ1, h1, fun H1 st1 p1 => iteF ⟨G, ρ1, st1, d, ρ', e, fun v H2 st2 p2 r2 => q v H2 st2 (p1.trans p2) r2⟩⟩
  · cases e
theorem pn_if {c : Expr} (hc : PTb O X c f) (ha : PEn O X a fv) (hb : PEn O X b gv) : PEn O X (.IfExp c a b pos) (ifE f fv gv) := by
  refine PE_imp (pe_ifExp hc ha hb) fun σ H Q q => ?_
  obtain ⟨G, ρ, st, d, ρ', e, q⟩ := q
  unfold ifE at e
  split at e
  · rename_i ρ1 h1
    exact ⟨G, ρ, st, true, ρ1, h1, fun H1 st1 p1 => iteT ⟨G, ρ1, st1, d, ρ', e, fun a H2 H3 st2 p2 r2 => q a H2 H3 st2 (p1.trans p2) r2⟩⟩
  · rename_i ρ1 h1
    exact ⟨G, ρ, st, false, ρ1, h1, fun H1 st1 p1 => iteF ⟨G, ρ1, st1, d, ρ', e, fun a H2 H3 st2 p2 r2 => q a H2 H3 st2 (p1.trans p2) r2⟩⟩
  · cases e
/-! ### argument lists -/
def nilA : FA := fun ρ => some ([], ρ)
def consA (f : FO) (g : FA) : FA := fun ρ => match f ρ with
  | some (o, ρ1) => match g ρ1 with
    | some (os, ρ2) => some (o :: os, ρ2)
    | none => none
  | none => none
variable {fo : FO} {ga : FA} {es : List Expr}
theorem pa_nil' : PAo O X [] nilA := by
  refine PA_imp pa_nil fun σ H Q q => ?_
  obtain ⟨G, ρ, st, d, ρ', e, q⟩ := q
  cases e
  exact q [] H st (.refl H) .nil
theorem pa_cons' (ha : PEo O X a fo) (hr : PAo O X es ga) (hs : starEach (a :: es) X.env = (false, eval a X.env) :: starEach es X.env := by rfl) : PAo O X (a :: es) (consA fo ga) := by
  refine PA_imp (pa_cons ha hr hs) fun σ H Q q => ?_
  obtain ⟨G, ρ, st, d, ρ', e, q⟩ := q
  unfold consA at e
  split at e
  · rename_i o ρ1 h1
    split at e
    · rename_i os ρ2 h2
      cases e
      exact ⟨G, ρ, st, o, ρ1, h1, fun v H1 st1 p1 r1 => ⟨G, ρ1, st1, os, ρ', h2, fun vs H2 st2 p2 r2 => q (v :: vs) H2 st2 (p1.trans p2) (.cons (r1.pers p2) r2)⟩⟩
    · cases e
  · cases e
def rsvs (ρ : Pu.Env) : List Opd → Option (List PyData)
  | [] => some []
  | o :: os => match rsv ρ o, rsvs ρ os with
    | some d, some ds => some (d :: ds)
    | _, _ => none
inductive RepOs (E : Ev) (H : Hp) : List V → List PyData → Prop
  | nil : RepOs E H [] []
  | cons {v : V} {vs : List V} {d : PyData} {ds : List PyData} : RepO E H v d → RepOs E H vs ds → RepOs E H (v :: vs) (d :: ds)
theorem rsvs_ok {E : Ev} {G : Gd} {H : Hp} {σ : St} {ρ : Pu.Env} (x : StR E G H σ ρ) : ∀ {vs : List V} {os : List Opd} {ds : List PyData}, OpdsR E H σ vs os → rsvs ρ os = some ds → RepOs E H vs ds
  | _, _, _, .nil, e => by cases e; exact .nil
  | _, _, _, .cons h t, e => by
    unfold rsvs at e
    split at e
    · rename_i d ds h1 h2
      cases e
      exact .cons (rsv_ok x h h1) (rsvs_ok x t h2)
    · cases e
/-- all are data for ever -/
def vals : List Opd → Option (List PyData)
  | [] => some []
  | .d x :: os => match vals os with
    | some ds => some (x :: ds)
    | none => none
  | _ :: _ => none
theorem vals_ok {E : Ev} {H : Hp} {σ : St} : ∀ {vs : List V} {os : List Opd} {ds : List PyData}, OpdsR E H σ vs os → vals os = some ds → RepAll E H vs ds
  | _, _, _, .nil, e => by cases e; exact .nil
  | _, _ :: _, _, .cons (o := .d x) h t, e => by
    unfold vals at e
    split at e
    · rename_i ds h2
      cases e
      exact .cons h (vals_ok t h2)
    · cases e
  | _, _ :: _, _, .cons (o := .sl i) h t, e => by cases e
  | _, _ :: _, _, .cons (o := .fl i) h t, e => by cases e
/-- displays -/
def tupE (g : FA) : FE := fun ρ => match g ρ with
  | some (os, ρ1) => match vals os with
    | some ds => if ds.length ≤ sizeLine then some (.tuple ds, ρ1) else none
    | none => none
  | none => none
def lstE (g : FA) : FE := fun ρ => match g ρ with
  | some (os, ρ1) => match vals os with
    | some ds => if ds.length ≤ sizeLine then some (.list ds, ρ1) else none
    | none => none
  | none => none
theorem same_upd {H : Hp} {p : Addr} {o : HO} (hp : H p = none) : Same H (upd H p o) := fun b u e => by rw [upd_ne (ne_of_none e hp)]; exact e
theorem pv_tup {x1} (h : PAo O X es ga) : PEv O X (.Tuple es x1 pos) (tupE ga) := by
  refine PE_imp (pe_tup h) fun σ H Q q => ?_
  obtain ⟨G, ρ, st, d, ρ', e, q⟩ := q
  unfold tupE at e
  split at e
  · rename_i os ρ1 h1
    split at e
    · rename_i ds h2
      split at e
      · rename_i hz
        cases e
        refine ⟨G, ρ, st, os, ρ', h1, fun vs H1 st1 p1 r1 => ?_⟩
        have ra := vals_ok r1 h2
        refine ⟨by rw [ra.length]; exact hz, fun p hp => ?_⟩
        have sm := same_upd (o := .tup vs) hp
        exact q _ _ (st1.same sm) (p1.trans (.of_same sm)) (.tup (.of upd_same) (ra.pers (.of_same sm)))
      · cases e
    · cases e
  · cases e
theorem pn_lst (h : PAo O X es ga) : PEn O X (.List es pos) (lstE ga) := by
  refine PE_imp (pe_lst h) fun σ H Q q => ?_
  obtain ⟨G, ρ, st, d, ρ', e, q⟩ := q
  unfold lstE at e
  split at e
  · rename_i os ρ1 h1
    split at e
    · rename_i ds h2
      split at e
      · rename_i hz
        cases e
        refine ⟨G, ρ, st, os, ρ', h1, fun vs H1 st1 p1 r1 => ?_⟩
        have ra := vals_ok r1 h2
        refine ⟨by rw [ra.length]; exact hz, fun p hp => ?_⟩
        have sm := same_upd (o := .lst vs) hp
        exact q _ _ _ st1 p1 sm hp (.lst upd_same (ra.pers (.of_same sm)))
      · cases e
    · cases e
  · cases e
/-! ### calls of what is built in, and of methods that read -/
def CallD (O : Addr × Str) (X : Cx) (f : Value) (r : List PyData → Option PyData) : Prop :=
  ∀ (pins : List (Addr × Obj)) (s : Shared) (σ : St) (H : Hp) (xs : List V) (us : List Value) (ds : List PyData) (z : PyData), Inv X pins σ H s → Vals xs us → RepOs (evO O X) H xs ds → r ds = some z →
    wpAny (model X.prog X.w) X.A (call f us) (Ans O X pins σ H z) X.xe s
def CallN (O : Addr × Str) (X : Cx) (f : Value) (r : List PyData → Option PyData) : Prop :=
  ∀ (pins : List (Addr × Obj)) (s : Shared) (σ : St) (H : Hp) (xs : List V) (us : List Value) (ds : List PyData) (z : PyData), Inv X pins σ H s → Vals xs us → RepOs (evO O X) H xs ds → r ds = some z →
    wpAny (model X.prog X.w) X.A (call f us) (AnsN O X pins σ H z) X.xe s
theorem CallD.of {f : Value} {r : List PyData → Option PyData} {R : List V → Hp → VK → Prop} (h : CallR X f R)
    (k : ∀ H xs ds z, RepOs (evO O X) H xs ds → r ds = some z → R xs H fun x' H' => Rep (evO O X) H' x' z ∧ Same H H') : CallD O X f r :=
  fun pins s σ H xs us ds z I rx dx q => thn (h pins s σ H xs us _ I rx (k H xs ds z dx q)) fun w s' ⟨x', H', I', rw', r', s⟩ => ⟨x', H', I', rw', r', s⟩
theorem CallN.of {f : Value} {r : List PyData → Option PyData} {R : List V → Hp → VK → Prop} (h : CallR X f R)
    (k : ∀ H xs ds z, RepOs (evO O X) H xs ds → r ds = some z → R xs H fun x' H' => ∃ a, x' = .ref a ∧ H a = none ∧ OwnR (evO O X) H' a z ∧ Same H H') : CallN O X f r :=
  fun pins s σ H xs us ds z I rx dx q => thn (h pins s σ H xs us _ I rx (k H xs ds z dx q)) fun w s' ⟨x', H', I', rw', a, ea, n, o, s⟩ => by
    subst ea
    exact ⟨a, H', I', rw', n, o, s⟩
theorem CallN.d {f : Value} {r : List PyData → Option PyData} (h : CallN O X f r) : CallD O X f r :=
  fun pins s σ H xs us ds z I rx dx q => thn (h pins s σ H xs us ds z I rx dx q) fun _ _ q => q.ans
theorem CallD.or {f : Value} {r r' : List PyData → Option PyData} (h : CallD O X f r) (h' : CallD O X f r') : CallD O X f fun d => (r d).or (r' d) := by
  intro pins s σ H xs us ds z I rx dx q
  dsimp only at q
  cases hr : r ds with
  | some z' =>
    rw [hr] at q
    cases q
    exact h pins s σ H xs us ds _ I rx dx hr
  | none =>
    rw [hr] at q
    exact h' pins s σ H xs us ds _ I rx dx q
def callE (r : List PyData → Option PyData) (g : FA) : FE := fun ρ => match g ρ with
  | some (os, ρ1) => match rsvs ρ1 os with
    | some ds => match r ds with
      | some z => some (z, ρ1)
      | none => none
    | none => none
  | none => none
theorem call_run {r : List PyData → Option PyData} {G : Gd} {ρ ρ' : Pu.Env} {z : PyData} {σ : St} {H : Hp} {Q : List V → Hp → Prop} (st : StR (evO O X) G H σ ρ) (e : callE r ga ρ = some (z, ρ'))
    (q : ∀ vs H' ds, StR (evO O X) G H' σ ρ' → Pers H H' → RepOs (evO O X) H' vs ds → r ds = some z → Q vs H') : ta (evO O X) ga σ H Q := by
  unfold callE at e
  split at e
  · rename_i os ρ1 h1
    split at e
    · rename_i ds h2
      split at e
      · rename_i z' h3
        cases e
        exact ⟨G, ρ, st, os, ρ', h1, fun vs H' st' p' r' => q vs H' ds st' p' (rsvs_ok st' r' h2) h3⟩
      · cases e
    · cases e
  · cases e
variable {x : Str} {p : Pos} {r : List PyData → Option PyData} {id T : String}
theorem pv_callB (hc : CallD O X (.builtin id) r) (hg : Gl X x) (hm : X.mg x = none) (hv : bootBuiltins x = some (.builtin id)) (ha : PAo O X (a :: es) ga) (hn : x ≠ "__name__" := by decide) (hdb : (x == ("__debug__" : Str)) = false := by decide)
    (he : starEach (a :: es) X.env = (false, eval a X.env) :: starEach es X.env := by rfl) (hpl : (backTo pos (starEach es X.env)).any (·.1) = false := by rfl) : PEv O X (.Call (.Name x p) (a :: es) [] pos) (callE r ga) := by
  refine ⟨fun pins s σ H Q I h => ?_⟩
  obtain ⟨G, ρ, st, d, ρ', e, q⟩ := h
  refine wpAny_Call_Name_kw (ld_blt I hg hm hv ?_ hn hdb)
  refine PyProof.Rows.callWith_builtin1 (thn (ha.run pos pins s σ H _ I (call_run (Q := fun vs H' => ∃ ds, StR (evO O X) G H' σ ρ' ∧ Pers H H' ∧ RepOs (evO O X) H' vs ds ∧ r ds = some d) st e fun vs H' ds a b c e => ⟨ds, a, b, c, e⟩)) fun us s1 ⟨vs, H1, I1, r1, ds, st1, p1, rr, e1⟩ => ?_) he hpl
  exact thn (hc pins s1 σ H1 vs us ds d I1 r1 rr e1) fun w s2 ⟨x', H', I2, rw', r2, sm⟩ => ⟨x', H', I2, rw', q x' H' (st1.same sm) (p1.trans (.of_same sm)) r2⟩
theorem pn_callB (hc : CallN O X (.builtin id) r) (hg : Gl X x) (hm : X.mg x = none) (hv : bootBuiltins x = some (.builtin id)) (ha : PAo O X (a :: es) ga) (hn : x ≠ "__name__" := by decide) (hdb : (x == ("__debug__" : Str)) = false := by decide)
    (he : starEach (a :: es) X.env = (false, eval a X.env) :: starEach es X.env := by rfl) (hpl : (backTo pos (starEach es X.env)).any (·.1) = false := by rfl) : PEn O X (.Call (.Name x p) (a :: es) [] pos) (callE r ga) := by
  refine ⟨fun pins s σ H Q I h => ?_⟩
  obtain ⟨G, ρ, st, d, ρ', e, q⟩ := h
  refine wpAny_Call_Name_kw (ld_blt I hg hm hv ?_ hn hdb)
  refine PyProof.Rows.callWith_builtin1 (thn (ha.run pos pins s σ H _ I (call_run (Q := fun vs H' => ∃ ds, StR (evO O X) G H' σ ρ' ∧ Pers H H' ∧ RepOs (evO O X) H' vs ds ∧ r ds = some d) st e fun vs H' ds a b c e => ⟨ds, a, b, c, e⟩)) fun us s1 ⟨vs, H1, I1, r1, ds, st1, p1, rr, e1⟩ => ?_) he hpl
  exact thn (hc pins s1 σ H1 vs us ds d I1 r1 rr e1) fun w s2 ⟨a', H', I2, ew, n, o, sm⟩ => ⟨.ref a', H', I2, ew, q a' H1 H' st1 p1 sm n o⟩
theorem pv_callTy (hc : CallD O X (.type T) r) (hg : Gl X x) (hm : X.mg x = none) (hv : bootBuiltins x = some (.type T)) (ha : PAo O X (a :: es) ga) (hn : x ≠ "__name__" := by decide) (hdb : (x == ("__debug__" : Str)) = false := by decide)
    (he : starEach (a :: es) X.env = (false, eval a X.env) :: starEach es X.env := by rfl) (hpl : (backTo pos (starEach es X.env)).any (·.1) = false := by rfl) : PEv O X (.Call (.Name x p) (a :: es) [] pos) (callE r ga) := by
  refine ⟨fun pins s σ H Q I h => ?_⟩
  obtain ⟨G, ρ, st, d, ρ', e, q⟩ := h
  refine wpAny_Call_Name_kw (ld_blt I hg hm hv ?_ hn hdb)
  refine PyProof.Rows.callWith_type1 (thn (ha.run pos pins s σ H _ I (call_run (Q := fun vs H' => ∃ ds, StR (evO O X) G H' σ ρ' ∧ Pers H H' ∧ RepOs (evO O X) H' vs ds ∧ r ds = some d) st e fun vs H' ds a b c e => ⟨ds, a, b, c, e⟩)) fun us s1 ⟨vs, H1, I1, r1, ds, st1, p1, rr, e1⟩ => ?_) he hpl
  exact thn (hc pins s1 σ H1 vs us ds d I1 r1 rr e1) fun w s2 ⟨x', H', I2, rw', r2, sm⟩ => ⟨x', H', I2, rw', q x' H' (st1.same sm) (p1.trans (.of_same sm)) r2⟩
theorem pn_callTy (hc : CallN O X (.type T) r) (hg : Gl X x) (hm : X.mg x = none) (hv : bootBuiltins x = some (.type T)) (ha : PAo O X (a :: es) ga) (hn : x ≠ "__name__" := by decide) (hdb : (x == ("__debug__" : Str)) = false := by decide)
    (he : starEach (a :: es) X.env = (false, eval a X.env) :: starEach es X.env := by rfl) (hpl : (backTo pos (starEach es X.env)).any (·.1) = false := by rfl) : PEn O X (.Call (.Name x p) (a :: es) [] pos) (callE r ga) := by
  refine ⟨fun pins s σ H Q I h => ?_⟩
  obtain ⟨G, ρ, st, d, ρ', e, q⟩ := h
  refine wpAny_Call_Name_kw (ld_blt I hg hm hv ?_ hn hdb)
  refine PyProof.Rows.callWith_type1 (thn (ha.run pos pins s σ H _ I (call_run (Q := fun vs H' => ∃ ds, StR (evO O X) G H' σ ρ' ∧ Pers H H' ∧ RepOs (evO O X) H' vs ds ∧ r ds = some d) st e fun vs H' ds a b c e => ⟨ds, a, b, c, e⟩)) fun us s1 ⟨vs, H1, I1, r1, ds, st1, p1, rr, e1⟩ => ?_) he hpl
  exact thn (hc pins s1 σ H1 vs us ds d I1 r1 rr e1) fun w s2 ⟨a', H', I2, ew, n, o, sm⟩ => ⟨.ref a', H', I2, ew, q a' H1 H' st1 p1 sm n o⟩
end
end L2.Pu

/-! The pure layer, 3: statements, targets, loops, comprehensions. -/
namespace L2.Pu
open PySem PySem.Spec PyProof.Rows

/-! ### targets -/
def TgOk (E : Ev) (g : TG) (ft : PyData → Pu.Env → Option Pu.Env) (own : List Nat) : Prop :=
  ∀ (v : V) (σ : St) (H : Hp) (G : Gd) (ρ : Pu.Env) (d : PyData) (ρ' : Pu.Env) (Q : St → Hp → Prop), StR E G H σ ρ → Rep E H v d → ft d ρ = some ρ' →
    (∀ σ', wipe σ' own = wipe σ own → StR E G H σ' ρ' → Q σ' H) → g v σ H Q
def TgsOk (E : Ev) (g : TGs) (ft : List PyData → Pu.Env → Option Pu.Env) (own : List Nat) : Prop :=
  ∀ (vs : List V) (σ : St) (H : Hp) (G : Gd) (ρ : Pu.Env) (ds : List PyData) (ρ' : Pu.Env) (Q : St → Hp → Prop), StR E G H σ ρ → RepAll E H vs ds → ft ds ρ = some ρ' →
    (∀ σ', wipe σ' own = wipe σ own → StR E G H σ' ρ' → Q σ' H) → g vs σ H Q
theorem wipe_get {j : Nat} : ∀ (own : List Nat) (σ : St), (wipe σ own)[j]? = if j ∈ own then (if j < σ.length then some none else none) else σ[j]? := by
  intro own σ
  induction own with
  | nil => simp [wipe]
  | cons a own ih =>
    unfold wipe
    by_cases h : j = a
    · subst h
      simp only [List.mem_cons, true_or, if_true]
      by_cases hl : j < σ.length
      · rw [List.getElem?_set_self (by rw [wipe_length]; exact hl), if_pos hl]
      · rw [if_neg hl, List.getElem?_eq_none (by rw [List.length_set, wipe_length]; omega)]
    · rw [List.getElem?_set_ne (Ne.symm h), ih]
      simp [h]
theorem wipe_idem {σ : St} {own : List Nat} : wipe (wipe σ own) own = wipe σ own := by
  refine List.ext_getElem? fun j => ?_
  rw [wipe_get, wipe_get, wipe_length]
  by_cases hj : j ∈ own
  · rw [if_pos hj, if_pos hj]
  · rw [if_neg hj, if_neg hj]
theorem wipe_set {σ : St} {i : Nat} {v : Option V} : ∀ {own : List Nat}, i ∈ own → wipe (σ.set i v) own = wipe σ own := by
  intro own hi
  refine List.ext_getElem? fun j => ?_
  rw [wipe_get, wipe_get]
  by_cases hj : j ∈ own
  · simp [hj]
  · have : i ≠ j := fun z => hj (z ▸ hi)
    rw [if_neg hj, if_neg hj, List.getElem?_set_ne this]
def nameT (i : Nat) : PyData → Pu.Env → Option Pu.Env := fun d ρ => some (ρ.set i (.val d))
theorem tgOk_name {E : Ev} {i : Nat} {own : List Nat} (h : i ∈ own) : TgOk E (gName i) (nameT i) own := by
  intro v σ H G ρ d ρ' Q st r e q
  cases e
  exact q _ (wipe_set h) (st.setVal r)
def tupT (n : Nat) (f : List PyData → Pu.Env → Option Pu.Env) : PyData → Pu.Env → Option Pu.Env := fun d ρ => match d with
  | .tuple ds => if ds.length = n then f ds ρ else none
  | _ => none
def nilT : List PyData → Pu.Env → Option Pu.Env := fun ds ρ => match ds with
  | [] => some ρ
  | _ => none
def consT (f : PyData → Pu.Env → Option Pu.Env) (g : List PyData → Pu.Env → Option Pu.Env) : List PyData → Pu.Env → Option Pu.Env := fun ds ρ => match ds with
  | d :: ds => match f d ρ with
    | some ρ1 => g ds ρ1
    | none => none
  | [] => none
theorem tgOk_tup {E : Ev} {n : Nat} {t : TGs} {f : List PyData → Pu.Env → Option Pu.Env} {own : List Nat} (h : TgsOk E t f own) : TgOk E (gTup E.K n t) (tupT n f) own := by
  intro v σ H G ρ d ρ' Q st r e q
  unfold tupT at e
  split at e
  · rename_i ds
    split at e
    · rename_i hn
      cases r with
      | tup ht ha => exact ⟨_, _, rfl, ht, by rw [ha.length]; exact hn, h _ σ H G ρ ds ρ' Q st ha e q⟩
    · cases e
  · cases e
theorem tgsOk_nil {E : Ev} {own : List Nat} : TgsOk E gNil nilT own := by
  intro vs σ H G ρ ds ρ' Q st r e q
  unfold nilT at e
  split at e
  · cases e
    cases r
    exact ⟨rfl, q σ rfl st⟩
  · cases e
theorem tgsOk_cons {E : Ev} {t : TG} {u : TGs} {f : PyData → Pu.Env → Option Pu.Env} {g : List PyData → Pu.Env → Option Pu.Env} {own : List Nat} (h : TgOk E t f own) (h' : TgsOk E u g own) : TgsOk E (gCons t u) (consT f g) own := by
  intro vs σ H G ρ ds ρ' Q st r e q
  unfold consT at e
  split at e
  · rename_i d ds
    split at e
    · rename_i ρ1 h1
      cases r with
      | cons r1 r2 => exact ⟨_, _, rfl, h _ σ H G ρ d ρ1 _ st r1 h1 fun σ1 w1 st1 => h' _ σ1 H G ρ1 ds ρ' Q st1 r2 e fun σ2 w2 st2 => q σ2 (w2.trans w1) st2⟩
    · cases e
  · cases e

/-! ### statements -/
inductive Fl
  | nx | bk | ct
  | rt (d : PyData)
  | rn (d : PyData)
abbrev FS := Pu.Env → Option (Fl × Pu.Env)
def EndR (E : Ev) (G : Gd) (H : Hp) (D : Ends) (ρ' : Pu.Env) : Fl → Prop
  | .nx => ∀ σ' H', StR E G H' σ' ρ' → Pers H H' → D.nx σ' H'
  | .bk => ∀ σ' H', StR E G H' σ' ρ' → Pers H H' → D.bk σ' H'
  | .ct => ∀ σ' H', StR E G H' σ' ρ' → Pers H H' → D.ct σ' H'
  | .rt d => ∀ v σ' H', StR E G H' σ' ρ' → Pers H H' → Rep E H' v d → D.rt v H'
  | .rn d => ∀ a σ' H1 H', StR E G H1 σ' ρ' → Pers H H1 → Same H1 H' → H1 a = none → OwnR E H' a d → D.rt (.ref a) H'
def ts (E : Ev) (f : FS) : TS := fun D σ H => ∃ G ρ, StR E G H σ ρ ∧ ∃ fl ρ', f ρ = some (fl, ρ') ∧ EndR E G H D ρ' fl
theorem EndR.later {E : Ev} {G : Gd} {H H1 : Hp} {D : Ends} {ρ' : Pu.Env} {fl : Fl} (h : EndR E G H D ρ' fl) (p : Pers H H1) : EndR E G H1 D ρ' fl := by
  cases fl with
  | nx => exact fun σ' H' a b => h σ' H' a (p.trans b)
  | bk => exact fun σ' H' a b => h σ' H' a (p.trans b)
  | ct => exact fun σ' H' a b => h σ' H' a (p.trans b)
  | rt d => exact fun v σ' H' a b c => h v σ' H' a (p.trans b) c
  | rn d => exact fun a σ' H1 H' x b c n o => h a σ' H1 H' x (p.trans b) c n o
def PSv (O : Addr × Str) (X : Cx) (s : Stmt) (f : FS) : Prop := PS X s (ts (evO O X) f)
def PBv (O : Addr × Str) (X : Cx) (s : List Stmt) (f : FS) : Prop := PSs X s (ts (evO O X) f)
section
variable {O : Addr × Str} {X : Cx} {s : Stmt} {rest : List Stmt} {f g : FS} {fe : FE} {fb : FB} {e : Expr} {pos : Pos}
def nilS : FS := fun ρ => some (.nx, ρ)
def seqS (f g : FS) : FS := fun ρ => match f ρ with
  | some (.nx, ρ1) => g ρ1
  | r => r
theorem pb_nil : PBv O X [] nilS := by
  refine PSs_imp pss_nil fun D σ H q => ?_
  obtain ⟨G, ρ, st, fl, ρ', e, q⟩ := q
  cases e
  exact q σ H st (.refl H)
theorem pb_cons (h : PSv O X s f) (h' : PBv O X rest g) : PBv O X (s :: rest) (seqS f g) := by
  refine PSs_imp (pss_cons h h') fun D σ H q => ?_
  obtain ⟨G, ρ, st, fl, ρ', e, q⟩ := q
  unfold seqS at e
  split at e
  · rename_i ρ1 h1
    exact ⟨G, ρ, st, .nx, ρ1, h1, fun σ1 H1 st1 p1 => ⟨G, ρ1, st1, fl, ρ', e, q.later p1⟩⟩
  · rename_i hn
    refine ⟨G, ρ, st, fl, ρ', e, ?_⟩
    cases fl with
    | nx => exact absurd e (hn ρ')
    | bk => exact q
    | ct => exact q
    | rt d => exact q
    | rn d => exact q
theorem ps_pass' : PSv O X (.Pass pos) nilS := by
  refine PS_imp ps_pass fun D σ H q => ?_
  obtain ⟨G, ρ, st, fl, ρ', e, q⟩ := q
  cases e
  exact q σ H st (.refl H)
def bkS : FS := fun ρ => some (.bk, ρ)
def ctS : FS := fun ρ => some (.ct, ρ)
theorem ps_break' : PSv O X (.Break pos) bkS := by
  refine PS_imp ps_break fun D σ H q => ?_
  obtain ⟨G, ρ, st, fl, ρ', e, q⟩ := q
  cases e
  exact q σ H st (.refl H)
theorem ps_cont' : PSv O X (.Continue pos) ctS := by
  refine PS_imp ps_continue fun D σ H q => ?_
  obtain ⟨G, ρ, st, fl, ρ', e, q⟩ := q
  cases e
  exact q σ H st (.refl H)
def retS (f : FE) : FS := fun ρ => match f ρ with
  | some (d, ρ1) => some (.rt d, ρ1)
  | none => none
theorem ps_ret' (h : PEv O X e fe) : PSv O X (.Return (some e) pos) (retS fe) := by
  refine PS_imp (ps_ret h) fun D σ H q => ?_
  obtain ⟨G, ρ, st, fl, ρ', e, q⟩ := q
  unfold retS at e
  split at e
  · rename_i d ρ1 h1
    cases e
    exact ⟨G, ρ, st, d, ρ', h1, fun v H' st' p' r' => q v σ H' st' p' r'⟩
  · cases e
/-- return a new list or dict, to be changed by whom it is handed to -/
def retN (f : FE) : FS := fun ρ => match f ρ with
  | some (d, ρ1) => some (.rn d, ρ1)
  | none => none
theorem ps_retN (h : PEn O X e fe) : PSv O X (.Return (some e) pos) (retN fe) := by
  refine PS_imp (ps_ret h) fun D σ H q => ?_
  obtain ⟨G, ρ, st, fl, ρ', e, q⟩ := q
  unfold retN at e
  split at e
  · rename_i d ρ1 h1
    cases e
    exact ⟨G, ρ, st, d, ρ', h1, fun a H1 H' st' p' s' n o => q a σ H1 H' st' p' s' n o⟩
  · cases e
def dropS (f : FE) : FS := fun ρ => match f ρ with
  | some (_, ρ1) => some (.nx, ρ1)
  | none => none
theorem ps_expr' (h : PEv O X e fe) (hs : swapsWith e none pos.line X.env = pure false := by rfl) : PSv O X (.Expr e pos) (dropS fe) := by
  refine PS_imp (ps_expr h hs) fun D σ H q => ?_
  obtain ⟨G, ρ, st, fl, ρ', e, q⟩ := q
  unfold dropS at e
  split at e
  · rename_i d ρ1 h1
    cases e
    exact ⟨G, ρ, st, d, ρ', h1, fun v H' st' p' r' => q σ H' st' p'⟩
  · cases e
def ifS (c : FB) (f g : FS) : FS := fun ρ => match c ρ with
  | some (true, ρ1) => f ρ1
  | some (false, ρ1) => g ρ1
  | none => none
theorem ps_if' {c : Expr} {a b : List Stmt} (hc : PTb O X c fb) (ha : PBv O X a f) (hb : PBv O X b g) : PSv O X (.If c a b pos) (ifS fb f g) := by
  refine PS_imp (ps_if hc ha hb) fun D σ H q => ?_
  obtain ⟨G, ρ, st, fl, ρ', e, q⟩ := q
  unfold ifS at e
  split at e
  · rename_i ρ1 h1
    exact ⟨G, ρ, st, true, ρ1, h1, fun H1 st1 p1 => iteT ⟨G, ρ1, st1, fl, ρ', e, q.later p1⟩⟩
  · rename_i ρ1 h1
    exact ⟨G, ρ, st, false, ρ1, h1, fun H1 st1 p1 => iteF ⟨G, ρ1, st1, fl, ρ', e, q.later p1⟩⟩
  · cases e
/-- a statement that is never come to (a raise) -/
def noS : FS := fun _ => none
theorem ps_no : PSv O X s noS := by
  refine PS_imp ps_never fun D σ H q => ?_
  obtain ⟨G, ρ, st, fl, ρ', e, q⟩ := q
  cases e
/-- x = e, a datum -/
def setS (i : Nat) (f : FE) : FS := fun ρ => match f ρ with
  | some (d, ρ1) => some (.nx, ρ1.set i (.val d))
  | none => none
theorem ps_set' {i : Nat} {x : Str} {pos' : Pos} (hN : X.N.Nodup) (hi : X.N[i]? = some x) (hx : Loc X.env.scope x) (he : PEv O X e fe) (hs : swapsWith e (some (.Name x pos')) pos.line X.env = pure false := by rfl)
    (hf : X.fn x = true ∨ X.env.scope.names.lookup x = some .local := by first | exact .inl rfl | exact .inr rfl | assumption) : PSv O X (.Assign [.Name x pos'] e pos) (setS i fe) := by
  refine PS_imp (ps_set hN hi hx he hs hf) fun D σ H q => ?_
  obtain ⟨G, ρ, st, fl, ρ', e, q⟩ := q
  unfold setS at e
  split at e
  · rename_i d ρ1 h1
    cases e
    exact ⟨G, ρ, st, d, ρ1, h1, fun v H' st' p' r' => q _ H' (st'.setVal r') p'⟩
  · cases e
/-- x = a new list or dict, to be changed -/
def setN (i : Nat) (f : FE) : FS := fun ρ => match f ρ with
  | some (d, ρ1) => some (.nx, ρ1.set i (.own false false d))
  | none => none
theorem ps_setN {i : Nat} {x : Str} {pos' : Pos} (hN : X.N.Nodup) (hi : X.N[i]? = some x) (hx : Loc X.env.scope x) (he : PEn O X e fe) (hs : swapsWith e (some (.Name x pos')) pos.line X.env = pure false := by rfl)
    (hf : X.fn x = true ∨ X.env.scope.names.lookup x = some .local := by first | exact .inl rfl | exact .inr rfl | assumption) : PSv O X (.Assign [.Name x pos'] e pos) (setN i fe) := by
  refine PS_imp (ps_set hN hi hx he hs hf) fun D σ H q => ?_
  obtain ⟨G, ρ, st, fl, ρ', e, q⟩ := q
  unfold setN at e
  split at e
  · rename_i d ρ1 h1
    cases e
    exact ⟨G, ρ, st, d, ρ1, h1, fun a H1 H' st1 p1 s1 n o => q _ H' (st1.setNew s1 o n) (p1.trans (.of_same s1))⟩
  · cases e
/-- (a, b) = e -/
def asgS (ft : PyData → Pu.Env → Option Pu.Env) (f : FE) : FS := fun ρ => match f ρ with
  | some (d, ρ1) => match ft d ρ1 with
    | some ρ2 => some (.nx, ρ2)
    | none => none
  | none => none
theorem ps_asg' {tg : Expr} {gt : TG} {ft : PyData → Pu.Env → Option Pu.Env} {own : List Nat} (he : PEv O X e fe) (hg : PG X tg gt) (ht : TgOk (evO O X) gt ft own) (hs : swapsWithSole [tg] e pos.line X.env = pure false := by rfl)
    (hw : swappedStores [tg] e X.env = pure none := by rfl) (h1 : (assignEach [tg] X.env).map (·.2) = [assign tg X.env] := by rfl) : PSv O X (.Assign [tg] e pos) (asgS ft fe) := by
  refine PS_imp (ps_asg he hg hs hw h1) fun D σ H q => ?_
  obtain ⟨G, ρ, st, fl, ρ', e, q⟩ := q
  unfold asgS at e
  split at e
  · rename_i d ρ1 h1
    split at e
    · rename_i ρ2 h2
      cases e
      exact ⟨G, ρ, st, d, ρ1, h1, fun v H' st' p' r' => ht v σ H' G ρ1 d ρ' _ st' r' h2 fun σ' _ st2 => q σ' H' st2 p'⟩
    · cases e
  · cases e
end

/-! ### what a loop walks -/
def ItD (E : Ev) (J : It) (ds : List PyData) (H : Hp) : Prop :=
  ∃ (Gp : Hp → Prop) (Y : Nat → Hp → V → Hp → Prop), Walk J ds.length Gp Y ∧ Gp H ∧ (∀ H1 H2, Gp H1 → Pers H1 H2 → Gp H2) ∧
    ∀ i H1 x H2, i < ds.length → Gp H1 → Y i H1 x H2 → ∃ d, ds[i]? = some d ∧ Rep E H2 x d ∧ Same H1 H2
abbrev FI := Pu.Env → Option (List PyData × Pu.Env)
def ti (E : Ev) (f : FI) : TI := fun σ H R => ∃ G ρ, StR E G H σ ρ ∧ ∃ ds ρ', f ρ = some (ds, ρ') ∧ ∀ J H', StR E G H' σ ρ' → Pers H H' → ItD E J ds H' → R J H'
def PIv (O : Addr × Str) (X : Cx) (tg iter : Expr) (f : FI) : Prop := PI X tg iter (ti (evO O X) f)
theorem PI_imp {X : Cx} {tg e : Expr} {t t' : TI} (h : PI X tg e t) (k : ∀ σ H Q, t' σ H Q → t σ H Q) : PI X tg e t' := ⟨fun pins s σ H Q I q => h.run pins s σ H Q I (k σ H Q q)⟩
/-- the items of a list, of a tuple -/
def itemsE (f : FE) : FI := fun ρ => match f ρ with
  | some (.list ds, ρ1) => some (ds, ρ1)
  | some (.tuple ds, ρ1) => some (ds, ρ1)
  | _ => none
def listE (f : FE) : FI := fun ρ => match f ρ with
  | some (.list ds, ρ1) => some (ds, ρ1)
  | _ => none
def tupleE (f : FE) : FI := fun ρ => match f ρ with
  | some (.tuple ds, ρ1) => some (ds, ρ1)
  | _ => none
section
variable {O : Addr × Str} {X : Cx} {tg it : Expr} {fe : FE}
theorem itD_list {E : Ev} {H : Hp} {a : Addr} {xs : List V} {ds : List PyData} (h : FzL E.K H a xs) (r : RepAll E H xs ds) : ItD E (Itl E.K a) ds H := by
  refine ⟨fun H => FzL E.K H a xs ∧ RepAll E H xs ds, YAt xs, ?_, ⟨h, r⟩, fun H1 H2 ⟨h1, h2⟩ p => ⟨p.fzl h1, h2.pers p⟩, fun i H1 x H2 hi ⟨h1, h2⟩ y => ?_⟩
  · have := (walk_list (K := E.K) (a := a) (xs := xs)).mono (G' := fun H => FzL E.K H a xs ∧ RepAll E H xs ds) (Y' := YAt xs) (fun H q => q.1.sq) fun _ _ _ _ _ _ y => y
    rw [r.length] at this
    exact this
  · obtain ⟨e, y⟩ := y
    subst e
    obtain ⟨d, e1, e2⟩ := h2.get y
    exact ⟨d, e1, e2, .refl _⟩
theorem itD_tup {E : Ev} {H : Hp} {a : Addr} {xs : List V} {ds : List PyData} (h : SqT E.K H a xs) (r : RepAll E H xs ds) : ItD E (Itt E.K a) ds H := by
  refine ⟨fun H => SqT E.K H a xs ∧ RepAll E H xs ds, YAt xs, ?_, ⟨h, r⟩, fun H1 H2 ⟨h1, h2⟩ p => ⟨p.sqt h1, h2.pers p⟩, fun i H1 x H2 hi ⟨h1, h2⟩ y => ?_⟩
  · have := (walk_tup (K := E.K) (a := a) (xs := xs)).mono (G' := fun H => SqT E.K H a xs ∧ RepAll E H xs ds) (Y' := YAt xs) (fun H q => q.1) fun _ _ _ _ _ _ y => y
    rw [r.length] at this
    exact this
  · obtain ⟨e, y⟩ := y
    subst e
    obtain ⟨d, e1, e2⟩ := h2.get y
    exact ⟨d, e1, e2, .refl _⟩
theorem pi_list' (h : PEv O X it fe) : PIv O X tg it (listE fe) := by
  refine PI_imp (pi_list h) fun σ H R q => ?_
  obtain ⟨G, ρ, st, ds, ρ', e, q⟩ := q
  unfold listE at e
  split at e
  · rename_i ds' ρ1 h1
    cases e
    refine ⟨G, ρ, st, _, ρ', h1, fun v H' st' p' r' => ?_⟩
    cases r' with
    | lst h r => exact ⟨_, rfl, ⟨_, h.sq⟩, q _ H' st' p' (itD_list h r)⟩
  · cases e
theorem pi_tup' (h : PEv O X it fe) : PIv O X tg it (tupleE fe) := by
  refine PI_imp (pi_tup h) fun σ H R q => ?_
  obtain ⟨G, ρ, st, ds, ρ', e, q⟩ := q
  unfold tupleE at e
  split at e
  · rename_i ds' ρ1 h1
    cases e
    refine ⟨G, ρ, st, _, ρ', h1, fun v H' st' p' r' => ?_⟩
    cases r' with
    | tup h r => exact ⟨_, rfl, ⟨_, h⟩, q _ H' st' p' (itD_tup h r)⟩
  · cases e
/-- a value that is a list or a tuple -/
theorem pi_items (h : PEv O X it fe) : PIv O X tg it (itemsE fe) := by
  refine ⟨fun pins s σ H R I q => ?_⟩
  obtain ⟨G, ρ, st, ds, ρ', e, q⟩ := q
  unfold itemsE at e
  split at e
  · rename_i ds' ρ1 h1
    cases e
    exact (pi_list' (tg := tg) h).run pins s σ H R I ⟨G, ρ, st, ds, ρ', by unfold listE; rw [h1], q⟩
  · rename_i ds' ρ1 h1
    cases e
    exact (pi_tup' (tg := tg) h).run pins s σ H R I ⟨G, ρ, st, ds, ρ', by unfold tupleE; rw [h1], q⟩
  · cases e
/-- lo, lo + 1, .. -/
def rangeL (lo : Int) (n : Nat) : List PyData := (List.range n).map fun i => .int (lo + (i : Nat))
theorem rangeL_length (lo : Int) (n : Nat) : (rangeL lo n).length = n := by simp [rangeL]
theorem itD_range {E : Ev} {H : Hp} {lo : Int} {n : Nat} : ItD E (Itr lo n) (rangeL lo n) H := by
  refine ⟨fun _ => True, YFn fun i => .int (lo + i), ?_, trivial, fun _ _ _ _ => trivial, fun i H1 x H2 hi _ y => ?_⟩
  · have := walk_range (lo := lo) (n := n)
    rw [rangeL_length]
    exact this
  · obtain ⟨e, y⟩ := y
    subst e
    subst y
    rw [rangeL_length] at hi
    exact ⟨_, by simp [rangeL, hi], .int _, .refl _⟩
def range1E (g : FA) : FI := fun ρ => match g ρ with
  | some (os, ρ1) => match rsvs ρ1 os with
    | some [.int j] => if -(2 ^ 62) ≤ j ∧ j < 2 ^ 62 then some (rangeL 0 j.toNat, ρ1) else none
    | _ => none
  | none => none
def range2E (g : FA) : FI := fun ρ => match g ρ with
  | some (os, ρ1) => match rsvs ρ1 os with
    | some [.int i, .int j] => if -(2 ^ 62) ≤ i ∧ i < 2 ^ 62 ∧ -(2 ^ 62) ≤ j ∧ j < 2 ^ 62 then some (rangeL i (j - i).toNat, ρ1) else none
    | _ => none
  | none => none
theorem repOs_int1 {E : Ev} {H : Hp} {vs : List V} {j : Int} (h : RepOs E H vs [.int j]) : vs = [.int j] := by
  cases h with
  | cons h t => cases t; rcases h with h | ⟨a, _, h⟩
                · cases h; rfl
                · cases h
theorem repO_int {E : Ev} {H : Hp} {v : V} {j : Int} (h : RepO E H v (.int j)) : v = .int j := by
  rcases h with h | ⟨a, _, h⟩
  · cases h; rfl
  · cases h
theorem repO_bool {E : Ev} {H : Hp} {v : V} {j : Bool} (h : RepO E H v (.bool j)) : v = .bl j := by
  rcases h with h | ⟨a, _, h⟩
  · cases h; rfl
  · cases h
theorem repO_str {E : Ev} {H : Hp} {v : V} {j : Str} (h : RepO E H v (.str j)) : v = .str j := by
  rcases h with h | ⟨a, _, h⟩
  · cases h; rfl
  · cases h
theorem repO_none {E : Ev} {H : Hp} {v : V} (h : RepO E H v .none) : v = .non := by
  rcases h with h | ⟨a, _, h⟩
  · cases h; rfl
  · cases h
theorem repO_listR {E : Ev} {H : Hp} {v : V} {ds : List PyData} (h : RepO E H v (.list ds)) : ∃ a vs, v = .ref a ∧ Rd H a (.lst vs) ∧ RepAll E H vs ds := by
  rcases h with h | ⟨a, e, h⟩
  · cases h with
    | lst h r => exact ⟨_, _, rfl, .inr h, r⟩
  · cases h with
    | lst h r => exact ⟨a, _, e, .inl h, r⟩
theorem repO_list {E : Ev} {H : Hp} {v : V} {ds : List PyData} (h : RepO E H v (.list ds)) : ∃ a vs, v = .ref a ∧ SqL E.K H a vs ∧ RepAll E H vs ds :=
  let ⟨a, vs, e, h, r⟩ := repO_listR h; ⟨a, vs, e, .inl h, r⟩
theorem repO_tup {E : Ev} {H : Hp} {v : V} {ds : List PyData} (h : RepO E H v (.tuple ds)) : ∃ a vs, v = .ref a ∧ SqT E.K H a vs ∧ RepAll E H vs ds := by
  rcases h with h | ⟨a, e, h⟩
  · cases h with
    | tup h r => exact ⟨_, _, rfl, h, r⟩
  · cases h
variable {a b : Expr} {ga : FA} {p pos : Pos}
theorem pi_range1' (hg : Gl X "range") (hm : X.mg "range" = none) (ha : PAo O X [a] ga) (hs : starEach [a] X.env = [(false, eval a X.env)] := by rfl) : PIv O X tg (.Call (.Name "range" p) [a] [] pos) (range1E ga) := by
  refine PI_imp (pi_range1 hg hm ha hs) fun σ H R q => ?_
  obtain ⟨G, ρ, st, ds, ρ', e, q⟩ := q
  unfold range1E at e
  split at e
  · rename_i os ρ1 h1
    split at e
    · rename_i j h2
      split at e
      · rename_i hj
        cases e
        exact ⟨G, ρ, st, os, ρ', h1, fun vs H' st' p' r' => ⟨j, repOs_int1 (rsvs_ok st' r' h2), hj.1, hj.2, q _ H' st' p' itD_range⟩⟩
      · cases e
    · cases e
  · cases e
theorem pi_range2' (hg : Gl X "range") (hm : X.mg "range" = none) (ha : PAo O X [a, b] ga) (hs : starEach [a, b] X.env = [(false, eval a X.env), (false, eval b X.env)] := by rfl) (hs2 : starEach [b] X.env = [(false, eval b X.env)] := by rfl) :
    PIv O X tg (.Call (.Name "range" p) [a, b] [] pos) (range2E ga) := by
  refine PI_imp (pi_range2 hg hm ha hs hs2) fun σ H R q => ?_
  obtain ⟨G, ρ, st, ds, ρ', e, q⟩ := q
  unfold range2E at e
  split at e
  · rename_i os ρ1 h1
    split at e
    · rename_i i j h2
      split at e
      · rename_i hj
        cases e
        refine ⟨G, ρ, st, os, ρ', h1, fun vs H' st' p' r' => ⟨i, j, ?_, hj, q _ H' st' p' itD_range⟩⟩
        have := rsvs_ok st' r' h2
        cases this with
        | cons h t =>
          rw [repO_int h, repOs_int1 t]
      · cases e
    · cases e
  · cases e
end

/-! ### for -/
def forLoop (ft : PyData → Pu.Env → Option Pu.Env) (body : FS) : List PyData → FS
  | [] => fun ρ => some (.nx, ρ)
  | d :: ds => fun ρ => match ft d ρ with
    | some ρ1 => match body ρ1 with
      | some (.nx, ρ2) => forLoop ft body ds ρ2
      | some (.ct, ρ2) => forLoop ft body ds ρ2
      | some (.bk, ρ2) => some (.nx, ρ2)
      | some (.rt r, ρ2) => some (.rt r, ρ2)
      | some (.rn r, ρ2) => some (.rn r, ρ2)
      | none => none
    | none => none
def forS (fi : FI) (ft : PyData → Pu.Env → Option Pu.Env) (body : FS) : FS := fun ρ => match fi ρ with
  | some (ds, ρ1) => forLoop ft body ds ρ1
  | none => none
section
variable {O : Addr × Str} {X : Cx} {tg it : Expr} {fi : FI} {ft : PyData → Pu.Env → Option Pu.Env} {body : List Stmt} {fb : FS} {gt : TG} {own : List Nat} {pos : Pos}
theorem drop_cons {α : Type} {l : List α} {i : Nat} {d : α} (h : l[i]? = some d) : l.drop i = d :: l.drop (i + 1) := by
  obtain ⟨hl, e⟩ := List.getElem?_eq_some_iff.mp h
  rw [List.drop_eq_getElem_cons hl, e]
theorem ps_for' (hp : PassesOwn (model X.prog X.w) X.A X.env X.xe) (hc : X.calm = true) (hi : PIv O X tg it fi) (hg : PG X tg gt) (ht : TgOk (evO O X) gt ft own) (hb : PBv O X body fb)
    (hs : ∀ x, foldedSetIterable it X.env x = pure x := by intro _; rfl) : PSv O X (.For tg it body [] pos) (forS fi ft fb) := by
  refine PS_imp (ps_for hp hc hi hg hb hs) fun D σ H q => ?_
  obtain ⟨G, ρ, st, fl, ρ', e, q⟩ := q
  unfold forS at e
  split at e
  · rename_i ds ρ1 h1
    refine ⟨G, ρ, st, ds, ρ1, h1, fun J H1 st1 p1 ⟨Gp, Y, w, g0, gk, gy⟩ => ?_⟩
    refine for_it w (fun i σ H2 => ∃ ρi, StR (evO O X) G H2 σ ρi ∧ forLoop ft fb (ds.drop i) ρi = some (fl, ρ') ∧ Pers H1 H2 ∧ Gp H2) ⟨ρ1, st1, e, .refl _, g0⟩ (fun i σ H2 _ ⟨_, _, _, _, g⟩ => g) ?_ ?_
    · rintro i x σ2 H2 H3 hi ⟨ρi, sti, ei, pi, gi⟩ y
      obtain ⟨d, hd, rd, sm⟩ := gy i H2 x H3 hi gi y
      rw [drop_cons hd] at ei
      unfold forLoop at ei
      split at ei
      · rename_i ρa ha
        have p3 := pi.trans (.of_same sm)
        refine ht x σ2 H3 G ρi d ρa _ (sti.same sm) rd ha fun σ4 _ st4 => ?_
        split at ei
        · rename_i ρb hb'
          exact ⟨G, ρa, st4, .nx, ρb, hb', fun σ5 H5 st5 p5 => ⟨ρb, st5, ei, p3.trans p5, gk _ _ (gk _ _ gi (.of_same sm)) p5⟩⟩
        · rename_i ρb hb'
          exact ⟨G, ρa, st4, .ct, ρb, hb', fun σ5 H5 st5 p5 => ⟨ρb, st5, ei, p3.trans p5, gk _ _ (gk _ _ gi (.of_same sm)) p5⟩⟩
        · rename_i ρb hb'
          cases ei
          exact ⟨G, ρa, st4, .bk, ρ', hb', fun σ5 H5 st5 p5 => q σ5 H5 st5 (p1.trans (p3.trans p5))⟩
        · rename_i r ρb hb'
          cases ei
          exact ⟨G, ρa, st4, .rt r, ρ', hb', fun v σ5 H5 st5 p5 r5 => q v σ5 H5 st5 (p1.trans (p3.trans p5)) r5⟩
        · rename_i r ρb hb'
          cases ei
          exact ⟨G, ρa, st4, .rn r, ρ', hb', fun a σ5 H5 H6 st5 p5 s5 n5 o5 => q a σ5 H5 H6 st5 (p1.trans (p3.trans p5)) s5 n5 o5⟩
        · cases ei
      · cases ei
    · rintro σ2 H2 ⟨ρi, sti, ei, pi, gi⟩
      rw [List.drop_length] at ei
      cases ei
      exact q σ2 H2 sti (p1.trans pi)
  · cases e
/-! ### while -/
def whileLoop (c : FB) (body : FS) : Nat → FS
  | 0 => fun _ => none
  | n + 1 => fun ρ => match c ρ with
    | some (false, ρ1) => some (.nx, ρ1)
    | some (true, ρ1) => match body ρ1 with
      | some (.nx, ρ2) => whileLoop c body n ρ2
      | some (.ct, ρ2) => whileLoop c body n ρ2
      | some (.bk, ρ2) => some (.nx, ρ2)
      | some (.rt r, ρ2) => some (.rt r, ρ2)
      | some (.rn r, ρ2) => some (.rn r, ρ2)
      | none => none
    | none => none
def whileS (n : Pu.Env → Nat) (c : FB) (body : FS) : FS := fun ρ => whileLoop c body (n ρ) ρ
theorem ps_while' {c : Expr} {fc : FB} {n : Pu.Env → Nat} (hp : PassesOwn (model X.prog X.w) X.A X.env X.xe) (hc : PTb O X c fc) (hb : PBv O X body fb) : PSv O X (.While c body [] pos) (whileS n fc fb) := by
  refine PS_imp (ps_while hp hc hb) fun D σ H q => ?_
  obtain ⟨G, ρ, st, fl, ρ', e, q⟩ := q
  unfold whileS at e
  refine ⟨fun m σ H2 => ∃ ρi, StR (evO O X) G H2 σ ρi ∧ whileLoop fc fb m ρi = some (fl, ρ') ∧ Pers H H2, ⟨n ρ, ρ, st, e, .refl _⟩, ?_⟩
  rintro m σ2 H2 ⟨ρi, sti, ei, pi⟩
  cases m with
  | zero => cases ei
  | succ m =>
    unfold whileLoop at ei
    split at ei
    · rename_i ρa ha
      cases ei
      exact ⟨G, ρi, sti, false, ρ', ha, fun H3 st3 p3 => iteF (q σ2 H3 st3 (pi.trans p3))⟩
    · rename_i ρa ha
      refine ⟨G, ρi, sti, true, ρa, ha, fun H3 st3 p3 => iteT ⟨fun σ' H' => ∃ ρb, StR (evO O X) G H' σ' ρb ∧ whileLoop fc fb m ρb = some (fl, ρ') ∧ Pers H H', fun σ' H' x => ⟨m, Nat.lt_succ_self _, x⟩, ?_⟩⟩
      split at ei
      · rename_i ρb hb'
        exact ⟨G, ρa, st3, .nx, ρb, hb', fun σ5 H5 st5 p5 => ⟨ρb, st5, ei, (pi.trans p3).trans p5⟩⟩
      · rename_i ρb hb'
        exact ⟨G, ρa, st3, .ct, ρb, hb', fun σ5 H5 st5 p5 => ⟨ρb, st5, ei, (pi.trans p3).trans p5⟩⟩
      · rename_i ρb hb'
        cases ei
        exact ⟨G, ρa, st3, .bk, ρ', hb', fun σ5 H5 st5 p5 => q σ5 H5 st5 ((pi.trans p3).trans p5)⟩
      · rename_i r ρb hb'
        cases ei
        exact ⟨G, ρa, st3, .rt r, ρ', hb', fun v σ5 H5 st5 p5 r5 => q v σ5 H5 st5 ((pi.trans p3).trans p5) r5⟩
      · rename_i r ρb hb'
        cases ei
        exact ⟨G, ρa, st3, .rn r, ρ', hb', fun a σ5 H5 H6 st5 p5 s5 n5 o5 => q a σ5 H5 H6 st5 ((pi.trans p3).trans p5) s5 n5 o5⟩
      · cases ei
    · cases ei
end
end L2.Pu

/-! The pure layer, 4: comprehensions. -/
namespace L2.Pu
open PySem PySem.Spec PyProof.Rows

def wipeE (ρ : Pu.Env) : List Nat → Pu.Env
  | [] => ρ
  | v :: vs => (wipeE ρ vs).set v .un
def restoreE (ρ ρ3 : Pu.Env) : List Nat → Pu.Env
  | [] => ρ3
  | v :: vs => (restoreE ρ ρ3 vs).set v (ρ.getD v .un)
theorem wipeE_get {ρ : Pu.Env} {j : Nat} : ∀ (own : List Nat), (wipeE ρ own)[j]? = if j ∈ own then (if j < ρ.length then some .un else none) else ρ[j]? := by
  intro own
  have hl : ∀ own : List Nat, (wipeE ρ own).length = ρ.length := by
    intro own
    induction own with
    | nil => rfl
    | cons a own ih => unfold wipeE; rw [List.length_set, ih]
  induction own with
  | nil => simp [wipeE]
  | cons a own ih =>
    unfold wipeE
    by_cases h : j = a
    · subst h
      simp only [List.mem_cons, true_or, if_true]
      by_cases hj : j < ρ.length
      · rw [List.getElem?_set_self (by rw [hl]; exact hj), if_pos hj]
      · rw [if_neg hj, List.getElem?_eq_none (by rw [List.length_set, hl]; omega)]
    · rw [List.getElem?_set_ne (Ne.symm h), ih]
      simp [h]
theorem restoreE_length {ρ ρ3 : Pu.Env} : ∀ own : List Nat, (restoreE ρ ρ3 own).length = ρ3.length := by
  intro own
  induction own with
  | nil => rfl
  | cons a own ih => unfold restoreE; rw [List.length_set, ih]
theorem restoreE_get {ρ ρ3 : Pu.Env} (hl : ρ.length = ρ3.length) {j : Nat} : ∀ (own : List Nat), (restoreE ρ ρ3 own)[j]? = if j ∈ own then ρ[j]? else ρ3[j]? := by
  intro own
  induction own with
  | nil => simp [restoreE]
  | cons a own ih =>
    unfold restoreE
    by_cases h : j = a
    · subst h
      simp only [List.mem_cons, true_or, if_true]
      by_cases hj : j < ρ.length
      · rw [List.getElem?_set_self (by rw [restoreE_length]; omega)]
        simp [hj]
      · rw [List.getElem?_eq_none (by rw [List.length_set, restoreE_length]; omega), List.getElem?_eq_none (by omega)]
    · rw [List.getElem?_set_ne (Ne.symm h), ih]
      simp [h]
section
variable {E : Ev} {G : Gd} {H H' : Hp} {σ σ' : St} {ρ ρ' : Pu.Env} {own : List Nat} {D : Addr}
theorem wipeE_in {j : Nat} {s : Sl} (h : (wipeE ρ own)[j]? = some s) (hs : s ≠ .un) : j ∉ own ∧ ρ[j]? = some s := by
  rw [wipeE_get] at h
  by_cases hj : j ∈ own
  · rw [if_pos hj] at h
    split at h
    · cases h; exact absurd rfl hs
    · cases h
  · rw [if_neg hj] at h
    exact ⟨hj, h⟩
theorem StR.wiped (x : StR E G H σ ρ) (own : List Nat) : StR E G H (L2.wipe σ own) (wipeE ρ own) where
  len := by
    rw [wipe_length, x.len]
    induction own with
    | nil => rfl
    | cons a own ih => unfold wipeE; rw [List.length_set, ih]
  val := fun j d h => by
    obtain ⟨nj, h⟩ := wipeE_in h (fun z => nomatch z)
    rw [wipe_out nj]
    exact x.val j d h
  raw := fun j d h => by
    obtain ⟨nj, h⟩ := wipeE_in h (fun z => nomatch z)
    rw [wipe_out nj]
    exact x.raw j d h
  own := fun j io ob d h => by
    obtain ⟨nj, h⟩ := wipeE_in h (fun z => nomatch z)
    rw [wipe_out nj]
    exact x.own j io ob d h
  sep := fun i j io ob d io' ob' d' a a' fp fp' hij h h' g g' o o' => by
    obtain ⟨ni, h⟩ := wipeE_in h (fun z => nomatch z)
    obtain ⟨nj, h'⟩ := wipeE_in h' (fun z => nomatch z)
    rw [wipe_out ni] at g
    rw [wipe_out nj] at g'
    exact x.sep i j io ob d io' ob' d' a a' fp fp' hij h h' g g' o o'
  frm := x.frm
/-- D is none of ours -/
def NotIn (E : Ev) (D : Addr) (H : Hp) (σ : St) (ρ : Pu.Env) : Prop :=
  ∀ (i : Nat) (io ob : Bool) (d : PyData) (a : Addr) (fp : List Addr), ρ[i]? = some (.own io ob d) → σ[i]? = some (some (.ref a)) → OwnS E H ob a d fp → D ∉ fp
theorem NotIn.new (n : H D = none) : NotIn E D H σ ρ := fun i io ob d a fp _ _ o hb => by
  obtain ⟨_, u, hu⟩ := o.mut D hb
  rw [n] at hu; cases hu
theorem NotIn.same (x : StR E G H σ ρ) (n : NotIn E D H σ ρ) (s : Same H H') : NotIn E D H' σ ρ := fun i io ob d a fp h1 h2 o hb => by
  obtain ⟨a2, fp2, q1, q2, _⟩ := x.own i io ob d h1
  rw [h2] at q1; cases q1
  rw [o.uniq (q2.keep (.of_same s) fun b _ u hu => s b u hu)] at hb
  exact n i io ob d a fp2 h1 h2 q2 hb
/-- the heap changed at D alone -/
theorem StR.offD (x : StR E G H σ ρ) (nd : NotIn E D H σ ρ) (f : Free (H D)) (off : ∀ b, b ≠ D → H' b = H b) (g : G.H0 D = none ∨ D ∈ G.S) : StR E G H' σ ρ ∧ NotIn E D H' σ ρ := by
  have p : Pers H H' := .off f off
  have kp : ∀ (i : Nat) (io ob : Bool) (d : PyData) (a : Addr) (fp : List Addr), ρ[i]? = some (.own io ob d) → σ[i]? = some (some (.ref a)) → OwnS E H ob a d fp → ∀ b ∈ fp, ∀ o, H b = some o → H' b = some o := fun i io ob d a fp h1 h2 o b hb u hu => by
    rw [off b fun z => nd i io ob d a fp h1 h2 o (z ▸ hb)]; exact hu
  refine ⟨x.keep p kp fun b o hb hn hq => ?_, fun i io ob d a fp h1 h2 o hb => ?_⟩
  · rw [off b fun z => ?_]
    · exact hq
    · subst z
      rcases g with w | w
      · rw [hb] at w; cases w
      · exact hn w
  · obtain ⟨a2, fp2, q1, q2, _⟩ := x.own i io ob d h1
    rw [h2] at q1; cases q1
    have z := q2.keep p (kp i io ob d a fp2 h1 h2 q2)
    rw [o.uniq z] at hb
    exact nd i io ob d a fp2 h1 h2 q2 hb
/-- without the address D -/
def delH (H : Hp) (D : Addr) : Hp := fun b => if b = D then none else H b
theorem delH_ne {H : Hp} {D b : Addr} (h : b ≠ D) : delH H D b = H b := if_neg h
theorem StR.noD {S : List Addr} {pins : List (Nat × Addr)} {H0 : Hp} (x : StR E ⟨H0, S, pins⟩ H σ ρ) (D : Addr) : StR E ⟨delH H0 D, S, pins⟩ H σ ρ where
  len := x.len
  val := x.val
  raw := x.raw
  own := fun i io ob d h => by
    obtain ⟨a, fp, h1, h2, h3, h4⟩ := x.own i io ob d h
    refine ⟨a, fp, h1, h2, fun b hb => (h3 b hb).imp id fun z => ?_, h4⟩
    show delH H0 D b = none
    unfold delH
    split
    · rfl
    · exact z
  sep := x.sep
  frm := fun b o h n => by
    by_cases hb : b = D
    · subst hb
      have e : delH H0 b b = some o := h
      unfold delH at e
      rw [if_pos rfl] at e; cases e
    · have h : delH H0 D b = some o := h
      rw [delH_ne hb] at h
      exact x.frm b o h n
/-- a block starts: its own names are forgotten; what it cannot see stays -/
theorem StR.block (x : StR E G H σ ρ) (own : List Nat) (nd : NotIn E D H σ ρ) (gD : G.H0 D = none ∨ D ∈ G.S) (hD : ∃ u, H D = some u) : ∃ S2 : List Addr, StR E ⟨H, S2, G.pins⟩ H (L2.wipe σ own) (wipeE ρ own) ∧
    (∀ H4 σ2 ρ3, StR E ⟨H, S2, G.pins⟩ H4 σ2 ρ3 → H4 D = H D ∧ NotIn E D H4 σ2 ρ3) ∧
    (∀ H4 σ2 ρ3, StR E ⟨delH H D, S2, G.pins⟩ H4 σ2 ρ3 → NotIn E D H4 σ2 ρ3 → L2.wipe σ2 own = L2.wipe σ own → Pers H H4 → StR E G H4 σ (restoreE ρ ρ3 own) ∧ NotIn E D H4 σ (restoreE ρ ρ3 own)) := by
  obtain ⟨S2, st2, hS, hM, back⟩ := (x.wiped own).rebase
  have vis : ∀ b ∈ S2, ∃ (i : Nat) (io ob : Bool) (d : PyData) (a : Addr) (fp : List Addr), i ∉ own ∧ ρ[i]? = some (.own io ob d) ∧ σ[i]? = some (some (.ref a)) ∧ OwnS E H ob a d fp ∧ b ∈ fp := fun b hb => by
    obtain ⟨i, io, ob, d, a, fp, h1, h2, h3, h4⟩ := hS b hb
    obtain ⟨ni, h1⟩ := wipeE_in h1 (fun z => nomatch z)
    rw [wipe_out ni] at h2
    exact ⟨i, io, ob, d, a, fp, ni, h1, h2, h3, h4⟩
  have nD : D ∉ S2 := fun hb => by
    obtain ⟨i, io, ob, d, a, fp, _, h1, h2, h3, h4⟩ := vis D hb
    exact nd i io ob d a fp h1 h2 h3 h4
  obtain ⟨uD, hD⟩ := hD
  refine ⟨S2, st2, fun H4 σ2 ρ3 y => ⟨by rw [hD]; exact y.frm D uD hD nD, fun i io ob d a fp h1 h2 o hb => ?_⟩, fun H4 σ2 ρ3 y n4 hw p => ?_⟩
  · obtain ⟨a2, fp2, q1, q2, q3, _⟩ := y.own i io ob d h1
    rw [h2] at q1; cases q1
    rw [o.uniq q2] at hb
    rcases q3 D hb with z | z
    · exact nD z
    · have z : H D = none := z
      rw [hD] at z; cases z
  have hl : ρ.length = ρ3.length := by
    have e1 := congrArg List.length hw
    rw [wipe_length, wipe_length] at e1
    rw [← x.len, ← y.len, e1]
  have sl : ∀ j, j ∉ own → σ[j]? = σ2[j]? := fun j hj => by
    rw [← wipe_out (σ := σ) hj, ← hw, wipe_out hj]
  have gt : ∀ {j : Nat} {s : Sl}, (restoreE ρ ρ3 own)[j]? = some s → (j ∈ own ∧ ρ[j]? = some s) ∨ (j ∉ own ∧ ρ3[j]? = some s) := fun {j s} h => by
    rw [restoreE_get hl] at h
    by_cases hj : j ∈ own
    · rw [if_pos hj] at h; exact .inl ⟨hj, h⟩
    · rw [if_neg hj] at h; exact .inr ⟨hj, h⟩
  have inG : ∀ b ∈ S2, b ∈ G.S ∨ G.H0 b = none := fun b hb => by
    obtain ⟨i, io, ob, d, a, fp, _, h1, h2, h3, h4⟩ := vis b hb
    obtain ⟨a2, fp2, q1, q2, q3, _⟩ := x.own i io ob d h1
    rw [h2] at q1; cases q1
    rw [h3.uniq q2] at h4
    exact q3 b h4
  have yfrm : ∀ b u, H b = some u → b ∉ S2 → b ≠ D → H4 b = some u := fun b u hu hn hb => y.frm b u (by show delH H D b = some u; rw [delH_ne hb]; exact hu) hn
  -- what is seen: of ours, or new
  have yown : ∀ (j : Nat) io ob d, ρ3[j]? = some (.own io ob d) → ∃ a fp, σ2[j]? = some (some (.ref a)) ∧ OwnS E H4 ob a d fp ∧ (∀ b ∈ fp, b ∈ S2 ∨ H b = none) ∧ (io = true → (j, a) ∈ G.pins) := fun j io ob d h => by
    obtain ⟨a, fp, q1, q2, q3, q4⟩ := y.own j io ob d h
    refine ⟨a, fp, q1, q2, fun b hb => ?_, q4⟩
    rcases q3 b hb with z | z
    · exact .inl z
    · have z : delH H D b = none := z
      have nb : b ≠ D := fun e => n4 j io ob d a fp h q1 q2 (e ▸ hb)
      rw [delH_ne nb] at z
      exact .inr z
  -- what is hidden stays
  have hid : ∀ (j : Nat) io ob d a fp, j ∈ own → ρ[j]? = some (.own io ob d) → σ[j]? = some (some (.ref a)) → OwnS E H ob a d fp → OwnS E H4 ob a d fp ∧ ∀ b ∈ fp, b ∉ S2 := fun j io ob d a fp hj h h' o => by
    have nS : ∀ b ∈ fp, b ∉ S2 := fun b hb z => by
      obtain ⟨i, io', ob', d', a', fp', ni, h1, h2, h3, h4⟩ := vis b z
      exact x.sep i j io' ob' d' io ob d a' a fp' fp (fun q => ni (q ▸ hj)) h1 h h2 h' h3 o b h4 hb
    exact ⟨o.keep p fun b hb u hu => yfrm b u hu (nS b hb) fun e => nd j io ob d a fp h h' o (e ▸ hb), nS⟩
  have fps : ∀ (j : Nat) io ob d a fp, (restoreE ρ ρ3 own)[j]? = some (.own io ob d) → σ[j]? = some (some (.ref a)) → OwnS E H4 ob a d fp →
      (j ∈ own ∧ ρ[j]? = some (.own io ob d) ∧ OwnS E H ob a d fp ∧ ∀ b ∈ fp, b ∉ S2) ∨ (j ∉ own ∧ ρ3[j]? = some (.own io ob d) ∧ σ2[j]? = some (some (.ref a)) ∧ ∀ b ∈ fp, b ∈ S2 ∨ H b = none) := fun j io ob d a fp h h' o => by
    rcases gt h with ⟨hj, h⟩ | ⟨hj, h⟩
    · obtain ⟨a2, fp2, q1, q2, _⟩ := x.own j io ob d h
      rw [h'] at q1; cases q1
      obtain ⟨z, nS⟩ := hid j io ob d a fp2 hj h h' q2
      have e := o.uniq z
      subst e
      exact .inl ⟨hj, h, q2, nS⟩
    · rw [sl j hj] at h'
      obtain ⟨a2, fp2, q1, q2, q3, _⟩ := yown j io ob d h
      rw [h'] at q1; cases q1
      have e := o.uniq q2
      subst e
      exact .inr ⟨hj, h, h', q3⟩
  have res : StR E G H4 σ (restoreE ρ ρ3 own) := by
    refine ⟨by rw [restoreE_length, ← hl, x.len], fun j d h => ?_, fun j d h => ?_, fun j io ob d h => ?_, fun i j io ob d io' ob' d' a a' fp fp' hij h h' g g' o o' => ?_, fun b o h n => ?_⟩
    · rcases gt h with ⟨hj, h⟩ | ⟨hj, h⟩
      · obtain ⟨v, q1, q2⟩ := x.val j d h
        exact ⟨v, q1, q2.pers p⟩
      · rw [sl j hj]; exact y.val j d h
    · rcases gt h with ⟨hj, h⟩ | ⟨hj, h⟩
      · exact x.raw j d h
      · rw [sl j hj]; exact y.raw j d h
    · rcases gt h with ⟨hj, h⟩ | ⟨hj, h⟩
      · obtain ⟨a, fp, q1, q2, q3, q4⟩ := x.own j io ob d h
        exact ⟨a, fp, q1, (hid j io ob d a fp hj h q1 q2).1, q3, q4⟩
      · rw [sl j hj]
        obtain ⟨a, fp, q1, q2, q3, q4⟩ := yown j io ob d h
        refine ⟨a, fp, q1, q2, fun b hb => ?_, q4⟩
        rcases q3 b hb with z | z
        · exact inG b z
        · cases e : G.H0 b with
          | none => exact .inr rfl
          | some u =>
            by_cases hS : b ∈ G.S
            · exact .inl hS
            · have := x.frm b u e hS
              rw [z] at this; cases this
    · rcases fps i io ob d a fp h g o with ⟨hi, h1, o1, n1⟩ | ⟨hi, h1, s1, n1⟩
      · rcases fps j io' ob' d' a' fp' h' g' o' with ⟨hj, h2, o2, n2⟩ | ⟨hj, h2, s2, n2⟩
        · exact x.sep i j io ob d io' ob' d' a a' fp fp' hij h1 h2 g g' o1 o2
        · intro b hb hb'
          rcases n2 b hb' with z | z
          · exact n1 b hb z
          · obtain ⟨_, u, hu⟩ := o1.mut b hb
            rw [hu] at z; cases z
      · rcases fps j io' ob' d' a' fp' h' g' o' with ⟨hj, h2, o2, n2⟩ | ⟨hj, h2, s2, n2⟩
        · intro b hb hb'
          rcases n1 b hb with z | z
          · exact n2 b hb' z
          · obtain ⟨_, u, hu⟩ := o2.mut b hb'
            rw [hu] at z; cases z
        · exact y.sep i j io ob d io' ob' d' a a' fp fp' hij h1 h2 s1 s2 o o'
    · have hb := x.frm b o h n
      have nS : b ∉ S2 := fun z => by
        rcases inG b z with w | w
        · exact n w
        · rw [h] at w; cases w
      by_cases e : b = D
      · subst e
        rcases gD with w | w
        · rw [h] at w; cases w
        · exact absurd w n
      · exact yfrm b o hb nS e
  refine ⟨res, fun i io ob d a fp h1 h2 o hb => ?_⟩
  rcases fps i io ob d a fp h1 h2 o with ⟨hi, q1, o1, n1⟩ | ⟨hi, q1, s1, n1⟩
  · exact nd i io ob d a fp q1 h2 o1 hb
  · exact n4 i io ob d a fp q1 s1 o hb
end

/-! ### [elt for target in iter if ..] -/
abbrev FL := PyData → Pu.Env → Option (List PyData × Pu.Env)
def lcLoop (body : FL) : List PyData → Pu.Env → Option (List PyData × Pu.Env)
  | [], ρ => some ([], ρ)
  | d :: ds, ρ => match body d ρ with
    | some (ys, ρ1) => match lcLoop body ds ρ1 with
      | some (zs, ρ2) => some (ys ++ zs, ρ2)
      | none => none
    | none => none
def lcBody (own : List Nat) (ft : PyData → Pu.Env → Option Pu.Env) (ft' : FB) (fe : FE) : FL := fun d ρ => match ft d (wipeE ρ own) with
  | some ρ1 => match ft' ρ1 with
    | some (true, ρ2) => match fe ρ2 with
      | some (y, ρ3) => some ([y], restoreE ρ ρ3 own)
      | none => none
    | some (false, ρ2) => some ([], restoreE ρ ρ2 own)
    | none => none
  | none => none
def lcE (fi : FI) (body : FL) : FE := fun ρ => match fi ρ with
  | some (ds, ρ1) => match lcLoop body ds ρ1 with
    | some (ys, ρ2) => if ys.length ≤ sizeLine then some (.list ys, ρ2) else none
    | none => none
  | none => none
def yesB : FB := fun ρ => some (true, ρ)
def PTbs (O : Addr × Str) (X : Cx) (ifs : List Expr) (f : FB) : Prop := PTs X ifs (tt (evO O X) f)
theorem pts_nil' {O : Addr × Str} {X : Cx} : PTbs O X [] yesB := by
  refine ⟨fun pins s σ H Q I q => pts_nil.run pins s σ H Q I ?_⟩
  obtain ⟨G, ρ, st, d, ρ', e, q⟩ := q
  cases e
  exact q H st (.refl H)
theorem pts_one' {O : Addr × Str} {X : Cx} {c : Expr} {f : FB} (h : PTb O X c f) : PTbs O X [c] f := pts_one h
section
variable {O : Addr × Str} {X : Cx} {elt tg iter : Expr} {ifs : List Expr} {scope : Scope} {own : List (Str × Nat)} {pos : Pos} {fi : FI} {g : TG} {ft : PyData → Pu.Env → Option Pu.Env} {ft' : FB} {fe : FE}
/-- the end of a comprehension: D is new -/
theorem lc_end {E : Ev} {G : Gd} {H : Hp} {σ : St} {ρ : Pu.Env} {D : Addr} {ys : List PyData} {vs : List V} {Q : VK} {H0 : Hp} (st : StR E G H σ ρ) (nd : NotIn E D H σ ρ) (hD : H D = some (.lst vs)) (ra : RepAll E H vs ys) (gD : G.H0 D = none ∨ D ∈ G.S)
    (p : Pers H0 H) (q : ∀ a H1 H', StR E G H1 σ ρ → Pers H0 H1 → Same H1 H' → H1 a = none → OwnR E H' a (.list ys) → Q (.ref a) H') : Q (.ref D) H := by
  have fr : Free (H D) := by rw [hD]; exact trivial
  obtain ⟨st', _⟩ := st.offD (H' := delH H D) nd fr (fun b hb => delH_ne hb) gD
  refine q D (delH H D) H st' ?_ (fun b o h => ?_) (if_pos rfl) (.lst hD ra)
  · exact p.trans (.off fr fun b hb => delH_ne hb)
  · by_cases hb : b = D
    · subst hb
      have e : delH H b b = none := if_pos rfl
      rw [e] at h; cases h
    · rw [delH_ne hb] at h; exact h
/-- turn by turn, the heap alone -/
theorem lc_it2 {J : It} {n : Nat} {Gp : Hp → Prop} {Y : Nat → Hp → V → Hp → Prop} (w : Walk J n Gp Y) {H1 : Hp} {T : (Hp → Prop) → V → Hp → Prop} {Qd : Hp → Prop} (Pv : Nat → Hp → Prop) (h0 : Pv 0 H1) (hG : ∀ i H, i ≤ n → Pv i H → Gp H)
    (hs : ∀ i x H H', i < n → Pv i H → Y i H x H' → T (Pv (i + 1)) x H') (hd : ∀ H, Pv n H → Qd H) :
    ∃ W : Nat → Nat → Hp → Prop, (∃ m, W 0 m H1) ∧ ∀ i m H, W i m H → (J.stop i H ∧ Qd H) ∨ (J.go i H ∧ ∃ Nx : Hp → Prop, (∀ H', Nx H' → ∃ m', m' < m ∧ W (i + 1) m' H') ∧ ∀ x H', J.yld i H x H' → T Nx x H') := by
  refine ⟨fun i m H => m = n - i ∧ i ≤ n ∧ Pv i H, ⟨n, by simp, Nat.zero_le _, h0⟩, ?_⟩
  rintro i m H ⟨rfl, hi, p⟩
  have q := hG i H hi p
  by_cases hlt : i < n
  · refine .inr ⟨w.goes i H hlt q, Pv (i + 1), fun H' p' => ⟨n - (i + 1), by omega, rfl, hlt, p'⟩, fun x H' y => hs i x H H' hlt p (w.yields i H x H' hlt q y)⟩
  · have e : i = n := by omega
    subst e
    exact .inl ⟨w.stops H q, hd H p⟩
theorem frm_new {E : Ev} {G : Gd} {H : Hp} {σ : St} {ρ : Pu.Env} {D : Addr} (st : StR E G H σ ρ) (n : H D = none) : G.H0 D = none ∨ D ∈ G.S := by
  cases e : G.H0 D with
  | none => exact .inl rfl
  | some u =>
    by_cases hS : D ∈ G.S
    · exact .inr hS
    · have := st.frm D u e hS
      rw [n] at this; cases this
theorem lc_imp {own : List (Str × Nat)} (hk : TgOk (evO O X) g ft (own.map (·.2))) : ∀ (σ : St) (H : Hp) (Q : VK), tn (evO O X) (lcE fi (lcBody (own.map (·.2)) ft ft' fe)) σ H Q → tLc (ti (evO O X) fi) g (tt (evO O X) ft') (tv (evO O X) fe) (own.map (·.2)) σ H Q := by
  intro σ H Q q
  obtain ⟨G, ρ, st, d, ρ', e, q⟩ := q
  unfold lcE at e
  split at e
  · rename_i ds ρ1 h1
    split at e
    · rename_i ys ρ2 h2
      split at e
      · rename_i hz
        cases e
        refine ⟨G, ρ, st, ds, ρ1, h1, fun J H1 st1 p1 ⟨Gp, Y, w, g0, gk, gy⟩ D hD => ?_⟩
        have gD := frm_new st1 hD
        have sm := same_upd (o := .lst []) hD
        refine lc_it w (fun i H2 => ∃ ρi vs ds' zs, StR (evO O X) G H2 σ ρi ∧ NotIn (evO O X) D H2 σ ρi ∧ H2 D = some (.lst vs) ∧ RepAll (evO O X) H2 vs ds' ∧ lcLoop (lcBody (own.map (·.2)) ft ft' fe) (ds.drop i) ρi = some (zs, ρ') ∧ ds' ++ zs = ys ∧ Pers H1 H2 ∧ Gp H2)
          ⟨ρ1, [], [], ys, st1.same sm, (NotIn.new hD).same st1 sm, upd_same, .nil, h2, rfl, .of_same sm, gk _ _ g0 (.of_same sm)⟩ (fun i H2 _ ⟨_, _, _, _, _, _, _, _, _, _, _, g⟩ => g) ?_ ?_
        · rintro i x H2 H3 hi ⟨ρi, vs, ds', zs, sti, ndi, hDi, rai, ei, eq, pi, gi⟩ y
          obtain ⟨d, hd, rd, sm3⟩ := gy i H2 x H3 hi gi y
          rw [drop_cons hd] at ei
          unfold lcLoop at ei
          have hD3 : H3 D = some (.lst vs) := sm3 _ _ hDi
          obtain ⟨S2, stb, kd, kb⟩ := (sti.same sm3).block (own.map (·.2)) (ndi.same sti sm3) gD ⟨_, hD3⟩
          have p3 := pi.trans (.of_same sm3)
          have g3 := gk _ _ gi (.of_same sm3)
          split at ei
          · rename_i ys1 ρa ha
            split at ei
            · rename_i zs2 ρb hb
              cases ei
              unfold lcBody at ha
              split at ha
              · rename_i ρ1' hft
                refine hk x (L2.wipe σ (own.map (·.2))) H3 _ _ d ρ1' _ stb rd hft fun σ2 hw st2 => ?_
                rw [wipe_idem] at hw
                refine ⟨hw, ?_⟩
                split at ha
                · rename_i ρ2' hb'
                  refine ⟨_, ρ1', st2, true, ρ2', hb', fun H4 st4 p4 => iteT ?_⟩
                  split at ha
                  · rename_i yv ρ3' hy
                    cases ha
                    refine ⟨_, ρ2', st4, yv, ρ3', hy, fun v H5 st5 p5 r5 => ?_⟩
                    obtain ⟨kD, nD⟩ := kd H5 σ2 ρ3' st5
                    obtain ⟨stF, ndF⟩ := kb H5 σ2 ρ3' (st5.noD D) nD hw (p4.trans p5)
                    rw [hD3] at kD
                    have fr : Free (H5 D) := by rw [kD]; exact trivial
                    obtain ⟨stG, ndG⟩ := stF.offD (H' := upd H5 D (.lst (vs ++ [v]))) ndF fr (fun b hb => upd_ne hb) gD
                    have p45 := p4.trans p5
                    have p6 : Pers H5 (upd H5 D (.lst (vs ++ [v]))) := .off fr fun b hb => upd_ne hb
                    refine ⟨vs, kD, ?_, _, vs ++ [v], ds' ++ [yv], zs2, stG, ndG, upd_same, ?_, hb, ?_, ?_, ?_⟩
                    · have := rai.length
                      have := congrArg List.length eq
                      simp only [List.length_append, List.length_cons, List.length_nil] at this
                      omega
                    · exact ((rai.pers (.of_same sm3)).pers (p45.trans p6)).append (.cons (r5.pers p6) .nil)
                    · rw [← eq]; simp
                    · exact (p3.trans p45).trans p6
                    · exact gk _ _ (gk _ _ g3 p45) p6
                  · cases ha
                · rename_i ρ2' hb'
                  cases ha
                  refine ⟨_, ρ1', st2, false, ρ2', hb', fun H4 st4 p4 => iteF ?_⟩
                  obtain ⟨kD, nD⟩ := kd H4 σ2 ρ2' st4
                  obtain ⟨stF, ndF⟩ := kb H4 σ2 ρ2' (st4.noD D) nD hw p4
                  rw [hD3] at kD
                  exact ⟨_, vs, ds', zs2, stF, ndF, kD, (rai.pers (.of_same sm3)).pers p4, hb, eq, p3.trans p4, gk _ _ g3 p4⟩
                · cases ha
              · cases ha
            · cases ei
          · cases ei
        · rintro H2 ⟨ρi, vs, ds', zs, sti, ndi, hDi, rai, ei, eq, pi, gi⟩
          rw [List.drop_length] at ei
          cases ei
          rw [List.append_nil] at eq
          subst eq
          exact lc_end sti ndi hDi rai gD (p1.trans pi) q
      · cases e
    · cases e
  · cases e
theorem pn_lc (hc : X.calm = true) (hN : X.N.Nodup) (hi : PIv O X tg iter fi) (ok : BlkOk X.N X.env.scope scope own)
    (hg : ∀ (s : Shared) (H : Hp) (C : Addr) (cl : List (Str × Addr)) (fp : List Addr), PG (X.blk s H scope (compEnvC scope cl C X.env) fp) tg g) (hk : TgOk (evO O X) g ft (own.map (·.2)))
    (ht : ∀ (s : Shared) (H : Hp) (C : Addr) (cl : List (Str × Addr)) (fp : List Addr), PTbs O (X.blk s H scope (compEnvC scope cl C X.env) fp) ifs ft')
    (he : ∀ (s : Shared) (H : Hp) (C : Addr) (cl : List (Str × Addr)) (fp : List Addr), PEv O (X.blk s H scope (compEnvC scope cl C X.env) fp) elt fe) (hs : ∀ x, foldedSetIterable iter X.env x = pure x := by intro _; rfl) :
    PEn O X (.ListComp elt [⟨tg, iter, ifs, 0⟩] scope pos) (lcE fi (lcBody (own.map (·.2)) ft ft' fe)) := by
  refine PE_imp (pe_lc (tt := tt (evO O X) ft') (te := tv (evO O X) fe) hc hN hi ok hg (fun s H C cl fp => ht s H C cl fp) (fun s H C cl fp => he s H C cl fp) hs) (lc_imp hk)
/-- name = [..], the name a local -/
theorem ps_setLc' {i : Nat} {y : Str} {py spos : Pos} (hc : X.calm = true) (hN : X.N.Nodup) (hy : X.N[i]? = some y) (hyl : X.env.scope.names.lookup y = some .local) (hsw : swapsWith (.ListComp elt [⟨tg, iter, ifs, 0⟩] scope pos) (some (.Name y py)) spos.line X.env = pure true) (hi : PIv O X tg iter fi) (ok : BlkOk X.N X.env.scope scope own)
    (hg : ∀ (s : Shared) (H : Hp) (C : Addr) (cl : List (Str × Addr)) (fp : List Addr), PG (X.blk s H scope (compEnvC scope cl C X.env) fp) tg g) (hk : TgOk (evO O X) g ft (own.map (·.2)))
    (ht : ∀ (s : Shared) (H : Hp) (C : Addr) (cl : List (Str × Addr)) (fp : List Addr), PTbs O (X.blk s H scope (compEnvC scope cl C X.env) fp) ifs ft')
    (he : ∀ (s : Shared) (H : Hp) (C : Addr) (cl : List (Str × Addr)) (fp : List Addr), PEv O (X.blk s H scope (compEnvC scope cl C X.env) fp) elt fe) (hs : ∀ x, foldedSetIterable iter X.env x = pure x := by intro _; rfl) :
    PSv O X (.Assign [.Name y py] (.ListComp elt [⟨tg, iter, ifs, 0⟩] scope pos) spos) (setN i (lcE fi (lcBody (own.map (·.2)) ft ft' fe))) := by
  refine PS_imp (ps_setLc (tt := tt (evO O X) ft') (te := tv (evO O X) fe) hc hN hy hyl hsw hi ok hg (fun s H C cl fp => ht s H C cl fp) (fun s H C cl fp => he s H C cl fp) hs) fun D σ H q => ?_
  obtain ⟨G, ρ, st, fl, ρ', e, q⟩ := q
  unfold setN at e
  split at e
  · rename_i d ρ1 h1
    cases e
    exact lc_imp hk σ H _ ⟨G, ρ, st, d, ρ1, h1, fun a H1 H' st1 p1 s1 n o => q _ H' (st1.setNew s1 o n) (p1.trans (.of_same s1))⟩
  · cases e
/-! ### [elt for target in iter if .. for target1 in iter1 if ..] -/
def lc2Body (own : List Nat) (ft : PyData → Pu.Env → Option Pu.Env) (ft' : FB) (fi1 : FI) (body : FL) : FL := fun d ρ => match ft d (wipeE ρ own) with
  | some ρ1 => match ft' ρ1 with
    | some (true, ρ2) => match fi1 ρ2 with
      | some (xs, ρ3) => match lcLoop body xs ρ3 with
        | some (ys, ρ4) => some (ys, restoreE ρ ρ4 own)
        | none => none
      | none => none
    | some (false, ρ2) => some ([], restoreE ρ ρ2 own)
    | none => none
  | none => none
variable {tg1 iter1 : Expr} {ifs1 : List Expr} {own1 : List Nat} {fi1 : FI} {g1 : TG} {ft1 : PyData → Pu.Env → Option Pu.Env} {ft1' : FB}
theorem lc2_imp {own : List (Str × Nat)} {own1 : List Nat} (hv : ∀ i ∈ own1, i ∈ own.map (·.2)) (hk : TgOk (evO O X) g ft (own.map (·.2))) (hk1 : TgOk (evO O X) g1 ft1 own1) : ∀ (σ : St) (H : Hp) (Q : VK), tn (evO O X) (lcE fi (lc2Body (own.map (·.2)) ft ft' fi1 (lcBody own1 ft1 ft1' fe))) σ H Q → tLc2 (ti (evO O X) fi) g (tt (evO O X) ft') (ti (evO O X) fi1) g1 (tt (evO O X) ft1') (tv (evO O X) fe) (own.map (·.2)) own1 σ H Q := by
  intro σ H Q q
  obtain ⟨G, ρ, st, d, ρ', e, q⟩ := q
  unfold lcE at e
  split at e
  · rename_i ds ρ1 h1
    split at e
    · rename_i ys ρ2 h2
      split at e
      · rename_i hz
        cases e
        refine ⟨G, ρ, st, ds, ρ1, h1, fun J H1 st1 p1 ⟨Gp, Y, w, g0, gk, gy⟩ D hD => ?_⟩
        have gD := frm_new st1 hD
        have sm := same_upd (o := .lst []) hD
        refine lc_it2 w (fun i H2 => ∃ ρi vs ds' zs, StR (evO O X) G H2 σ ρi ∧ NotIn (evO O X) D H2 σ ρi ∧ H2 D = some (.lst vs) ∧ RepAll (evO O X) H2 vs ds' ∧ lcLoop (lc2Body (own.map (·.2)) ft ft' fi1 (lcBody own1 ft1 ft1' fe)) (ds.drop i) ρi = some (zs, ρ') ∧ ds' ++ zs = ys ∧ Pers H1 H2 ∧ Gp H2)
          ⟨ρ1, [], [], ys, st1.same sm, (NotIn.new hD).same st1 sm, upd_same, .nil, h2, rfl, .of_same sm, gk _ _ g0 (.of_same sm)⟩ (fun i H2 _ ⟨_, _, _, _, _, _, _, _, _, _, _, g⟩ => g) ?_ ?_
        · rintro i x H2 H3 hi ⟨ρi, vs, ds', zs, sti, ndi, hDi, rai, ei, eq, pi, gi⟩ y
          obtain ⟨d, hd, rd, sm3⟩ := gy i H2 x H3 hi gi y
          rw [drop_cons hd] at ei
          unfold lcLoop at ei
          have hD3 : H3 D = some (.lst vs) := sm3 _ _ hDi
          obtain ⟨S2, stb, kd, kb⟩ := (sti.same sm3).block (own.map (·.2)) (ndi.same sti sm3) gD ⟨_, hD3⟩
          have p3 := pi.trans (.of_same sm3)
          have g3 := gk _ _ gi (.of_same sm3)
          split at ei
          · rename_i ys1 ρa ha
            split at ei
            · rename_i zs2 ρb hb
              cases ei
              unfold lc2Body at ha
              split at ha
              · rename_i ρ1' hft
                refine hk x (L2.wipe σ (own.map (·.2))) H3 _ _ d ρ1' _ stb rd hft fun σ2 hw st2 => ?_
                rw [wipe_idem] at hw
                refine ⟨hw, ?_⟩
                split at ha
                · rename_i ρ2' hb'
                  refine ⟨_, ρ1', st2, true, ρ2', hb', fun H4 st4 p4 => iteT ?_⟩
                  split at ha
                  · rename_i xs ρ3' hfi
                    refine ⟨_, ρ2', st4, xs, ρ3', hfi, fun J1 H5 st5 p5 ⟨Gp1, Y1, w1, g10, gk1, gy1⟩ => ?_⟩
                    obtain ⟨kD5, nD5⟩ := kd H5 σ2 ρ3' st5
                    rw [hD3] at kD5
                    split at ha
                    · rename_i ys4 ρ4 hlc
                      cases ha
                      have gD2 : (Gd.mk (delH H3 D) S2 G.pins).H0 D = none ∨ D ∈ (Gd.mk (delH H3 D) S2 G.pins).S := .inl (if_pos rfl)
                      refine lc_it2 w1 (fun j H6 => ∃ ρj vs2 ds2 zs3, StR (evO O X) ⟨delH H3 D, S2, G.pins⟩ H6 σ2 ρj ∧ NotIn (evO O X) D H6 σ2 ρj ∧ H6 D = some (.lst vs2) ∧ RepAll (evO O X) H6 vs2 (ds' ++ ds2) ∧ lcLoop (lcBody own1 ft1 ft1' fe) (xs.drop j) ρj = some (zs3, ρ4) ∧ ds2 ++ zs3 = ys1 ∧ Pers H5 H6 ∧ Gp1 H6)
                        ⟨ρ3', vs, [], ys1, st5.noD D, nD5, kD5, by rw [List.append_nil]; exact ((rai.pers (.of_same sm3)).pers (p4.trans p5)), hlc, rfl, .refl _, g10⟩ (fun j H6 _ ⟨_, _, _, _, _, _, _, _, _, _, _, g⟩ => g) ?_ ?_
                      · rintro j x1 H6 H7 hj ⟨ρj, vs2, ds2, zs3, stj, ndj, hDj, raj, ej, eqj, pj, gj⟩ y1
                        obtain ⟨d1, hd1, rd1, sm7⟩ := gy1 j H6 x1 H7 hj gj y1
                        rw [drop_cons hd1] at ej
                        unfold lcLoop at ej
                        have hD7 : H7 D = some (.lst vs2) := sm7 _ _ hDj
                        obtain ⟨S3, stb1, kd1, kb1⟩ := (stj.same sm7).block own1 (ndj.same stj sm7) gD2 ⟨_, hD7⟩
                        have p7 := pj.trans (.of_same sm7)
                        have g7 := gk1 _ _ gj (.of_same sm7)
                        split at ej
                        · rename_i ys5 ρc hc1
                          split at ej
                          · rename_i zs6 ρd hd6
                            cases ej
                            unfold lcBody at hc1
                            split at hc1
                            · rename_i ρ1'' hft1
                              refine hk1 x1 (L2.wipe σ2 own1) H7 _ _ d1 ρ1'' _ stb1 rd1 hft1 fun σ3 hw1 st8 => ?_
                              rw [wipe_idem] at hw1
                              refine ⟨hw1, ?_⟩
                              split at hc1
                              · rename_i ρ2'' hb''
                                refine ⟨_, ρ1'', st8, true, ρ2'', hb'', fun H8 st9 p8 => iteT ?_⟩
                                split at hc1
                                · rename_i yv ρ3'' hy
                                  cases hc1
                                  refine ⟨_, ρ2'', st9, yv, ρ3'', hy, fun v H9 st10 p9 r9 => ?_⟩
                                  obtain ⟨kD9, nD9⟩ := kd1 H9 σ3 ρ3'' st10
                                  obtain ⟨stF, ndF⟩ := kb1 H9 σ3 ρ3'' (st10.noD D) nD9 hw1 (p8.trans p9)
                                  rw [hD7] at kD9
                                  have fr : Free (H9 D) := by rw [kD9]; exact trivial
                                  obtain ⟨stG, ndG⟩ := stF.offD (H' := upd H9 D (.lst (vs2 ++ [v]))) ndF fr (fun b hb => upd_ne hb) gD2
                                  have p89 := p8.trans p9
                                  have p10 : Pers H9 (upd H9 D (.lst (vs2 ++ [v]))) := .off fr fun b hb => upd_ne hb
                                  refine ⟨vs2, kD9, ?_, _, vs2 ++ [v], ds2 ++ [yv], zs6, stG, ndG, upd_same, ?_, hd6, ?_, ?_, ?_⟩
                                  · have e1 := raj.length
                                    have e2 := congrArg List.length eq
                                    have e3 := congrArg List.length eqj
                                    simp only [List.length_append, List.length_cons, List.length_nil] at e1 e2 e3
                                    omega
                                  · rw [← List.append_assoc]
                                    exact ((raj.pers (.of_same sm7)).pers (p89.trans p10)).append (.cons (r9.pers p10) .nil)
                                  · rw [← eqj]; simp
                                  · exact (p7.trans p89).trans p10
                                  · exact gk1 _ _ (gk1 _ _ g7 p89) p10
                                · cases hc1
                              · rename_i ρ2'' hb''
                                cases hc1
                                refine ⟨_, ρ1'', st8, false, ρ2'', hb'', fun H8 st9 p8 => iteF ?_⟩
                                obtain ⟨kD9, nD9⟩ := kd1 H8 σ3 ρ2'' st9
                                obtain ⟨stF, ndF⟩ := kb1 H8 σ3 ρ2'' (st9.noD D) nD9 hw1 p8
                                rw [hD7] at kD9
                                exact ⟨_, vs2, ds2, zs6, stF, ndF, kD9, (raj.pers (.of_same sm7)).pers p8, hd6, eqj, p7.trans p8, gk1 _ _ g7 p8⟩
                              · cases hc1
                            · cases hc1
                          · cases ej
                        · cases ej
                      · rintro H6 ⟨ρj, vs2, ds2, zs3, stj, ndj, hDj, raj, ej, eqj, pj, gj⟩
                        rw [List.drop_length] at ej
                        cases ej
                        rw [List.append_nil] at eqj
                        subst eqj
                        have p46 := (p4.trans p5).trans pj
                        obtain ⟨stF, ndF⟩ := kb H6 σ2 ρ4 stj ndj hw p46
                        exact ⟨_, vs2, ds' ++ ds2, zs2, stF, ndF, hDj, raj, hb, by rw [← eq, List.append_assoc], p3.trans p46, gk _ _ g3 p46⟩
                    · cases ha
                  · cases ha
                · rename_i ρ2' hb'
                  cases ha
                  refine ⟨_, ρ1', st2, false, ρ2', hb', fun H4 st4 p4 => iteF ?_⟩
                  obtain ⟨kD, nD⟩ := kd H4 σ2 ρ2' st4
                  obtain ⟨stF, ndF⟩ := kb H4 σ2 ρ2' (st4.noD D) nD hw p4
                  rw [hD3] at kD
                  exact ⟨_, vs, ds', zs2, stF, ndF, kD, (rai.pers (.of_same sm3)).pers p4, hb, eq, p3.trans p4, gk _ _ g3 p4⟩
                · cases ha
              · cases ha
            · cases ei
          · cases ei
        · rintro H2 ⟨ρi, vs, ds', zs, sti, ndi, hDi, rai, ei, eq, pi, gi⟩
          rw [List.drop_length] at ei
          cases ei
          rw [List.append_nil] at eq
          subst eq
          exact lc_end sti ndi hDi rai gD (p1.trans pi) q
      · cases e
    · cases e
  · cases e
theorem pn_lc2 (hc : X.calm = true) (hN : X.N.Nodup) (hi : PIv O X tg iter fi) (ok : BlkOk X.N X.env.scope scope own) (hv : ∀ i ∈ own1, i ∈ own.map (·.2))
    (hg : ∀ (s : Shared) (H : Hp) (C : Addr) (cl : List (Str × Addr)) (fp : List Addr), PG (X.blk s H scope (compEnvC scope cl C X.env) fp) tg g) (hk : TgOk (evO O X) g ft (own.map (·.2)))
    (ht : ∀ (s : Shared) (H : Hp) (C : Addr) (cl : List (Str × Addr)) (fp : List Addr), PTbs O (X.blk s H scope (compEnvC scope cl C X.env) fp) ifs ft')
    (hi1 : ∀ (s : Shared) (H : Hp) (C : Addr) (cl : List (Str × Addr)) (fp : List Addr), PIv O (X.blk s H scope (compEnvC scope cl C X.env) fp) tg1 iter1 fi1)
    (hg1 : ∀ (s : Shared) (H : Hp) (C : Addr) (cl : List (Str × Addr)) (fp : List Addr), PG (X.blk s H scope (compEnvC scope cl C X.env) fp) tg1 g1) (hk1 : TgOk (evO O X) g1 ft1 own1)
    (ht1 : ∀ (s : Shared) (H : Hp) (C : Addr) (cl : List (Str × Addr)) (fp : List Addr), PTbs O (X.blk s H scope (compEnvC scope cl C X.env) fp) ifs1 ft1')
    (he : ∀ (s : Shared) (H : Hp) (C : Addr) (cl : List (Str × Addr)) (fp : List Addr), PEv O (X.blk s H scope (compEnvC scope cl C X.env) fp) elt fe) (hs : ∀ x, foldedSetIterable iter X.env x = pure x := by intro _; rfl) (hs1 : ∀ env x, foldedSetIterable iter1 env x = pure x := by intro _ _; rfl) :
    PEn O X (.ListComp elt [⟨tg, iter, ifs, 0⟩, ⟨tg1, iter1, ifs1, 0⟩] scope pos) (lcE fi (lc2Body (own.map (·.2)) ft ft' fi1 (lcBody own1 ft1 ft1' fe))) := by
  refine PE_imp (pe_lc2 (tt := tt (evO O X) ft') (tt1 := tt (evO O X) ft1') (wi1 := ti (evO O X) fi1) (te := tv (evO O X) fe) hc hN hi ok hv hg (fun s H C cl fp => ht s H C cl fp) (fun s H C cl fp => hi1 s H C cl fp) hg1 (fun s H C cl fp => ht1 s H C cl fp) (fun s H C cl fp => he s H C cl fp) hs hs1) (lc2_imp hv hk hk1)
theorem ps_setLc2' {i : Nat} {y : Str} {py spos : Pos} (hc : X.calm = true) (hN : X.N.Nodup) (hy : X.N[i]? = some y) (hyl : X.env.scope.names.lookup y = some .local) (hsw : swapsWith (.ListComp elt [⟨tg, iter, ifs, 0⟩, ⟨tg1, iter1, ifs1, 0⟩] scope pos) (some (.Name y py)) spos.line X.env = pure true) (hi : PIv O X tg iter fi) (ok : BlkOk X.N X.env.scope scope own) (hv : ∀ i ∈ own1, i ∈ own.map (·.2))
    (hg : ∀ (s : Shared) (H : Hp) (C : Addr) (cl : List (Str × Addr)) (fp : List Addr), PG (X.blk s H scope (compEnvC scope cl C X.env) fp) tg g) (hk : TgOk (evO O X) g ft (own.map (·.2)))
    (ht : ∀ (s : Shared) (H : Hp) (C : Addr) (cl : List (Str × Addr)) (fp : List Addr), PTbs O (X.blk s H scope (compEnvC scope cl C X.env) fp) ifs ft')
    (hi1 : ∀ (s : Shared) (H : Hp) (C : Addr) (cl : List (Str × Addr)) (fp : List Addr), PIv O (X.blk s H scope (compEnvC scope cl C X.env) fp) tg1 iter1 fi1)
    (hg1 : ∀ (s : Shared) (H : Hp) (C : Addr) (cl : List (Str × Addr)) (fp : List Addr), PG (X.blk s H scope (compEnvC scope cl C X.env) fp) tg1 g1) (hk1 : TgOk (evO O X) g1 ft1 own1)
    (ht1 : ∀ (s : Shared) (H : Hp) (C : Addr) (cl : List (Str × Addr)) (fp : List Addr), PTbs O (X.blk s H scope (compEnvC scope cl C X.env) fp) ifs1 ft1')
    (he : ∀ (s : Shared) (H : Hp) (C : Addr) (cl : List (Str × Addr)) (fp : List Addr), PEv O (X.blk s H scope (compEnvC scope cl C X.env) fp) elt fe) (hs : ∀ x, foldedSetIterable iter X.env x = pure x := by intro _; rfl) (hs1 : ∀ env x, foldedSetIterable iter1 env x = pure x := by intro _ _; rfl) :
    PSv O X (.Assign [.Name y py] (.ListComp elt [⟨tg, iter, ifs, 0⟩, ⟨tg1, iter1, ifs1, 0⟩] scope pos) spos) (setN i (lcE fi (lc2Body (own.map (·.2)) ft ft' fi1 (lcBody own1 ft1 ft1' fe)))) := by
  refine PS_imp (ps_setLc2 (tt := tt (evO O X) ft') (tt1 := tt (evO O X) ft1') (wi1 := ti (evO O X) fi1) (te := tv (evO O X) fe) hc hN hy hyl hsw hi ok hv hg (fun s H C cl fp => ht s H C cl fp) (fun s H C cl fp => hi1 s H C cl fp) hg1 (fun s H C cl fp => ht1 s H C cl fp) (fun s H C cl fp => he s H C cl fp) hs hs1) fun D σ H q => ?_
  obtain ⟨G, ρ, st, fl, ρ', e, q⟩ := q
  unfold setN at e
  split at e
  · rename_i d ρ1 h1
    cases e
    exact lc2_imp hv hk hk1 σ H _ ⟨G, ρ, st, d, ρ1, h1, fun a H1 H' st1 p1 s1 n o => q _ H' (st1.setNew s1 o n) (p1.trans (.of_same s1))⟩
  · cases e
end
end L2.Pu

/-! The pure layer, 5: defs and their calls. -/
namespace L2.Pu
open PySem PySem.Spec PyProof.Rows

/-- how an argument is handed in: a value; a list or dict to be changed and handed back; an object -/
inductive Md
  | v | o | b
  deriving DecidableEq
def Md.ob : Md → Bool
  | .b => true
  | _ => false
inductive ArgsR (E : Ev) (H : Hp) : List Md → List V → List PyData → List Addr → Prop
  | nil : ArgsR E H [] [] [] []
  | v {ms : List Md} {x : V} {xs : List V} {d : PyData} {ds : List PyData} {fps : List Addr} : Rep E H x d → ArgsR E H ms xs ds fps → ArgsR E H (.v :: ms) (x :: xs) (d :: ds) fps
  | o {m : Md} {ms : List Md} {a : Addr} {xs : List V} {d : PyData} {ds : List PyData} {fp fps : List Addr} : m ≠ .v → OwnS E H m.ob a d fp → ArgsR E H ms xs ds fps → ArgsR E H (m :: ms) (.ref a :: xs) (d :: ds) (fp ++ fps)
inductive OutsR (E : Ev) (H : Hp) : List Md → List V → List PyData → List Addr → Prop
  | nil : OutsR E H [] [] [] []
  | v {ms : List Md} {x : V} {xs : List V} {os : List PyData} {fps : List Addr} : OutsR E H ms xs os fps → OutsR E H (.v :: ms) (x :: xs) os fps
  | o {m : Md} {ms : List Md} {a : Addr} {xs : List V} {d : PyData} {os : List PyData} {fp fps : List Addr} : m ≠ .v → OwnS E H m.ob a d fp → OutsR E H ms xs os fps → OutsR E H (m :: ms) (.ref a :: xs) (d :: os) (fp ++ fps)
abbrev FD := List PyData → Option (PyData × List PyData)
def SpecOf (E : Ev) (ms : List Md) (F : FD) : Sp := fun vs H Q _ => ∃ ds fps, ArgsR E H ms vs ds fps ∧ fps.Nodup ∧ ∃ r outs, F ds = some (r, outs) ∧
  ∀ v H' fps', Rep E H' v r → OutsR E H' ms vs outs fps' → fps'.Nodup → (∀ b ∈ fps', b ∈ fps ∨ H b = none) → Pers H H' → (∀ b o, H b = some o → b ∉ fps → H' b = some o) → Q v H'
def slOf (m : Md) (d : PyData) : Sl := match m with
  | .v => .val d
  | .o => .own true false d
  | .b => .own true true d
def initEnv (ms : List Md) (ds : List PyData) (n : Nat) : Pu.Env := List.zipWith slOf ms ds ++ List.replicate (n - ds.length) .un
def outsOf : List Md → Pu.Env → Option (List PyData)
  | [], _ => some []
  | .v :: ms, _ :: ρ => outsOf ms ρ
  | .o :: ms, .own true false d :: ρ => match outsOf ms ρ with
    | some ds => some (d :: ds)
    | none => none
  | .b :: ms, .own true true d :: ρ => match outsOf ms ρ with
    | some ds => some (d :: ds)
    | none => none
  | _, _ => none
def runDef (n : Nat) (ms : List Md) (f : FS) : FD := fun ds => match f (initEnv ms ds n) with
  | some (.rt d, ρ) => match outsOf ms ρ with
    | some os => some (d, os)
    | none => none
  | some (.nx, ρ) => match outsOf ms ρ with
    | some os => some (.none, os)
    | none => none
  | _ => none
section
variable {E : Ev} {H H' : Hp} {ms : List Md} {vs : List V} {ds : List PyData} {fps : List Addr}
theorem ArgsR.len : ∀ {ms : List Md} {vs : List V} {ds : List PyData} {fps : List Addr}, ArgsR E H ms vs ds fps → vs.length = ms.length ∧ ds.length = ms.length
  | _, _, _, _, .nil => ⟨rfl, rfl⟩
  | _, _, _, _, .v _ t => by obtain ⟨a, b⟩ := t.len; exact ⟨by simp [a], by simp [b]⟩
  | _, _, _, _, .o _ _ t => by obtain ⟨a, b⟩ := t.len; exact ⟨by simp [a], by simp [b]⟩
theorem ArgsR.getV : ∀ {ms : List Md} {vs : List V} {ds : List PyData} {fps : List Addr} {i : Nat} {d : PyData}, ArgsR E H ms vs ds fps → (List.zipWith slOf ms ds)[i]? = some (.val d) → ∃ v, vs[i]? = some v ∧ Rep E H v d
  | _, _, _, _, _, _, .nil, h => by simp at h
  | _, _, _, _, 0, _, .v r _, h => by simp [slOf] at h; subst h; exact ⟨_, rfl, r⟩
  | _, _, _, _, 0, _, .o (m := m) n ow _, h => by cases m <;> simp [slOf] at h n
  | _, _, _, _, i + 1, _, .v _ t, h => by
    obtain ⟨v, a, b⟩ := t.getV (i := i) (by simpa using h)
    exact ⟨v, by simpa using a, b⟩
  | _, _, _, _, i + 1, _, .o _ _ t, h => by
    obtain ⟨v, a, b⟩ := t.getV (i := i) (by simpa using h)
    exact ⟨v, by simpa using a, b⟩
theorem zip_noRaw : ∀ {ms : List Md} {ds : List PyData} {i : Nat} {v : V}, (List.zipWith slOf ms ds)[i]? ≠ some (.raw v)
  | [], _, _, _ => by simp
  | _ :: _, [], _, _ => by simp
  | m :: _, _ :: _, 0, _ => by cases m <;> simp [slOf]
  | _ :: ms, _ :: ds, i + 1, v => by simpa using zip_noRaw (ms := ms) (ds := ds) (i := i) (v := v)
theorem ArgsR.getO : ∀ {ms : List Md} {vs : List V} {ds : List PyData} {fps : List Addr} {i : Nat} {io ob : Bool} {d : PyData}, ArgsR E H ms vs ds fps → (List.zipWith slOf ms ds)[i]? = some (.own io ob d) →
    ∃ a fp, vs[i]? = some (.ref a) ∧ OwnS E H ob a d fp ∧ ∀ b ∈ fp, b ∈ fps
  | _, _, _, _, _, _, _, _, .nil, h => by simp at h
  | _, _, _, _, 0, _, _, _, .v r _, h => by simp [slOf] at h
  | _, _, _, _, 0, _, _, _, .o (m := m) (a := a) (fp := fp) n ow _, h => by
    cases m with
    | v => exact absurd rfl n
    | o => simp [slOf] at h; obtain ⟨_, rfl, rfl⟩ := h; exact ⟨a, fp, rfl, ow, fun b hb => List.mem_append_left _ hb⟩
    | b => simp [slOf] at h; obtain ⟨_, rfl, rfl⟩ := h; exact ⟨a, fp, rfl, ow, fun b hb => List.mem_append_left _ hb⟩
  | _, _, _, _, i + 1, _, _, _, .v _ t, h => by
    obtain ⟨a, fp, x, y, z⟩ := t.getO (i := i) (by simpa using h)
    exact ⟨a, fp, by simpa using x, y, z⟩
  | _, _, _, _, i + 1, _, _, _, .o _ _ t, h => by
    obtain ⟨a, fp, x, y, z⟩ := t.getO (i := i) (by simpa using h)
    exact ⟨a, fp, by simpa using x, y, fun b hb => List.mem_append_right _ (z b hb)⟩
theorem slOf_own {m : Md} {d d' : PyData} {io ob : Bool} (h : slOf m d = .own io ob d') : ob = m.ob := by
  cases m with
  | v => cases h
  | o => cases h; rfl
  | b => cases h; rfl
theorem ArgsR.sep : ∀ {ms : List Md} {vs : List V} {ds : List PyData} {fps : List Addr} {i j : Nat} {io ob io' ob' : Bool} {d d' : PyData} {a a' : Addr} {fp fp' : List Addr}, ArgsR E H ms vs ds fps → fps.Nodup → i < j →
    (List.zipWith slOf ms ds)[i]? = some (.own io ob d) → (List.zipWith slOf ms ds)[j]? = some (.own io' ob' d') → vs[i]? = some (.ref a) → vs[j]? = some (.ref a') → OwnS E H ob a d fp → OwnS E H ob' a' d' fp' → ∀ b ∈ fp, b ∉ fp'
  | _, _, _, _, _, _, _, _, _, _, _, _, _, _, _, _, .nil, _, _, h, _, _, _, _, _ => by simp at h
  | _, _, _, _, 0, j, _, _, _, _, _, _, _, _, _, _, .v r _, _, _, h, _, _, _, _, _ => by simp [slOf] at h
  | _, _, _, _, 0, 0, _, _, _, _, _, _, _, _, _, _, .o _ _ _, _, hij, _, _, _, _, _, _ => absurd hij (Nat.lt_irrefl _)
  | _, _, _, _, 0, j + 1, _, _, _, _, _, _, _, _, _, _, .o (m := m) n ow t, nd, _, h, h', g, g', q, q' => by
    simp only [List.getElem?_cons_zero, Option.some.injEq, V.ref.injEq] at g
    subst g
    simp only [List.zipWith_cons_cons, List.getElem?_cons_zero, Option.some.injEq] at h
    obtain rfl := slOf_own h
    rw [q.uniq ow]
    obtain ⟨a2, fp2, x, y, z⟩ := t.getO (i := j) (by simpa using h')
    simp at g'
    rw [g'] at x; cases x
    rw [q'.uniq y]
    intro b hb hb'
    exact (List.nodup_append.mp nd).2.2 b hb b (z b hb') rfl
  | _, _, _, _, i + 1, 0, _, _, _, _, _, _, _, _, _, _, _, _, hij, _, _, _, _, _, _ => absurd hij (Nat.not_lt_zero _)
  | _, _, _, _, i + 1, j + 1, _, _, _, _, _, _, _, _, _, _, .v _ t, nd, hij, h, h', g, g', q, q' => t.sep (i := i) (j := j) nd (Nat.lt_of_succ_lt_succ hij) (by simpa using h) (by simpa using h') (by simpa using g) (by simpa using g') q q'
  | _, _, _, _, i + 1, j + 1, _, _, _, _, _, _, _, _, _, _, .o _ _ t, nd, hij, h, h', g, g', q, q' => t.sep (i := i) (j := j) (List.nodup_append.mp nd).2.1 (Nat.lt_of_succ_lt_succ hij) (by simpa using h) (by simpa using h') (by simpa using g) (by simpa using g') q q'
def pinsOf (vs : List V) : List (Nat × Addr) := (List.range vs.length).filterMap fun i => match vs[i]? with
  | some (V.ref a) => some (i, a)
  | _ => none
theorem mem_pinsOf {vs : List V} {i : Nat} {a : Addr} : (i, a) ∈ pinsOf vs ↔ vs[i]? = some (V.ref a) := by
  unfold pinsOf
  rw [List.mem_filterMap]
  constructor
  · rintro ⟨j, hj, e⟩
    split at e
    · rename_i b h
      cases e; exact h
    · cases e
  · intro h
    refine ⟨i, List.mem_range.mpr (List.getElem?_eq_some_iff.mp h).1, ?_⟩
    rw [h]
theorem start_get {N : List Str} {vs : List V} {i : Nat} {v : V} (h : vs[i]? = some v) : (start N vs)[i]? = some (some v) := by
  have hi := (List.getElem?_eq_some_iff.mp h).1
  unfold start
  rw [List.getElem?_append_left (by simpa using hi), List.getElem?_map, h]
  rfl
theorem start_inv {N : List Str} {vs : List V} {i : Nat} {v : V} (h : (start N vs)[i]? = some (some v)) : vs[i]? = some v := by
  unfold start at h
  by_cases hi : i < vs.length
  · rw [List.getElem?_append_left (by simpa using hi), List.getElem?_map] at h
    cases e : vs[i]? with
    | none => rw [e] at h; cases h
    | some a => rw [e] at h; cases h; rfl
  · rw [List.getElem?_append_right (by simpa using hi), List.getElem?_replicate] at h
    split at h <;> cases h
theorem initEnv_get {ms : List Md} {ds : List PyData} {n i : Nat} {s : Sl} (h : (initEnv ms ds n)[i]? = some s) (hs : s ≠ .un) : (List.zipWith slOf ms ds)[i]? = some s := by
  unfold initEnv at h
  by_cases hi : i < (List.zipWith slOf ms ds).length
  · rw [List.getElem?_append_left hi] at h; exact h
  · rw [List.getElem?_append_right (by omega), List.getElem?_replicate] at h
    split at h
    · cases h; exact absurd rfl hs
    · cases h
theorem str_start {N : List Str} (hl : vs.length ≤ N.length) (a : ArgsR E H ms vs ds fps) (nd : fps.Nodup) : StR E ⟨H, fps, pinsOf vs⟩ H (start N vs) (initEnv ms ds N.length) where
  len := by
    obtain ⟨l1, l2⟩ := a.len
    simp [start, initEnv]
    omega
  val := fun i d h => by
    obtain ⟨v, x, y⟩ := a.getV (initEnv_get h (fun z => nomatch z))
    exact ⟨v, start_get x, y⟩
  raw := fun i d h => absurd (initEnv_get h (fun z => nomatch z)) zip_noRaw
  own := fun i io ob d h => by
    obtain ⟨b, fp, x, y, z⟩ := a.getO (initEnv_get h (fun z => nomatch z))
    exact ⟨b, fp, start_get x, y, fun c hc => .inl (z c hc), fun _ => mem_pinsOf.mpr x⟩
  sep := fun i j io ob d io' ob' d' b b' fp fp' hij h h' g g' o o' => by
    have h := initEnv_get h (fun z => nomatch z)
    have h' := initEnv_get h' (fun z => nomatch z)
    have g := start_inv g
    have g' := start_inv g'
    rcases Nat.lt_or_gt_of_ne hij with q | q
    · exact a.sep nd q h h' g g' o o'
    · intro c hc hc'
      exact a.sep nd q h' h g' g o' o c hc' hc
  frm := fun b o h _ => h
theorem OwnS.nodup {ob : Bool} {a : Addr} {d : PyData} {fp : List Addr} (h : OwnS E H ob a d fp) : fp.Nodup := by
  cases h with
  | plain _ => simp
  | obj h o =>
    rename_i b dx
    have : a ≠ b := fun e => by
      subst e
      cases o with
      | lst h' _ => rw [h] at h'; cases h'
      | dK h' _ => rw [h] at h'; cases h'
      | dX h' _ => rw [h] at h'; cases h'
    simp [this]
theorem outs_ok {σ : St} {ρ : Pu.Env} {S : List Addr} (x : StR E ⟨H, S, pinsOf vs⟩ H' σ ρ) : ∀ (ms' : List Md) (vs' : List V) (ρs : Pu.Env) (k : Nat) (outs : List PyData), (∀ j, ρs[j]? = ρ[k + j]?) → (∀ j, vs'[j]? = vs[k + j]?) → vs'.length = ms'.length → outsOf ms' ρs = some outs →
    ∃ fps', OutsR E H' ms' vs' outs fps' ∧ fps'.Nodup ∧ ∀ b ∈ fps', (b ∈ S ∨ H b = none) ∧ ∃ (i : Nat) (io ob : Bool) (d : PyData) (a : Addr) (fp : List Addr), k ≤ i ∧ ρ[i]? = some (.own io ob d) ∧ σ[i]? = some (some (.ref a)) ∧ OwnS E H' ob a d fp ∧ b ∈ fp := by
  intro ms'
  induction ms' with
  | nil =>
    intro vs' ρs k outs h1 h2 h3 h4
    unfold outsOf at h4
    cases h4
    obtain rfl := List.length_eq_zero_iff.mp h3
    exact ⟨[], .nil, by simp, fun b hb => by cases hb⟩
  | cons m ms' ih =>
    intro vs' ρs k outs h1 h2 h3 h4
    cases vs' with
    | nil => cases h3
    | cons w vs' =>
      have h3' : vs'.length = ms'.length := by simpa using h3
      have hw : vs[k]? = some w := by have := h2 0; simpa using this.symm
      have h2' : ∀ j, vs'[j]? = vs[k + 1 + j]? := fun j => by
        have := h2 (j + 1)
        rw [List.getElem?_cons_succ] at this
        rw [this, show k + (j + 1) = k + 1 + j by omega]
      cases ρs with
      | nil => cases m <;> cases h4
      | cons s ρs =>
        have hs : ρ[k]? = some s := by have := h1 0; simpa using this.symm
        have h1' : ∀ j, ρs[j]? = ρ[k + 1 + j]? := fun j => by
          have := h1 (j + 1)
          rw [List.getElem?_cons_succ] at this
          rw [this, show k + (j + 1) = k + 1 + j by omega]
        have own : ∀ (ob : Bool) (d : PyData) (os : List PyData) (n : m ≠ .v) (e : m.ob = ob), s = .own true ob d → outsOf ms' ρs = some os → outs = d :: os →
            ∃ fps', OutsR E H' (m :: ms') (w :: vs') outs fps' ∧ fps'.Nodup ∧ ∀ b ∈ fps', (b ∈ S ∨ H b = none) ∧ ∃ (i : Nat) (io ob : Bool) (d : PyData) (a : Addr) (fp : List Addr), k ≤ i ∧ ρ[i]? = some (.own io ob d) ∧ σ[i]? = some (some (.ref a)) ∧ OwnS E H' ob a d fp ∧ b ∈ fp := by
          intro ob d os n e es eo eq
          subst es eq
          obtain ⟨fps', q1, q2, q3⟩ := ih vs' ρs (k + 1) os h1' h2' h3' eo
          obtain ⟨a, fp, p1, p2, p3, p4⟩ := x.own k true ob d hs
          have p5 := mem_pinsOf.mp (p4 rfl)
          rw [hw] at p5; cases p5
          refine ⟨fp ++ fps', .o n (by rw [e]; exact p2) q1, List.nodup_append.mpr ⟨p2.nodup, q2, fun b hb c hc hbc => ?_⟩, fun b hb => ?_⟩
          · subst hbc
            obtain ⟨_, i, io, ob', d', a', fp'', r0, r1, r2, r3, r4⟩ := q3 b hc
            exact x.sep k i true ob d io ob' d' a a' fp fp'' (by omega) hs r1 p1 r2 p2 r3 b hb r4
          · rcases List.mem_append.mp hb with hb | hb
            · exact ⟨p3 b hb, k, true, ob, d, a, fp, Nat.le_refl _, hs, p1, p2, hb⟩
            · obtain ⟨c, i, io, ob', d', a', fp'', r0, r⟩ := q3 b hb
              exact ⟨c, i, io, ob', d', a', fp'', by omega, r⟩
        cases m with
        | v =>
          unfold outsOf at h4
          obtain ⟨fps', q1, q2, q3⟩ := ih vs' ρs (k + 1) outs h1' h2' h3' h4
          exact ⟨fps', .v q1, q2, fun b hb => let ⟨c, i, io, ob', d', a', fp'', r0, r⟩ := q3 b hb; ⟨c, i, io, ob', d', a', fp'', by omega, r⟩⟩
        | o =>
          cases s with
          | own io ob d =>
            cases io with
            | false => simp [outsOf] at h4
            | true =>
              cases ob with
              | true => simp [outsOf] at h4
              | false =>
                unfold outsOf at h4
                split at h4
                · rename_i ds2 h5
                  cases h4
                  exact own false d ds2 (by decide) rfl rfl h5 rfl
                · cases h4
          | _ => simp [outsOf] at h4
        | b =>
          cases s with
          | own io ob d =>
            cases io with
            | false => simp [outsOf] at h4
            | true =>
              cases ob with
              | false => simp [outsOf] at h4
              | true =>
                unfold outsOf at h4
                split at h4
                · rename_i ds2 h5
                  cases h4
                  exact own true d ds2 (by decide) rfl rfl h5 rfl
                · cases h4
          | _ => simp [outsOf] at h4
/-- a def's body read as data: its promise -/
theorem body_ok {N : List Str} {f : FS} {Q : VK} {Ex : XK} (hl : ms.length ≤ N.length) (h : SpecOf E ms (runDef N.length ms f) vs H Q Ex) : ts E f { nx := fun _ H' => Q .non H', rt := Q } (start N vs) H := by
  obtain ⟨ds, fps, a, nd, r, outs, e, q⟩ := h
  obtain ⟨l1, l2⟩ := a.len
  have st := str_start (N := N) (by omega) a nd
  unfold runDef at e
  split at e
  · rename_i d ρ h1
    split at e
    · rename_i os h2
      cases e
      refine ⟨_, _, st, _, ρ, h1, fun v σ' H' st' p' r' => ?_⟩
      obtain ⟨fps', q1, q2, q3⟩ := outs_ok st' ms vs ρ 0 outs (fun j => by simp) (fun j => by simp) l1 h2
      exact q v H' fps' r' q1 q2 (fun b hb => (q3 b hb).1) p' st'.frm
    · cases e
  · rename_i ρ h1
    split at e
    · rename_i os h2
      cases e
      refine ⟨_, _, st, _, ρ, h1, fun σ' H' st' p' => ?_⟩
      obtain ⟨fps', q1, q2, q3⟩ := outs_ok st' ms vs ρ 0 outs (fun j => by simp) (fun j => by simp) l1 h2
      exact q .non H' fps' .non q1 q2 (fun b hb => (q3 b hb).1) p' st'.frm
    · cases e
  · cases e
theorem spec_len {F : FD} {Q : VK} {Ex : XK} (h : SpecOf E ms F vs H Q Ex) : vs.length = ms.length := by
  obtain ⟨ds, fps, a, _⟩ := h
  exact a.len.1
end

/-! ### a def as it stands -/
structure Known (P : Program) (w : World) (K : PySem.W.Frag) (mg : Str → Option Value) (base : Heap) (O : Addr × Str) (x : Str) (k : Nat) (ms : List Md) (F : FD) : Prop where
  ex : ∃ (f : Addr) (fd : FuncData) (ps : List Str), mg x = some (.ref f) ∧ PySem.W.keepIn K (.ref f) = true ∧ Binds K fd ps [] ∧ FnOk P w K mg base CX0 k f fd ps (SpecOf ⟨P, w, K, O.1, O.2⟩ ms F)
/-- a method -/
structure KnownM (P : Program) (w : World) (K : PySem.W.Frag) (mg : Str → Option Value) (base : Heap) (O : Addr × Str) (x : Str) (k : Nat) (ms : List Md) (F : FD) : Prop where
  ex : ∃ (f : Addr) (fd : FuncData) (ps : List Str), Cls K O.1 ∧ Meth K O.1 x f ∧ x ≠ O.2 ∧ Binds K fd ps [] ∧ FnOk P w K mg base CX0 k f fd ps (SpecOf ⟨P, w, K, O.1, O.2⟩ ms F)
theorem Known.mono {P : Program} {w : World} {K : PySem.W.Frag} {mg : Str → Option Value} {base : Heap} {O : Addr × Str} {x : Str} {j k : Nat} {ms : List Md} {F : FD} (h : Known P w K mg base O x j ms F) (l : j ≤ k) : Known P w K mg base O x k ms F :=
  ⟨let ⟨f, fd, ps, a, b, c, d⟩ := h.ex; ⟨f, fd, ps, a, b, c, d.mono l⟩⟩
theorem KnownM.mono {P : Program} {w : World} {K : PySem.W.Frag} {mg : Str → Option Value} {base : Heap} {O : Addr × Str} {x : Str} {j k : Nat} {ms : List Md} {F : FD} (h : KnownM P w K mg base O x j ms F) (l : j ≤ k) : KnownM P w K mg base O x k ms F :=
  ⟨let ⟨f, fd, ps, a, b, c, d, e⟩ := h.ex; ⟨f, fd, ps, a, b, c, d, e.mono l⟩⟩

/-! ### calls -/
def argsOf : List Md → List Opd → Pu.Env → Option (List PyData)
  | [], [], _ => some []
  | .v :: ms, .d x :: os, ρ => match argsOf ms os ρ with
    | some ds => some (x :: ds)
    | none => none
  | .o :: ms, .sl i :: os, ρ => match ρ[i]? with
    | some (.own _ false d) => match argsOf ms os ρ with
      | some ds => some (d :: ds)
      | none => none
    | _ => none
  | .b :: ms, .sl i :: os, ρ => match ρ[i]? with
    | some (.own _ true d) => match argsOf ms os ρ with
      | some ds => some (d :: ds)
      | none => none
    | _ => none
  | _, _, _ => none
def slotsOf : List Md → List Opd → List Nat
  | .v :: ms, _ :: os => slotsOf ms os
  | _ :: ms, .sl i :: os => i :: slotsOf ms os
  | _, _ => []
def setOut (ρ : Pu.Env) (i : Nat) (d : PyData) : Pu.Env := match ρ[i]? with
  | some (.own io ob _) => ρ.set i (.own io ob d)
  | _ => ρ
def setOuts : List Md → List Opd → List PyData → Pu.Env → Pu.Env
  | .v :: ms, _ :: os, ds, ρ => setOuts ms os ds ρ
  | _ :: ms, .sl i :: os, d :: ds, ρ => setOuts ms os ds (setOut ρ i d)
  | _, _, _, ρ => ρ
def nodupB : List Nat → Bool
  | [] => true
  | a :: l => !l.contains a && nodupB l
theorem nodupB_ok : ∀ {l : List Nat}, nodupB l = true → l.Nodup
  | [], _ => by simp
  | a :: l, h => by
    unfold nodupB at h
    rw [Bool.and_eq_true] at h
    obtain ⟨h1, h2⟩ := h
    exact List.nodup_cons.mpr ⟨fun z => by simp [z] at h1, nodupB_ok h2⟩
def callF (ms : List Md) (F : FD) (g : FA) : FE := fun ρ => match g ρ with
  | some (os, ρ1) => match argsOf ms os ρ1 with
    | some ds => if nodupB (slotsOf ms os) then match F ds with
        | some (r, outs) => some (r, setOuts ms os outs ρ1)
        | none => none
      else none
    | none => none
  | none => none

/-- the slots that a call changes -/
structure UE where
  i : Nat
  io : Bool
  ob : Bool
  d0 : PyData
  d : PyData
  a : Addr
  fp0 : List Addr
  fp : List Addr
def setU : List UE → Pu.Env → Pu.Env
  | [], ρ => ρ
  | u :: us, ρ => setU us (ρ.set u.i (.own u.io u.ob u.d))
theorem setU_out {j : Nat} : ∀ {us : List UE} {ρ : Pu.Env}, (∀ u ∈ us, u.i ≠ j) → (setU us ρ)[j]? = ρ[j]?
  | [], _, _ => rfl
  | u :: us, ρ, h => by
    unfold setU
    rw [setU_out fun w hw => h w (List.mem_cons_of_mem _ hw), List.getElem?_set_ne (h u List.mem_cons_self)]
theorem setU_len : ∀ {us : List UE} {ρ : Pu.Env}, (setU us ρ).length = ρ.length
  | [], _ => rfl
  | u :: us, ρ => by unfold setU; rw [setU_len, List.length_set]
theorem setU_in : ∀ {us : List UE} {ρ : Pu.Env} {u : UE}, (us.map (·.i)).Nodup → u ∈ us → u.i < ρ.length → (setU us ρ)[u.i]? = some (.own u.io u.ob u.d)
  | [], _, _, _, h, _ => by cases h
  | v :: us, ρ, u, nd, h, hl => by
    unfold setU
    rw [List.map_cons, List.nodup_cons] at nd
    rcases List.mem_cons.mp h with rfl | h
    · rw [setU_out fun w hw e => nd.1 (by rw [← e]; exact List.mem_map_of_mem hw), List.getElem?_set_self hl]
    · exact setU_in nd.2 h (by rw [List.length_set]; exact hl)
section
variable {E : Ev} {G : Gd} {H H' : Hp} {σ : St} {ρ : Pu.Env}
/-- several slots' own things are changed -/
theorem StR.setU (x : StR E G H σ ρ) {us : List UE} (nd : (us.map (·.i)).Nodup) (old : ∀ u ∈ us, ρ[u.i]? = some (.own u.io u.ob u.d0) ∧ σ[u.i]? = some (some (.ref u.a)) ∧ OwnS E H u.ob u.a u.d0 u.fp0)
    (new : ∀ u ∈ us, OwnS E H' u.ob u.a u.d u.fp) (fr : ∀ u ∈ us, ∀ b ∈ u.fp, (∃ w ∈ us, b ∈ w.fp0) ∨ H b = none) (ap : ∀ u ∈ us, ∀ w ∈ us, u.i ≠ w.i → ∀ b ∈ u.fp, b ∉ w.fp) (p : Pers H H')
    (k : ∀ b o, H b = some o → (∀ u ∈ us, b ∉ u.fp0) → H' b = some o) : StR E G H' σ (Pu.setU us ρ) := by
  have cs : ∀ {j : Nat} {s : Sl}, (Pu.setU us ρ)[j]? = some s → (∃ u ∈ us, u.i = j ∧ s = .own u.io u.ob u.d) ∨ ((∀ u ∈ us, u.i ≠ j) ∧ ρ[j]? = some s) := fun {j s} h => by
    by_cases hj : ∃ u ∈ us, u.i = j
    · obtain ⟨u, hu, e⟩ := hj
      subst e
      rw [setU_in nd hu (List.getElem?_eq_some_iff.mp (old u hu).1).1] at h
      cases h
      exact .inl ⟨u, hu, rfl, rfl⟩
    · have hn : ∀ u ∈ us, u.i ≠ j := fun u hu e => hj ⟨u, hu, e⟩
      rw [setU_out hn] at h
      exact .inr ⟨hn, h⟩
  have oth : ∀ {j : Nat} {io ob : Bool} {d : PyData} {a : Addr} {fp : List Addr}, (∀ u ∈ us, u.i ≠ j) → ρ[j]? = some (.own io ob d) → σ[j]? = some (some (.ref a)) → OwnS E H ob a d fp → OwnS E H' ob a d fp ∧ ∀ b ∈ fp, ∀ u ∈ us, b ∉ u.fp0 := fun {j io ob d a fp} hn h h' o => by
    have z : ∀ b ∈ fp, ∀ u ∈ us, b ∉ u.fp0 := fun b hb u hu hb' => by
      obtain ⟨q1, q2, q3⟩ := old u hu
      exact x.sep u.i j _ _ _ _ _ _ _ _ _ _ (hn u hu) q1 h q2 h' q3 o b hb' hb
    exact ⟨o.keep p fun b hb o' ho => k b o' ho (z b hb), z⟩
  refine ⟨by rw [setU_len]; exact x.len, fun j d h => ?_, fun j d h => ?_, fun j io ob d h => ?_, fun i j io ob d io' ob' d' a a' fp fp' hij h h' g g' o o' => ?_, fun b o h n => ?_⟩
  · rcases cs h with ⟨u, hu, e, es⟩ | ⟨_, h⟩
    · cases es
    · obtain ⟨v, q1, q2⟩ := x.val j d h
      exact ⟨v, q1, q2.pers p⟩
  · rcases cs h with ⟨u, hu, e, es⟩ | ⟨_, h⟩
    · cases es
    · exact x.raw j d h
  · rcases cs h with ⟨u, hu, e, es⟩ | ⟨hn, h⟩
    · cases es
      subst e
      obtain ⟨q1, q2, q3⟩ := old u hu
      obtain ⟨a, fp, r1, r2, r3, r4⟩ := x.own u.i _ _ _ q1
      rw [q2] at r1; cases r1
      refine ⟨u.a, u.fp, q2, new u hu, fun b hb => ?_, r4⟩
      rcases fr u hu b hb with ⟨w, hw, hb'⟩ | z
      · obtain ⟨s1, s2, s3⟩ := old w hw
        obtain ⟨a2, fp2, t1, t2, t3, _⟩ := x.own w.i _ _ _ s1
        rw [s2] at t1; cases t1
        rw [s3.uniq t2] at hb'
        exact t3 b hb'
      · cases e : G.H0 b with
        | none => exact .inr rfl
        | some v =>
          by_cases hS : b ∈ G.S
          · exact .inl hS
          · have := x.frm b v e hS
            rw [z] at this; cases this
    · obtain ⟨a, fp, r1, r2, r3, r4⟩ := x.own j io ob d h
      exact ⟨a, fp, r1, (oth hn h r1 r2).1, r3, r4⟩
  · have one : ∀ {u : UE} {j : Nat} {io ob : Bool} {d : PyData} {a : Addr} {fp : List Addr}, u ∈ us → (∀ w ∈ us, w.i ≠ j) → ρ[j]? = some (.own io ob d) → σ[j]? = some (some (.ref a)) → OwnS E H' ob a d fp → ∀ b ∈ u.fp, b ∉ fp := fun {u j io ob d a fp} hu hn h g o b hb hb' => by
      obtain ⟨a2, fp2, r1, r2, r3, r4⟩ := x.own j io ob d h
      rw [g] at r1; cases r1
      obtain ⟨z1, z2⟩ := oth hn h g r2
      rw [o.uniq z1] at hb'
      rcases fr u hu b hb with ⟨w, hw, hw'⟩ | z
      · exact z2 b hb' w hw hw'
      · obtain ⟨_, v, hv⟩ := r2.mut b hb'
        rw [hv] at z; cases z
    rcases cs h with ⟨u, hu, e, es⟩ | ⟨hn, h⟩
    · cases es
      subst e
      rw [(old u hu).2.1] at g; cases g
      rw [o.uniq (new u hu)]
      rcases cs h' with ⟨w, hw, e', es'⟩ | ⟨hn', h'⟩
      · cases es'
        subst e'
        rw [(old w hw).2.1] at g'; cases g'
        rw [o'.uniq (new w hw)]
        exact ap u hu w hw hij
      · exact one hu hn' h' g' o'
    · rcases cs h' with ⟨w, hw, e', es'⟩ | ⟨hn', h'⟩
      · cases es'
        subst e'
        rw [(old w hw).2.1] at g'; cases g'
        rw [o'.uniq (new w hw)]
        intro b hb hb'
        exact one hw hn h g o b hb' hb
      · obtain ⟨a2, fp2, r1, r2, _⟩ := x.own i io ob d h
        rw [g] at r1; cases r1
        obtain ⟨a3, fp3, s1, s2, _⟩ := x.own j io' ob' d' h'
        rw [g'] at s1; cases s1
        rw [o.uniq (oth hn h g r2).1, o'.uniq (oth hn' h' g' s2).1]
        exact x.sep i j io ob d io' ob' d' a a' fp2 fp3 hij h h' g g' r2 s2
  · refine k b o (x.frm b o h n) fun u hu hb => ?_
    obtain ⟨q1, q2, q3⟩ := old u hu
    obtain ⟨a2, fp2, t1, t2, t3, _⟩ := x.own u.i _ _ _ q1
    rw [q2] at t1; cases t1
    rw [q3.uniq t2] at hb
    rcases t3 b hb with w | w
    · exact n w
    · rw [h] at w; cases w
theorem set_self {ρ : Pu.Env} {i : Nat} {s t : Sl} : (ρ.set i s).set i t = ρ.set i t := by rw [List.set_set]
/-- the arguments of a call, its slots -/
theorem args_ok (x : StR E G H σ ρ) : ∀ {ms : List Md} {vs : List V} {os : List Opd} {ds : List PyData}, OpdsR E H σ vs os → argsOf ms os ρ = some ds → (slotsOf ms os).Nodup →
    ∃ us0 : List UE, us0.map (·.i) = slotsOf ms os ∧ (∀ u ∈ us0, ρ[u.i]? = some (.own u.io u.ob u.d0) ∧ σ[u.i]? = some (some (.ref u.a)) ∧ OwnS E H u.ob u.a u.d0 u.fp0) ∧
      ArgsR E H ms vs ds (us0.flatMap (·.fp0)) ∧
      ∀ H' outs fps', OutsR E H' ms vs outs fps' → ∃ us : List UE, us.map (·.i) = slotsOf ms os ∧ us.flatMap (·.fp0) = us0.flatMap (·.fp0) ∧ us.flatMap (·.fp) = fps' ∧
        (∀ u ∈ us, ρ[u.i]? = some (.own u.io u.ob u.d0) ∧ σ[u.i]? = some (some (.ref u.a)) ∧ OwnS E H u.ob u.a u.d0 u.fp0) ∧ (∀ u ∈ us, OwnS E H' u.ob u.a u.d u.fp) ∧
        ∀ ρ2 : Pu.Env, (∀ u ∈ us, ρ2[u.i]? = ρ[u.i]?) → setOuts ms os outs ρ2 = Pu.setU us ρ2
  | [], _, [], _, .nil, e, _ => by
    cases e
    exact ⟨[], rfl, fun u hu => (by cases hu), .nil, fun H' outs fps' o => by cases o; exact ⟨[], rfl, rfl, rfl, fun u hu => (by cases hu), fun u hu => (by cases hu), fun ρ2 _ => rfl⟩⟩
  | .v :: ms, _, .d y :: os, ds, .cons h t, e, nd => by
    unfold argsOf at e
    split at e
    · rename_i ds' h1
      cases e
      obtain ⟨us0, a1, a2, a3, a4⟩ := args_ok x t h1 nd
      refine ⟨us0, a1, a2, .v h a3, fun H' outs fps' o => ?_⟩
      cases o with
      | v o =>
        obtain ⟨us, b1, b2, b3, b4, b5, b6⟩ := a4 H' outs fps' o
        exact ⟨us, b1, b2, b3, b4, b5, fun ρ2 h2 => b6 ρ2 h2⟩
      | o n _ _ => exact absurd rfl n
    · cases e
  | .o :: ms, _, .sl i :: os, ds, .cons (v := v) h t, e, nd => by
    unfold argsOf at e
    split at e
    · rename_i io d hq
      split at e
      · rename_i ds' h1
        cases e
        have nd' : (i :: slotsOf ms os).Nodup := nd
        obtain ⟨n1, n2⟩ := List.nodup_cons.mp nd'
        obtain ⟨us0, a1, a2, a3, a4⟩ := args_ok x t h1 n2
        obtain ⟨a, fp, q1, q2, q3, q4⟩ := x.own i _ _ _ hq
        have h : σ[i]? = some (some v) := h
        rw [q1] at h; cases h
        refine ⟨⟨i, io, false, d, d, a, fp, fp⟩ :: us0, by simp [a1, slotsOf], fun u hu => ?_, .o (by decide) q2 a3, fun H' outs fps' o => ?_⟩
        · rcases List.mem_cons.mp hu with rfl | hu
          · exact ⟨hq, q1, q2⟩
          · exact a2 u hu
        · cases o with
          | o n o o' =>
            rename_i d' outs' fp' fps''
            obtain ⟨us, b1, b2, b3, b4, b5, b6⟩ := a4 H' _ _ o'
            refine ⟨⟨i, io, false, d, d', a, fp, fp'⟩ :: us, by simp [b1, slotsOf], by simp [b2], by simp [b3], fun u hu => ?_, fun u hu => ?_, fun ρ2 h2 => ?_⟩
            · rcases List.mem_cons.mp hu with rfl | hu
              · exact ⟨hq, q1, q2⟩
              · exact b4 u hu
            · rcases List.mem_cons.mp hu with rfl | hu
              · exact o
              · exact b5 u hu
            · have e2 := h2 _ List.mem_cons_self
              show setOuts ms os outs' (setOut ρ2 i d') = Pu.setU us (ρ2.set i (.own io false d'))
              have e3 : setOut ρ2 i d' = ρ2.set i (.own io false d') := by
                unfold setOut
                rw [show ρ2[i]? = some (.own io false d) from e2.trans hq]
              rw [e3]
              refine b6 _ fun u hu => ?_
              have : i ≠ u.i := fun z => n1 (by rw [z, ← b1]; exact List.mem_map_of_mem hu)
              rw [List.getElem?_set_ne this]
              exact h2 u (List.mem_cons_of_mem _ hu)
      · cases e
    · cases e
  | .b :: ms, _, .sl i :: os, ds, .cons (v := v) h t, e, nd => by
    unfold argsOf at e
    split at e
    · rename_i io d hq
      split at e
      · rename_i ds' h1
        cases e
        have nd' : (i :: slotsOf ms os).Nodup := nd
        obtain ⟨n1, n2⟩ := List.nodup_cons.mp nd'
        obtain ⟨us0, a1, a2, a3, a4⟩ := args_ok x t h1 n2
        obtain ⟨a, fp, q1, q2, q3, q4⟩ := x.own i _ _ _ hq
        have h : σ[i]? = some (some v) := h
        rw [q1] at h; cases h
        refine ⟨⟨i, io, true, d, d, a, fp, fp⟩ :: us0, by simp [a1, slotsOf], fun u hu => ?_, .o (by decide) q2 a3, fun H' outs fps' o => ?_⟩
        · rcases List.mem_cons.mp hu with rfl | hu
          · exact ⟨hq, q1, q2⟩
          · exact a2 u hu
        · cases o with
          | o n o o' =>
            rename_i d' outs' fp' fps''
            obtain ⟨us, b1, b2, b3, b4, b5, b6⟩ := a4 H' _ _ o'
            refine ⟨⟨i, io, true, d, d', a, fp, fp'⟩ :: us, by simp [b1, slotsOf], by simp [b2], by simp [b3], fun u hu => ?_, fun u hu => ?_, fun ρ2 h2 => ?_⟩
            · rcases List.mem_cons.mp hu with rfl | hu
              · exact ⟨hq, q1, q2⟩
              · exact b4 u hu
            · rcases List.mem_cons.mp hu with rfl | hu
              · exact o
              · exact b5 u hu
            · have e2 := h2 _ List.mem_cons_self
              show setOuts ms os outs' (setOut ρ2 i d') = Pu.setU us (ρ2.set i (.own io true d'))
              have e3 : setOut ρ2 i d' = ρ2.set i (.own io true d') := by
                unfold setOut
                rw [show ρ2[i]? = some (.own io true d) from e2.trans hq]
              rw [e3]
              refine b6 _ fun u hu => ?_
              have : i ≠ u.i := fun z => n1 (by rw [z, ← b1]; exact List.mem_map_of_mem hu)
              rw [List.getElem?_set_ne this]
              exact h2 u (List.mem_cons_of_mem _ hu)
      · cases e
    · cases e
end
end L2.Pu

/-! The pure layer, 6: calls of defs and methods; changes of what is one's own. -/
namespace L2.Pu
open PySem PySem.Spec PyProof.Rows

theorem flat_nodup {f : UE → List Addr} : ∀ {us : List UE}, (us.map (·.i)).Nodup → (∀ u ∈ us, (f u).Nodup) → (∀ u ∈ us, ∀ w ∈ us, u.i ≠ w.i → ∀ b ∈ f u, b ∉ f w) → (us.flatMap f).Nodup
  | [], _, _, _ => by simp
  | u :: us, nd, h1, h2 => by
    rw [List.map_cons, List.nodup_cons] at nd
    rw [List.flatMap_cons]
    refine List.nodup_append.mpr ⟨h1 u List.mem_cons_self, flat_nodup nd.2 (fun w hw => h1 w (List.mem_cons_of_mem _ hw)) fun w hw z hz => h2 w (List.mem_cons_of_mem _ hw) z (List.mem_cons_of_mem _ hz), fun b hb c hc e => ?_⟩
    subst e
    obtain ⟨w, hw, hb'⟩ := List.mem_flatMap.mp hc
    exact h2 u List.mem_cons_self w (List.mem_cons_of_mem _ hw) (fun e => nd.1 (by rw [e]; exact List.mem_map_of_mem hw)) b hb hb'
theorem flat_apart {f : UE → List Addr} : ∀ {us : List UE}, (us.flatMap f).Nodup → ∀ u ∈ us, ∀ w ∈ us, u.i ≠ w.i → ∀ b ∈ f u, b ∉ f w
  | [], _, u, hu, _, _, _, _, _ => by cases hu
  | x :: us, nd, u, hu, w, hw, n, b, hb => by
    rw [List.flatMap_cons] at nd
    obtain ⟨n1, n2, n3⟩ := List.nodup_append.mp nd
    rcases List.mem_cons.mp hu with e1 | h1
    · rcases List.mem_cons.mp hw with e2 | h2
      · exact absurd (by rw [e1, e2]) n
      · exact fun z => n3 b (by rw [← e1]; exact hb) b (List.mem_flatMap.mpr ⟨w, h2, z⟩) rfl
    · rcases List.mem_cons.mp hw with e2 | h2
      · exact fun z => n3 b (by rw [← e2]; exact z) b (List.mem_flatMap.mpr ⟨u, h1, hb⟩) rfl
      · exact flat_apart n2 u h1 w h2 n b hb
section
variable {O : Addr × Str} {X : Cx}
/-- what a call with these operands asks of its promise -/
theorem call_spec {ms : List Md} {F : FD} {G : Gd} {ρ1 : Pu.Env} {σ : St} {H1 : Hp} {vs : List V} {os : List Opd} {ds outs : List PyData} {r : PyData} {Q : VK} (st1 : StR (evO O X) G H1 σ ρ1) (r1 : OpdsR (evO O X) H1 σ vs os)
    (h2 : argsOf ms os ρ1 = some ds) (h3 : nodupB (slotsOf ms os) = true) (h4 : F ds = some (r, outs))
    (q : ∀ v H', StR (evO O X) G H' σ (setOuts ms os outs ρ1) → Pers H1 H' → Rep (evO O X) H' v r → Q v H') : SpecOf (evO O X) ms F vs H1 Q E0 := by
  have nd := nodupB_ok h3
  obtain ⟨us0, a1, a2, a3, a4⟩ := args_ok st1 r1 h2 nd
  refine ⟨ds, _, a3, ?_, r, outs, h4, fun v H' fps' rv o nd' mem p fr => ?_⟩
  · refine flat_nodup (by rw [a1]; exact nd) (fun u hu => (a2 u hu).2.2.nodup) fun u hu w hw n b hb => ?_
    obtain ⟨q1, q2, q3⟩ := a2 u hu
    obtain ⟨s1, s2, s3⟩ := a2 w hw
    exact st1.sep u.i w.i _ _ _ _ _ _ _ _ _ _ n q1 s1 q2 s2 q3 s3 b hb
  · obtain ⟨us, b1, b2, b3, b4, b5, b6⟩ := a4 H' outs fps' o
    rw [b6 ρ1 fun _ _ => rfl] at q
    refine q v H' (st1.setU (by rw [b1]; exact nd) b4 b5 (fun u hu b hb => ?_) (flat_apart (by rw [b3]; exact nd')) p fun b o hb hn => fr b o hb fun z => ?_) p rv
    · rcases mem b (by rw [← b3]; exact List.mem_flatMap.mpr ⟨u, hu, hb⟩) with z | z
      · rw [← b2] at z
        exact .inl (List.mem_flatMap.mp z)
      · exact .inr z
    · rw [← b2] at z
      obtain ⟨u, hu, hb'⟩ := List.mem_flatMap.mp z
      exact hn u hu hb'
variable {k : Nat} {ms : List Md} {F : FD} {x : Str} {p pos apos : Pos} {e o : Expr} {es : List Expr} {ga : FA}
theorem callF_run {G : Gd} {ρ ρ' : Pu.Env} {σ : St} {H : Hp} {d : PyData} {Q : VK} (st : StR (evO O X) G H σ ρ) (h : callF ms F ga ρ = some (d, ρ')) (q : ∀ v H', StR (evO O X) G H' σ ρ' → Pers H H' → Rep (evO O X) H' v d → Q v H') :
    ta (evO O X) ga σ H fun vs H1 => SpecOf (evO O X) ms F (vs ++ []) H1 Q E0 := by
  unfold callF at h
  split at h
  · rename_i os ρ1 h1
    split at h
    · rename_i ds h2
      split at h
      · rename_i h3
        split at h
        · rename_i r outs h4
          cases h
          refine ⟨G, ρ, st, os, ρ1, h1, fun vs H1 st1 p1 r1 => ?_⟩
          show SpecOf (evO O X) ms F (vs ++ []) H1 Q E0
          rw [List.append_nil]
          exact call_spec st1 r1 h2 h3 h4 fun v H' st' p' rv => q v H' st' (p1.trans p') rv
        · cases h
      · cases h
    · cases h
  · cases h
/-- f(e, ..) -/
theorem pv_call (kn : Known X.prog X.w X.K X.mg X.base O x k ms F) (hr : Room k X.A) (hg : Gl X x) (ha : PAo O X (e :: es) ga)
    (hdb : (x == ("__debug__" : Str)) = false := by decide) (he : starEach (e :: es) X.env = (false, eval e X.env) :: starEach es X.env := by rfl) (hpl : (backTo pos (starEach es X.env)).any (·.1) = false := by rfl) :
    PEv O X (.Call (.Name x p) (e :: es) [] pos) (callF ms F ga) := by
  obtain ⟨f, fd, ps, k1, k2, k3, k4⟩ := kn.ex
  refine PE_imp (pe_call k4 hr hg k1 k2 k3 .nil pass0 ha hdb he hpl) fun σ H Q q => ?_
  obtain ⟨G, ρ, st, d, ρ', h, q⟩ := q
  exact callF_run st h q
/-- an own object, as a receiver -/
def obE (i : Nat) : FO := fun ρ => match ρ[i]? with
  | some (.own _ true _) => some (.sl i, ρ)
  | _ => none
/-- o.m(e, ..), o an own object at a name -/
theorem pv_meth {i : Nat} {m : Str} {y : Str} {yp : Pos} {pl : Sem Bool} (kn : KnownM X.prog X.w X.K X.mg X.base O m k ms F) (hr : Room k X.A) (ho : PE X (.Name y yp) (tVar i)) (ha : PAo O X (e :: es) ga)
    (hst : starEach (e :: es) X.env = (false, eval e X.env) :: starEach es X.env := by rfl) (hpl : (backTo pos (starEach es X.env)).any (·.1) = false := by rfl)
    (ht : eval (.Call (.Attribute (.Name y yp) m apos) (e :: es) [] pos) X.env = (do
      let ov ← eval (.Name y yp) X.env
      standAt apos.atName
      let (f, first) ← holding [ov] (getMethod ov m pl)
      callWith pos f first (backTo pos (starEach (e :: es) X.env)) (backToKw pos (keywordEach [] X.env))) := by rfl) :
    PEv O X (.Call (.Attribute (.Name y yp) m apos) (e :: es) [] pos) (callF ms F (consA (obE i) ga)) := by
  obtain ⟨f, fd, ps, k1, k2, k2', k3, k4⟩ := kn.ex
  refine PE_imp (pe_meth ho k1 k2 k4 hr k3 .nil pass0 ha hst hpl ht) fun σ H Q q => ?_
  obtain ⟨G, ρ, st, d, ρ', h, q⟩ := q
  unfold callF at h
  split at h
  · rename_i os ρ1 h1
    unfold consA at h1
    split at h1
    · rename_i o1 ρ0 h0
      split at h1
      · rename_i os' ρ2 h1'
        cases h1
        unfold obE at h0
        split at h0
        · rename_i io d0 hq
          cases h0
          obtain ⟨a, fp, s1, s2, s3, s4⟩ := st.own i _ _ _ hq
          cases s2 with
          | obj t1 t2 =>
            rename_i b dx
            refine ⟨.ref a, s1, a, dx, _, rfl, t1, ?_, ?_⟩
            · have k2'' : ¬ m = (evO O X).fld := k2'
              have : (m == (evO O X).fld) = false := beq_eq_false_iff_ne.mpr k2''
              unfold List.lookup
              rw [this]
              rfl
            split at h
            · rename_i ds h2
              split at h
              · rename_i h3
                split at h
                · rename_i r outs h4
                  cases h
                  refine ⟨G, _, st, os', ρ1, h1', fun vs H1 st1 p1 r1 => ?_⟩
                  show SpecOf (evO O X) ms F (.ref a :: (vs ++ [])) H1 Q E0
                  rw [List.append_nil]
                  exact call_spec st1 (.cons (o := .sl i) s1 r1) h2 h3 h4 fun v H' st' p' rv => q v H' st' (p1.trans p') rv
                · cases h
              · cases h
            · cases h
        · cases h0
      · cases h1
    · cases h1
  · cases h

/-! ### new objects -/
def tob (E : Ev) (f : FE) : TE := fun σ H Q => ∃ G ρ, StR E G H σ ρ ∧ ∃ d ρ', f ρ = some (d, ρ') ∧ ∀ a fp H1 H', StR E G H1 σ ρ' → Pers H H1 → Same H1 H' → (∀ b ∈ fp, H1 b = none) → OwnS E H' true a d fp → Q (.ref a) H'
def PEb (O : Addr × Str) (X : Cx) (e : Expr) (f : FE) : Prop := PE X e (tob (evO O X) f)
def setB (i : Nat) (f : FE) : FS := fun ρ => match f ρ with
  | some (d, ρ1) => some (.nx, ρ1.set i (.own false true d))
  | none => none
theorem ps_setB {i : Nat} {fe : FE} {pos' : Pos} (hN : X.N.Nodup) (hi : X.N[i]? = some x) (hx : Loc X.env.scope x) (he : PEb O X e fe) (hs : swapsWith e (some (.Name x pos')) pos.line X.env = pure false := by rfl)
    (hf : X.fn x = true ∨ X.env.scope.names.lookup x = some .local := by first | exact .inl rfl | exact .inr rfl | assumption) : PSv O X (.Assign [.Name x pos'] e pos) (setB i fe) := by
  refine PS_imp (ps_set hN hi hx he hs hf) fun D σ H q => ?_
  obtain ⟨G, ρ, st, fl, ρ', e, q⟩ := q
  unfold setB at e
  split at e
  · rename_i d ρ1 h1
    cases e
    refine ⟨G, ρ, st, d, ρ1, h1, fun a fp H1 H' st1 p1 s1 n o => q _ H' ?_ (p1.trans (.of_same s1))⟩
    refine (st1.same s1).setOwn o (fun b hb => ?_) (fun z => nomatch z) fun j io' ob' d' a' fp' _ h h' o' b hb hb' => ?_
    · cases e : G.H0 b with
      | none => exact .inr rfl
      | some u =>
        by_cases hS : b ∈ G.S
        · exact .inl hS
        · have := st1.frm b u e hS
          rw [n b hb] at this; cases this
    · obtain ⟨a2, fp2, q1, q2, _⟩ := st1.own j io' ob' d' h
      rw [h'] at q1; cases q1
      rw [o'.uniq (q2.keep (.of_same s1) fun c _ u hu => s1 c u hu)] at hb
      obtain ⟨_, u, hu⟩ := q2.mut b hb
      rw [n b hb'] at hu; cases hu
  · cases e
/-- C(), whose __init__ stores a new dict (of tuple keys) in the one attribute -/
def spInit (E : Ev) : Sp := fun vs H Q _ => ∃ (p dx : Addr), vs = [.ref p] ∧ H p = some (.ins E.C dx []) ∧ ∀ (d : Addr) (H' : Hp), H d = none → H' p = some (.ins E.C dx [(E.fld, .ref d)]) → H' d = some (DX E.P E.w d []) → (∀ b o, H b = some o → b ≠ p → H' b = some o) → Q .non H'
theorem pb_make0 {f : Addr} {fd : FuncData} {psx : List Str} (M : Mk X.K O.1 f) (FI : FnOk X.prog X.w X.K X.mg X.base CX0 k f fd psx (spInit (evO O X))) (hr : Room (k + 1) X.A) (hg : Gl X x) (hm : X.mg x = some (.ref O.1)) (hb : Binds X.K fd psx [])
    (hdb : (x == ("__debug__" : Str)) = false := by decide) : PEb O X (.Call (.Name x p) [] [] pos) (cE (.dict [(.none, .none)])) := by
  refine PE_imp (pe_make0 M FI hr hg hm hb .nil pass0 hdb) fun σ H Q q => ?_
  obtain ⟨G, ρ, st, d, ρ', h, q⟩ := q
  cases h
  intro a dx na ndx ne
  refine ⟨a, dx, rfl, upd_same, fun b H' hb h1 h2 h3 => ⟨rfl, ?_⟩⟩
  have nab : b ≠ a := fun z => by subst z; rw [upd_same] at hb; cases hb
  have nbd : b ≠ dx := fun z => by
    subst z
    rw [upd_ne ne, upd_same] at hb; cases hb
  have hb0 : H b = none := by rwa [upd_ne nab, upd_ne nbd] at hb
  have sm : Same H H' := fun c o hc => h3 c o (by rw [upd_ne (ne_of_none hc na), upd_ne (ne_of_none hc ndx)]; exact hc) (ne_of_none hc na)
  refine q a [a, b] H H' st (.refl H) sm (fun c hc => ?_) (.obj h1 (.dX h2 .nil))
  simp at hc
  rcases hc with rfl | rfl
  · exact na
  · exact hb0
/-- C().m(e, ..): a method of an object that is then dropped; all other arguments are values -/
def callT (n : Nat) (F : FD) (fo : FE) (g : FA) : FE := fun ρ => match fo ρ with
  | some (d0, ρ0) => match g ρ0 with
    | some (os, ρ1) => match vals os with
      | some ds => if ds.length = n then match F (d0 :: ds) with
          | some (r, _) => some (r, ρ1)
          | none => none
        else none
      | none => none
    | none => none
  | none => none
theorem args_vals {E : Ev} {H : Hp} : ∀ {n : Nat} {vs : List V} {ds : List PyData}, RepAll E H vs ds → ds.length = n → ArgsR E H (List.replicate n .v) vs ds []
  | 0, _, _, .nil, _ => .nil
  | n + 1, _, _, .cons h t, e => .v h (args_vals t (by simpa using e))
theorem StR.lift {E : Ev} {S : List Addr} {pins : List (Nat × Addr)} {H1 H' : Hp} {σ : St} {ρ : Pu.Env} (x : StR E ⟨H1, S, pins⟩ H1 σ ρ) (s : Same H1 H') : StR E ⟨H', S, pins⟩ H' σ ρ where
  len := x.len
  val := (x.same s).val
  raw := x.raw
  own := fun i io ob d h => by
    obtain ⟨a, fp, h1, h2, h3, h4⟩ := x.own i io ob d h
    refine ⟨a, fp, h1, h2.keep (.of_same s) fun c _ u hu => s c u hu, fun b hb => ?_, h4⟩
    rcases h3 b hb with z | z
    · exact .inl z
    · obtain ⟨_, u, hu⟩ := h2.mut b hb
      have z : H1 b = none := z
      rw [hu] at z; cases z
  sep := (x.same s).sep
  frm := fun b o h _ => h
theorem StR.lower {E : Ev} {S : List Addr} {pins : List (Nat × Addr)} {H1 H' H2 : Hp} {σ : St} {ρ : Pu.Env} (x : StR E ⟨H', S, pins⟩ H2 σ ρ) (s : Same H1 H') : StR E ⟨H1, S, pins⟩ H2 σ ρ where
  len := x.len
  val := x.val
  raw := x.raw
  own := fun i io ob d h => by
    obtain ⟨a, fp, h1, h2, h3, h4⟩ := x.own i io ob d h
    exact ⟨a, fp, h1, h2, fun b hb => (h3 b hb).imp id fun z => s.free z, h4⟩
  sep := x.sep
  frm := fun b o h n => x.frm b o (s b o h) n
theorem pv_methT {m : Str} {fo : FE} {n : Nat} {pl : Sem Bool} (kn : KnownM X.prog X.w X.K X.mg X.base O m k (.b :: List.replicate n .v) F) (hr : Room k X.A) (ho : PEb O X o fo) (ha : PAo O X (e :: es) ga)
    (hst : starEach (e :: es) X.env = (false, eval e X.env) :: starEach es X.env := by rfl) (hpl : (backTo pos (starEach es X.env)).any (·.1) = false := by rfl)
    (ht : eval (.Call (.Attribute o m apos) (e :: es) [] pos) X.env = (do
      let ov ← eval o X.env
      standAt apos.atName
      let (f, first) ← holding [ov] (getMethod ov m pl)
      callWith pos f first (backTo pos (starEach (e :: es) X.env)) (backToKw pos (keywordEach [] X.env))) := by rfl) :
    PEv O X (.Call (.Attribute o m apos) (e :: es) [] pos) (callT n F fo ga) := by
  obtain ⟨f, fd, ps, k1, k2, k2', k3, k4⟩ := kn.ex
  refine PE_imp (pe_meth ho k1 k2 k4 hr k3 .nil pass0 ha hst hpl ht) fun σ H Q q => ?_
  obtain ⟨G, ρ, st, d, ρ', h, q⟩ := q
  unfold callT at h
  split at h
  · rename_i d0 ρ0 h0
    split at h
    · rename_i os ρ1 h1
      split at h
      · rename_i ds h2
        split at h
        · rename_i hn
          split at h
          · rename_i r outs h4
            cases h
            refine ⟨G, ρ, st, d0, ρ0, h0, fun a fp H1 H' st1 p1 s1 nn oo => ?_⟩
            cases oo with
            | obj t1 t2 =>
              rename_i b dx
              refine ⟨a, dx, _, rfl, t1, ?_, ?_⟩
              · have k2'' : ¬ m = (evO O X).fld := k2'
                have : (m == (evO O X).fld) = false := beq_eq_false_iff_ne.mpr k2''
                unfold List.lookup
                rw [this]
                rfl
              · obtain ⟨S2, st1', hS, hM, back⟩ := st1.rebase
                have st2 := st1'.lift s1
                have nS : ∀ c, H1 c = none → c ∉ S2 := fun c hc hcS => by
                  obtain ⟨i, io, ob, d, a2, fp2, g1, g2, g3, g4⟩ := hS c hcS
                  obtain ⟨_, u, hu⟩ := g3.mut c g4
                  rw [hc] at hu; cases hu
                have na := nS a (nn a (by simp))
                have nb := nS b (nn b (by simp))
                refine ⟨_, ρ0, st2, os, ρ', h1, fun vs H2 st3 p3 r3 => ?_⟩
                have ta := st3.frm a _ t1 na
                have tb : OwnR (evO O X) H2 b d0 := t2.keep p3 fun u hu => st3.frm b u hu nb
                have ob : OwnS (evO O X) H2 true a d0 [a, b] := .obj ta tb
                have rall := vals_ok r3 h2
                show SpecOf (evO O X) (.b :: List.replicate n .v) F (.ref a :: (vs ++ [])) H2 Q E0
                rw [List.append_nil]
                refine ⟨d0 :: ds, [a, b] ++ [], .o (by decide) ob (args_vals rall hn), by rw [List.append_nil]; exact ob.nodup, _, outs, h4, fun v H3 fps' rv o nd' mem p fr => ?_⟩
                have sa : ∃ u, H' a = some u := ⟨_, t1⟩
                have sb : ∃ u, H' b = some u := t2.ex.2
                have st4 : StR (evO O X) ⟨H1, S2, G.pins⟩ H3 σ ρ' := by
                  refine (st3.lower s1).keep p (fun i io ob d a2 fp2 g1 g2 g3 c hc u hu => fr c u hu fun z => ?_) fun c u hc hcS hq => fr c u hq fun z => ?_
                  · obtain ⟨a4, fp4, w1, w2, w3, _⟩ := st3.own i io ob d g1
                    rw [g2] at w1; cases w1
                    rw [g3.uniq w2] at hc
                    have z : c = a ∨ c = b := by simpa using z
                    rcases w3 c hc with w | w
                    · rcases z with rfl | rfl
                      · exact na w
                      · exact nb w
                    · have w : H' c = none := w
                      rcases z with rfl | rfl
                      · obtain ⟨u, hu⟩ := sa; rw [hu] at w; cases w
                      · obtain ⟨u, hu⟩ := sb; rw [hu] at w; cases w
                  · have hc : H1 c = some u := hc
                    have z : c = a ∨ c = b := by simpa using z
                    rcases z with rfl | rfl
                    · rw [nn c (by simp)] at hc; cases hc
                    · rw [nn c (by simp)] at hc; cases hc
                exact q v H3 (back H3 σ ρ' st4) (((p1.trans (.of_same s1)).trans p3).trans p) rv
          · cases h
        · cases h
      · cases h
    · cases h
  · cases h
end
end L2.Pu

/-! The pure layer, 7: operators, comparisons, subscripts, built-ins. -/
namespace L2.Pu
open PySem PySem.Spec PyProof.Rows

section
variable {O : Addr × Str} {X : Cx}
theorem RepAll.ints {E : Ev} {H : Hp} : ∀ {vs : List V} {ns : List Int}, RepAll E H vs (ns.map .int) → vs = ns.map .int
  | _, [], .nil => rfl
  | _, n :: ns, .cons h t => by cases h; rw [RepAll.ints t]; rfl
theorem RepAll.bools {E : Ev} {H : Hp} : ∀ {vs : List V} {ns : List Bool}, RepAll E H vs (ns.map .bool) → vs = ns.map .bl
  | _, [], .nil => rfl
  | _, n :: ns, .cons h t => by cases h; rw [RepAll.bools t]; rfl
theorem RepAll.strs {E : Ev} {H : Hp} : ∀ {vs : List V} {ns : List Str}, RepAll E H vs (ns.map .str) → vs = ns.map .str
  | _, [], .nil => rfl
  | _, n :: ns, .cons h t => by cases h; rw [RepAll.strs t]; rfl
def asInts : List PyData → Option (List Int)
  | [] => some []
  | .int i :: ds => match asInts ds with
    | some is => some (i :: is)
    | none => none
  | _ => none
theorem asInts_ok : ∀ {ds : List PyData} {ns : List Int}, asInts ds = some ns → ds = ns.map .int
  | [], _, e => by cases e; rfl
  | .int i :: ds, _, e => by
    unfold asInts at e
    split at e
    · rename_i is h; cases e; rw [asInts_ok h]; rfl
    · cases e
  | .none :: _, _, e => by cases e
  | .bool _ :: _, _, e => by cases e
  | .str _ :: _, _, e => by cases e
  | .list _ :: _, _, e => by cases e
  | .tuple _ :: _, _, e => by cases e
  | .dict _ :: _, _, e => by cases e
def asBools : List PyData → Option (List Bool)
  | [] => some []
  | .bool i :: ds => match asBools ds with
    | some is => some (i :: is)
    | none => none
  | _ => none
theorem asBools_ok : ∀ {ds : List PyData} {ns : List Bool}, asBools ds = some ns → ds = ns.map .bool
  | [], _, e => by cases e; rfl
  | .bool i :: ds, _, e => by
    unfold asBools at e
    split at e
    · rename_i is h; cases e; rw [asBools_ok h]; rfl
    · cases e
  | .none :: _, _, e => by cases e
  | .int _ :: _, _, e => by cases e
  | .str _ :: _, _, e => by cases e
  | .list _ :: _, _, e => by cases e
  | .tuple _ :: _, _, e => by cases e
  | .dict _ :: _, _, e => by cases e
def asStrs : List PyData → Option (List Str)
  | [] => some []
  | .str i :: ds => match asStrs ds with
    | some is => some (i :: is)
    | none => none
  | _ => none
theorem asStrs_ok : ∀ {ds : List PyData} {ns : List Str}, asStrs ds = some ns → ds = ns.map .str
  | [], _, e => by cases e; rfl
  | .str i :: ds, _, e => by
    unfold asStrs at e
    split at e
    · rename_i is h; cases e; rw [asStrs_ok h]; rfl
    · cases e
  | .none :: _, _, e => by cases e
  | .int _ :: _, _, e => by cases e
  | .bool _ :: _, _, e => by cases e
  | .list _ :: _, _, e => by cases e
  | .tuple _ :: _, _, e => by cases e
  | .dict _ :: _, _, e => by cases e

/-! ### + - * // % ** -/
def addS : PyData → PyData → Option PyData
  | .int i, .int j => some (.int (i + j))
  | .str a, .str b => if a.length + b.length ≤ sizeLine then some (.str (a ++ b)) else none
  | .tuple xs, .tuple ys => if xs.length + ys.length ≤ sizeLine then some (.tuple (xs ++ ys)) else none
  | _, _ => none
def addL : PyData → PyData → Option PyData
  | .list xs, .list ys => if xs.length + ys.length ≤ sizeLine then some (.list (xs ++ ys)) else none
  | _, _ => none
def addD (x y : PyData) : Option PyData := (addS x y).or (addL x y)
theorem op_addS : OpD O X (binaryOp .Add) addS := by
  intro pins s σ H x y v u d e z I rx ry dx dy q
  unfold addS at q
  split at q
  · rename_i i j
    cases q
    rw [repO_int dx] at rx
    rw [repO_int dy] at ry
    exact op_add pins s σ H _ _ v u _ I rx ry ⟨i, j, rfl, rfl, .int _, .refl _⟩
  · rename_i a b
    split at q
    · rename_i hz
      cases q
      rw [repO_str dx] at rx
      rw [repO_str dy] at ry
      exact op_add_str pins s σ H _ _ v u _ I rx ry ⟨a, b, rfl, rfl, hz, .str _, .refl _⟩
    · cases q
  · rename_i xs ys
    split at q
    · rename_i hz
      cases q
      obtain ⟨a, vs, rfl, ha, ra⟩ := repO_tup dx
      obtain ⟨b, ws, rfl, hb, rb⟩ := repO_tup dy
      have la := ra.length
      have lb := rb.length
      refine op_catA pins s σ H _ _ v u (fun x' H' => Rep (evO O X) H' x' (.tuple (xs ++ ys)) ∧ Same H H') I rx ry ⟨a, b, vs, ws, rfl, rfl, ha, hb, by omega, fun e => ?_, fun e e' => ?_, fun e e' p hp => ?_⟩
      · subst e
        cases ra
        exact ⟨.tup hb rb, .refl _⟩
      · subst e'
        cases rb
        rw [List.append_nil]
        exact ⟨.tup ha ra, .refl _⟩
      · have sm := same_upd (o := .tup (vs ++ ws)) hp
        exact ⟨.tup (.of upd_same) ((ra.append rb).pers (.of_same sm)), sm⟩
    · cases q
  · cases q
theorem Inv.lstR {pins : List (Addr × Obj)} {σ : St} {H : Hp} {s : Shared} {l : Addr} {xs : List V} (I : L2.Inv X pins σ H s) (hH : Rd H l (.lst xs)) : xs.length ≤ sizeLine ∧ ∃ (its : List Value) (n : Nat), Vals xs its ∧ xs.length = its.length ∧ s.heap.get? l = some { cls := .type "list", data := .seq its.toArray n } := by
  obtain ⟨z, its, n, r, e⟩ := hH.ok I.hok
  exact ⟨z, its, n, r, r.length, e⟩
theorem op_addL : OpN O X (binaryOp .Add) addL := by
  intro pins s σ H x y v u d e z I rx ry dx dy q
  unfold addL at q
  split at q
  · rename_i xs ys
    split at q
    · rename_i hz
      cases q
      obtain ⟨a, vs, rfl, ha, ra⟩ := repO_listR dx
      obtain ⟨b, ws, rfl, hb, rb⟩ := repO_listR dy
      have la := ra.length
      have lb := rb.length
      cases rx
      cases ry
      obtain ⟨_, its, n, r, hl, e⟩ := Inv.lstR I ha
      obtain ⟨_, its2, n2, r2, hl2, e2⟩ := Inv.lstR I hb
      refine PySem.P.add_list e e2 ?_ (by rw [List.size_toArray, List.size_toArray]; omega)
      have ea : its.toArray ++ its2.toArray = (its ++ its2).toArray := by simp
      rw [ea]
      have sm := same_upd (o := .lst (vs ++ ws)) I.fresh
      exact ⟨_, _, I.lnew (t' := s.toks) (r.append r2) (by rw [List.length_append]; omega), rfl, I.fresh, .lst upd_same ((ra.append rb).pers (.of_same sm)), sm⟩
    · cases q
  · cases q
theorem op_addD : OpD O X (binaryOp .Add) addD := op_addS.or op_addL.d
def subD : PyData → PyData → Option PyData
  | .int i, .int j => some (.int (i - j))
  | _, _ => none
theorem op_subD : OpD O X (binaryOp .Sub) subD := by
  refine OpD.of op_sub fun H x y d e z dx dy q => ?_
  unfold subD at q
  split at q
  · rename_i i j
    cases q
    exact ⟨i, j, repO_int dx, repO_int dy, .int _, .refl _⟩
  · cases q
instance {i j : Int} : Decidable (CMul i j) := by unfold CMul; infer_instance
def mulI : PyData → PyData → Option PyData
  | .int i, .int j => if CMul i j then some (.int (i * j)) else none
  | _, _ => none
theorem op_mulI : OpD O X (binaryOp .Mult) mulI := by
  refine OpD.of op_mul fun H x y d e z dx dy q => ?_
  unfold mulI at q
  split at q
  · rename_i i j
    split at q
    · rename_i hc
      cases q
      exact ⟨i, j, repO_int dx, repO_int dy, hc, .int _, .refl _⟩
    · cases q
  · cases q
def fdivD : PyData → PyData → Option PyData
  | .int i, .int j => if 0 < j ∧ j < 1073741824 then some (.int (i / j)) else none
  | _, _ => none
theorem op_fdivD : OpD O X (binaryOp .FloorDiv) fdivD := by
  refine OpD.of op_fdiv fun H x y d e z dx dy q => ?_
  unfold fdivD at q
  split at q
  · rename_i i j
    split at q
    · rename_i hc
      cases q
      exact ⟨i, j, repO_int dx, repO_int dy, hc, .int _, .refl _⟩
    · cases q
  · cases q
def modD : PyData → PyData → Option PyData
  | .int i, .int j => if 0 < j then some (.int (i % j)) else none
  | _, _ => none
theorem op_modD : OpD O X (binaryOp .Mod) modD := by
  refine OpD.of op_mod fun H x y d e z dx dy q => ?_
  unfold modD at q
  split at q
  · rename_i i j
    split at q
    · rename_i hc
      cases q
      exact ⟨i, j, repO_int dx, repO_int dy, hc, .int _, .refl _⟩
    · cases q
  · cases q
def powD : PyData → PyData → Option PyData
  | .int i, .int j => if 0 ≤ j ∧ j ≤ 1000000 ∧ i.natAbs < 2 ^ 64 then some (.int (i ^ j.toNat)) else none
  | _, _ => none
theorem op_powD : OpD O X (binaryOp .Pow) powD := by
  refine OpD.of op_pow fun H x y d e z dx dy q => ?_
  unfold powD at q
  split at q
  · rename_i i j
    split at q
    · rename_i hc
      cases q
      exact ⟨i, j, repO_int dx, repO_int dy, hc, .int _, .refl _⟩
    · cases q
  · cases q
/-- -x -/
def negE (f : FO) : FE := fun ρ => match f ρ with
  | some (o, ρ1) => match rsv ρ1 o with
    | some (.int i) => some (.int (-i), ρ1)
    | _ => none
  | none => none
theorem pv_neg {a : Expr} {fo : FO} {pos : Pos} (h : PEo O X a fo) : PEv O X (.UnaryOp .USub a pos) (negE fo) := by
  refine PE_imp (pe_un un_neg h) fun σ H Q q => ?_
  obtain ⟨G, ρ, st, d, ρ', e, q⟩ := q
  unfold negE at e
  split at e
  · rename_i o ρ1 h1
    split at e
    · rename_i i h2
      cases e
      exact ⟨G, ρ, st, o, ρ', h1, fun v H' st' p' r' => ⟨i, repO_int (rsv_ok st' r' h2), q _ H' st' p' (.int _)⟩⟩
    · cases e
  · cases e

/-! ### comparisons -/
mutual
theorem dp_of {K : PySem.W.Frag} {P : Program} {w : World} {H : Hp} : ∀ {v : V} {d : PyData}, Rep ⟨P, w, K, O.1, O.2⟩ H v d → d.canLay0 = true → Dp K H v d
  | _, _, .non, _ => .non
  | _, _, .bl b, _ => .bl b
  | _, _, .int i, _ => .int i
  | _, _, .str x, _ => .str x
  | _, _, .lst h t, c => .lst h.sq (dps_of t c)
  | _, _, .tup h t, c => .tup h (dps_of t c)
  | _, _, .dK _ _, c => by cases c
  | _, _, .dX _ _, c => by cases c
  | _, _, .scr _ _, c => by cases c
theorem dps_of {K : PySem.W.Frag} {P : Program} {w : World} {H : Hp} : ∀ {v : List V} {d : List PyData}, RepAll ⟨P, w, K, O.1, O.2⟩ H v d → PyData.canLayAll0 d = true → DpAll K H v d
  | _, _, .nil, _ => .nil
  | _, _, .cons h t, c => by
    have c : (PyData.canLay0 _ && PyData.canLayAll0 _) = true := c
    rw [Bool.and_eq_true] at c
    exact .cons (dp_of h c.1) (dps_of t c.2)
end
theorem dpO_of {H : Hp} {v : V} {d : PyData} (h : RepO (evO O X) H v d) (c : SeqAt.shaped d = true) : Dp X.K H v d := by
  have c := SeqAt.canLay_of_shaped c
  rcases h with h | ⟨a, rfl, h⟩
  · exact dp_of (O := O) (P := X.prog) (w := X.w) h c
  · cases h with
    | lst h t => exact .lst (.of h) (dps_of (O := O) (P := X.prog) (w := X.w) t c)
    | dK _ _ => cases c
    | dX _ _ => cases c
def eqD (d e : PyData) : Option PyData := if SeqAt.shaped d = true ∧ SeqAt.shaped e = true then some (.bool (PyData.eqv d e)) else none
def neD (d e : PyData) : Option PyData := if SeqAt.shaped d = true ∧ SeqAt.shaped e = true then some (.bool (!PyData.eqv d e)) else none
theorem op_eqD' (hu : X.A.units + 64 < cLine) : OpD O X (compareOp .Eq) eqD := by
  refine OpD.of (op_eqD hu) fun H x y d e z dx dy q => ?_
  unfold eqD at q
  split at q
  · rename_i hc
    cases q
    exact ⟨d, e, dpO_of dx hc.1, dpO_of dy hc.2, hc.1, hc.2, .bl _, .refl _⟩
  · cases q
theorem op_neD' (hu : X.A.units + 64 < cLine) : OpD O X (compareOp .NotEq) neD := by
  refine OpD.of (op_neD hu) fun H x y d e z dx dy q => ?_
  unfold neD at q
  split at q
  · rename_i hc
    cases q
    exact ⟨d, e, dpO_of dx hc.1, dpO_of dy hc.2, hc.1, hc.2, .bl _, .refl _⟩
  · cases q
def ltI : PyData → PyData → Option PyData
  | .int i, .int j => some (.bool (decide (i < j)))
  | _, _ => none
def leI : PyData → PyData → Option PyData
  | .int i, .int j => some (.bool (decide (i ≤ j)))
  | _, _ => none
def gtI : PyData → PyData → Option PyData
  | .int i, .int j => some (.bool (decide (j < i)))
  | _, _ => none
def geI : PyData → PyData → Option PyData
  | .int i, .int j => some (.bool (decide (j ≤ i)))
  | _, _ => none
theorem op_ltI : OpD O X (compareOp .Lt) ltI := by
  refine OpD.of op_lt fun H x y d e z dx dy q => ?_
  unfold ltI at q
  split at q
  · cases q; exact ⟨_, _, repO_int dx, repO_int dy, .bl _, .refl _⟩
  · cases q
theorem op_leI : OpD O X (compareOp .LtE) leI := by
  refine OpD.of op_le fun H x y d e z dx dy q => ?_
  unfold leI at q
  split at q
  · cases q; exact ⟨_, _, repO_int dx, repO_int dy, .bl _, .refl _⟩
  · cases q
theorem op_gtI : OpD O X (compareOp .Gt) gtI := by
  refine OpD.of op_gt fun H x y d e z dx dy q => ?_
  unfold gtI at q
  split at q
  · cases q; exact ⟨_, _, repO_int dx, repO_int dy, .bl _, .refl _⟩
  · cases q
theorem op_geI : OpD O X (compareOp .GtE) geI := by
  refine OpD.of op_ge fun H x y d e z dx dy q => ?_
  unfold geI at q
  split at q
  · cases q; exact ⟨_, _, repO_int dx, repO_int dy, .bl _, .refl _⟩
  · cases q
/-- two rows of ints, from the first place that differs on -/
def lexGe : List Int → List Int → Bool
  | _, [] => true
  | [], _ :: _ => false
  | x :: xs, y :: ys => if x = y then lexGe xs ys else decide (y ≤ x)
theorem lexAt_ge : ∀ (ns ms : List Int) (i : Nat) (e r : Nat → Bool), (∀ j, e (i + j) = decide (ns.getD j 0 = ms.getD j 0)) → (∀ j, r (i + j) = decide (ms.getD j 0 ≤ ns.getD j 0)) →
    Ob.lexAt e r (decide (ns.length ≥ ms.length)) i (min ns.length ms.length) = lexGe ns ms
  | ns, [], i, e, r, _, _ => by simp [lexGe, Ob.lexAt_zero]
  | [], _ :: _, i, e, r, _, _ => by simp [lexGe, Ob.lexAt_zero]
  | x :: xs, y :: ys, i, e, r, he, hr => by
    have h0 := he 0
    have h1 := hr 0
    simp only [Nat.add_zero, List.getD_cons_zero] at h0 h1
    rw [show min (x :: xs).length (y :: ys).length = min xs.length ys.length + 1 by (simp only [List.length_cons]; omega), Ob.lexAt_succ, h0, h1]
    unfold lexGe
    by_cases q : x = y
    · rw [if_pos (decide_eq_true q), if_pos q]
      have := lexAt_ge xs ys (i + 1) e r (fun j => by have := he (j + 1); rw [show i + (j + 1) = i + 1 + j by omega] at this; simpa using this) (fun j => by have := hr (j + 1); rw [show i + (j + 1) = i + 1 + j by omega] at this; simpa using this)
      rw [← this]
      congr 1
      simp
    · rw [if_neg (by simpa using q), if_neg q]
def geT : PyData → PyData → Option PyData
  | .tuple xs, .tuple ys => match asInts xs, asInts ys with
    | some ns, some ms => some (.bool (lexGe ns ms))
    | _, _ => none
  | _, _ => none
theorem op_geT (hu : X.A.units < cLine) : OpD O X (compareOp .GtE) geT := by
  intro pins s σ H x y v u d e z I rx ry dx dy q
  unfold geT at q
  split at q
  · rename_i xs ys
    split at q
    · rename_i ns ms h1 h2
      cases q
      obtain rfl := asInts_ok h1
      obtain rfl := asInts_ok h2
      obtain ⟨a, vs, rfl, ha, ra⟩ := repO_tup dx
      obtain ⟨b, ws, rfl, hb, rb⟩ := repO_tup dy
      obtain rfl := ra.ints
      obtain rfl := rb.ints
      cases rx
      cases ry
      obtain ⟨its, r1, p1, _⟩ := I.tuple ha
      obtain ⟨its2, r2, p2, _⟩ := I.tuple hb
      have l1 : its.length = ns.length := by have := r1.length; simpa using this.symm
      have l2 : its2.length = ms.length := by have := r2.length; simpa using this.symm
      have at1 : ∀ j (h : j < its.length), ∃ t, its[j] = Value.int (ns.getD j 0) t := fun j h => by
        have hx : (ns.map V.int)[j]? = some (V.int (ns.getD j 0)) := by
          rw [List.getElem?_map, List.getD_eq_getElem?_getD]
          rw [List.getElem?_eq_getElem (by omega)]
          rfl
        obtain ⟨w, hw, rw'⟩ := r1.get hx
        rw [List.getElem?_eq_getElem h] at hw
        cases hw
        exact rw'
      have at2 : ∀ j (h : j < its2.length), ∃ t, its2[j] = Value.int (ms.getD j 0) t := fun j h => by
        have hx : (ms.map V.int)[j]? = some (V.int (ms.getD j 0)) := by
          rw [List.getElem?_map, List.getD_eq_getElem?_getD]
          rw [List.getElem?_eq_getElem (by omega)]
          rfl
        obtain ⟨w, hw, rw'⟩ := r2.get hx
        rw [List.getElem?_eq_getElem h] at hw
        cases hw
        exact rw'
      have R := Ob.RcOp.tuples_ge (A := X.A) (s := s) (e := fun j => decide (ns.getD j 0 = ms.getD j 0)) (r := fun j => decide (ms.getD j 0 ≤ ns.getD j 0)) p1 p2 hu (fun j h1 h2 => by
        obtain ⟨t, et⟩ := at1 j (by simpa using h1)
        obtain ⟨t', et'⟩ := at2 j (by simpa using h2)
        have e1 : its.toArray[j] = Value.int (ns.getD j 0) t := by simpa using et
        have e2 : its2.toArray[j] = Value.int (ms.getD j 0) t' := by simpa using et'
        rw [e1, e2]
        have z : (ns.getD j 0 == ms.getD j 0) = decide (ns.getD j 0 = ms.getD j 0) := by
          by_cases q : ns.getD j 0 = ms.getD j 0
          · rw [decide_eq_true q]; exact beq_iff_eq.mpr q
          · rw [decide_eq_false q]; exact beq_eq_false_iff_ne.mpr q
        rw [← z]
        exact SeqAt.EqAt.int_int _ _ _ _) (fun j h1 h2 _ => by
        obtain ⟨t, et⟩ := at1 j (by simpa using h1)
        obtain ⟨t', et'⟩ := at2 j (by simpa using h2)
        have e1 : its.toArray[j] = Value.int (ns.getD j 0) t := by simpa using et
        have e2 : its2.toArray[j] = Value.int (ms.getD j 0) t' := by simpa using et'
        rw [e1, e2]
        exact Ob.RcOp.ge_int _ _ _ _)
      have e3 := lexAt_ge ns ms 0 (fun j => decide (ns.getD j 0 = ms.getD j 0)) (fun j => decide (ms.getD j 0 ≤ ns.getD j 0)) (fun j => by simp) (fun j => by simp)
      rw [show its.toArray.size = ns.length by simpa using l1, show its2.toArray.size = ms.length by simpa using l2, e3] at R
      have z : wpAny (model X.prog X.w) X.A (compareOp .GtE (.ref a) (.ref b)) (Ans O X pins σ H (.bool (lexGe ns ms))) X.xe s := R X.prog X.w X.xe _ ⟨.bl _, H, I, rfl, .bl _, .refl _⟩
      exact z
    · cases q
  · cases q
def geD (x y : PyData) : Option PyData := (geI x y).or (geT x y)
theorem op_geD (hu : X.A.units < cLine) : OpD O X (compareOp .GtE) geD := op_geI.or (op_geT hu)
/-- is None, is not None -/
def isNone : PyData → Bool
  | .none => true
  | _ => false
def isN : PyData → PyData → Option PyData
  | d, .none => some (.bool (isNone d))
  | _, _ => none
def notN : PyData → PyData → Option PyData
  | d, .none => some (.bool (!isNone d))
  | _, _ => none
theorem isN_dec {E : Ev} {H : Hp} {x : V} {d : PyData} (h : RepO E H x d) : decide (x = V.non) = isNone d := by
  rcases h with h | ⟨a, rfl, h⟩
  · cases h <;> simp [isNone]
  · cases h <;> simp [isNone]
theorem op_isN' : OpD O X (compareOp .Is) isN := by
  refine OpD.of op_isN fun H x y d e z dx dy q => ?_
  unfold isN at q
  split at q
  · cases q; exact ⟨repO_none dy, by rw [isN_dec dx]; exact .bl _, .refl _⟩
  · cases q
theorem op_notN' : OpD O X (compareOp .IsNot) notN := by
  refine OpD.of op_notN fun H x y d e z dx dy q => ?_
  unfold notN at q
  split at q
  · cases q; exact ⟨repO_none dy, by rw [isN_dec dx]; exact .bl _, .refl _⟩
  · cases q
/-- x is True: of bools -/
def isB : PyData → PyData → Option PyData
  | .bool a, .bool b => some (.bool (decide (a = b)))
  | _, _ => none
theorem op_isB : OpD O X (compareOp .Is) isB := by
  refine OpD.of op_isBl fun H x y d e z dx dy q => ?_
  unfold isB at q
  split at q
  · cases q; exact ⟨_, _, repO_bool dx, repO_bool dy, .bl _, .refl _⟩
  · cases q
def isntB : PyData → PyData → Option PyData
  | .bool a, .bool b => some (.bool (!decide (a = b)))
  | _, _ => none
theorem op_isntB : OpD O X (compareOp .IsNot) isntB := by
  refine OpD.of op_notBl fun H x y d e z dx dy q => ?_
  unfold isntB at q
  split at q
  · cases q; exact ⟨_, _, repO_bool dx, repO_bool dy, .bl _, .refl _⟩
  · cases q
def isD (x y : PyData) : Option PyData := (isN x y).or (isB x y)
theorem op_isD : OpD O X (compareOp .Is) isD := op_isN'.or op_isB
def isntD (x y : PyData) : Option PyData := (notN x y).or (isntB x y)
theorem op_isntD : OpD O X (compareOp .IsNot) isntD := op_notN'.or op_isntB
end
end L2.Pu

/-! The pure layer, 8: calls that hand back something new; chains; keys. -/
namespace L2.Pu
open PySem PySem.Spec PyProof.Rows

/-! ### defs that hand back a new list or dict -/
def SpecOfN (E : Ev) (ms : List Md) (F : FD) : Sp := fun vs H Q _ => ∃ ds fps, ArgsR E H ms vs ds fps ∧ fps.Nodup ∧ ∃ r outs, F ds = some (r, outs) ∧
  ∀ a H' fps', OwnR E H' a r → (H a = none ∨ a ∈ fps) → a ∉ fps' → OutsR E H' ms vs outs fps' → fps'.Nodup → (∀ b ∈ fps', b ∈ fps ∨ H b = none) → Pers H H' → (∀ b o, H b = some o → b ∉ fps → H' b = some o) → Q (.ref a) H'
def runDefN (n : Nat) (ms : List Md) (f : FS) : FD := fun ds => match f (initEnv ms ds n) with
  | some (.rn d, ρ) => match outsOf ms ρ with
    | some os => some (d, os)
    | none => none
  | _ => none
theorem body_okN {E : Ev} {H : Hp} {ms : List Md} {vs : List V} {N : List Str} {f : FS} {Q : VK} {Ex : XK} (hl : ms.length ≤ N.length) (h : SpecOfN E ms (runDefN N.length ms f) vs H Q Ex) : ts E f { nx := fun _ H' => Q .non H', rt := Q } (start N vs) H := by
  obtain ⟨ds, fps, a, nd, r, outs, e, q⟩ := h
  obtain ⟨l1, l2⟩ := a.len
  have st := str_start (N := N) (by omega) a nd
  unfold runDefN at e
  split at e
  · rename_i d ρ h1
    split at e
    · rename_i os h2
      cases e
      refine ⟨_, _, st, _, ρ, h1, fun b σ' H1 H' st1 p1 s1 n o => ?_⟩
      have st' := st1.same s1
      obtain ⟨fps', q1, q2, q3⟩ := outs_ok st' ms vs ρ 0 outs (fun j => by simp) (fun j => by simp) l1 h2
      refine q b H' fps' o ?_ ?_ q1 q2 (fun b hb => (q3 b hb).1) (p1.trans (.of_same s1)) st'.frm
      · cases hb : H b with
        | none => exact .inl rfl
        | some u =>
          by_cases hS : b ∈ fps
          · exact .inr hS
          · have := st1.frm b u hb hS
            rw [n] at this; cases this
      · intro hb
        obtain ⟨_, i, io, ob, d', a', fp, _, g1, g2, g3, g4⟩ := q3 b hb
        obtain ⟨a2, fp2, w1, w2, _⟩ := st1.own i io ob d' g1
        rw [g2] at w1; cases w1
        rw [g3.uniq (w2.keep (.of_same s1) fun c _ u hu => s1 c u hu)] at g4
        obtain ⟨_, u, hu⟩ := w2.mut b g4
        rw [n] at hu; cases hu
    · cases e
  · cases e
theorem specN_len {E : Ev} {H : Hp} {ms : List Md} {vs : List V} {F : FD} {Q : VK} {Ex : XK} (h : SpecOfN E ms F vs H Q Ex) : vs.length = ms.length := by
  obtain ⟨ds, fps, a, _⟩ := h
  exact a.len.1
structure KnownN (P : Program) (w : World) (K : PySem.W.Frag) (mg : Str → Option Value) (base : Heap) (O : Addr × Str) (x : Str) (k : Nat) (ms : List Md) (F : FD) : Prop where
  ex : ∃ (f : Addr) (fd : FuncData) (ps : List Str), mg x = some (.ref f) ∧ PySem.W.keepIn K (.ref f) = true ∧ Binds K fd ps [] ∧ FnOk P w K mg base CX0 k f fd ps (SpecOfN ⟨P, w, K, O.1, O.2⟩ ms F)
theorem KnownN.mono {P : Program} {w : World} {K : PySem.W.Frag} {mg : Str → Option Value} {base : Heap} {O : Addr × Str} {x : Str} {j k : Nat} {ms : List Md} {F : FD} (h : KnownN P w K mg base O x j ms F) (l : j ≤ k) : KnownN P w K mg base O x k ms F :=
  ⟨let ⟨f, fd, ps, a, b, c, d⟩ := h.ex; ⟨f, fd, ps, a, b, c, d.mono l⟩⟩
section
variable {O : Addr × Str} {X : Cx}
theorem call_specN {ms : List Md} {F : FD} {G : Gd} {ρ1 : Pu.Env} {σ : St} {H1 : Hp} {vs : List V} {os : List Opd} {ds outs : List PyData} {r : PyData} {Q : VK} (st1 : StR (evO O X) G H1 σ ρ1) (r1 : OpdsR (evO O X) H1 σ vs os)
    (h2 : argsOf ms os ρ1 = some ds) (h3 : nodupB (slotsOf ms os) = true) (h4 : F ds = some (r, outs))
    (q : ∀ a H1' H', StR (evO O X) G H1' σ (setOuts ms os outs ρ1) → Pers H1 H1' → Same H1' H' → H1' a = none → OwnR (evO O X) H' a r → Q (.ref a) H') : SpecOfN (evO O X) ms F vs H1 Q E0 := by
  have nd := nodupB_ok h3
  obtain ⟨us0, a1, a2, a3, a4⟩ := args_ok st1 r1 h2 nd
  refine ⟨ds, _, a3, ?_, r, outs, h4, fun a H' fps' rv na nf o nd' mem p fr => ?_⟩
  · refine flat_nodup (by rw [a1]; exact nd) (fun u hu => (a2 u hu).2.2.nodup) fun u hu w hw n b hb => ?_
    obtain ⟨q1, q2, q3⟩ := a2 u hu
    obtain ⟨s1, s2, s3⟩ := a2 w hw
    exact st1.sep u.i w.i _ _ _ _ _ _ _ _ _ _ n q1 s1 q2 s2 q3 s3 b hb
  · obtain ⟨us, b1, b2, b3, b4, b5, b6⟩ := a4 H' outs fps' o
    rw [b6 ρ1 fun _ _ => rfl] at q
    have stO : StR (evO O X) G H' σ (Pu.setU us ρ1) := st1.setU (by rw [b1]; exact nd) b4 b5 (fun u hu b hb => by
      rcases mem b (by rw [← b3]; exact List.mem_flatMap.mpr ⟨u, hu, hb⟩) with z | z
      · rw [← b2] at z
        exact .inl (List.mem_flatMap.mp z)
      · exact .inr z) (flat_apart (by rw [b3]; exact nd')) p fun b o hb hn => fr b o hb fun z => by
      rw [← b2] at z
      obtain ⟨u, hu, hb'⟩ := List.mem_flatMap.mp z
      exact hn u hu hb'
    have inf : ∀ b, b ∈ us0.flatMap (·.fp0) → ∃ u ∈ us, b ∈ u.fp0 := fun b hb => by
      rw [← b2] at hb
      exact List.mem_flatMap.mp hb
    have nI : NotIn (evO O X) a H' σ (Pu.setU us ρ1) := fun i io ob d a' fp h h' o2 hb => by
      by_cases hj : ∃ u ∈ us, u.i = i
      · obtain ⟨u, hu, e⟩ := hj
        subst e
        rw [setU_in (by rw [b1]; exact nd) hu (List.getElem?_eq_some_iff.mp (b4 u hu).1).1] at h
        cases h
        rw [(b4 u hu).2.1] at h'; cases h'
        rw [o2.uniq (b5 u hu)] at hb
        exact nf (by rw [← b3]; exact List.mem_flatMap.mpr ⟨u, hu, hb⟩)
      · have hn : ∀ u ∈ us, u.i ≠ i := fun u hu e => hj ⟨u, hu, e⟩
        rw [setU_out hn] at h
        obtain ⟨a2', fp2, w1, w2, _⟩ := st1.own i io ob d h
        rw [h'] at w1; cases w1
        have ap : ∀ b ∈ fp2, b ∉ us0.flatMap (·.fp0) := fun b hb hbf => by
          obtain ⟨u, hu, hb'⟩ := inf b hbf
          obtain ⟨g1, g2, g3⟩ := b4 u hu
          exact st1.sep u.i i _ _ _ _ _ _ _ _ _ _ (hn u hu) g1 h g2 h' g3 w2 b hb' hb
        rw [o2.uniq (w2.keep p fun b hb u hu => fr b u hu (ap b hb))] at hb
        rcases na with z | z
        · obtain ⟨_, u, hu⟩ := w2.mut a hb
          rw [z] at hu; cases hu
        · exact ap a hb z
    have gA : G.H0 a = none ∨ a ∈ G.S := by
      rcases na with z | z
      · exact frm_new st1 z
      · obtain ⟨u, hu, hb'⟩ := inf a z
        obtain ⟨g1, g2, g3⟩ := b4 u hu
        obtain ⟨a2', fp2, w1, w2, w3, _⟩ := st1.own u.i _ _ _ g1
        rw [g2] at w1; cases w1
        rw [g3.uniq w2] at hb'
        exact (w3 a hb').symm
    have off : ∀ b, b ≠ a → delH H' a b = H' b := fun b hb => delH_ne hb
    obtain ⟨stF, _⟩ := stO.offD nI rv.free off gA
    refine q a (delH H' a) H' stF (p.trans (.off rv.free off)) (fun b u hb => ?_) (if_pos rfl) rv
    by_cases e : b = a
    · subst e
      rw [show delH H' b b = none from if_pos rfl] at hb; cases hb
    · rw [off b e] at hb; exact hb
variable {k : Nat} {ms : List Md} {F : FD} {x : Str} {p pos apos : Pos} {e o : Expr} {es : List Expr} {ga : FA}
/-- f(e, ..), a new thing -/
theorem pn_call (kn : KnownN X.prog X.w X.K X.mg X.base O x k ms F) (hr : Room k X.A) (hg : Gl X x) (ha : PAo O X (e :: es) ga)
    (hdb : (x == ("__debug__" : Str)) = false := by decide) (he : starEach (e :: es) X.env = (false, eval e X.env) :: starEach es X.env := by rfl) (hpl : (backTo pos (starEach es X.env)).any (·.1) = false := by rfl) :
    PEn O X (.Call (.Name x p) (e :: es) [] pos) (callF ms F ga) := by
  obtain ⟨f, fd, ps, k1, k2, k3, k4⟩ := kn.ex
  refine PE_imp (pe_call k4 hr hg k1 k2 k3 .nil pass0 ha hdb he hpl) fun σ H Q q => ?_
  obtain ⟨G, ρ, st, d, ρ', h, q⟩ := q
  unfold callF at h
  split at h
  · rename_i os ρ1 h1
    split at h
    · rename_i ds h2
      split at h
      · rename_i h3
        split at h
        · rename_i r outs h4
          cases h
          refine ⟨G, ρ, st, os, ρ1, h1, fun vs H1 st1 p1 r1 => ?_⟩
          show SpecOfN (evO O X) ms F (vs ++ []) H1 Q E0
          rw [List.append_nil]
          exact call_specN st1 r1 h2 h3 h4 fun a H1' H' st' p' s' n o => q a H1' H' st' (p1.trans p') s' n o
        · cases h
      · cases h
    · cases h
  · cases h

/-! ### a op b op' c -/
def chainE (r r' : PyData → PyData → Option PyData) (fa fb fc : FO) : FE := fun ρ => match fa ρ with
  | some (o1, ρ1) => match fb ρ1 with
    | some (o2, ρ2) => match rsv ρ2 o1, rsv ρ2 o2 with
      | some d1, some d2 => match r d1 d2 with
        | some (.bool true) => match fc ρ2 with
          | some (o3, ρ3) => match rsv ρ3 o2, rsv ρ3 o3 with
            | some d2', some d3 => match r' d2' d3 with
              | some z => some (z, ρ3)
              | none => none
            | _, _ => none
          | none => none
        | some (.bool false) => some (.bool false, ρ2)
        | _ => none
      | _, _ => none
    | none => none
  | none => none
variable {a b c : Expr} {op op' : CmpOp} {r r' : PyData → PyData → Option PyData} {fa fb fc : FO}
theorem chain_run {pins : List (Addr × Obj)} {s : Shared} {σ : St} {H : Hp} {G : Gd} {ρ ρ' : Pu.Env} {d : PyData} (ha : PEo O X a fa) (hb : PEo O X b fb) (hc : PEo O X c fc) (ho : OpD O X (compareOp op) r) (ho' : OpD O X (compareOp op') r')
    (I : Inv X pins σ H s) (st : StR (evO O X) G H σ ρ) (e : chainE r r' fa fb fc ρ = some (d, ρ')) :
    wpAny (model X.prog X.w) X.A (eval a X.env) (fun u s1 => wpAny (model X.prog X.w) X.A (eval b X.env) (fun v s2 => wpAny (model X.prog X.w) X.A (compareOp op u v) (fun k s3 => ∃ kb, k = .bool kb ∧
      if kb = true then wpAny (model X.prog X.w) X.A (eval c X.env) (fun w' s4 => wpAny (model X.prog X.w) X.A (compareOp op' v w') (fun z s5 => ∃ x' H5, Inv X pins σ H5 s5 ∧ RelV x' z ∧ StR (evO O X) G H5 σ ρ' ∧ Pers H H5 ∧ Rep (evO O X) H5 x' d) X.xe s4) X.xe s3
      else d = .bool false ∧ ∃ H5, Inv X pins σ H5 s3 ∧ StR (evO O X) G H5 σ ρ' ∧ Pers H H5) X.xe s2) X.xe s1) X.xe s := by
  unfold chainE at e
  split at e
  · rename_i o1 ρ1 h1
    split at e
    · rename_i o2 ρ2 h2
      split at e
      · rename_i d1 d2 g1 g2
        refine thn (ha.run pins s σ H (fun v H' => StR (evO O X) G H' σ ρ1 ∧ Pers H H' ∧ OpdR (evO O X) H' σ v o1) I ⟨G, ρ, st, o1, ρ1, h1, fun v H' x y z => ⟨x, y, z⟩⟩) fun u s1 ⟨x, H1, I1, rx, st1, p1, q1⟩ => ?_
        refine thn (hb.run pins s1 σ H1 (fun v H' => StR (evO O X) G H' σ ρ2 ∧ Pers H1 H' ∧ OpdR (evO O X) H' σ v o2) I1 ⟨G, ρ1, st1, o2, ρ2, h2, fun v H' x y z => ⟨x, y, z⟩⟩) fun v s2 ⟨y, H2, I2, ry, st2, p2, q2⟩ => ?_
        have z1 := rsv_ok st2 (q1.pers p2) g1
        have z2 := rsv_ok st2 q2 g2
        split at e
        · rename_i k1
          refine thn (ho pins s2 σ H2 x y u v d1 d2 _ I2 rx ry z1 z2 k1) fun w3 s3 ⟨x3, H3, I3, r3, rp3, sm3⟩ => ?_
          cases rp3
          cases r3
          refine ⟨true, rfl, iteT ?_⟩
          split at e
          · rename_i o3 ρ3 h3
            split at e
            · rename_i d2' d3 g3 g4
              split at e
              · rename_i z hz
                cases e
                have st3 := st2.same sm3
                refine thn (hc.run pins s3 σ H3 (fun v H' => StR (evO O X) G H' σ ρ' ∧ Pers H3 H' ∧ OpdR (evO O X) H' σ v o3) I3 ⟨G, ρ2, st3, o3, ρ', h3, fun v H' x y z => ⟨x, y, z⟩⟩) fun w4 s4 ⟨x4, H4, I4, r4, st4, p4, q4⟩ => ?_
                refine thn (ho' pins s4 σ H4 y x4 v w4 d2' d3 _ I4 ry r4 (rsv_ok st4 ((q2.pers (.of_same sm3)).pers p4) g3) (rsv_ok st4 q4 g4) hz) fun w5 s5 ⟨x5, H5, I5, r5, rp5, sm5⟩ => ?_
                exact ⟨x5, H5, I5, r5, st4.same sm5, ((p1.trans p2).trans (.of_same sm3)).trans (p4.trans (.of_same sm5)), rp5⟩
              · cases e
            · cases e
          · cases e
        · rename_i k1
          cases e
          refine thn (ho pins s2 σ H2 x y u v d1 d2 _ I2 rx ry z1 z2 k1) fun w3 s3 ⟨x3, H3, I3, r3, rp3, sm3⟩ => ?_
          cases rp3
          cases r3
          exact ⟨false, rfl, iteF ⟨rfl, H3, I3, st2.same sm3, (p1.trans p2).trans (.of_same sm3)⟩⟩
        · cases e
      · cases e
    · cases e
  · cases e
theorem pv_chain (ho : OpD O X (compareOp op) r) (ho' : OpD O X (compareOp op') r') (ha : PEo O X a fa) (hb : PEo O X b fb) (hc : PEo O X c fc)
    (hm : lastMarks [op, op'] [b, c] = false := by with_unfolding_all rfl) : PEv O X (.Compare a [op, op'] [b, c] pos) (chainE r r' fa fb fc) := by
  refine ⟨fun pins s σ H Q I h => ?_⟩
  obtain ⟨G, ρ, st, d, ρ', e, q⟩ := h
  refine Compare_chain (thn (chain_run ha hb hc ho ho' I st e) fun u s1 w1 => chain_link (thn w1 fun v s2 w2 => thn w2 fun k s3 ⟨kb, ek, w3⟩ => ?_)) hm
  subst ek
  refine wpAny_truthy_bool ?_
  cases kb with
  | false =>
    rw [if_neg (by decide)] at w3
    obtain ⟨ed, H5, I5, st5, p5⟩ := w3
    subst ed
    exact ite_ff ⟨.bl false, H5, I5, rfl, q _ H5 st5 p5 (.bl false)⟩
  | true =>
    rw [if_pos rfl] at w3
    exact ite_tt (chain_last (thn w3 fun w4 s4 w5 => thn w5 fun w6 s5 ⟨x5, H5, I5, r5, st5, p5, rp5⟩ => ⟨x5, H5, I5, r5, q _ H5 st5 p5 rp5⟩))
theorem pt_chain' (ho : OpD O X (compareOp op) r) (ho' : OpD O X (compareOp op') r') (ha : PEo O X a fa) (hb : PEo O X b fb) (hc : PEo O X c fc)
    (hm : lastMarks [op, op'] [b, c] = false := by with_unfolding_all rfl) : PTb O X (.Compare a [op, op'] [b, c] pos) (asB (chainE r r' fa fb fc)) := by
  refine ⟨fun pins s σ H Q I h => ?_⟩
  obtain ⟨G, ρ, st, d, ρ', e, q⟩ := h
  unfold asB at e
  split at e
  · rename_i k0 ρ1 h1
    cases e
    refine isTrue_chain (thn (chain_run ha hb hc ho ho' I st h1) fun u s1 w1 => test_link (thn w1 fun v s2 w2 => thn w2 fun k s3 ⟨kb, ek, w3⟩ => ?_)) hm
    subst ek
    refine wpAny_truthy_bool ?_
    cases kb with
    | false =>
      rw [if_neg (by decide)] at w3
      obtain ⟨ed, H5, I5, st5, p5⟩ := w3
      cases ed
      exact ite_ff ⟨H5, I5, q H5 st5 p5⟩
    | true =>
      rw [if_pos rfl] at w3
      refine ite_tt (test_last (thn w3 fun w4 s4 w5 => thn w5 fun w6 s5 ⟨x5, H5, I5, r5, st5, p5, rp5⟩ => ?_))
      cases rp5
      cases r5
      exact wpAny_truthy_bool ⟨H5, I5, q H5 st5 p5⟩
  · cases e
end
end L2.Pu

/-! The pure layer, 9: keys, dicts, subscripts, in. -/
namespace L2.Pu
open PySem PySem.Spec PyProof.Rows
section
variable {O : Addr × Str} {X : Cx} {pins : List (Addr × Obj)} {s : Shared} {σ : St} {H : Hp}
/-! ### keys -/
mutual
theorem nest_of (I : Inv X pins σ H s) : ∀ {v : V} {d : PyData} {u : Value} {nk : NestedKey}, Rep (evO O X) H v d → RelV v u → nkOf d = some nk → NestedIs s.heap nk u
  | _, _, _, _, .non, r, e => by cases e; rw [show _ = Value.none from r]; exact .none
  | _, _, _, _, .bl b, r, e => by cases e; rw [show _ = Value.bool b from r]; exact .bool rfl
  | _, _, _, _, .int i, r, e => by cases e; obtain ⟨t, rfl⟩ := r; exact .int _ _
  | _, _, _, _, .str x, r, e => by cases e; obtain ⟨t, rfl⟩ := r; exact .text _ _
  | _, _, _, _, .lst h t, r, e => by cases e
  | _, _, _, _, .tup h t, r, e => by
    unfold nkOf at e
    obtain ⟨nks, e1, rfl⟩ := Option.map_eq_some_iff.mp e
    cases r
    obtain ⟨its, rv, p, _⟩ := I.tuple h
    obtain ⟨o, ho, hc, n, hd⟩ := p
    exact .tup ho hc hd (by simpa using nests_of I t rv e1)
  | _, _, _, _, .dK h t, r, e => by cases e
  | _, _, _, _, .dX h t, r, e => by cases e
  | _, _, _, _, .scr h t, r, e => by cases e
theorem nests_of (I : Inv X pins σ H s) : ∀ {vs : List V} {ds : List PyData} {us : List Value} {nks : List NestedKey}, RepAll (evO O X) H vs ds → Vals vs us → nksOf ds = some nks → NestedAll s.heap nks us
  | _, _, _, _, .nil, r, e => by cases e; cases r; exact .nil
  | _, _, _, _, .cons h t, r, e => by
    unfold nksOf at e
    split at e
    · rename_i k ks h1 h2
      cases e
      cases r with
      | cons r1 r2 => exact .cons (nest_of I h r1 h1) (nests_of I t r2 h2)
    · cases e
end
theorem key_at (I : Inv X pins σ H s) {b : Addr} {d : PyData} {nk : NestedKey} (h : Rep (evO O X) H (.ref b) d) (e : nkC d = some nk) : (nestedKind X.prog X.w).is s.heap nk b := by
  unfold nkC at e
  split at e
  · rename_i k h1
    split at e
    · rename_i hd
      cases e
      exact ⟨nest_of I h rfl h1, hd⟩
    · cases e
  · cases e
def DXat (X : Cx) (H : Hp) (a : Addr) (xs : List (NestedKey × Addr × Value)) : Prop := Rd H a (DX X.prog X.w a xs)
theorem repX_keys (I : Inv X pins σ H s) : ∀ {xs : List (NestedKey × Addr × Value)} {kvs : List (PyData × PyData)}, RepX (evO O X) H xs kvs → ∀ x ∈ xs, (nestedKind X.prog X.w).is s.heap x.1 x.2.1
  | _, _, .nil, x, hx => by cases hx
  | _, _, .cons a b c d t, x, hx => by
    rcases List.mem_cons.mp hx with rfl | hx
    · exact key_at I b a
    · exact repX_keys I t x hx
theorem dx_at (I : Inv X pins σ H s) {a : Addr} {xs : List (NestedKey × Addr × Value)} {kvs : List (PyData × PyData)} (h : DXat X H a xs) (r : RepX (evO O X) H xs kvs) : xs.length ≤ sizeLine ∧ (a == sysModules) = false ∧ s.heap.DictOfH (nestedKind X.prog X.w) a xs := by
  obtain ⟨⟨z, hd, o, es, ep, h1, h2, h3, h4, h5⟩, _⟩ := h.ok I.hok
  exact ⟨z, hd, o, es, ep, h1, h2, h3, h4, repX_keys I r, h5⟩
/-- the entry of a key -/
def getX : List (PyData × PyData) → NestedKey → Option PyData
  | [], _ => none
  | (k, d) :: r, nk => match nkC k with
    | some nk' => if nk' = nk then some d else getX r nk
    | none => getX r nk
def putX : List (PyData × PyData) → NestedKey → PyData → PyData → List (PyData × PyData)
  | [], _, k, d => [(k, d)]
  | (k', d') :: r, nk, k, d => match nkC k' with
    | some nk' => if nk' = nk then (k', d) :: r else (k', d') :: putX r nk k d
    | none => (k', d') :: putX r nk k d
theorem atKey_cons {nk' nk : NestedKey} {p : Addr × Value} {xs : List (NestedKey × Addr × Value)} : atKey ((nk', p) :: xs) nk = if nk' = nk then some p else atKey xs nk := by
  unfold atKey
  rw [List.find?_cons]
  by_cases h : nk' = nk
  · simp [h]
  · simp [h]
theorem getX_ok {E : Ev} {H : Hp} {nk : NestedKey} : ∀ {xs : List (NestedKey × Addr × Value)} {kvs : List (PyData × PyData)}, RepX E H xs kvs →
    (getX kvs nk = none ∧ atKey xs nk = none) ∨ ∃ d p v, getX kvs nk = some d ∧ atKey xs nk = some p ∧ RelV v p.2 ∧ Rep E H v d
  | _, _, .nil => .inl ⟨rfl, rfl⟩
  | _, _, .cons (nk := nk') (v := v) a b c d t => by
    unfold getX
    rw [a, atKey_cons]
    by_cases h : nk' = nk
    · subst h
      exact .inr ⟨_, _, v, if_pos rfl, if_pos rfl, c, d⟩
    · have z := getX_ok (nk := nk) t
      rw [if_neg h]
      show ((if nk' = nk then _ else _) = none ∧ _) ∨ ∃ d p v, (if nk' = nk then _ else _) = some d ∧ _
      rw [if_neg h]
      exact z
theorem putX_ok {E : Ev} {H : Hp} {nk : NestedKey} {b : Addr} {u : Value} {v : V} {k d : PyData} (hk : nkC k = some nk) (hb : Rep E H (.ref b) k) (hv : RelV v u) (hd : Rep E H v d) :
    ∀ {xs : List (NestedKey × Addr × Value)} {kvs : List (PyData × PyData)}, RepX E H xs kvs → (xs.map (·.1)).Nodup → RepX E H (storedH xs nk b u) (putX kvs nk k d)
  | _, _, .nil, _ => .cons hk hb hv hd .nil
  | _, _, .cons (nk := nk') (b := b') (u := u') (xs := xs) a b1 c d1 t, nd => by
    rw [List.map_cons, List.nodup_cons] at nd
    unfold putX
    rw [a]
    by_cases h : nk' = nk
    · subst h
      show RepX E H _ (if nk' = nk' then _ else _)
      rw [if_pos rfl]
      have e : storedH ((nk', b', u') :: xs) nk' b u = (nk', b', u) :: xs := by
        rw [storedH_old (p := (b', u')) (by rw [atKey_cons, if_pos rfl]), List.map_cons]
        have e1 : putAt nk' u (nk', b', u') = (nk', b', u) := by simp [putAt]
        have e2 : xs.map (putAt nk' u) = xs := by
          rw [List.map_congr_left (g := id)]
          · simp
          · intro x hx
            unfold putAt
            rw [if_neg]
            · rfl
            · intro z
              exact nd.1 (List.mem_map.mpr ⟨x, hx, z⟩)
        rw [e1, e2]
      rw [e]
      exact .cons a b1 hv hd t
    · show RepX E H _ (if nk' = nk then _ else _)
      rw [if_neg h]
      have e : storedH ((nk', b', u') :: xs) nk b u = (nk', b', u') :: storedH xs nk b u := by
        unfold storedH
        rw [atKey_cons, if_neg h]
        split
        · rw [List.map_cons]
          have e1 : putAt nk u (nk', b', u') = (nk', b', u') := by simp [putAt, h]
          rw [e1]
        · rfl
      rw [e]
      exact .cons a b1 c d1 (putX_ok hk hb hv hd t nd.2)
/-! ### dicts of ints and texts -/
def keyOf : PyData → Option Key
  | .int i => some (.inl i)
  | .str x => some (.inr x)
  | _ => none
theorem keyOf_ok {E : Ev} {H : Hp} {v : V} {d : PyData} {k : Key} (h : RepO E H v d) (e : keyOf d = some k) : v = kV k := by
  unfold keyOf at e
  split at e
  · cases e; exact repO_int h
  · cases e; exact repO_str h
  · cases e
def getK : List (PyData × PyData) → Key → Option PyData
  | [], _ => none
  | (k, d) :: r, nk => match keyOf k with
    | some nk' => if nk' = nk then some d else getK r nk
    | none => getK r nk
def putKD : List (PyData × PyData) → Key → PyData → List (PyData × PyData)
  | [], nk, d => [(keyD nk, d)]
  | (k', d') :: r, nk, d => match keyOf k' with
    | some nk' => if nk' = nk then (k', d) :: r else (k', d') :: putKD r nk d
    | none => (k', d') :: putKD r nk d
theorem keyOf_keyD (k : Key) : keyOf (keyD k) = some k := by cases k <;> rfl
theorem getK_ok {E : Ev} {H : Hp} {nk : Key} : ∀ {xs : List (Key × V)} {kvs : List (PyData × PyData)}, RepK E H xs kvs →
    (getK kvs nk = none ∧ valV xs nk = none) ∨ ∃ d v, getK kvs nk = some d ∧ valV xs nk = some v ∧ Rep E H v d
  | _, _, .nil => .inl ⟨rfl, rfl⟩
  | _, _, .cons (k := nk') (v := v) d t => by
    unfold getK
    rw [keyOf_keyD]
    by_cases h : nk' = nk
    · subst h
      exact .inr ⟨_, v, if_pos rfl, valV_pos rfl, d⟩
    · have z := getK_ok (nk := nk) t
      rw [valV_neg h]
      show ((if nk' = nk then _ else _) = none ∧ _) ∨ ∃ d v, (if nk' = nk then _ else _) = some d ∧ _
      rw [if_neg h]
      exact z
theorem repK_map {E : Ev} {H : Hp} {nk : Key} {v : V} : ∀ {xs : List (Key × V)} {kvs : List (PyData × PyData)}, RepK E H xs kvs → (∀ x ∈ xs, x.1 ≠ nk) → xs.map (fun kv => if kv.1 = nk then (kv.1, v) else kv) = xs
  | _, _, .nil, _ => rfl
  | _, _, .cons (ks := ks) d t, h => by
    rw [List.map_cons, repK_map t fun x hx => h x (List.mem_cons_of_mem _ hx), if_neg (h _ List.mem_cons_self)]
theorem putK_ok {E : Ev} {H : Hp} {nk : Key} {v : V} {d : PyData} (hd : Rep E H v d) : ∀ {xs : List (Key × V)} {kvs : List (PyData × PyData)}, RepK E H xs kvs → (xs.map (·.1)).Nodup → RepK E H (putK xs nk v) (putKD kvs nk d)
  | _, _, .nil, _ => .cons hd .nil
  | _, _, .cons (k := nk') (v := v') (ks := ks) d1 t, nd => by
    rw [List.map_cons, List.nodup_cons] at nd
    unfold putKD
    rw [keyOf_keyD]
    by_cases h : nk' = nk
    · subst h
      show RepK E H _ (if nk' = nk' then _ else _)
      rw [if_pos rfl]
      have e : putK ((nk', v') :: ks) nk' v = (nk', v) :: ks := by
        unfold putK
        rw [if_pos (by simp), List.map_cons, if_pos rfl]
        rw [repK_map t fun x hx z => nd.1 (List.mem_map.mpr ⟨x, hx, z⟩)]
      rw [e]
      exact .cons hd t
    · show RepK E H _ (if nk' = nk then _ else _)
      rw [if_neg h]
      have e : putK ((nk', v') :: ks) nk v = (nk', v') :: putK ks nk v := by
        unfold putK
        rw [List.any_cons, decide_eq_false h, Bool.false_or]
        split
        · rw [List.map_cons, if_neg h]
        · rfl
      rw [e]
      exact .cons d1 (putK_ok hd t nd.2)
/-! ### reading a dict -/
def getD' : PyData → PyData → Option (Option PyData)
  | .dict ((.none, .none) :: kvs), k => match nkC k with
    | some nk => match k with
      | .tuple _ => some (getX kvs nk)
      | _ => none
    | none => none
  | .dict ((.bool _, _) :: _), _ => none
  | .dict kvs, k => match keyOf k with
    | some nk => some (getK kvs nk)
    | none => none
  | _, _ => none
theorem repO_dict {E : Ev} {H : Hp} {v : V} {kvs : List (PyData × PyData)} (h : RepO E H v (.dict kvs)) (nb : ∀ b z r, kvs ≠ (.bool b, z) :: r) : ∃ a, v = .ref a ∧ ((∃ ks, Rd H a (.dK ks) ∧ RepK E H ks kvs) ∨ ∃ xs kvs', kvs = (.none, .none) :: kvs' ∧ Rd H a (DX E.P E.w a xs) ∧ RepX E H xs kvs') := by
  rcases h with h | ⟨a, e, h⟩
  · cases h with
    | dK h r => exact ⟨_, rfl, .inl ⟨_, .inr ⟨_, h⟩, r⟩⟩
    | dX h r => exact ⟨_, rfl, .inr ⟨_, _, rfl, .inr ⟨_, h⟩, r⟩⟩
    | scr h r => exact absurd rfl (nb _ _ _)
  · cases h with
    | dK h r => exact ⟨a, e, .inl ⟨_, .inl h, r⟩⟩
    | dX h r => exact ⟨a, e, .inr ⟨_, _, rfl, .inl h, r⟩⟩
theorem repK_none {E : Ev} {H : Hp} {ks : List (Key × V)} {z : PyData} {r : List (PyData × PyData)} (h : RepK E H ks ((.none, z) :: r)) : False := by
  generalize e : (PyData.none, z) :: r = l at h
  cases h with
  | nil => cases e
  | @cons k _ _ _ _ _ _ =>
    have e1 := congrArg Prod.fst (List.cons.inj e).1
    cases k <;> cases e1
theorem repO_ref {E : Ev} {H : Hp} {v : V} {ds : List PyData} (h : RepO E H v (.tuple ds)) : ∃ b, v = .ref b ∧ Rep E H (.ref b) (.tuple ds) := by
  rcases h with h | ⟨a, e, h⟩
  · cases h with
    | tup h r => exact ⟨_, rfl, .tup h r⟩
  · cases h
/-- what stands behind a reading -/
theorem dict_cases {v y : V} {D k : PyData} {o : Option PyData} (dv : RepO (evO O X) H v D) (dk : RepO (evO O X) H y k) (e : getD' D k = some o) : ∃ a, v = .ref a ∧
    ((∃ ks nk, Rd H a (.dK ks) ∧ y = kV nk ∧ ((o = none ∧ valV ks nk = none) ∨ ∃ d v, o = some d ∧ valV ks nk = some v ∧ Rep (evO O X) H v d)) ∨
     ∃ xs kvs b nk, DXat X H a xs ∧ RepX (evO O X) H xs kvs ∧ y = .ref b ∧ Rep (evO O X) H (.ref b) k ∧ nkC k = some nk ∧ ((o = none ∧ atKey xs nk = none) ∨ ∃ d p v, o = some d ∧ atKey xs nk = some p ∧ RelV v p.2 ∧ Rep (evO O X) H v d)) := by
  unfold getD' at e
  split at e
  · rename_i k' kvs
    split at e
    · rename_i nk h1
      split at e
      · rename_i ks
        cases e
        obtain ⟨a, rfl, h⟩ := repO_dict dv (fun b z r q => by cases q)
        obtain ⟨b, rfl, hb⟩ := repO_ref dk
        rcases h with ⟨ks', _, r⟩ | ⟨xs, kvs', eq, h, r⟩
        · exact (repK_none r).elim
        · cases eq
          exact ⟨a, rfl, .inr ⟨xs, kvs, b, nk, h, r, rfl, hb, h1, getX_ok r⟩⟩
      · cases e
    · cases e
  · cases e
  · rename_i kvs k' hne hnb
    split at e
    · rename_i nk h1
      cases e
      obtain ⟨a, rfl, h⟩ := repO_dict dv (fun b z r q => hnb b z r q)
      have ey := keyOf_ok dk h1
      rcases h with ⟨ks', h, r⟩ | ⟨xs, kvs', eq, h, r⟩
      · exact ⟨a, rfl, .inl ⟨ks', nk, h, ey, getK_ok r⟩⟩
      · exact absurd eq (hne _)
    · cases e
  · cases e
end
end L2.Pu

/-! The pure layer, 10: in, subscripts, slices, built-ins. -/
namespace L2.Pu
open PySem PySem.Spec PyProof.Rows
section
variable {O : Addr × Str} {X : Cx}
/-! ### in -/
def inK (k D : PyData) : Option PyData := match getD' D k with
  | some o => some (.bool o.isSome)
  | none => none
def notInK (k D : PyData) : Option PyData := match getD' D k with
  | some o => some (.bool (!o.isSome))
  | none => none
theorem room_nested (hu : X.A.units + 64 < cLine) : (nestedKind X.prog X.w).room X.A.in1 := by
  show X.A.in1.units + 8 < cLine
  rw [Around.in1_units]; omega
theorem op_inK (hu : X.A.units + 64 < cLine) : OpD O X (compareOp .In) inK := by
  intro pins s σ H x y v u d e z I rx ry dx dy q
  unfold inK at q
  split at q
  · rename_i o h
    cases q
    obtain ⟨a, rfl, ⟨ks, nk, rd, ey, hv⟩ | ⟨xs, kvs, b, nk, rd, rp, ey, hb, hk, hv⟩⟩ := dict_cases dy dx h
    · subst ey
      cases ry
      refine d_in (y := kV nk) (o := valV ks nk) (by omega) I (.inl ⟨ks, nk, rd, rfl, rfl⟩) rx fun s' I' => ?_
      have : (valV ks nk).isSome = o.isSome := by
        rcases hv with ⟨h1, h2⟩ | ⟨d, v, h1, h2, _⟩ <;> rw [h1, h2] <;> rfl
      rw [this]
      exact ⟨.bl _, H, I', rfl, .bl _, .refl _⟩
    · subst ey
      cases ry
      cases rx
      obtain ⟨hz, hd, hm⟩ := dx_at I rd rp
      refine wpAny_in_heap (room_nested hu) (key_at I hb hk) hd hm ?_
      have : (atKey xs nk).isSome = o.isSome := by
        rcases hv with ⟨h1, h2⟩ | ⟨d, p, v, h1, h2, _⟩ <;> rw [h1, h2] <;> rfl
      rw [this]
      exact ⟨.bl _, H, I.tok _, rfl, .bl _, .refl _⟩
  · cases q
theorem op_notInK (hu : X.A.units + 64 < cLine) : OpD O X (compareOp .NotIn) notInK := by
  intro pins s σ H x y v u d e z I rx ry dx dy q
  unfold notInK at q
  split at q
  · rename_i o h
    cases q
    obtain ⟨a, rfl, ⟨ks, nk, rd, ey, hv⟩ | ⟨xs, kvs, b, nk, rd, rp, ey, hb, hk, hv⟩⟩ := dict_cases dy dx h
    · subst ey
      cases ry
      refine d_notIn (y := kV nk) (o := valV ks nk) (by omega) I (.inl ⟨ks, nk, rd, rfl, rfl⟩) rx fun s' I' => ?_
      have : (valV ks nk).isSome = o.isSome := by
        rcases hv with ⟨h1, h2⟩ | ⟨d, v, h1, h2, _⟩ <;> rw [h1, h2] <;> rfl
      rw [this]
      exact ⟨.bl _, H, I', rfl, .bl _, .refl _⟩
    · subst ey
      cases ry
      cases rx
      obtain ⟨hz, hd, hm⟩ := dx_at I rd rp
      refine notIn_keyed (room_nested hu) (key_at I hb hk) hd ⟨xs, hm, rfl⟩ ?_
      rw [valueAt_pairsH, Option.isSome_map]
      have : (atKey xs nk).isSome = o.isSome := by
        rcases hv with ⟨h1, h2⟩ | ⟨d, p, v, h1, h2, _⟩ <;> rw [h1, h2] <;> rfl
      rw [this]
      exact ⟨.bl _, H, I.tok _, rfl, .bl _, .refl _⟩
  · cases q
def inL (k D : PyData) : Option PyData := match D with
  | .list ds => if SeqAt.shaped k = true ∧ SeqAt.shaped (.list ds) = true then some (.bool (ds.any fun z => PyData.eqv z k)) else none
  | _ => none
def notInL (k D : PyData) : Option PyData := match D with
  | .list ds => if SeqAt.shaped k = true ∧ SeqAt.shaped (.list ds) = true then some (.bool (!ds.any fun z => PyData.eqv z k)) else none
  | _ => none
theorem op_inL (hu : X.A.units + 65 < cLine) : OpD O X (compareOp .In) inL := by
  refine OpD.of (op_inD hu) fun H x y d e z dx dy q => ?_
  unfold inL at q
  split at q
  · split at q
    · rename_i hc
      cases q
      exact ⟨d, _, dpO_of dx hc.1, dpO_of dy hc.2, hc.1, hc.2, .bl _, .refl _⟩
    · cases q
  · cases q
theorem op_notInL (hu : X.A.units + 65 < cLine) : OpD O X (compareOp .NotIn) notInL := by
  refine OpD.of (op_notInD hu) fun H x y d e z dx dy q => ?_
  unfold notInL at q
  split at q
  · split at q
    · rename_i hc
      cases q
      exact ⟨d, _, dpO_of dx hc.1, dpO_of dy hc.2, hc.1, hc.2, .bl _, .refl _⟩
    · cases q
  · cases q
def inD (x y : PyData) : Option PyData := (inK x y).or (inL x y)
def notInD (x y : PyData) : Option PyData := (notInK x y).or (notInL x y)
theorem op_inD' (hu : X.A.units + 65 < cLine) : OpD O X (compareOp .In) inD := (op_inK (by omega)).or (op_inL hu)
theorem op_notInD' (hu : X.A.units + 65 < cLine) : OpD O X (compareOp .NotIn) notInD := (op_notInK (by omega)).or (op_notInL hu)

/-! ### subscripts -/
def IxD (O : Addr × Str) (X : Cx) (r : PyData → PyData → Option PyData) : Prop :=
  ∀ (value slice : Expr) (pins : List (Addr × Obj)) (s : Shared) (σ : St) (H : Hp) (x y : V) (v u : Value) (d e z : PyData), Inv X pins σ H s → RelV x v → RelV y u → RepO (evO O X) H x d → RepO (evO O X) H y e → r d e = some z →
    subscripted slice false v u = operate [v, u] (getItem v u) → wpAny (model X.prog X.w) X.A (subscriptTail value slice v u) (Ans O X pins σ H z) X.xe s
theorem IxD.or {r r' : PyData → PyData → Option PyData} (h : IxD O X r) (h' : IxD O X r') : IxD O X fun d e => (r d e).or (r' d e) := by
  intro value slice pins s σ H x y v u d e z I rx ry dx dy q hs
  dsimp only at q
  cases hr : r d e with
  | some z' =>
    rw [hr] at q
    cases q
    exact h value slice pins s σ H x y v u d e _ I rx ry dx dy hr hs
  | none =>
    rw [hr] at q
    exact h' value slice pins s σ H x y v u d e _ I rx ry dx dy q hs
theorem IxD.of {r : PyData → PyData → Option PyData} {R : R2} (h : IxR X R)
    (k : ∀ H x y d e z, RepO (evO O X) H x d → RepO (evO O X) H y e → r d e = some z → R x y H fun x' H' => Rep (evO O X) H' x' z ∧ Same H H') : IxD O X r :=
  fun value slice pins s σ H x y v u d e z I rx ry dx dy q hs => thn (h value slice pins s σ H x y v u _ I rx ry (k H x y d e z dx dy q) hs) fun w s' ⟨x', H', I', rw', r', s⟩ => ⟨x', H', I', rw', r', s⟩
def ixL : PyData → PyData → Option PyData
  | .list ds, .int i => atI ds i
  | _, _ => none
def ixT : PyData → PyData → Option PyData
  | .tuple ds, .int i => atI ds i
  | _, _ => none
def ixS : PyData → PyData → Option PyData
  | .str z, .int i => if z.length ≤ sizeLine then (atI z.cps.toList i).map fun c => .str ⟨#[c]⟩ else none
  | _, _ => none
def ixK (D k : PyData) : Option PyData := match getD' D k with
  | some (some d) => some d
  | _ => none
theorem atI_rep {E : Ev} {H : Hp} {vs : List V} {ds : List PyData} {i : Int} {d : PyData} (r : RepAll E H vs ds) (e : atI ds i = some d) : ∃ v, atI vs i = some v ∧ Rep E H v d := by
  unfold atI at e ⊢
  rw [r.length]
  obtain ⟨j, hj, e⟩ := Option.bind_eq_some_iff.mp e
  obtain ⟨v, h1, h2⟩ := r.getD e
  exact ⟨v, by rw [hj]; exact h1, h2⟩
theorem ix_ixL : IxD O X ixL := by
  refine IxD.of ix_list fun H x y d e z dx dy q => ?_
  unfold ixL at q
  split at q
  · obtain ⟨a, vs, rfl, ha, ra⟩ := repO_list dx
    obtain ⟨v, h1, h2⟩ := atI_rep ra q
    exact ⟨a, vs, _, v, rfl, repO_int dy, ha, h1, h2, .refl _⟩
  · cases q
theorem ix_ixT : IxD O X ixT := by
  refine IxD.of ix_tup fun H x y d e z dx dy q => ?_
  unfold ixT at q
  split at q
  · obtain ⟨a, vs, rfl, ha, ra⟩ := repO_tup dx
    obtain ⟨v, h1, h2⟩ := atI_rep ra q
    exact ⟨a, vs, _, v, rfl, repO_int dy, ha, h1, h2, .refl _⟩
  · cases q
theorem ix_ixS : IxD O X ixS := by
  refine IxD.of ix_str fun H x y d e z dx dy q => ?_
  unfold ixS at q
  split at q
  · split at q
    · rename_i hz
      obtain ⟨c, h1, rfl⟩ := Option.map_eq_some_iff.mp q
      exact ⟨_, _, c, repO_str dx, repO_int dy, hz, h1, .str _, .refl _⟩
    · cases q
  · cases q
theorem ix_ixK (hu : X.A.units + 64 < cLine) : IxD O X ixK := by
  intro value slice pins s σ H x y v u d e z I rx ry dx dy q hs
  unfold ixK at q
  split at q
  · rename_i d' h
    cases q
    obtain ⟨a, rfl, ⟨ks, nk, rd, ey, hv⟩ | ⟨xs, kvs, b, nk, rd, rp, ey, hb, hk, hv⟩⟩ := dict_cases dx dy h
    · subst ey
      cases rx
      rcases hv with ⟨h1, h2⟩ | ⟨d, v, h1, h2, h3⟩
      · cases h1
      · cases h1
        have g : DGet H a (kV nk) (some v) := .inl ⟨ks, nk, rd, rfl, h2.symm⟩
        exact tail_any (dict_typeIs I g) PySem.F.slot_dict_getitem.lookup (d_getItem (by omega) I g ry fun w' s3 I3 rw' => ⟨v, H, I3, rw', h3, .refl _⟩) hs
    · subst ey
      cases rx
      cases ry
      obtain ⟨hz, hd, hm⟩ := dx_at I rd rp
      rcases hv with ⟨h1, h2⟩ | ⟨d, p, v, h1, h2, h3, h4⟩
      · cases h1
      · cases h1
        exact tail_any hm.typeIs PySem.F.slot_dict_getitem.lookup (wpAny_getItem_heap (room_nested hu) (key_at I hb hk) hm h2 ⟨v, H, I.tok _, h3, h4, .refl _⟩) hs
  · cases q
def ixD (x y : PyData) : Option PyData := (ixT x y).or ((ixL x y).or ((ixS x y).or (ixK x y)))
theorem ix_ixD (hu : X.A.units + 64 < cLine) : IxD O X ixD := ix_ixT.or (ix_ixL.or (ix_ixS.or (ix_ixK hu)))
variable {a b : Expr} {pos : Pos} {fa fb : FO}
theorem pv_ix {r : PyData → PyData → Option PyData} (hr : IxD O X r) (ha : PEo O X a fa) (hb : PEo O X b fb) (hs : PlainIx b) : PEv O X (.Subscript a b pos) (binE r fa fb) := by
  refine ⟨fun pins s σ H Q I h => ?_⟩
  obtain ⟨G, ρ, st, d, ρ', e, q⟩ := h
  unfold binE at e
  split at e
  · rename_i o1 ρ1 h1
    split at e
    · rename_i o2 ρ2 h2
      split at e
      · rename_i d1 d2 g1 g2
        split at e
        · rename_i z hz
          cases e
          refine Subscript_ (thn (ha.run pins s σ H (fun v H' => StR (evO O X) G H' σ ρ1 ∧ Pers H H' ∧ OpdR (evO O X) H' σ v o1) I ⟨G, ρ, st, o1, ρ1, h1, fun v H' x y z => ⟨x, y, z⟩⟩) fun u s1 ⟨x, H1, I1, rx, st1, p1, q1⟩ => ?_)
          refine thn (hb.run pins s1 σ H1 (fun v H' => StR (evO O X) G H' σ ρ' ∧ Pers H1 H' ∧ OpdR (evO O X) H' σ v o2) I1 ⟨G, ρ1, st1, o2, ρ', h2, fun v H' x y z => ⟨x, y, z⟩⟩) fun v s2 ⟨y, H2, I2, ry, st2, p2, q2⟩ => ?_
          refine thn (hr a b pins s2 σ H2 x y u v d1 d2 _ I2 rx ry (rsv_ok st2 (q1.pers p2) g1) (rsv_ok st2 q2 g2) hz (hs _ _)) fun w3 s3 ⟨x3, H3, I3, r3, rp3, sm3⟩ => ?_
          exact ⟨x3, H3, I3, r3, q x3 H3 (st2.same sm3) ((p1.trans p2).trans (.of_same sm3)) rp3⟩
        · cases e
      · cases e
    · cases e
  · cases e

/-! ### slices -/
abbrev FPt := Pu.Env → Option (Option Int × Pu.Env)
def tpo (E : Ev) (f : FPt) : TO := fun σ H Q => ∃ G ρ, StR E G H σ ρ ∧ ∃ l ρ', f ρ = some (l, ρ') ∧ ∀ H', StR E G H' σ ρ' → Pers H H' → Q l H'
def POv (O : Addr × Str) (X : Cx) (e : Option Expr) (f : FPt) : Prop := PO X e (tpo (evO O X) f)
def noP : FPt := fun ρ => some (none, ρ)
def intP (f : FE) : FPt := fun ρ => match f ρ with
  | some (.int i, ρ1) => some (some i, ρ1)
  | _ => none
theorem po_none' : POv O X none noP := by
  refine ⟨fun pins s σ H Q I q => ?_⟩
  obtain ⟨G, ρ, st, l, ρ', e, q⟩ := q
  cases e
  exact po_none.run pins s σ H Q I (q H st (.refl H))
theorem po_some' {e : Expr} {f : FE} (h : PEv O X e f) : POv O X (some e) (intP f) := by
  refine ⟨fun pins s σ H Q I q => ?_⟩
  obtain ⟨G, ρ, st, l, ρ', e, q⟩ := q
  unfold intP at e
  split at e
  · rename_i i ρ1 h1
    cases e
    refine (po_some h).run pins s σ H Q I ⟨G, ρ, st, .int i, ρ', h1, fun v H' st' p' r' => ?_⟩
    cases r'
    exact ⟨i, rfl, q H' st' p'⟩
  · cases e
def cutD (xs : List PyData) (lo hi : Option Int) : List PyData := (xs.drop (HT.sIx xs.length 0 lo)).take (HT.sIx xs.length xs.length hi - HT.sIx xs.length 0 lo)
theorem cut_rep {E : Ev} {H : Hp} {vs : List V} {ds : List PyData} {lo hi : Option Int} (r : RepAll E H vs ds) : RepAll E H (cutV vs lo hi) (cutD ds lo hi) := by
  unfold cutV cutD
  rw [r.length]
  exact (r.drop _).take _
def sliceE (f : FO) (fl fh : FPt) (k : PyData → Option Int → Option Int → Option PyData) : FE := fun ρ => match f ρ with
  | some (o, ρ1) => match fl ρ1 with
    | some (lo, ρ2) => match fh ρ2 with
      | some (hi, ρ3) => match rsv ρ3 o with
        | some d => match k d lo hi with
          | some z => some (z, ρ3)
          | none => none
        | none => none
      | none => none
    | none => none
  | none => none
def cutT : PyData → Option Int → Option Int → Option PyData
  | .tuple ds, lo, hi => some (.tuple (cutD ds lo hi))
  | _, _, _ => none
def cutL : PyData → Option Int → Option Int → Option PyData
  | .list ds, lo, hi => some (.list (cutD ds lo hi))
  | _, _, _ => none
theorem cutD_whole {ds : List PyData} {lo hi : Option Int} (h : HT.sIx ds.length 0 lo = 0 ∧ HT.sIx ds.length ds.length hi = ds.length) : cutD ds lo hi = ds := by
  unfold cutD
  rw [h.1, h.2]
  simp
theorem cutT_inv {d z : PyData} {lo hi : Option Int} (h : cutT d lo hi = some z) : ∃ ds, d = .tuple ds ∧ z = .tuple (cutD ds lo hi) := by
  cases d <;> simp [cutT] at h
  exact ⟨_, rfl, h.symm⟩
theorem cutL_inv {d z : PyData} {lo hi : Option Int} (h : cutL d lo hi = some z) : ∃ ds, d = .list ds ∧ z = .list (cutD ds lo hi) := by
  cases d <;> simp [cutL] at h
  exact ⟨_, rfl, h.symm⟩
variable {lo hi : Option Expr} {fl fh : FPt} {p2 : Pos}
theorem pv_sliceT (ha : PEo O X a fa) (hl : POv O X lo fl) (hh : POv O X hi fh) : PEv O X (.Subscript a (.Slice lo hi none p2) pos) (sliceE fa fl fh cutT) := by
  refine PE_imp (pe_slice sl_tupA ha hl hh) fun σ H Q q => ?_
  obtain ⟨G, ρ, st, d, ρ', e, q⟩ := q
  unfold sliceE at e
  split at e
  · rename_i o ρ1 h1
    split at e
    · rename_i l ρ2 h2
      split at e
      · rename_i u ρ3 h3
        split at e
        · rename_i d0 h4
          split at e
          · rename_i z h5
            cases e
            refine ⟨G, ρ, st, o, ρ1, h1, fun v H1 st1 p1 r1 => ⟨G, ρ1, st1, l, ρ2, h2, fun H2 st2 p2 => ⟨G, ρ2, st2, u, ρ', h3, fun H3 st3 p3 => ?_⟩⟩⟩
            have ro := rsv_ok st3 ((r1.pers p2).pers p3) h4
            obtain ⟨ds, rfl, rfl⟩ := cutT_inv h5
            obtain ⟨b, vs, rfl, hb, rb⟩ := repO_tup ro
            refine ⟨b, vs, rfl, hb, fun hw => ?_, fun hw p hp => ?_⟩
            · rw [rb.length] at hw
              refine q _ H3 st3 ((p1.trans p2).trans p3) ?_
              rw [cutD_whole hw]
              exact .tup hb rb
            · have sm := same_upd (o := .tup (cutV vs l u)) hp
              exact q _ _ (st3.same sm) (((p1.trans p2).trans p3).trans (.of_same sm)) (.tup (.of upd_same) ((cut_rep rb).pers (.of_same sm)))
          · cases e
        · cases e
      · cases e
    · cases e
  · cases e
theorem pn_sliceL (ha : PEo O X a fa) (hl : POv O X lo fl) (hh : POv O X hi fh) : PEn O X (.Subscript a (.Slice lo hi none p2) pos) (sliceE fa fl fh cutL) := by
  refine PE_imp (pe_slice sl_list ha hl hh) fun σ H Q q => ?_
  obtain ⟨G, ρ, st, d, ρ', e, q⟩ := q
  unfold sliceE at e
  split at e
  · rename_i o ρ1 h1
    split at e
    · rename_i l ρ2 h2
      split at e
      · rename_i u ρ3 h3
        split at e
        · rename_i d0 h4
          split at e
          · rename_i z h5
            cases e
            refine ⟨G, ρ, st, o, ρ1, h1, fun v H1 st1 p1 r1 => ⟨G, ρ1, st1, l, ρ2, h2, fun H2 st2 p2 => ⟨G, ρ2, st2, u, ρ', h3, fun H3 st3 p3 => ?_⟩⟩⟩
            have ro := rsv_ok st3 ((r1.pers p2).pers p3) h4
            obtain ⟨ds, rfl, rfl⟩ := cutL_inv h5
            obtain ⟨b, vs, rfl, hb, rb⟩ := repO_list ro
            refine ⟨b, vs, rfl, hb, fun p hp => ?_⟩
            have sm := same_upd (o := .lst (cutV vs l u)) hp
            exact q _ H3 _ st3 ((p1.trans p2).trans p3) sm hp (.lst upd_same ((cut_rep rb).pers (.of_same sm)))
          · cases e
        · cases e
      · cases e
    · cases e
  · cases e

def cutA : PyData → Option Int → Option Int → Option PyData
  | .tuple ds, lo, hi => some (.tuple (cutD ds lo hi))
  | .list ds, lo, hi => some (.list (cutD ds lo hi))
  | _, _, _ => none
/-- a[lo:hi] as a value -/
theorem pv_sliceA (ha : PEo O X a fa) (hl : POv O X lo fl) (hh : POv O X hi fh) : PEv O X (.Subscript a (.Slice lo hi none p2) pos) (sliceE fa fl fh cutA) := by
  refine ⟨fun pins s σ H Q I q => ?_⟩
  obtain ⟨G, ρ, st, d, ρ', e, q⟩ := q
  have z : sliceE fa fl fh cutT ρ = some (d, ρ') ∨ sliceE fa fl fh cutL ρ = some (d, ρ') := by
    unfold sliceE at e
    split at e
    · rename_i o ρ1 h1
      split at e
      · rename_i l ρ2 h2
        split at e
        · rename_i u ρ3 h3
          split at e
          · rename_i d0 h4
            split at e
            · rename_i z h5
              cases e
              cases d0 with
              | tuple ds =>
                cases h5
                exact .inl (by simp [sliceE, h1, h2, h3, h4, cutT])
              | list ds =>
                cases h5
                exact .inr (by simp [sliceE, h1, h2, h3, h4, cutL])
              | _ => cases h5
            · cases e
          · cases e
        · cases e
      · cases e
    · cases e
  rcases z with z | z
  · exact (pv_sliceT (pos := pos) (p2 := p2) ha hl hh).run pins s σ H Q I ⟨G, ρ, st, d, ρ', z, q⟩
  · exact (pv_new (pn_sliceL (pos := pos) (p2 := p2) ha hl hh)).run pins s σ H Q I ⟨G, ρ, st, d, ρ', z, q⟩
/-! ### built-ins -/
def lenD : List PyData → Option PyData
  | [.str y] => if y.length ≤ sizeLine then some (.int y.length) else none
  | [.list ds] => some (.int ds.length)
  | [.tuple ds] => some (.int ds.length)
  | _ => none
theorem repOs1 {E : Ev} {H : Hp} {vs : List V} {d : PyData} (h : RepOs E H vs [d]) : ∃ v, vs = [v] ∧ RepO E H v d := by
  cases h with
  | cons h t => cases t; exact ⟨_, rfl, h⟩
theorem repOs2 {E : Ev} {H : Hp} {vs : List V} {d e : PyData} (h : RepOs E H vs [d, e]) : ∃ v w, vs = [v, w] ∧ RepO E H v d ∧ RepO E H w e := by
  cases h with
  | cons h t => cases t with
    | cons h' t => cases t; exact ⟨_, _, rfl, h, h'⟩
theorem call_lenD : CallD O X (.builtin "len") lenD := by
  refine CallD.of call_len fun H xs ds z r q => ?_
  unfold lenD at q
  split at q
  · split at q
    · rename_i hz
      cases q
      obtain ⟨v, rfl, h⟩ := repOs1 r
      rw [repO_str h]
      exact ⟨_, _, rfl, ⟨hz, rfl⟩, .int _, .refl _⟩
    · cases q
  · cases q
    obtain ⟨v, rfl, h⟩ := repOs1 r
    obtain ⟨a, vs, rfl, ha, ra⟩ := repO_list h
    exact ⟨_, vs.length, rfl, .inl ⟨vs, ha, rfl⟩, by rw [ra.length]; exact .int _, .refl _⟩
  · cases q
    obtain ⟨v, rfl, h⟩ := repOs1 r
    obtain ⟨a, vs, rfl, ha, ra⟩ := repO_tup h
    exact ⟨_, vs.length, rfl, .inr ⟨vs, ha, rfl⟩, by rw [ra.length]; exact .int _, .refl _⟩
  · cases q
def absD : List PyData → Option PyData
  | [.int i] => some (.int (if i < 0 then -i else i))
  | _ => none
theorem call_absD : CallD O X (.builtin "abs") absD := by
  refine CallD.of call_abs fun H xs ds z r q => ?_
  unfold absD at q
  split at q
  · cases q
    obtain ⟨v, rfl, h⟩ := repOs1 r
    rw [repO_int h]
    exact ⟨_, rfl, .int _, .refl _⟩
  · cases q
def max2D : List PyData → Option PyData
  | [.int i, .int j] => some (.int (if j > i then j else i))
  | _ => none
def min2D : List PyData → Option PyData
  | [.int i, .int j] => some (.int (if j < i then j else i))
  | _ => none
theorem call_max2D (hc : X.calm = true) : CallD O X (.builtin "max") max2D := by
  refine CallD.of (call_max2 hc) fun H xs ds z r q => ?_
  unfold max2D at q
  split at q
  · cases q
    obtain ⟨v, w, rfl, h, h'⟩ := repOs2 r
    rw [repO_int h, repO_int h']
    exact ⟨_, _, rfl, .int _, .refl _⟩
  · cases q
theorem call_min2D (hc : X.calm = true) : CallD O X (.builtin "min") min2D := by
  refine CallD.of (call_min2 hc) fun H xs ds z r q => ?_
  unfold min2D at q
  split at q
  · cases q
    obtain ⟨v, w, rfl, h, h'⟩ := repOs2 r
    rw [repO_int h, repO_int h']
    exact ⟨_, _, rfl, .int _, .refl _⟩
  · cases q
def maxI : List Int → Int
  | [] => 0
  | [i] => i
  | i :: is => let m := maxI is; if m > i then m else i
def minI : List Int → Int
  | [] => 0
  | [i] => i
  | i :: is => let m := minI is; if m < i then m else i
theorem maxI_spec : ∀ {l : List Int}, l ≠ [] → maxI l ∈ l ∧ ∀ y ∈ l, y ≤ maxI l
  | [], h => absurd rfl h
  | [i], _ => by simp [maxI]
  | i :: j :: l, _ => by
    obtain ⟨h1, h2⟩ := maxI_spec (l := j :: l) (by simp)
    unfold maxI
    by_cases h : maxI (j :: l) > i
    · simp only [h, if_true]
      refine ⟨List.mem_cons_of_mem _ h1, fun y hy => ?_⟩
      rcases List.mem_cons.mp hy with rfl | hy
      · omega
      · exact h2 y hy
    · simp only [h, if_false]
      refine ⟨List.mem_cons_self, fun y hy => ?_⟩
      rcases List.mem_cons.mp hy with rfl | hy
      · omega
      · have := h2 y hy; omega
theorem minI_spec : ∀ {l : List Int}, l ≠ [] → minI l ∈ l ∧ ∀ y ∈ l, minI l ≤ y
  | [], h => absurd rfl h
  | [i], _ => by simp [minI]
  | i :: j :: l, _ => by
    obtain ⟨h1, h2⟩ := minI_spec (l := j :: l) (by simp)
    unfold minI
    by_cases h : minI (j :: l) < i
    · simp only [h, if_true]
      refine ⟨List.mem_cons_of_mem _ h1, fun y hy => ?_⟩
      rcases List.mem_cons.mp hy with rfl | hy
      · omega
      · exact h2 y hy
    · simp only [h, if_false]
      refine ⟨List.mem_cons_self, fun y hy => ?_⟩
      rcases List.mem_cons.mp hy with rfl | hy
      · omega
      · have := h2 y hy; omega
def maxL : List PyData → Option PyData
  | [.list ds] => match asInts ds with
    | some (i :: is) => some (.int (maxI (i :: is)))
    | _ => none
  | _ => none
def minL : List PyData → Option PyData
  | [.list ds] => match asInts ds with
    | some (i :: is) => some (.int (minI (i :: is)))
    | _ => none
  | _ => none
theorem call_maxL (hc : X.calm = true) : CallD O X (.builtin "max") maxL := by
  refine CallD.of (cr_max hc) fun H xs ds z r q => ?_
  unfold maxL at q
  split at q
  · split at q
    · rename_i i is h1
      cases q
      obtain rfl := asInts_ok h1
      obtain ⟨v, rfl, h⟩ := repOs1 r
      obtain ⟨a, vs, rfl, ha, ra⟩ := repO_list h
      obtain rfl := ra.ints
      obtain ⟨m1, m2⟩ := maxI_spec (l := i :: is) (by simp)
      refine ⟨a, i :: is, rfl, ha, by simp, fun m h1 h2 => ?_⟩
      have : m = maxI (i :: is) := Int.le_antisymm (m2 m h1) (h2 _ m1)
      subst this
      exact ⟨.int _, .refl _⟩
    · cases q
  · cases q
theorem call_minL (hc : X.calm = true) : CallD O X (.builtin "min") minL := by
  refine CallD.of (cr_min hc) fun H xs ds z r q => ?_
  unfold minL at q
  split at q
  · split at q
    · rename_i i is h1
      cases q
      obtain rfl := asInts_ok h1
      obtain ⟨v, rfl, h⟩ := repOs1 r
      obtain ⟨a, vs, rfl, ha, ra⟩ := repO_list h
      obtain rfl := ra.ints
      obtain ⟨m1, m2⟩ := minI_spec (l := i :: is) (by simp)
      refine ⟨a, i :: is, rfl, ha, by simp, fun m h1 h2 => ?_⟩
      have : m = minI (i :: is) := Int.le_antisymm (h2 _ m1) (m2 m h1)
      subst this
      exact ⟨.int _, .refl _⟩
    · cases q
  · cases q
def maxD (ds : List PyData) : Option PyData := (max2D ds).or (maxL ds)
def minD (ds : List PyData) : Option PyData := (min2D ds).or (minL ds)
theorem call_maxD (hc : X.calm = true) : CallD O X (.builtin "max") maxD := (call_max2D hc).or (call_maxL hc)
theorem call_minD (hc : X.calm = true) : CallD O X (.builtin "min") minD := (call_min2D hc).or (call_minL hc)
def sumL : List PyData → Option PyData
  | [.list ds] => match asInts ds with
    | some is => some (.int is.sum)
    | _ => none
  | _ => none
theorem call_sumL (hc : X.calm = true) : CallD O X (.builtin "sum") sumL := by
  refine CallD.of (cr_sum hc) fun H xs ds z r q => ?_
  unfold sumL at q
  split at q
  · split at q
    · rename_i is h1
      cases q
      obtain rfl := asInts_ok h1
      obtain ⟨v, rfl, h⟩ := repOs1 r
      obtain ⟨a, vs, rfl, ha, ra⟩ := repO_list h
      obtain rfl := ra.ints
      exact ⟨a, is, rfl, ha, .int _, .refl _⟩
    · cases q
  · cases q
def allD : List PyData → Option PyData
  | [.list ds] => match asBools ds with
    | some is => some (.bool (is.all id))
    | _ => none
  | _ => none
def anyD : List PyData → Option PyData
  | [.list ds] => match asBools ds with
    | some is => some (.bool (is.any id))
    | _ => none
  | _ => none
theorem call_allD (hc : X.calm = true) : CallD O X (.builtin "all") allD := by
  refine CallD.of (cr_all hc) fun H xs ds z r q => ?_
  unfold allD at q
  split at q
  · split at q
    · rename_i is h1
      cases q
      obtain rfl := asBools_ok h1
      obtain ⟨v, rfl, h⟩ := repOs1 r
      obtain ⟨a, vs, rfl, ha, ra⟩ := repO_list h
      obtain rfl := ra.bools
      exact ⟨a, is, rfl, ha, .bl _, .refl _⟩
    · cases q
  · cases q
theorem call_anyD (hc : X.calm = true) : CallD O X (.builtin "any") anyD := by
  refine CallD.of (cr_any hc) fun H xs ds z r q => ?_
  unfold anyD at q
  split at q
  · split at q
    · rename_i is h1
      cases q
      obtain rfl := asBools_ok h1
      obtain ⟨v, rfl, h⟩ := repOs1 r
      obtain ⟨a, vs, rfl, ha, ra⟩ := repO_list h
      obtain rfl := ra.bools
      exact ⟨a, is, rfl, ha, .bl _, .refl _⟩
    · cases q
  · cases q
def intD : List PyData → Option PyData
  | [.int i] => some (.int i)
  | [.bool k] => some (.int (if k then 1 else 0))
  | _ => none
theorem call_intD : CallD O X (.type "int") intD := by
  refine CallD.of call_int1 fun H xs ds z r q => ?_
  unfold intD at q
  split at q
  · cases q
    obtain ⟨v, rfl, h⟩ := repOs1 r
    rw [repO_int h]
    exact .inl ⟨_, rfl, .int _, .refl _⟩
  · cases q
    obtain ⟨v, rfl, h⟩ := repOs1 r
    rw [repO_bool h]
    exact .inr ⟨_, rfl, .int _, .refl _⟩
  · cases q
def listD : List PyData → Option PyData
  | [.list ds] => some (.list ds)
  | [.tuple ds] => some (.list ds)
  | [.dict [(.bool true, .list ds)]] => some (.list ds)
  | _ => none
theorem repO_scr {E : Ev} {H : Hp} {v : V} {ds : List PyData} (h : RepO E H v (.dict [(.bool true, .list ds)])) : ∃ a vs, v = .ref a ∧ SqL E.K H a vs ∧ RepAll E H vs ds := by
  rcases h with h | ⟨a, e, h⟩
  · generalize e : PyData.dict [(.bool true, .list ds)] = d at h
    cases h with
    | scr h r => cases e; exact ⟨_, _, rfl, h.sq, r⟩
    | dK h r =>
      cases e
      generalize e : [(PyData.bool true, PyData.list ds)] = l at r
      cases r with
      | nil => cases e
      | @cons k _ _ _ _ _ _ =>
        have e1 := congrArg Prod.fst (List.cons.inj e).1
        cases k <;> cases e1
    | _ => cases e
  · generalize e : PyData.dict [(.bool true, .list ds)] = d at h
    cases h with
    | dK h r =>
      cases e
      generalize e : [(PyData.bool true, PyData.list ds)] = l at r
      cases r with
      | nil => cases e
      | @cons k _ _ _ _ _ _ =>
        have e1 := congrArg Prod.fst (List.cons.inj e).1
        cases k <;> cases e1
    | _ => cases e
theorem call_listD : CallN O X (.type "list") listD := by
  refine CallN.of call_list_of fun H xs ds z r q => ?_
  unfold listD at q
  split at q
  · cases q
    obtain ⟨v, rfl, h⟩ := repOs1 r
    obtain ⟨a, vs, rfl, ha, ra⟩ := repO_list h
    refine ⟨a, vs, rfl, .inl ha, fun l hl => ⟨l, rfl, hl, .lst upd_same (ra.pers (.of_same (same_upd hl))), same_upd hl⟩⟩
  · cases q
    obtain ⟨v, rfl, h⟩ := repOs1 r
    obtain ⟨a, vs, rfl, ha, ra⟩ := repO_tup h
    refine ⟨a, vs, rfl, .inr ha, fun l hl => ⟨l, rfl, hl, .lst upd_same (ra.pers (.of_same (same_upd hl))), same_upd hl⟩⟩
  · cases q
    obtain ⟨v, rfl, h⟩ := repOs1 r
    obtain ⟨a, vs, rfl, ha, ra⟩ := repO_scr h
    refine ⟨a, vs, rfl, .inl ha, fun l hl => ⟨l, rfl, hl, .lst upd_same (ra.pers (.of_same (same_upd hl))), same_upd hl⟩⟩
  · cases q
def tupleD : List PyData → Option PyData
  | [.list ds] => some (.tuple ds)
  | [.tuple ds] => some (.tuple ds)
  | _ => none
theorem call_tupleD : CallD O X (.type "tuple") tupleD := by
  refine CallD.of call_tuple_of fun H xs ds z r q => ?_
  unfold tupleD at q
  split at q
  · cases q
    obtain ⟨v, rfl, h⟩ := repOs1 r
    obtain ⟨a, vs, rfl, ha, ra⟩ := repO_list h
    exact ⟨a, vs, rfl, .inl ⟨ha, fun l hl => ⟨.tup (.of upd_same) (ra.pers (.of_same (same_upd hl))), same_upd hl⟩⟩⟩
  · cases q
    obtain ⟨v, rfl, h⟩ := repOs1 r
    obtain ⟨a, vs, rfl, ha, ra⟩ := repO_tup h
    exact ⟨a, vs, rfl, .inr ⟨ha, .tup ha ra, .refl _⟩⟩
  · cases q
end
end L2.Pu

/-! The pure layer, 11: isinstance, sums, changes of one's own, several targets. -/
namespace L2.Pu
open PySem PySem.Spec PyProof.Rows
section
variable {O : Addr × Str} {X : Cx}
/-! ### isinstance(x, T) -/
def tyN : PyData → String
  | .none => "NoneType"
  | .bool _ => "bool"
  | .int _ => "int"
  | .str _ => "str"
  | .list _ => "list"
  | .tuple _ => "tuple"
  | .dict _ => "dict"
def noX : PyData → Bool
  | .dict ((.none, .none) :: _) => false
  | .dict ((.bool _, _) :: _) => false
  | _ => true
theorem tyX_of {H : Hp} {v : V} {d : PyData} (h : RepO (evO O X) H v d) (n : noX d = true) : TyX X.K H v (.type (tyN d)) := by
  rcases h with h | ⟨a, rfl, h⟩
  · cases h with
    | non => exact .base .non
    | bl b => exact .base (.bl b)
    | int i => exact .base (.int i)
    | str x => exact .base (.str x)
    | lst h t => obtain ⟨o, h⟩ := h; exact .base (.frz h)
    | tup h t =>
      rcases h with (h | ⟨o, h⟩) | ⟨o, us, n, h1, h2, _⟩
      · exact .base (.tup h)
      · exact .fTuple h
      · exact .kTuple h1 h2
    | dK h t => exact .fDict h
    | dX h t => cases n
    | scr h t => cases n
  · cases h with
    | lst h t => exact .base (.lst h)
    | dK h t => exact .base (.dK h)
    | dX h t => cases n
/-- the answers of isinstance, built-in types -/
structure IsT (T : String) (f : PyData → Bool) : Prop where
  non : kitB "NoneType" T = some (f .none)
  bl : ∀ b, kitB "bool" T = some (f (.bool b))
  int : ∀ b, kitB "int" T = some (f (.int b))
  str : ∀ b, kitB "str" T = some (f (.str b))
  lst : ∀ b, kitB "list" T = some (f (.list b))
  tup : ∀ b, kitB "tuple" T = some (f (.tuple b))
  dct : ∀ b, kitB "dict" T = some (f (.dict b))
theorem IsT.at {T : String} {f : PyData → Bool} (h : IsT T f) (d : PyData) : kitB (tyN d) T = some (f d) := by
  cases d with
  | none => exact h.non
  | bool b => exact h.bl b
  | int b => exact h.int b
  | str b => exact h.str b
  | list b => exact h.lst b
  | tuple b => exact h.tup b
  | dict b => exact h.dct b
def isInt : PyData → Bool
  | .int _ => true
  | .bool _ => true
  | _ => false
def isBool : PyData → Bool
  | .bool _ => true
  | _ => false
def isStr : PyData → Bool
  | .str _ => true
  | _ => false
def isTuple : PyData → Bool
  | .tuple _ => true
  | _ => false
def isList : PyData → Bool
  | .list _ => true
  | _ => false
def isDict : PyData → Bool
  | .dict _ => true
  | _ => false
theorem isT_int : IsT "int" isInt := ⟨(by decide +kernel : kitB "NoneType" "int" = some false), fun _ => (by decide +kernel : kitB "bool" "int" = some true), fun _ => (by decide +kernel : kitB "int" "int" = some true), fun _ => (by decide +kernel : kitB "str" "int" = some false), fun _ => (by decide +kernel : kitB "list" "int" = some false), fun _ => (by decide +kernel : kitB "tuple" "int" = some false), fun _ => (by decide +kernel : kitB "dict" "int" = some false)⟩
theorem isT_bool : IsT "bool" isBool := ⟨(by decide +kernel : kitB "NoneType" "bool" = some false), fun _ => (by decide +kernel : kitB "bool" "bool" = some true), fun _ => (by decide +kernel : kitB "int" "bool" = some false), fun _ => (by decide +kernel : kitB "str" "bool" = some false), fun _ => (by decide +kernel : kitB "list" "bool" = some false), fun _ => (by decide +kernel : kitB "tuple" "bool" = some false), fun _ => (by decide +kernel : kitB "dict" "bool" = some false)⟩
theorem isT_str : IsT "str" isStr := ⟨(by decide +kernel : kitB "NoneType" "str" = some false), fun _ => (by decide +kernel : kitB "bool" "str" = some false), fun _ => (by decide +kernel : kitB "int" "str" = some false), fun _ => (by decide +kernel : kitB "str" "str" = some true), fun _ => (by decide +kernel : kitB "list" "str" = some false), fun _ => (by decide +kernel : kitB "tuple" "str" = some false), fun _ => (by decide +kernel : kitB "dict" "str" = some false)⟩
theorem isT_tuple : IsT "tuple" isTuple := ⟨(by decide +kernel : kitB "NoneType" "tuple" = some false), fun _ => (by decide +kernel : kitB "bool" "tuple" = some false), fun _ => (by decide +kernel : kitB "int" "tuple" = some false), fun _ => (by decide +kernel : kitB "str" "tuple" = some false), fun _ => (by decide +kernel : kitB "list" "tuple" = some false), fun _ => (by decide +kernel : kitB "tuple" "tuple" = some true), fun _ => (by decide +kernel : kitB "dict" "tuple" = some false)⟩
theorem isT_list : IsT "list" isList := ⟨(by decide +kernel : kitB "NoneType" "list" = some false), fun _ => (by decide +kernel : kitB "bool" "list" = some false), fun _ => (by decide +kernel : kitB "int" "list" = some false), fun _ => (by decide +kernel : kitB "str" "list" = some false), fun _ => (by decide +kernel : kitB "list" "list" = some true), fun _ => (by decide +kernel : kitB "tuple" "list" = some false), fun _ => (by decide +kernel : kitB "dict" "list" = some false)⟩
theorem isT_dict : IsT "dict" isDict := ⟨(by decide +kernel : kitB "NoneType" "dict" = some false), fun _ => (by decide +kernel : kitB "bool" "dict" = some false), fun _ => (by decide +kernel : kitB "int" "dict" = some false), fun _ => (by decide +kernel : kitB "str" "dict" = some false), fun _ => (by decide +kernel : kitB "list" "dict" = some false), fun _ => (by decide +kernel : kitB "tuple" "dict" = some false), fun _ => (by decide +kernel : kitB "dict" "dict" = some true)⟩
def isiE (f : PyData → Bool) (fo : FO) : FE := fun ρ => match fo ρ with
  | some (o, ρ1) => match rsv ρ1 o with
    | some d => if noX d then some (.bool (f d), ρ1) else none
    | none => none
  | none => none
variable {a b e : Expr} {fo : FO} {p p2 pos : Pos} {T : String} {y : Str} {f : PyData → Bool}
theorem pv_isi (hT : IsT T f) (hg : Gl X "isinstance") (hm : X.mg "isinstance" = none) (hg2 : Gl X y) (hm2 : X.mg y = none) (hv2 : bootBuiltins y = some (.type T)) (ha : PEo O X e fo)
    (hn2 : y ≠ "__name__" := by decide) (hdb2 : (y == ("__debug__" : Str)) = false := by decide)
    (he : starEach [e, .Name y p2] X.env = (false, eval e X.env) :: starEach [.Name y p2] X.env := by rfl) (he2 : starEach [.Name y p2] X.env = (false, eval (.Name y p2) X.env) :: starEach [] X.env := by rfl) (hpl : (backTo pos (starEach [.Name y p2] X.env)).any (·.1) = false := by rfl) :
    PEv O X (.Call (.Name "isinstance" p) [e, .Name y p2] [] pos) (isiE f fo) := by
  refine PE_imp (pe_callB call_isi hg hm (by rfl) (pa_cons ha (pa_cons (pe_bltn (v := .ty T) hg2 hm2 hv2 rfl hn2 hdb2) pa_nil he2) he) (by decide) (by decide) he hpl) fun σ H Q q => ?_
  obtain ⟨G, ρ, st, d, ρ', e, q⟩ := q
  unfold isiE at e
  split at e
  · rename_i o ρ1 h1
    split at e
    · rename_i d' h2
      split at e
      · rename_i hx
        cases e
        refine ⟨G, ρ, st, o, ρ', h1, fun v H' st' p' r' => ?_⟩
        exact ⟨v, .ty T, _, _, _, rfl, .ty T, tyX_of (rsv_ok st' r' h2) hx, kit_ty (hT.at d'), q _ H' st' p' (.bl _)⟩
      · cases e
    · cases e
  · cases e

/-! ### sum, str -/
def sumT : List PyData → Option PyData
  | [.tuple ds] => match asInts ds with
    | some is => some (.int is.sum)
    | _ => none
  | _ => none
theorem call_sumT (hc : X.calm = true) : CallD O X (.builtin "sum") sumT := by
  intro pins s σ H xs us ds z I r dx q
  unfold sumT at q
  split at q
  · split at q
    · rename_i is h1
      cases q
      obtain rfl := asInts_ok h1
      obtain ⟨v, rfl, h⟩ := repOs1 dx
      obtain ⟨t, vs, rfl, ht, ra⟩ := repO_tup h
      obtain rfl := ra.ints
      obtain ⟨its, rv, p, _⟩ := I.tuple ht
      rw [Vals.ref1 r]
      have hi := rv.ints
      obtain ⟨ys, e⟩ := hi.allInts.items
      have hn : numsOf (intItems ys).toList = is := by rw [← e]; exact hi.numsOf
      rw [nums_intItems] at hn
      rw [e] at p
      refine PySem.W.ktm_sumG (I.ok.hd hc) p fun h' tk t' hk => ⟨.int _, H, I.kept hk, ⟨_, rfl⟩, ?_, .refl _⟩
      rw [preSum_eq, List.take_of_length_le (by simp), hn]
      exact .int _
    · cases q
  · cases q
def sumD (ds : List PyData) : Option PyData := (sumL ds).or (sumT ds)
theorem call_sumD (hc : X.calm = true) : CallD O X (.builtin "sum") sumD := (call_sumL hc).or (call_sumT hc)
def strD : List PyData → Option PyData
  | [.int i] => if i.natAbs.log2 < 1920 then some (.str (toString i)) else none
  | _ => none
def strS : List PyData → Option PyData
  | [.str i] => some (.str i)
  | _ => none
theorem call_strI : CallD O X (.type "str") strD := by
  refine CallD.of call_str_int fun H xs ds z r q => ?_
  unfold strD at q
  split at q
  · split at q
    · rename_i hz
      cases q
      obtain ⟨v, rfl, h⟩ := repOs1 r
      rw [repO_int h]
      exact ⟨_, rfl, hz, .str _, .refl _⟩
    · cases q
  · cases q
theorem call_strS : CallD O X (.type "str") strS := by
  refine CallD.of SkE.call_str_str fun H xs ds z r q => ?_
  unfold strS at q
  split at q
  · cases q
    obtain ⟨v, rfl, h⟩ := repOs1 r
    rw [repO_str h]
    exact ⟨_, rfl, .str _, .refl _⟩
  · cases q
def strA (ds : List PyData) : Option PyData := (strD ds).or (strS ds)
theorem call_strA : CallD O X (.type "str") strA := call_strI.or call_strS

/-! ### {} -/
/-! ### the attribute of an own object -/
def flE (i : Nat) : FO := fun ρ => match ρ[i]? with
  | some (.own _ true _) => some (.fl i, ρ)
  | _ => none
theorem po_fld {i : Nat} {o : Expr} (ho : PE X o (tVar i)) (c : Cls X.K O.1) (n : NoAttr X.K O.1 O.2) (hb : attributeBase o O.2 X.env (eval o X.env) = eval o X.env := by rfl) : PEo O X (.Attribute o O.2 pos) (flE i) := by
  refine PE_imp (pe_fld ho hb) fun σ H Q q => ?_
  obtain ⟨G, ρ, st, d, ρ', e, q⟩ := q
  unfold flE at e
  split at e
  · rename_i io d' hq
    cases e
    obtain ⟨b, fp, h1, h2, _⟩ := st.own i _ _ _ hq
    cases h2 with
    | @obj _ b' dx _ h2 h3 =>
      refine ⟨_, h1, _, O.1, dx, _, .ref b', rfl, h2, c, n, ?_, q _ H st (.refl H) ⟨_, dx, b', h1, h2, rfl⟩⟩
      show List.lookup O.2 [(O.2, V.ref b')] = _
      unfold List.lookup
      rw [beq_self_eq_true]
  · cases e
/-! ### x[i] = v -/
/-- what a store makes of the thing at b -/
def PutD (O : Addr × Str) (X : Cx) (r : PyData → PyData → PyData → Option PyData) : Prop :=
  ∀ (pins : List (Addr × Obj)) (s : Shared) (σ : St) (H : Hp) (b : Addr) (y w : V) (u z : Value) (d k e d' : PyData), Inv X pins σ H s → OwnR (evO O X) H b d → RelV y u → RepO (evO O X) H y k → RelV w z → Rep (evO O X) H w e → r d k e = some d' →
    wpAny (model X.prog X.w) X.A (setItem (.ref b) u z) (fun _ s' => ∃ H', Inv X pins σ H' s' ∧ OwnR (evO O X) H' b d' ∧ ∀ c, c ≠ b → H' c = H c) X.xe s
theorem PutD.or {r r' : PyData → PyData → PyData → Option PyData} (h : PutD O X r) (h' : PutD O X r') : PutD O X fun d k e => (r d k e).or (r' d k e) := by
  intro pins s σ H b y w u z d k e d' I o ry dy rw' dw q
  dsimp only at q
  cases hr : r d k e with
  | some z' =>
    rw [hr] at q
    cases q
    exact h pins s σ H b y w u z d k e _ I o ry dy rw' dw hr
  | none =>
    rw [hr] at q
    exact h' pins s σ H b y w u z d k e _ I o ry dy rw' dw q
def putL (D k e : PyData) : Option PyData := match D, k with
  | .list ds, .int i => match ixN ds.length i with
    | some j => some (.list (ds.set j e))
    | none => none
  | _, _ => none
theorem put_L : PutD O X putL := by
  intro pins s σ H b y w u z d k e d' I o ry dy rw' dw q
  unfold putL at q
  split at q
  · rename_i ds i
    split at q
    · rename_i j hj
      cases q
      cases o with
      | lst h t =>
        rename_i xs
        rw [repO_int dy] at ry
        refine thn (set_list pins s σ H (.ref b) (.int i) w (.ref b) u z (fun H' => H' = upd H b (.lst (xs.set j w))) I rfl ry rw' ⟨b, xs, i, j, rfl, rfl, h, by rw [t.length]; exact hj, rfl⟩) fun _ s' ⟨H', I', e'⟩ => ?_
        subst e'
        have off : ∀ c, c ≠ b → upd H b (.lst (xs.set j w)) c = H c := fun c hc => upd_ne hc
        have p : Pers H (upd H b (.lst (xs.set j w))) := .off (by rw [h]; exact trivial) off
        exact ⟨_, I', .lst upd_same ((t.set dw j).pers p), off⟩
    · cases q
  · cases q
def putDK (D k e : PyData) : Option PyData := match D with
  | .dict ((.none, .none) :: kvs) => match nkC k with
    | some nk => match k with
      | .tuple _ => if kvs.length < sizeLine then some (.dict ((.none, .none) :: putX kvs nk k e)) else none
      | _ => none
    | none => none
  | .dict kvs => match keyOf k with
    | some nk => if kvs.length < sizeLine then some (.dict (putKD kvs nk e)) else none
    | none => none
  | _ => none
theorem repK_length {E : Ev} {H : Hp} : ∀ {xs : List (Key × V)} {kvs : List (PyData × PyData)}, RepK E H xs kvs → xs.length = kvs.length
  | _, _, .nil => rfl
  | _, _, .cons _ t => by simp [repK_length t]
theorem repX_length {E : Ev} {H : Hp} : ∀ {xs : List (NestedKey × Addr × Value)} {kvs : List (PyData × PyData)}, RepX E H xs kvs → xs.length = kvs.length
  | _, _, .nil => rfl
  | _, _, .cons _ _ _ _ t => by simp [repX_length t]
theorem storedH_len (xs : List (NestedKey × Addr × Value)) (k : NestedKey) (a : Addr) (v : Value) : (storedH xs k a v).length ≤ xs.length + 1 := by
  unfold storedH
  split
  · simp
  · simp
theorem kv_keys {ks : List (Key × V)} {vs : List (Key × Value)} (rel : KV ks vs) : ks.map (·.1) = vs.map (·.1) := by
  induction rel with
  | nil => rfl
  | cons r t ih => rw [List.map_cons, List.map_cons, ih, r.1]
theorem dk_nodup {pins : List (Addr × Obj)} {s : Shared} {σ : St} {H : Hp} {b : Addr} {ks : List (Key × V)} (I : Inv X pins σ H s) (h : H b = some (.dK ks)) : (ks.map (·.1)).Nodup := by
  obtain ⟨_, _, vs, rel, dd⟩ := dk_of I.hok h
  rw [kv_keys rel]
  obtain ⟨_, _, _, _, _, _, dd⟩ := dd
  exact dd.2.2
theorem put_DK (hu : X.A.units + 64 < cLine) : PutD O X putDK := by
  intro pins s σ H b y w u z d k e d' I o ry dy rw' dw q
  unfold putDK at q
  split at q
  · rename_i kvs
    split at q
    · rename_i nk h1
      split at q
      · rename_i ks
        split at q
        · rename_i hl
          cases q
          cases o with
          | dK h t => exact (repK_none t).elim
          | dX h t =>
            rename_i xs
            obtain ⟨c, rfl, hc⟩ := repO_ref dy
            cases ry
            obtain ⟨hz, hd, hm⟩ := dx_at I (.inl h) t
            have lx := repX_length t
            obtain ⟨_, _, _, _, _, _, _, _, nd⟩ := id hm
            refine wpAny_setItem_heap (hsz := hz) (room_nested hu) (key_at I hc h1) hm fun h' hm' hs => ?_
            obtain ⟨o', es, ep, g1, g2, g3, g4, g5, g6⟩ := hm'
            have off : ∀ a, a ≠ b → upd H b (DX X.prog X.w b (storedH xs nk c z)) a = H a := fun a ha => upd_ne ha
            have p : Pers H (upd H b (DX X.prog X.w b (storedH xs nk c z))) := .off (by rw [h]; exact trivial) off
            refine ⟨upd H b (DX X.prog X.w b (storedH xs nk c z)), ?_, .dX upd_same ((putX_ok h1 hc rw' dw t nd).pers p), off⟩
            refine d_write I (by rw [h]; exact trivial) hs ⟨o', g1⟩ ?_
            refine ⟨⟨by have := storedH_len xs nk c z; omega, hd, o', es, ep, g1, g2, g3, g4, g6⟩, ⟨o', g1⟩, fun h1 h2 hh hg => ?_⟩
            obtain ⟨a1, a2, o2, es2, ep2, b1, b2⟩ := hh
            exact ⟨a1, a2, o2, es2, ep2, hg _ b1, b2⟩
        · cases q
      · cases q
    · cases q
  · rename_i kvs hne
    split at q
    · rename_i nk h1
      split at q
      · rename_i hl
        cases q
        cases o with
        | dK h t =>
          rename_i ks
          have ey := keyOf_ok dy h1
          subst ey
          have lx := repK_length t
          have off : ∀ a, a ≠ b → upd H b (.dK (putK ks nk w)) a = H a := fun a ha => upd_ne ha
          have p : Pers H (upd H b (.dK (putK ks nk w))) := .off (by rw [h]; exact trivial) off
          exact d_setItem (by omega) I (.k h (by omega)) ry rw' fun s4 I4 => ⟨_, I4, .dK upd_same ((putK_ok dw t (dk_nodup I h)).pers p), off⟩
        | dX h t => exact absurd rfl (hne _)
      · cases q
    · cases q
  · cases q
def putD (D k e : PyData) : Option PyData := (putL D k e).or (putDK D k e)
theorem put_D (hu : X.A.units + 64 < cLine) : PutD O X putD := put_L.or (put_DK hu)
def storeS (r : PyData → PyData → PyData → Option PyData) (fo : FO) (fk fv : FE) : FS := fun ρ => match fv ρ with
  | some (e, ρ1) => match fo ρ1 with
    | some (o, ρ2) => match fk ρ2 with
      | some (k, ρ3) => match o with
        | .sl i => match ρ3[i]? with
          | some (.own io false d) => match r d k e with
            | some d' => some (.nx, ρ3.set i (.own io false d'))
            | none => none
          | _ => none
        | .fl i => match ρ3[i]? with
          | some (.own io true d) => match r d k e with
            | some d' => some (.nx, ρ3.set i (.own io true d'))
            | none => none
          | _ => none
        | .d _ => none
      | none => none
    | none => none
  | none => none
variable {o i value : Expr} {pos' : Pos} {fk fv : FE} {r : PyData → PyData → PyData → Option PyData}
theorem ps_store (hr : PutD O X r) (ho : PEo O X o fo) (hk : PEv O X i fk) (hv : PEv O X value fv) (hs : swapsWith value (some (.Subscript o i pos')) pos.line X.env = pure false := by rfl) :
    PSv O X (.Assign [.Subscript o i pos'] value pos) (storeS r fo fk fv) := by
  refine ⟨fun pins s σ H D I h => ?_⟩
  obtain ⟨G, ρ, st, fl, ρ', e, q⟩ := h
  unfold storeS at e
  split at e
  · rename_i ev ρ1 h1
    split at e
    · rename_i op ρ2 h2
      split at e
      · rename_i k ρ3 h3
        refine wpAny_Assign_Subscript (thn (hv.run pins s σ H (fun v H' => StR (evO O X) G H' σ ρ1 ∧ Pers H H' ∧ Rep (evO O X) H' v ev) I ⟨G, ρ, st, ev, ρ1, h1, fun v H' x y z => ⟨x, y, z⟩⟩) fun w1 s1 ⟨x1, H1, I1, r1, st1, p1, q1⟩ => ?_) hs
        refine thn (ho.run pins s1 σ H1 (fun v H' => StR (evO O X) G H' σ ρ2 ∧ Pers H1 H' ∧ OpdR (evO O X) H' σ v op) I1 ⟨G, ρ1, st1, op, ρ2, h2, fun v H' x y z => ⟨x, y, z⟩⟩) fun w2 s2 ⟨x2, H2, I2, r2, st2, p2, q2⟩ => ?_
        refine thn (hk.run pins s2 σ H2 (fun v H' => StR (evO O X) G H' σ ρ3 ∧ Pers H2 H' ∧ Rep (evO O X) H' v k) I2 ⟨G, ρ2, st2, k, ρ3, h3, fun v H' x y z => ⟨x, y, z⟩⟩) fun w3 s3 ⟨x3, H3, I3, r3, st3, p3, q3⟩ => ?_
        have p13 := (p1.trans p2).trans p3
        cases op with
        | sl j =>
          dsimp only at e
          split at e
          · rename_i io d hj
            split at e
            · rename_i d' hd
              cases e
              obtain ⟨b, fp, g1, g2, _⟩ := st3.own j _ _ _ hj
              rw [show σ[j]? = some (some x2) from q2] at g1
              cases g1
              cases r2
              cases g2 with
              | plain g2 =>
                refine thn (hr pins s3 σ H3 b x3 x1 w3 w1 d k ev d' I3 g2 r3 (.inl q3) r1 (q1.pers (p2.trans p3)) hd) fun _ s4 ⟨H4, I4, o4, off⟩ => ?_
                have p4 : Pers H3 H4 := .off g2.free off
                refine ⟨σ, H4, I4, q σ H4 (st3.write (b := b) (fp' := []) hj q2 (.plain g2) List.mem_cons_self p4 (fun c u hc hu => by rw [off c hc]; exact hu) (.plain o4)) (p13.trans p4)⟩
            · cases e
          · cases e
        | fl j =>
          dsimp only at e
          split at e
          · rename_i io d hj
            split at e
            · rename_i d' hd
              cases e
              obtain ⟨b, fp, g1, g2, _⟩ := st3.own j _ _ _ hj
              obtain ⟨b1, dx1, b2, k1, k2, k3⟩ := q2
              rw [k1] at g1; cases g1
              subst k3
              cases r2
              cases g2 with
              | obj g2 g3 =>
                rename_i b' dx
                have := p3.ins _ _ _ _ _ k2
                rw [g2] at this; cases this
                refine thn (hr pins s3 σ H3 b2 x3 x1 w3 w1 d k ev d' I3 g3 r3 (.inl q3) r1 (q1.pers (p2.trans p3)) hd) fun _ s4 ⟨H4, I4, o4, off⟩ => ?_
                have p4 : Pers H3 H4 := .off g3.free off
                refine ⟨σ, H4, I4, q σ H4 (st3.write (b := b2) (fp' := []) hj k1 (.obj g2 g3) (List.mem_cons_of_mem _ List.mem_cons_self) p4 (fun c u hc hu => by rw [off c hc]; exact hu) (.obj (p4.ins _ _ _ _ _ g2) o4)) (p13.trans p4)⟩
            · cases e
          · cases e
        | d _ => cases e
      · cases e
    · cases e
  · cases e

/-! ### x.append(e) -/
def appE (i : Nat) (f : FE) : FE := fun ρ => match ρ[i]? with
  | some (.own _ false (.list _)) => match f ρ with
    | some (d, ρ1) => match ρ1[i]? with
      | some (.own io false (.list ds)) => if ds.length < sizeLine then some (.none, ρ1.set i (.own io false (.list (ds ++ [d])))) else none
      | _ => none
    | none => none
  | _ => none
theorem pv_append {j : Nat} {x : Str} {xp apos : Pos} {fe : FE} (ho : PE X (.Name x xp) (tVar j)) (he : PEv O X e fe)
    (hfew : ((backTo pos (starEach [e] X.env)).all (fun x => !x.1) && (backToKw pos (keywordEach [] X.env)).all (fun x => x.1.isSome)
      && decide ([e].length + ([] : List Keyword).length + (if ([] : List Keyword).isEmpty then 0 else 1) < 30)) = true := by rfl)
    (hline : (apos.endLine == pos.line) = true := by rfl) (hs : starEach [e] X.env = (false, eval e X.env) :: starEach [] X.env := by rfl) : PEv O X (.Call (.Attribute (.Name x xp) "append" apos) [e] [] pos) (appE j fe) := by
  refine PE_imp (pe_bm PySem.F.plainAttrs_list PySem.F.slot_list_append (by rfl) mt_append ho (pa_cons he pa_nil hs) (by rfl) hfew hline hs (by rfl)) fun σ H Q q => ?_
  obtain ⟨G, ρ, st, d, ρ', e, q⟩ := q
  unfold appE at e
  split at e
  · rename_i io ds hj
    split at e
    · rename_i dv ρ1 h1
      split at e
      · rename_i io2 ds2 hj2
        split at e
        · rename_i hl
          cases e
          obtain ⟨b, fp, g1, g2, _⟩ := st.own j _ _ _ hj
          cases g2 with
          | plain g2 =>
            cases g2 with
            | lst g2 g3 =>
              rename_i xs
              refine ⟨_, g1, .inl ⟨rfl, xs, .of g2⟩, G, ρ, st, dv, ρ1, h1, fun v H1 st1 p1 r1 => ?_⟩
              obtain ⟨b', fp', k1, k2, _⟩ := st1.own j _ _ _ hj2
              rw [g1] at k1; cases k1
              cases k2 with
              | plain k2 =>
                cases id k2 with
                | lst k3 k4 =>
                  rename_i ys
                  have off : ∀ c, c ≠ b → upd H1 b (.lst (ys ++ [v])) c = H1 c := fun c hc => upd_ne hc
                  have p4 : Pers H1 (upd H1 b (.lst (ys ++ [v]))) := .off (by rw [k3]; exact trivial) off
                  refine ⟨b, ys, v, rfl, rfl, k3, by rw [k4.length]; exact hl, q _ _ (st1.write (b := b) (fp' := []) hj2 g1 (.plain k2) List.mem_cons_self p4 (fun c u hc hu => by rw [off c hc]; exact hu) (.plain (.lst upd_same ((k4.append (.cons r1 .nil)).pers p4)))) (p1.trans p4) .non⟩
        · cases e
      · cases e
    · cases e
  · cases e
end
end L2.Pu

/-! The pure layer, 12: several targets at once, new dicts, module names. -/
namespace L2.Pu
open PySem PySem.Spec PyProof.Rows
section
variable {O : Addr × Str} {X : Cx}
/-! ### {} -/
theorem pn_dnewK {pos : Pos} : PEn O X (.Dict [] [] pos) (cE (.dict [])) := by
  refine PE_imp pe_dnewK fun σ H Q q => ?_
  obtain ⟨G, ρ, st, d, ρ', e, q⟩ := q
  cases e
  exact fun p hp => q p H _ st (.refl H) (same_upd hp) hp (.dK upd_same .nil)
theorem pn_dnewX {pos : Pos} : PEn O X (.Dict [] [] pos) (cE (.dict [(.none, .none)])) := by
  refine ⟨fun pins s σ H Q I q => ?_⟩
  obtain ⟨G, ρ, st, d, ρ', e, q⟩ := q
  cases e
  have hp : H s.heap.objs.size = none := I.hok.fresh (Nat.le_refl _)
  have hd : (s.heap.objs.size == sysModules) = false := beq_eq_false_iff_ne.mpr (Ne.symm (Nat.ne_of_lt I.big))
  refine wpAny_Dict_empty ⟨.ref s.heap.objs.size, _, I.laid (a := s.heap.objs.size) (o := DX X.prog X.w s.heap.objs.size []) (t' := s.toks) (fun _ _ q => Heap.get?_push_of_some _ q) (Nat.le_refl _) ?_, rfl, q _ H _ st (.refl H) (same_upd hp) hp (.dX upd_same .nil)⟩
  refine ⟨⟨Nat.zero_le _, hd, _, #[], 0, Heap.get?_push_size _ rfl, ⟨rfl, rfl, rfl⟩, rfl, rfl, List.nodup_nil⟩, ⟨_, Heap.get?_push_size _ rfl⟩, fun h1 h2 hh hg => ?_⟩
  obtain ⟨a1, a2, o2, es2, ep2, b1, b2⟩ := hh
  exact ⟨a1, a2, o2, es2, ep2, hg _ b1, b2⟩
/-! ### names of the module -/
theorem pv_glob {x : Str} {v : V} {u : Value} {pos : Pos} {d : PyData} (hg : Gl X x) (hm : X.mg x = some u) (r : RelV v u) (h : ∀ H, Rep (evO O X) H v d) (hd : (x == ("__debug__" : Str)) = false := by decide) : PEv O X (.Name x pos) (cE d) :=
  pv_const (pe_glob hg hm r hd) h

/-! ### values and new things, one after another -/
def newsOf : List V → List (Bool × PyData) → List Addr
  | .ref a :: vs, (true, _) :: ds => a :: newsOf vs ds
  | _ :: vs, _ :: ds => newsOf vs ds
  | _, _ => []
inductive MsR (E : Ev) (G : Gd) (H : Hp) (σ : St) (ρ : Pu.Env) : List V → List (Bool × PyData) → Prop
  | nil : MsR E G H σ ρ [] []
  | v {v : V} {vs : List V} {d : PyData} {ds : List (Bool × PyData)} : Rep E H v d → MsR E G H σ ρ vs ds → MsR E G H σ ρ (v :: vs) ((false, d) :: ds)
  | n {a : Addr} {vs : List V} {d : PyData} {ds : List (Bool × PyData)} : OwnR E H a d → (a ∈ G.S ∨ G.H0 a = none) → NotIn E a H σ ρ → a ∉ newsOf vs ds → MsR E G H σ ρ vs ds → MsR E G H σ ρ (.ref a :: vs) ((true, d) :: ds)
def setMs : List Nat → List (Bool × PyData) → Pu.Env → Pu.Env
  | i :: is, (false, d) :: ds, ρ => setMs is ds (ρ.set i (.val d))
  | i :: is, (true, d) :: ds, ρ => setMs is ds (ρ.set i (.own false false d))
  | _, _, ρ => ρ
def setVs : List Nat → List V → St → St
  | i :: is, v :: vs, σ => setVs is vs (σ.set i (some v))
  | _, _, σ => σ
theorem MsR.move {E : Ev} {G : Gd} {H : Hp} {σ σ' : St} {ρ ρ' : Pu.Env} {vs : List V} {ds : List (Bool × PyData)} (m : MsR E G H σ ρ vs ds) (k : ∀ a ∈ newsOf vs ds, NotIn E a H σ ρ → NotIn E a H σ' ρ') : MsR E G H σ' ρ' vs ds := by
  induction m with
  | nil => exact .nil
  | @v v vs d ds r t ih =>
    refine .v r (ih fun a ha => k a ?_)
    cases v <;> exact ha
  | n o g ni nn t ih => exact .n o g (k _ List.mem_cons_self ni) nn (ih fun a ha => k a (List.mem_cons_of_mem _ ha))
theorem setMs_ok {E : Ev} {G : Gd} {H : Hp} : ∀ {vs : List V} {ds : List (Bool × PyData)} {is : List Nat} {σ : St} {ρ : Pu.Env}, StR E G H σ ρ → MsR E G H σ ρ vs ds → is.length = vs.length → StR E G H (setVs is vs σ) (setMs is ds ρ)
  | _, _, [], _, _, st, .nil, _ => st
  | _, _, _ :: _, _, _, st, .nil, e => by cases e
  | _, _, [], _, _, st, .v _ _, e => by cases e
  | _, _, [], _, _, st, .n _ _ _ _ _, e => by cases e
  | v :: _, (_, d) :: _, i :: is, σ, ρ, st, .v r t, e => by
    show StR E G H (setVs is _ (σ.set i (some v))) (setMs is _ (ρ.set i (.val d)))
    refine setMs_ok (st.setVal r) (t.move fun a ha ni => ?_) (by simpa using e)
    intro j io ob d' a' fp h h' o hb
    by_cases hj : j = i
    · subst hj
      have hl := (List.getElem?_eq_some_iff.mp h).1
      rw [List.length_set] at hl
      rw [List.getElem?_set_self hl] at h
      cases h
    · rw [List.getElem?_set_ne (Ne.symm hj)] at h h'
      exact ni j io ob d' a' fp h h' o hb
  | _ :: _, (_, d) :: _, i :: is, σ, ρ, st, .n (a := a) o g ni nn t, e => by
    show StR E G H (setVs is _ (σ.set i (some (.ref a)))) (setMs is _ (ρ.set i (.own false false d)))
    refine setMs_ok (st.setOwn (io := false) (.plain o) (fun b hb => by rw [List.mem_singleton.mp hb]; exact g) (fun z => nomatch z) fun j io' ob' d' a' fp' _ h h' o' b hb hb' => by
      rw [List.mem_singleton.mp hb'] at hb
      exact ni j io' ob' d' a' fp' h h' o' hb) (t.move fun a2 ha ni2 => ?_) (by simpa using e)
    intro j io ob d' a' fp h h' o2 hb
    by_cases hj : j = i
    · subst hj
      have hl := (List.getElem?_eq_some_iff.mp h).1
      rw [List.length_set] at hl
      rw [List.getElem?_set_self hl] at h
      rw [List.getElem?_set_self (by rw [st.len]; exact hl)] at h'
      cases h; cases h'
      rw [o2.uniq (.plain o)] at hb
      rw [List.mem_singleton.mp hb] at ha
      exact nn ha
    · rw [List.getElem?_set_ne (Ne.symm hj)] at h h'
      exact ni2 j io ob d' a' fp h h' o2 hb
abbrev FM := Pu.Env → Option (List (Bool × PyData) × Pu.Env)
def tm (E : Ev) (f : FM) : TA := fun σ H Q => ∃ G ρ, StR E G H σ ρ ∧ ∃ ds ρ', f ρ = some (ds, ρ') ∧ ∀ vs H', StR E G H' σ ρ' → Pers H H' → MsR E G H' σ ρ' vs ds → vs.length = ds.length → Q vs H'
def PMs (O : Addr × Str) (X : Cx) (es : List Expr) (f : FM) : Prop := PA X es (tm (evO O X) f)
def nilM : FM := fun ρ => some ([], ρ)
def vM (f : FE) (g : FM) : FM := fun ρ => match f ρ with
  | some (d, ρ1) => match g ρ1 with
    | some (ds, ρ2) => some ((false, d) :: ds, ρ2)
    | none => none
  | none => none
def nM (f : FE) (g : FM) : FM := fun ρ => match f ρ with
  | some (d, ρ1) => match g ρ1 with
    | some (ds, ρ2) => some ((true, d) :: ds, ρ2)
    | none => none
  | none => none
variable {e : Expr} {es : List Expr} {f : FE} {g : FM} {pos : Pos}
theorem pm_nil : PMs O X [] nilM := by
  refine PA_imp pa_nil fun σ H Q q => ?_
  obtain ⟨G, ρ, st, d, ρ', e, q⟩ := q
  cases e
  exact q [] H st (.refl H) .nil rfl
theorem pm_v (ha : PEv O X e f) (hr : PMs O X es g) (hs : starEach (e :: es) X.env = (false, eval e X.env) :: starEach es X.env := by rfl) : PMs O X (e :: es) (vM f g) := by
  refine PA_imp (pa_cons ha hr hs) fun σ H Q q => ?_
  obtain ⟨G, ρ, st, d, ρ', e, q⟩ := q
  unfold vM at e
  split at e
  · rename_i d1 ρ1 h1
    split at e
    · rename_i ds ρ2 h2
      cases e
      exact ⟨G, ρ, st, d1, ρ1, h1, fun v H1 st1 p1 r1 => ⟨G, ρ1, st1, ds, ρ', h2, fun vs H2 st2 p2 m hl => q (v :: vs) H2 st2 (p1.trans p2) (.v (r1.pers p2) m) (by simp [hl])⟩⟩
    · cases e
  · cases e
theorem MsR.news {E : Ev} {G : Gd} {H : Hp} {σ : St} {ρ : Pu.Env} {vs : List V} {ds : List (Bool × PyData)} (m : MsR E G H σ ρ vs ds) : ∀ a ∈ newsOf vs ds, a ∈ G.S ∨ G.H0 a = none := by
  induction m with
  | nil => intro a ha; cases ha
  | @v v vs d ds r t ih =>
    intro a ha
    refine ih a ?_
    cases v <;> exact ha
  | n o g ni nn t ih =>
    intro a ha
    rcases List.mem_cons.mp ha with rfl | ha
    · exact g
    · exact ih a ha
theorem MsR.base {E : Ev} {G G' : Gd} {H : Hp} {σ : St} {ρ : Pu.Env} {vs : List V} {ds : List (Bool × PyData)} (m : MsR E G H σ ρ vs ds) (k : ∀ a, (a ∈ G.S ∨ G.H0 a = none) → a ∈ G'.S ∨ G'.H0 a = none) : MsR E G' H σ ρ vs ds := by
  induction m with
  | nil => exact .nil
  | v r t ih => exact .v r ih
  | n o g ni nn t ih => exact .n o (k _ g) ni nn ih
theorem pm_n (ha : PEn O X e f) (hr : PMs O X es g) (hs : starEach (e :: es) X.env = (false, eval e X.env) :: starEach es X.env := by rfl) : PMs O X (e :: es) (nM f g) := by
  refine PA_imp (pa_cons ha hr hs) fun σ H Q q => ?_
  obtain ⟨G, ρ, st, d, ρ', e, q⟩ := q
  unfold nM at e
  split at e
  · rename_i d1 ρ1 h1
    split at e
    · rename_i ds ρ2 h2
      cases e
      refine ⟨G, ρ, st, d1, ρ1, h1, fun a H1 H' st1 p1 s1 n1 o1 => ?_⟩
      obtain ⟨S2, st1', hS, hM, back⟩ := st1.rebase
      have st2 := st1'.lift s1
      have nS : ∀ c, H1 c = none → c ∉ S2 := fun c hc hcS => by
        obtain ⟨i, io, ob, d, a2, fp2, g1, g2, g3, g4⟩ := hS c hcS
        obtain ⟨_, u, hu⟩ := g3.mut c g4
        rw [hc] at hu; cases hu
      have inG : ∀ c, (c ∈ S2 ∨ H' c = none) → c ∈ G.S ∨ G.H0 c = none := fun c hc => by
        rcases hc with hc | hc
        · obtain ⟨i, io, ob, d, a2, fp2, g1, g2, g3, g4⟩ := hS c hc
          obtain ⟨a3, fp3, w1, w2, w3, _⟩ := st1.own i io ob d g1
          rw [g2] at w1; cases w1
          rw [g3.uniq w2] at g4
          exact w3 c g4
        · exact (frm_new st1 (s1.free hc)).symm
      refine ⟨_, ρ1, st2, ds, ρ', h2, fun vs H2 st3 p3 m hl => ?_⟩
      obtain ⟨_, u, hu⟩ := o1.ex
      have ka : ∀ w, H' a = some w → H2 a = some w := fun w hw => st3.frm a w hw (nS a n1)
      have oa : OwnR (evO O X) H2 a d1 := o1.keep p3 ka
      refine q (.ref a :: vs) H2 (back H2 σ ρ' (st3.lower s1)) ((p1.trans (.of_same s1)).trans p3) (.n oa (frm_new st1 n1).symm (fun i io ob d a' fp h h' o hb => ?_) (fun hn => ?_) (m.base inG)) (by simp [hl])
      · obtain ⟨a2, fp2, w1, w2, w3, _⟩ := st3.own i io ob d h
        rw [h'] at w1; cases w1
        rw [o.uniq w2] at hb
        rcases w3 a hb with z | z
        · exact nS a n1 z
        · have z : H' a = none := z
          rw [hu] at z; cases z
      · rcases m.news a hn with z | z
        · exact nS a n1 z
        · have z : H' a = none := z
          rw [hu] at z; cases z
    · cases e
  · cases e
def parS (is : List Nat) (g : FM) : FS := fun ρ => match g ρ with
  | some (ds, ρ1) => if ds.length = is.length then some (.nx, setMs is ds ρ1) else none
  | none => none
theorem ps_par' {i j : Nat} {x y : Str} {a b : Expr} {px py pt : Pos} {kt k2 pt2} (hc : X.calm = true) (hN : X.N.Nodup) (hi : X.N[i]? = some x) (hj : X.N[j]? = some y) (hij : i ≠ j)
    (hx : X.env.scope.names.lookup x = some .local) (hy : X.env.scope.names.lookup y = some .local) (ha : PMs O X [a, b] g)
    (hw : swappedStores [.Tuple [.Name x px, .Name y py] kt pt] (.Tuple [a, b] k2 pt2) X.env = pure (some [x, y]) := by rfl)
    (hs : swapsWithSole [.Tuple [.Name x px, .Name y py] kt pt] (.Tuple [a, b] k2 pt2) pos.line X.env = pure false := by rfl) :
    PSv O X (.Assign [.Tuple [.Name x px, .Name y py] kt pt] (.Tuple [a, b] k2 pt2) pos) (parS [i, j] g) := by
  refine PS_imp (ps_par hc hN hi hj hij hx hy ha hw hs) fun D σ H q => ?_
  obtain ⟨G, ρ, st, fl, ρ', e, q⟩ := q
  unfold parS at e
  split at e
  · rename_i ds ρ1 h1
    split at e
    · rename_i hl
      cases e
      refine ⟨G, ρ, st, ds, ρ1, h1, fun vs H' st' p' m hl' => ?_⟩
      have h2 : vs.length = 2 := by rw [hl', hl]; rfl
      match vs, h2 with
      | [v, w], _ => exact ⟨v, w, rfl, q _ H' (setMs_ok (is := [i, j]) st' m rfl) p'⟩
    · cases e
  · cases e
theorem ps_par3' {i j l : Nat} {x y z : Str} {a b c : Expr} {px py pz pt : Pos} {kt k2 pt2} (hc : X.calm = true) (hN : X.N.Nodup) (hi : X.N[i]? = some x) (hj : X.N[j]? = some y) (hl : X.N[l]? = some z) (hij : i ≠ j) (hil : i ≠ l) (hjl : j ≠ l)
    (hx : X.env.scope.names.lookup x = some .local) (hy : X.env.scope.names.lookup y = some .local) (hz : X.env.scope.names.lookup z = some .local) (ha : PMs O X [a, b, c] g)
    (hw : swappedStores [.Tuple [.Name x px, .Name y py, .Name z pz] kt pt] (.Tuple [a, b, c] k2 pt2) X.env = pure (some [x, y, z]) := by rfl)
    (hs : swapsWithSole [.Tuple [.Name x px, .Name y py, .Name z pz] kt pt] (.Tuple [a, b, c] k2 pt2) pos.line X.env = pure false := by rfl) :
    PSv O X (.Assign [.Tuple [.Name x px, .Name y py, .Name z pz] kt pt] (.Tuple [a, b, c] k2 pt2) pos) (parS [i, j, l] g) := by
  refine PS_imp (ps_par3 hc hN hi hj hl hij hil hjl hx hy hz ha hw hs) fun D σ H q => ?_
  obtain ⟨G, ρ, st, fl, ρ', e, q⟩ := q
  unfold parS at e
  split at e
  · rename_i ds ρ1 h1
    split at e
    · rename_i hl
      cases e
      refine ⟨G, ρ, st, ds, ρ1, h1, fun vs H' st' p' m hl' => ?_⟩
      have h2 : vs.length = 3 := by rw [hl', hl]; rfl
      match vs, h2 with
      | [v, w, u], _ => exact ⟨v, w, u, rfl, q _ H' (setMs_ok (is := [i, j, l]) st' m rfl) p'⟩
    · cases e
  · cases e
end
end L2.Pu

/-! The pure layer, 13: zip. -/
namespace L2.Pu
open PySem PySem.Spec PyProof.Rows
/-- a list (false), a tuple (true) that is walked within a zip -/
def SqB (b : Bool) (K : PySem.W.Frag) (H : Hp) (a : Addr) (xs : List V) : Prop := match b with
  | false => SqL K H a xs
  | true => SqT K H a xs
def TkB (b : Bool) (it a : Addr) (i : Nat) (h : Heap) : Prop := match b with
  | false => h.IsListIter it a i
  | true => h.IsTupleIter it a i
def objB (b : Bool) (a : Addr) : Obj := match b with
  | false => { cls := .type "list_iterator", data := .fields #[.ref a, .int 0 0] }
  | true => { cls := .type "tuple_iterator", data := .fields #[.ref a, .int 0 0] }
def CB (b : Bool) (a : Addr) (its : List Value) (h : Heap) : Prop := match b with
  | false => h.IsList a its.toArray
  | true => h.IsTuple a its.toArray
theorem tkB_init {b : Bool} {it a : Addr} {h : Heap} (e : h.get? it = some (objB b a)) : TkB b it a 0 h := by
  cases b with
  | false => exact ⟨_, e, rfl, rfl⟩
  | true => exact ⟨_, e, rfl, rfl⟩
theorem tkB_at {b : Bool} {it a : Addr} {i : Nat} {h h' : Heap} (x : TkB b it a i h) (e : ∀ o, h.get? it = some o → h'.get? it = some o) : TkB b it a i h' := by
  cases b with
  | false => exact Heap.IsListIter.at x e
  | true => exact Heap.IsTupleIter.at x e
theorem tkB_obj {b : Bool} {it a : Addr} {i : Nat} {h : Heap} (x : TkB b it a i h) : ∃ o, h.get? it = some o ∧ ∀ v, o.data ≠ .cell v := by
  cases b with
  | false => obtain ⟨o, e, _, d⟩ := x; exact ⟨o, e, fun v q => by rw [d] at q; cases q⟩
  | true => obtain ⟨o, e, _, d⟩ := x; exact ⟨o, e, fun v q => by rw [d] at q; cases q⟩
theorem begB {b : Bool} {a : Addr} {its : List Value} : Begins (.ref a) (objB b a) (CB b a its) := by
  cases b with
  | false => exact begins_list a _
  | true => exact begins_tuple a _
theorem drawB {b : Bool} {prog : Program} {w : World} {A : Around} (hh : A.handled = none) {it a : Addr} (hne : a ≠ it) {its : List Value} : Draws prog w A it [it, a] its.length (fun i v => its[i]? = some v) (fun i h => TkB b it a i h ∧ CB b a its h) := by
  cases b with
  | false =>
    have := Draws.list (prog := prog) (w := w) hh it a hne its.toArray
    simp only [List.size_toArray, List.getElem?_toArray] at this
    exact this
  | true =>
    have := Draws.tuple (prog := prog) (w := w) hh it a hne its.toArray
    simp only [List.size_toArray, List.getElem?_toArray] at this
    exact this
section
variable {X : Cx} {pins : List (Addr × Obj)} {s : Shared} {σ : St} {H : Hp}
theorem sqB_of {b : Bool} {a : Addr} {xs : List V} (I : Inv X pins σ H s) (h : SqB b X.K H a xs) : ∃ its : List Value, Vals xs its ∧ CB b a its s.heap ∧ a < s.heap.objs.size := by
  cases b with
  | false =>
    obtain ⟨its, r, p, _⟩ := I.list h
    exact ⟨its, r, p.isList, p.lt⟩
  | true =>
    obtain ⟨its, r, p, _⟩ := I.tuple h
    obtain ⟨o, e, _⟩ := id p
    exact ⟨its, r, p, Heap.lt_size e⟩
theorem sqB_inj {b : Bool} {a : Addr} {xs ys : List V} (I : Inv X pins σ H s) (h : SqB b X.K H a xs) (h' : SqB b X.K H a ys) : xs = ys := by
  cases b with
  | false => exact I.list_inj h h'
  | true => exact I.tuple_inj h h'
theorem sqB_keep {b : Bool} {K : PySem.W.Frag} {H' : Hp} {a : Addr} {xs : List V} (h : SqB b K H a xs) (s : Same H H') : SqB b K H' a xs := by
  cases b with
  | false =>
    rcases h with (h | ⟨o, h⟩) | h
    · exact .inl (.inl (s a _ h))
    · exact .inl (.inr ⟨o, s a _ h⟩)
    · exact .inr h
  | true =>
    rcases h with (h | ⟨o, h⟩) | h
    · exact .inl (.inl (s a _ h))
    · exact .inl (.inr ⟨o, s a _ h⟩)
    · exact .inr h
end
/-! ### three -/
def Itz3 (K : PySem.W.Frag) (k1 k2 k3 : Bool) (a b c : Addr) : It :=
  ⟨fun i H => ∃ (xs ys zs : List V) (x y z : V), SqB k1 K H a xs ∧ SqB k2 K H b ys ∧ SqB k3 K H c zs ∧ xs[i]? = some x ∧ ys[i]? = some y ∧ zs[i]? = some z,
    fun i H v H' => ∃ T x y z, v = .ref T ∧ H T = none ∧ H' = upd H T (.tup [x, y, z]) ∧ (∀ xs, SqB k1 K H a xs → xs[i]? = some x) ∧ (∀ ys, SqB k2 K H b ys → ys[i]? = some y) ∧ ∀ zs, SqB k3 K H c zs → zs[i]? = some z,
    fun i H => ∃ xs ys zs : List V, SqB k1 K H a xs ∧ SqB k2 K H b ys ∧ SqB k3 K H c zs ∧ i ≤ xs.length ∧ i ≤ ys.length ∧ i ≤ zs.length ∧ (i = xs.length ∨ i = ys.length ∨ i = zs.length)⟩
theorem turn_z3 {P : Program} {w : World} {K : PySem.W.Frag} {elts : List Expr} {kk : Nat} {tpos : Pos} {k1 k2 k3 : Bool} {a b c z TI TO i1 i2 i3 : Addr} (S : ZipSep3 z TI TO i1 i2 i3 [i1, a] [i2, b] [i3, c]) (ha : a ≠ i1) (hb : b ≠ i2) (hc : c ≠ i3) :
    Turn P w K (.Tuple elts kk tpos) (Itz3 K k1 k2 k3 a b c) [z, TI, TO, i1, i2, i3] z (fun i h => IsZip h z TI TO .none ∧ IsTupOf3 h TI (.ref i1) (.ref i2) (.ref i3) ∧ (∃ x y u, IsTupOf3 h TO x y u) ∧ TkB k1 i1 a i h ∧ TkB k2 i2 b i h ∧ TkB k3 i3 c i h) where
  mem := by simp
  obj := fun i h st d hd => by
    obtain ⟨hz, hTI, ⟨x, y, u, hTO⟩, h1, h2, h3⟩ := st
    have e' : d = z ∨ d = TI ∨ d = TO ∨ d = i1 ∨ d = i2 ∨ d = i3 := by simpa using hd
    rcases e' with q | q | q | q | q | q
    · rw [q]; exact ⟨_, hz, fun v q => nomatch q⟩
    · rw [q]; exact ⟨_, hTI, fun v q => nomatch q⟩
    · rw [q]; exact ⟨_, hTO, fun v q => nomatch q⟩
    · rw [q]; exact tkB_obj h1
    · rw [q]; exact tkB_obj h2
    · rw [q]; exact tkB_obj h3
  keep := fun i h h' st k => by
    obtain ⟨hz, hTI, ⟨x, y, u, hTO⟩, h1, h2, h3⟩ := st
    exact ⟨k z (by simp) _ hz, k TI (by simp) _ hTI, ⟨x, y, u, k TO (by simp) _ hTO⟩, tkB_at h1 fun o q => k i1 (by simp) o q, tkB_at h2 fun o q => k i2 (by simp) o q, tkB_at h3 fun o q => k i3 (by simp) o q⟩
  item := by
    intro X hP hw hK hcm i pins s σ H E I hf st hg
    subst hP hw hK
    obtain ⟨hz, hTI, ⟨x0, y0, u0, hTO⟩, h1, h2, h3⟩ := st
    obtain ⟨xs, ys, zs, x, y, u, hqx, hqy, hqz, hx, hy, hu⟩ := hg
    obtain ⟨its1, rv1, p1, l1⟩ := sqB_of I hqx
    obtain ⟨its2, rv2, p2, l2⟩ := sqB_of I hqy
    obtain ⟨its3, rv3, p3, l3⟩ := sqB_of I hqz
    obtain ⟨w1, hw1, ru1⟩ := rv1.get hx
    obtain ⟨w2, hw2, ru2⟩ := rv2.get hy
    obtain ⟨w3, hw3, ru3⟩ := rv3.get hu
    have hzl : z < s.heap.objs.size := Heap.lt_size hz
    have hd := I.ok.hd hcm
    refine wpAny_pyNext_zipD3_item S (drawB (b := k1) (A := X.A.in1) hd ha) (drawB (b := k2) (A := X.A.in1) hd hb) (drawB (b := k3) (A := X.A.in1) hd hc) hz hTI hTO ⟨h1, p1⟩ ⟨h2, p2⟩ ⟨h3, p3⟩ (List.getElem?_eq_some_iff.mp hw1).1 (List.getElem?_eq_some_iff.mp hw2).1 (List.getElem?_eq_some_iff.mp hw3).1 fun v1 v2 v3 h' tk e1 e2 e3 z' TO' h1' h2' h3' hT hsz hk => ?_
    rw [hw1] at e1; cases e1
    rw [hw2] at e2; cases e2
    rw [hw3] at e3; cases e3
    refine ⟨_, rfl, wpAny_letOwnedTupleGo_zip (s := { s with heap := h', toks := tk }) z' fun h'' z'' sb => ?_⟩
    have hT2 : h''.get? s.heap.objs.size = some { cls := .type "tuple", data := .seq #[w1, w2, w3] } := (sb.2 _ (Nat.ne_of_gt hzl)).trans hT
    have new : ObjOk X.prog X.w (upd H s.heap.objs.size (.tup [x, y, u])) h'' s.heap.objs.size (.tup [x, y, u]) :=
      ⟨by show 3 ≤ sizeLine; decide, [w1, w2, w3], .cons ru1 (.cons ru2 (.cons ru3 .nil)), ⟨_, hT2, rfl, _, rfl⟩⟩
    have I1 : Inv X pins σ (upd H s.heap.objs.size (.tup [x, y, u])) { s with heap := h'', toks := tk } :=
      I.turnedNew (t' := tk) (ch := [z, TI, TO, i1, i2, i3]) (fun c o hb q => (sb.2 c (fun q' => hb (by simp [q']))).trans (hk c o (fun q' => hb (by simp [q'])) (fun q' => hb (by simp [q'])) (fun q' => hb (by simp [q'])) (fun q' => hb (by simp [q'])) (fun q' => hb (by simp [q'])) q)) hf (Nat.le_refl _) new
    refine ⟨.ref s.heap.objs.size, _, I1, rfl, ⟨_, x, y, u, rfl, I.hok.fresh (Nat.le_refl _), rfl, fun l hl => by rw [sqB_inj I hl hqx]; exact hx, fun l hl => by rw [sqB_inj I hl hqy]; exact hy, fun l hl => by rw [sqB_inj I hl hqz]; exact hu⟩, ⟨z'', ?_, ⟨w1, w2, w3, ?_⟩, ?_, ?_, ?_⟩, fun c hcm => ?_⟩
    · exact (sb.2 _ S.TIz).trans (hk _ _ S.TIz S.TITO S.TIi1 S.TIi2 S.TIi3 hTI)
    · exact (sb.2 _ S.TOz).trans TO'
    · exact tkB_at h1'.1 fun o q => (sb.2 _ S.zi1.symm).trans q
    · exact tkB_at h2'.1 fun o q => (sb.2 _ S.zi2.symm).trans q
    · exact tkB_at h3'.1 fun o q => (sb.2 _ S.zi3.symm).trans q
    · have hlt : c < s.heap.objs.size := by
        have e' : c = z ∨ c = TI ∨ c = TO ∨ c = i1 ∨ c = i2 ∨ c = i3 := by simpa using hcm
        rcases e' with q | q | q | q | q | q
        · rw [q]; exact hzl
        · rw [q]; exact Heap.lt_size hTI
        · rw [q]; exact Heap.lt_size hTO
        · rw [q]; obtain ⟨_, e1, _⟩ := tkB_obj h1; exact Heap.lt_size e1
        · rw [q]; obtain ⟨_, e1, _⟩ := tkB_obj h2; exact Heap.lt_size e1
        · rw [q]; obtain ⟨_, e1, _⟩ := tkB_obj h3; exact Heap.lt_size e1
      rw [upd_ne (Nat.ne_of_lt hlt)]
      exact (hf c hcm).1
  done := by
    intro X hP hw hK hcm i pins s σ H E I hf st hg
    subst hP hw hK
    obtain ⟨hz, hTI, ⟨x0, y0, u0, hTO⟩, h1, h2, h3⟩ := st
    obtain ⟨xs, ys, zs, hqx, hqy, hqz, m1, m2, m3, hend⟩ := hg
    obtain ⟨its1, rv1, p1, l1⟩ := sqB_of I hqx
    obtain ⟨its2, rv2, p2, l2⟩ := sqB_of I hqy
    obtain ⟨its3, rv3, p3, l3⟩ := sqB_of I hqz
    have e1 := rv1.length
    have e2 := rv2.length
    have e3 := rv3.length
    have hd := I.ok.hd hcm
    refine wpAny_pyNext_zipD3_end S (drawB (b := k1) (A := X.A.in1) hd ha) (drawB (b := k2) (A := X.A.in1) hd hb) (drawB (b := k3) (A := X.A.in1) hd hc) hz hTI hTO ⟨h1, p1⟩ ⟨h2, p2⟩ ⟨h3, p3⟩ (by omega) (by omega) (by omega) (by omega) fun h' tk hk => ⟨rfl, I.turnedL (t' := tk) (ch := [z, TI, TO, i1, i2, i3]) (fun c o hb q =>
      hk c o (fun q' => hb (by simp [q'])) (fun q' => hb (by simp [q'])) (fun q' => hb (by simp [q'])) (fun q' => hb (by simp [q'])) (fun q' => hb (by simp [q'])) q) hf⟩
  self := fun A i s Q E st h => wpAny_pyIter_zip st.1 h
/-! ### two -/
def Itz2 (K : PySem.W.Frag) (k1 k2 : Bool) (a b : Addr) : It :=
  ⟨fun i H => ∃ (xs ys : List V) (x y : V), SqB k1 K H a xs ∧ SqB k2 K H b ys ∧ xs[i]? = some x ∧ ys[i]? = some y,
    fun i H v H' => ∃ T x y, v = .ref T ∧ H T = none ∧ H' = upd H T (.tup [x, y]) ∧ (∀ xs, SqB k1 K H a xs → xs[i]? = some x) ∧ (∀ ys, SqB k2 K H b ys → ys[i]? = some y),
    fun i H => ∃ xs ys : List V, SqB k1 K H a xs ∧ SqB k2 K H b ys ∧ i ≤ xs.length ∧ i ≤ ys.length ∧ (i = xs.length ∨ i = ys.length)⟩
theorem turn_z2 {P : Program} {w : World} {K : PySem.W.Frag} {elts : List Expr} {kk : Nat} {tpos : Pos} {k1 k2 : Bool} {a b z TI TO i1 i2 : Addr} (S : ZipSep2 z TI TO i1 i2 [i1, a] [i2, b]) (ha : a ≠ i1) (hb : b ≠ i2) :
    Turn P w K (.Tuple elts kk tpos) (Itz2 K k1 k2 a b) [z, TI, TO, i1, i2] z (fun i h => IsZip h z TI TO .none ∧ IsTupOf2 h TI (.ref i1) (.ref i2) ∧ (∃ x y, IsTupOf2 h TO x y) ∧ TkB k1 i1 a i h ∧ TkB k2 i2 b i h) where
  mem := by simp
  obj := fun i h st d hd => by
    obtain ⟨hz, hTI, ⟨x, y, hTO⟩, h1, h2⟩ := st
    have e' : d = z ∨ d = TI ∨ d = TO ∨ d = i1 ∨ d = i2 := by simpa using hd
    rcases e' with q | q | q | q | q
    · rw [q]; exact ⟨_, hz, fun v q => nomatch q⟩
    · rw [q]; exact ⟨_, hTI, fun v q => nomatch q⟩
    · rw [q]; exact ⟨_, hTO, fun v q => nomatch q⟩
    · rw [q]; exact tkB_obj h1
    · rw [q]; exact tkB_obj h2
  keep := fun i h h' st k => by
    obtain ⟨hz, hTI, ⟨x, y, hTO⟩, h1, h2⟩ := st
    exact ⟨k z (by simp) _ hz, k TI (by simp) _ hTI, ⟨x, y, k TO (by simp) _ hTO⟩, tkB_at h1 fun o q => k i1 (by simp) o q, tkB_at h2 fun o q => k i2 (by simp) o q⟩
  item := by
    intro X hP hw hK hcm i pins s σ H E I hf st hg
    subst hP hw hK
    obtain ⟨hz, hTI, ⟨x0, y0, hTO⟩, h1, h2⟩ := st
    obtain ⟨xs, ys, x, y, hqx, hqy, hx, hy⟩ := hg
    obtain ⟨its1, rv1, p1, l1⟩ := sqB_of I hqx
    obtain ⟨its2, rv2, p2, l2⟩ := sqB_of I hqy
    obtain ⟨w1, hw1, ru1⟩ := rv1.get hx
    obtain ⟨w2, hw2, ru2⟩ := rv2.get hy
    have hzl : z < s.heap.objs.size := Heap.lt_size hz
    have hd := I.ok.hd hcm
    refine wpAny_pyNext_zipD2_item S (drawB (b := k1) (A := X.A.in1) hd ha) (drawB (b := k2) (A := X.A.in1) hd hb) hz hTI hTO ⟨h1, p1⟩ ⟨h2, p2⟩ (List.getElem?_eq_some_iff.mp hw1).1 (List.getElem?_eq_some_iff.mp hw2).1 fun v1 v2 h' tk e1 e2 z' TO' h1' h2' hT hsz hk => ?_
    rw [hw1] at e1; cases e1
    rw [hw2] at e2; cases e2
    refine ⟨_, rfl, wpAny_letOwnedTupleGo_zip (s := { s with heap := h', toks := tk }) z' fun h'' z'' sb => ?_⟩
    have hT2 : h''.get? s.heap.objs.size = some { cls := .type "tuple", data := .seq #[w1, w2] } := (sb.2 _ (Nat.ne_of_gt hzl)).trans hT
    have new : ObjOk X.prog X.w (upd H s.heap.objs.size (.tup [x, y])) h'' s.heap.objs.size (.tup [x, y]) :=
      ⟨by show 2 ≤ sizeLine; decide, [w1, w2], .cons ru1 (.cons ru2 .nil), ⟨_, hT2, rfl, _, rfl⟩⟩
    have I1 : Inv X pins σ (upd H s.heap.objs.size (.tup [x, y])) { s with heap := h'', toks := tk } :=
      I.turnedNew (t' := tk) (ch := [z, TI, TO, i1, i2]) (fun c o hb q => (sb.2 c (fun q' => hb (by simp [q']))).trans (hk c o (fun q' => hb (by simp [q'])) (fun q' => hb (by simp [q'])) (fun q' => hb (by simp [q'])) (fun q' => hb (by simp [q'])) q)) hf (Nat.le_refl _) new
    refine ⟨.ref s.heap.objs.size, _, I1, rfl, ⟨_, x, y, rfl, I.hok.fresh (Nat.le_refl _), rfl, fun l hl => by rw [sqB_inj I hl hqx]; exact hx, fun l hl => by rw [sqB_inj I hl hqy]; exact hy⟩, ⟨z'', ?_, ⟨w1, w2, ?_⟩, ?_, ?_⟩, fun c hcm => ?_⟩
    · exact (sb.2 _ S.TIz).trans (hk _ _ S.TIz S.TITO S.TIi1 S.TIi2 hTI)
    · exact (sb.2 _ S.TOz).trans TO'
    · exact tkB_at h1'.1 fun o q => (sb.2 _ S.zi1.symm).trans q
    · exact tkB_at h2'.1 fun o q => (sb.2 _ S.zi2.symm).trans q
    · have hlt : c < s.heap.objs.size := by
        have e' : c = z ∨ c = TI ∨ c = TO ∨ c = i1 ∨ c = i2 := by simpa using hcm
        rcases e' with q | q | q | q | q
        · rw [q]; exact hzl
        · rw [q]; exact Heap.lt_size hTI
        · rw [q]; exact Heap.lt_size hTO
        · rw [q]; obtain ⟨_, e1, _⟩ := tkB_obj h1; exact Heap.lt_size e1
        · rw [q]; obtain ⟨_, e1, _⟩ := tkB_obj h2; exact Heap.lt_size e1
      rw [upd_ne (Nat.ne_of_lt hlt)]
      exact (hf c hcm).1
  done := by
    intro X hP hw hK hcm i pins s σ H E I hf st hg
    subst hP hw hK
    obtain ⟨hz, hTI, ⟨x0, y0, hTO⟩, h1, h2⟩ := st
    obtain ⟨xs, ys, hqx, hqy, m1, m2, hend⟩ := hg
    obtain ⟨its1, rv1, p1, l1⟩ := sqB_of I hqx
    obtain ⟨its2, rv2, p2, l2⟩ := sqB_of I hqy
    have e1 := rv1.length
    have e2 := rv2.length
    have hd := I.ok.hd hcm
    refine wpAny_pyNext_zipD2_end S (drawB (b := k1) (A := X.A.in1) hd ha) (drawB (b := k2) (A := X.A.in1) hd hb) hz hTI hTO ⟨h1, p1⟩ ⟨h2, p2⟩ (by omega) (by omega) (by omega) fun h' tk hk => ⟨rfl, I.turnedL (t' := tk) (ch := [z, TI, TO, i1, i2]) (fun c o hb q =>
      hk c o (fun q' => hb (by simp [q'])) (fun q' => hb (by simp [q'])) (fun q' => hb (by simp [q'])) (fun q' => hb (by simp [q'])) q) hf⟩
  self := fun A i s Q E st h => wpAny_pyIter_zip st.1 h
/-! ### the rules -/
def zip2D : List PyData → List PyData → List PyData
  | x :: xs, y :: ys => .tuple [x, y] :: zip2D xs ys
  | _, _ => []
def zip3D : List PyData → List PyData → List PyData → List PyData
  | x :: xs, y :: ys, z :: zs => .tuple [x, y, z] :: zip3D xs ys zs
  | _, _, _ => []
theorem zip2D_length : ∀ xs ys : List PyData, (zip2D xs ys).length = min xs.length ys.length
  | [], _ => by simp [zip2D]
  | _ :: _, [] => by simp [zip2D]
  | _ :: xs, _ :: ys => by simp only [zip2D, List.length_cons, zip2D_length xs ys]; omega
theorem zip3D_length : ∀ xs ys zs : List PyData, (zip3D xs ys zs).length = min (min xs.length ys.length) zs.length
  | [], _, _ => by simp [zip3D]
  | _ :: _, [], _ => by simp [zip3D]
  | _ :: _, _ :: _, [] => by simp [zip3D]
  | _ :: xs, _ :: ys, _ :: zs => by simp only [zip3D, List.length_cons, zip3D_length xs ys zs]; omega
theorem zip2D_get : ∀ (xs ys : List PyData) (i : Nat) (x y : PyData), xs[i]? = some x → ys[i]? = some y → (zip2D xs ys)[i]? = some (.tuple [x, y])
  | _ :: _, _ :: _, 0, _, _, h, h' => by simp at h h'; subst h h'; rfl
  | _ :: xs, _ :: ys, i + 1, x, y, h, h' => by simpa [zip2D] using zip2D_get xs ys i x y (by simpa using h) (by simpa using h')
  | [], _, _, _, _, h, _ => by simp at h
  | _ :: _, [], _, _, _, _, h => by simp at h
theorem zip3D_get : ∀ (xs ys zs : List PyData) (i : Nat) (x y z : PyData), xs[i]? = some x → ys[i]? = some y → zs[i]? = some z → (zip3D xs ys zs)[i]? = some (.tuple [x, y, z])
  | _ :: _, _ :: _, _ :: _, 0, _, _, _, h, h', h'' => by simp at h h' h''; subst h h' h''; rfl
  | _ :: xs, _ :: ys, _ :: zs, i + 1, x, y, z, h, h', h'' => by simpa [zip3D] using zip3D_get xs ys zs i x y z (by simpa using h) (by simpa using h') (by simpa using h'')
  | [], _, _, _, _, _, _, h, _, _ => by simp at h
  | _ :: _, [], _, _, _, _, _, _, h, _ => by simp at h
  | _ :: _, _ :: _, [], _, _, _, _, _, _, h => by simp at h
def itemsD : PyData → Option (Bool × List PyData)
  | .list ds => some (false, ds)
  | .tuple ds => some (true, ds)
  | _ => none
theorem itemsD_ok {E : Ev} {H : Hp} {v : V} {d : PyData} {k : Bool} {ds : List PyData} (h : Rep E H v d) (e : itemsD d = some (k, ds)) : ∃ a xs, v = .ref a ∧ SqB k E.K H a xs ∧ RepAll E H xs ds ∧ ∀ H', Pers H H' → SqB k E.K H' a xs := by
  unfold itemsD at e
  split at e
  · cases e
    cases h with
    | lst h r => exact ⟨_, _, rfl, h.sq, r, fun H' p => (p.fzl h).sq⟩
  · cases e
    cases h with
    | tup h r => exact ⟨_, _, rfl, h, r, fun H' p => p.sqt h⟩
  · cases e
def zip2E (g : FA) : FI := fun ρ => match g ρ with
  | some (os, ρ1) => match vals os with
    | some [d1, d2] => match itemsD d1, itemsD d2 with
      | some (_, xs), some (_, ys) => some (zip2D xs ys, ρ1)
      | _, _ => none
    | _ => none
  | none => none
def zip3E (g : FA) : FI := fun ρ => match g ρ with
  | some (os, ρ1) => match vals os with
    | some [d1, d2, d3] => match itemsD d1, itemsD d2, itemsD d3 with
      | some (_, xs), some (_, ys), some (_, zs) => some (zip3D xs ys zs, ρ1)
      | _, _, _ => none
    | _ => none
  | none => none
theorem itD_z2 {E : Ev} {H : Hp} {k1 k2 : Bool} {a b : Addr} {xs ys : List V} {ds es : List PyData} (r1 : RepAll E H xs ds) (r2 : RepAll E H ys es) (p1 : ∀ H', Pers H H' → SqB k1 E.K H' a xs) (p2 : ∀ H', Pers H H' → SqB k2 E.K H' b ys) :
    ItD E (Itz2 E.K k1 k2 a b) (zip2D ds es) H := by
  have l1 := r1.length
  have l2 := r2.length
  refine ⟨fun H' => Pers H H', fun i H1 x H2 => ∃ T x1 x2, x = .ref T ∧ H1 T = none ∧ H2 = upd H1 T (.tup [x1, x2]) ∧ xs[i]? = some x1 ∧ ys[i]? = some x2, ⟨fun i H1 hi p => ?_, fun H1 p => ?_, fun i H1 x H2 hi p y => ?_⟩, .refl H, fun _ _ a b => a.trans b, fun i H1 x H2 hi p y => ?_⟩
  · rw [zip2D_length] at hi
    exact ⟨xs, ys, _, _, p1 _ p, p2 _ p, List.getElem?_eq_getElem (by omega), List.getElem?_eq_getElem (by omega)⟩
  · rw [zip2D_length]
    exact ⟨xs, ys, p1 _ p, p2 _ p, by omega, by omega, by omega⟩
  · obtain ⟨T, x1, x2, e, n, e', y1, y2⟩ := y
    exact ⟨T, x1, x2, e, n, e', y1 _ (p1 _ p), y2 _ (p2 _ p)⟩
  · obtain ⟨T, x1, x2, e, n, e', y1, y2⟩ := y
    subst e e'
    obtain ⟨d1, g1, q1⟩ := r1.get y1
    obtain ⟨d2, g2, q2⟩ := r2.get y2
    have sm := same_upd (o := .tup [x1, x2]) n
    have pp := p.trans (.of_same sm)
    exact ⟨_, zip2D_get _ _ _ _ _ g1 g2, .tup (.of upd_same) (.cons (q1.pers pp) (.cons (q2.pers pp) .nil)), sm⟩
theorem itD_z3 {E : Ev} {H : Hp} {k1 k2 k3 : Bool} {a b c : Addr} {xs ys zs : List V} {ds es fs : List PyData} (r1 : RepAll E H xs ds) (r2 : RepAll E H ys es) (r3 : RepAll E H zs fs) (p1 : ∀ H', Pers H H' → SqB k1 E.K H' a xs) (p2 : ∀ H', Pers H H' → SqB k2 E.K H' b ys) (p3 : ∀ H', Pers H H' → SqB k3 E.K H' c zs) :
    ItD E (Itz3 E.K k1 k2 k3 a b c) (zip3D ds es fs) H := by
  have l1 := r1.length
  have l2 := r2.length
  have l3 := r3.length
  refine ⟨fun H' => Pers H H', fun i H1 x H2 => ∃ T x1 x2 x3, x = .ref T ∧ H1 T = none ∧ H2 = upd H1 T (.tup [x1, x2, x3]) ∧ xs[i]? = some x1 ∧ ys[i]? = some x2 ∧ zs[i]? = some x3, ⟨fun i H1 hi p => ?_, fun H1 p => ?_, fun i H1 x H2 hi p y => ?_⟩, .refl H, fun _ _ a b => a.trans b, fun i H1 x H2 hi p y => ?_⟩
  · rw [zip3D_length] at hi
    exact ⟨xs, ys, zs, _, _, _, p1 _ p, p2 _ p, p3 _ p, List.getElem?_eq_getElem (by omega), List.getElem?_eq_getElem (by omega), List.getElem?_eq_getElem (by omega)⟩
  · rw [zip3D_length]
    exact ⟨xs, ys, zs, p1 _ p, p2 _ p, p3 _ p, by omega, by omega, by omega, by omega⟩
  · obtain ⟨T, x1, x2, x3, e, n, e', y1, y2, y3⟩ := y
    exact ⟨T, x1, x2, x3, e, n, e', y1 _ (p1 _ p), y2 _ (p2 _ p), y3 _ (p3 _ p)⟩
  · obtain ⟨T, x1, x2, x3, e, n, e', y1, y2, y3⟩ := y
    subst e e'
    obtain ⟨d1, g1, q1⟩ := r1.get y1
    obtain ⟨d2, g2, q2⟩ := r2.get y2
    obtain ⟨d3, g3, q3⟩ := r3.get y3
    have sm := same_upd (o := .tup [x1, x2, x3]) n
    have pp := p.trans (.of_same sm)
    exact ⟨_, zip3D_get _ _ _ _ _ _ _ g1 g2 g3, .tup (.of upd_same) (.cons (q1.pers pp) (.cons (q2.pers pp) (.cons (q3.pers pp) .nil))), sm⟩
theorem nmem {x y z : Nat} (h : x ≠ y) (h' : x ≠ z) : x ∉ [y, z] := fun q => by
  rcases List.mem_cons.mp q with q | q
  · exact h q
  · exact h' (List.mem_singleton.mp q)
theorem zs2 {n a b : Nat} (ha : a < n) (hb : b < n) : ZipSep2 (n + 4) (n + 2) (n + 3) n (n + 1) [n, a] [n + 1, b] :=
  ⟨(show ((n + 2 : Nat) ≠ n + 4) by omega), (show ((n + 3 : Nat) ≠ n + 4) by omega), (show ((n + 2 : Nat) ≠ n + 3) by omega), (show ((n + 2 : Nat) ≠ n) by omega), List.mem_cons_self, nmem (show ((n + 4 : Nat) ≠ n) by omega) (show ((n + 4 : Nat) ≠ a) by omega), nmem (show ((n + 3 : Nat) ≠ n) by omega) (show ((n + 3 : Nat) ≠ a) by omega), (show ((n + 2 : Nat) ≠ n + 1) by omega), List.mem_cons_self, nmem (show ((n + 4 : Nat) ≠ n + 1) by omega) (show ((n + 4 : Nat) ≠ b) by omega), nmem (show ((n + 3 : Nat) ≠ n + 1) by omega) (show ((n + 3 : Nat) ≠ b) by omega), nmem (show ((n : Nat) ≠ n + 1) by omega) (show ((n : Nat) ≠ b) by omega), nmem (show ((n + 1 : Nat) ≠ n) by omega) (show ((n + 1 : Nat) ≠ a) by omega)⟩
theorem zs3 {n a b c : Nat} (ha : a < n) (hb : b < n) (hc : c < n) : ZipSep3 (n + 5) (n + 3) (n + 4) n (n + 1) (n + 2) [n, a] [n + 1, b] [n + 2, c] :=
  ⟨(show ((n + 3 : Nat) ≠ n + 5) by omega), (show ((n + 4 : Nat) ≠ n + 5) by omega), (show ((n + 3 : Nat) ≠ n + 4) by omega), (show ((n + 3 : Nat) ≠ n) by omega), List.mem_cons_self, nmem (show ((n + 5 : Nat) ≠ n) by omega) (show ((n + 5 : Nat) ≠ a) by omega), nmem (show ((n + 4 : Nat) ≠ n) by omega) (show ((n + 4 : Nat) ≠ a) by omega), (show ((n + 3 : Nat) ≠ n + 1) by omega), List.mem_cons_self, nmem (show ((n + 5 : Nat) ≠ n + 1) by omega) (show ((n + 5 : Nat) ≠ b) by omega), nmem (show ((n + 4 : Nat) ≠ n + 1) by omega) (show ((n + 4 : Nat) ≠ b) by omega), (show ((n + 3 : Nat) ≠ n + 2) by omega), List.mem_cons_self, nmem (show ((n + 5 : Nat) ≠ n + 2) by omega) (show ((n + 5 : Nat) ≠ c) by omega), nmem (show ((n + 4 : Nat) ≠ n + 2) by omega) (show ((n + 4 : Nat) ≠ c) by omega), nmem (show ((n : Nat) ≠ n + 1) by omega) (show ((n : Nat) ≠ b) by omega), nmem (show ((n : Nat) ≠ n + 2) by omega) (show ((n : Nat) ≠ c) by omega), nmem (show ((n + 1 : Nat) ≠ n) by omega) (show ((n + 1 : Nat) ≠ a) by omega), nmem (show ((n + 1 : Nat) ≠ n + 2) by omega) (show ((n + 1 : Nat) ≠ c) by omega), nmem (show ((n + 2 : Nat) ≠ n) by omega) (show ((n + 2 : Nat) ≠ a) by omega), nmem (show ((n + 2 : Nat) ≠ n + 1) by omega) (show ((n + 2 : Nat) ≠ b) by omega)⟩
section
variable {O : Addr × Str} {X : Cx} {e e2 e3 : Expr} {g : FA} {p pos tpos : Pos} {elts : List Expr} {kk : Nat}
theorem pi_zip2 (hg : Gl X "zip") (hm : X.mg "zip" = none) (ha : PAo O X [e, e2] g) (hs : starEach [e, e2] X.env = (false, eval e X.env) :: starEach [e2] X.env := by rfl) (hpl : (backTo pos (starEach [e2] X.env)).any (·.1) = false := by rfl) :
    PIv O X (.Tuple elts kk tpos) (.Call (.Name "zip" p) [e, e2] [] pos) (zip2E g) := by
  refine ⟨fun pins s σ H R I h => ?_⟩
  obtain ⟨G, ρ, st, dl, ρ', he, q⟩ := h
  unfold zip2E at he
  split at he
  · rename_i os ρ1 h1
    split at he
    · rename_i d1 d2 h2
      split at he
      · rename_i kx xs ky ys h3 h4
        cases he
        refine Call_ (ld_blt I hg hm PyProof.Rows.boot_zip (PyProof.Rows.callWith_type1 (thn (ha.run pos pins s σ H (fun vs H' => StR (evO O X) G H' σ ρ' ∧ Pers H H' ∧ RepAll (evO O X) H' vs [d1, d2]) I ⟨G, ρ, st, os, ρ', h1, fun vs H' a b c => ⟨a, b, vals_ok c h2⟩⟩) fun us s1 ⟨vs, H1, I1, r1, st1, p1, ra⟩ => ?_) hs hpl))
        cases ra with
        | cons q1 ra => cases ra with
          | cons q2 ra =>
            cases ra
            obtain ⟨a, vx, rfl, sa, rx, ka⟩ := itemsD_ok q1 h3
            obtain ⟨b, vy, rfl, sb, ry, kb⟩ := itemsD_ok q2 h4
            cases r1 with
            | cons r rr => cases rr with
              | cons r' rr =>
                cases rr
                cases r
                cases r'
                obtain ⟨its1, rv1, c1, l1⟩ := sqB_of I1 sa
                obtain ⟨its2, rv2, c2, l2⟩ := sqB_of I1 sb
                have S := zs2 l1 l2
                refine zip_begins2 (begB (b := kx) (its := its1)) (begB (b := ky) (its := its2)) c1 c2 fun h' hz hTI hTO g1 g2 hsz hk => wpAny_pyIter_zip hz ?_
                have I2 : Inv X pins σ H1 { s1 with heap := h' } := I1.kept (t' := s1.toks) hk
                refine ⟨_, [s1.heap.objs.size + 4, s1.heap.objs.size + 2, s1.heap.objs.size + 3, s1.heap.objs.size, s1.heap.objs.size + 1], _, _, H1, rfl, I2, turn_z2 (k1 := kx) (k2 := ky) S (Nat.ne_of_lt l1) (Nat.ne_of_lt (Nat.lt_succ_of_lt l2)), ⟨hz, hTI, ⟨_, _, hTO⟩, tkB_init g1, tkB_init g2⟩, fun c hcm => ?_, q _ H1 st1 p1 (itD_z2 rx ry ka kb)⟩
                have e' : c = s1.heap.objs.size + 4 ∨ c = s1.heap.objs.size + 2 ∨ c = s1.heap.objs.size + 3 ∨ c = s1.heap.objs.size ∨ c = s1.heap.objs.size + 1 := by simpa using hcm
                have hle : s1.heap.objs.size ≤ c := by
                  rcases e' with q | q | q | q | q <;> rw [q] <;> first | exact Nat.le_refl _ | exact Nat.le_add_right _ _
                exact I1.fpOk hle (I1.hok.fresh hle)
      · cases he
    · cases he
  · cases he
theorem pi_zip3 (hg : Gl X "zip") (hm : X.mg "zip" = none) (ha : PAo O X [e, e2, e3] g) (hs : starEach [e, e2, e3] X.env = (false, eval e X.env) :: starEach [e2, e3] X.env := by rfl) (hpl : (backTo pos (starEach [e2, e3] X.env)).any (·.1) = false := by rfl) :
    PIv O X (.Tuple elts kk tpos) (.Call (.Name "zip" p) [e, e2, e3] [] pos) (zip3E g) := by
  refine ⟨fun pins s σ H R I h => ?_⟩
  obtain ⟨G, ρ, st, dl, ρ', he, q⟩ := h
  unfold zip3E at he
  split at he
  · rename_i os ρ1 h1
    split at he
    · rename_i d1 d2 d3 h2
      split at he
      · rename_i kx xs ky ys kz zs h3 h4 h5
        cases he
        refine Call_ (ld_blt I hg hm PyProof.Rows.boot_zip (PyProof.Rows.callWith_type1 (thn (ha.run pos pins s σ H (fun vs H' => StR (evO O X) G H' σ ρ' ∧ Pers H H' ∧ RepAll (evO O X) H' vs [d1, d2, d3]) I ⟨G, ρ, st, os, ρ', h1, fun vs H' a b c => ⟨a, b, vals_ok c h2⟩⟩) fun us s1 ⟨vs, H1, I1, r1, st1, p1, ra⟩ => ?_) hs hpl))
        cases ra with
        | cons q1 ra => cases ra with
          | cons q2 ra => cases ra with
            | cons q3 ra =>
              cases ra
              obtain ⟨a, vx, rfl, sa, rx, ka⟩ := itemsD_ok q1 h3
              obtain ⟨b, vy, rfl, sb, ry, kb⟩ := itemsD_ok q2 h4
              obtain ⟨c, vz, rfl, sc, rz, kc⟩ := itemsD_ok q3 h5
              cases r1 with
              | cons r rr => cases rr with
                | cons r' rr => cases rr with
                  | cons r'' rr =>
                    cases rr
                    cases r
                    cases r'
                    cases r''
                    obtain ⟨its1, rv1, c1, l1⟩ := sqB_of I1 sa
                    obtain ⟨its2, rv2, c2, l2⟩ := sqB_of I1 sb
                    obtain ⟨its3, rv3, c3, l3⟩ := sqB_of I1 sc
                    have S := zs3 l1 l2 l3
                    refine zip_begins3 (begB (b := kx) (its := its1)) (begB (b := ky) (its := its2)) (begB (b := kz) (its := its3)) c1 c2 c3 fun h' hz hTI hTO g1 g2 g3 hsz hk => wpAny_pyIter_zip hz ?_
                    have I2 : Inv X pins σ H1 { s1 with heap := h' } := I1.kept (t' := s1.toks) hk
                    refine ⟨_, [s1.heap.objs.size + 5, s1.heap.objs.size + 3, s1.heap.objs.size + 4, s1.heap.objs.size, s1.heap.objs.size + 1, s1.heap.objs.size + 2], _, _, H1, rfl, I2, turn_z3 (k1 := kx) (k2 := ky) (k3 := kz) S (Nat.ne_of_lt l1) (Nat.ne_of_lt (Nat.lt_succ_of_lt l2)) (Nat.ne_of_lt (Nat.lt_succ_of_lt (Nat.lt_succ_of_lt l3))), ⟨hz, hTI, ⟨_, _, _, hTO⟩, tkB_init g1, tkB_init g2, tkB_init g3⟩, fun c hcm => ?_, q _ H1 st1 p1 (itD_z3 rx ry rz ka kb kc)⟩
                    have e' : c = s1.heap.objs.size + 5 ∨ c = s1.heap.objs.size + 3 ∨ c = s1.heap.objs.size + 4 ∨ c = s1.heap.objs.size ∨ c = s1.heap.objs.size + 1 ∨ c = s1.heap.objs.size + 2 := by simpa using hcm
                    have hle : s1.heap.objs.size ≤ c := by
                      rcases e' with q | q | q | q | q | q <;> rw [q] <;> first | exact Nat.le_refl _ | exact Nat.le_add_right _ _
                    exact I1.fpOk hle (I1.hok.fresh hle)
      · cases he
    · cases he
  · cases he
end
end L2.Pu

/-! The pure layer, 14: small things for the walks. -/
namespace L2.Pu
open PySem PySem.Spec PyProof.Rows
theorem hu64 {A : Around} {k : Nat} (hr : Room k A) : A.units + 64 < cLine := by have := hr.un; omega
theorem hu65 {A : Around} {k : Nat} (hr : Room k A) : A.units + 65 < cLine := by have := hr.un; omega
theorem hu00 {A : Around} {k : Nat} (hr : Room k A) : A.units < cLine := by have := hr.un; omega
section
variable {O : Addr × Str} {X : Cx}
theorem pe_dnewX0 {pos : Pos} : PE X (.Dict [] [] pos) (fun _ H Q => ∀ p, H p = none → Q (.ref p) (upd H p (DX X.prog X.w p []))) := by
  refine ⟨fun pins s σ H Q I q => ?_⟩
  have hp : H s.heap.objs.size = none := I.hok.fresh (Nat.le_refl _)
  have hd : (s.heap.objs.size == sysModules) = false := beq_eq_false_iff_ne.mpr (Ne.symm (Nat.ne_of_lt I.big))
  refine wpAny_Dict_empty ⟨.ref s.heap.objs.size, _, I.laid (a := s.heap.objs.size) (o := DX X.prog X.w s.heap.objs.size []) (t' := s.toks) (fun _ _ q => Heap.get?_push_of_some _ q) (Nat.le_refl _) ?_, rfl, q _ hp⟩
  refine ⟨⟨Nat.zero_le _, hd, _, #[], 0, Heap.get?_push_size _ rfl, ⟨rfl, rfl, rfl⟩, rfl, rfl, List.nodup_nil⟩, ⟨_, Heap.get?_push_size _ rfl⟩, fun h1 h2 hh hg => ?_⟩
  obtain ⟨a1, a2, o2, es2, ep2, b1, b2⟩ := hh
  exact ⟨a1, a2, o2, es2, ep2, hg _ b1, b2⟩
theorem pn_bin {op : Operator} {a b : Expr} {fa fb : FO} {pos : Pos} {r : PyData → PyData → Option PyData} (ho : OpN O X (binaryOp op) r) (ha : PEo O X a fa) (hb : PEo O X b fb) : PEn O X (.BinOp a op b pos) (binE r fa fb) := by
  refine ⟨fun pins s σ H Q I h => ?_⟩
  obtain ⟨G, ρ, st, d, ρ', e, q⟩ := h
  unfold binE at e
  split at e
  · rename_i o1 ρ1 h1
    split at e
    · rename_i o2 ρ2 h2
      split at e
      · rename_i d1 d2 g1 g2
        split at e
        · rename_i z hz
          cases e
          refine wpAny_BinOp (thn (ha.run pins s σ H (fun v H' => StR (evO O X) G H' σ ρ1 ∧ Pers H H' ∧ OpdR (evO O X) H' σ v o1) I ⟨G, ρ, st, o1, ρ1, h1, fun v H' x y z => ⟨x, y, z⟩⟩) fun u s1 ⟨x, H1, I1, rx, st1, p1, q1⟩ => ?_)
          refine thn (hb.run pins s1 σ H1 (fun v H' => StR (evO O X) G H' σ ρ' ∧ Pers H1 H' ∧ OpdR (evO O X) H' σ v o2) I1 ⟨G, ρ1, st1, o2, ρ', h2, fun v H' x y z => ⟨x, y, z⟩⟩) fun v s2 ⟨y, H2, I2, ry, st2, p2, q2⟩ => ?_
          refine thn (ho pins s2 σ H2 x y u v d1 d2 _ I2 rx ry (rsv_ok st2 (q1.pers p2) g1) (rsv_ok st2 q2 g2) hz) fun w3 s3 ⟨a', H3, I3, ew, n, o, sm⟩ => ?_
          exact ⟨.ref a', H3, I3, ew, q a' H2 H3 st2 (p1.trans p2) sm n o⟩
        · cases e
      · cases e
    · cases e
  · cases e
/-- the law's own list at the law's entry -/
theorem script_arg {E : Ev} {H : Hp} {a : Addr} {ns : List Int} (hO : Only H) (h : SqL E.K H a (ns.map V.int)) : Rep E H (.ref a) (.dict [(.bool true, .list (ns.map .int))]) := by
  have r : RepAll E H (ns.map V.int) (ns.map .int) := by
    induction ns with
    | nil => exact .nil
    | cons n ns ih => exact .cons (.int n) (by
        clear ih h
        induction ns with
        | nil => exact .nil
        | cons m ns ih => exact .cons (.int m) ih)
  refine .scr ?_ r
  rcases h with (h | h) | h
  · rcases hO a with z | ⟨o, xs, z⟩
    · rw [h] at z; cases z
    · rw [h] at z; cases z
  · exact .inl h
  · exact .inr h
end
end L2.Pu

/-! The pure layer, 15: literals for simp. -/
namespace L2.Pu
open PySem PySem.Spec PyProof.Rows
theorem ix1_0 : ixN 1 0 = some 0 := by decide
theorem ix2_0 : ixN 2 0 = some 0 := by decide
theorem ix2_1 : ixN 2 1 = some 1 := by decide
theorem ix3_0 : ixN 3 0 = some 0 := by decide
theorem ix3_1 : ixN 3 1 = some 1 := by decide
theorem ix3_2 : ixN 3 2 = some 2 := by decide
theorem ix4_0 : ixN 4 0 = some 0 := by decide
theorem ix4_1 : ixN 4 1 = some 1 := by decide
theorem ix4_2 : ixN 4 2 = some 2 := by decide
theorem ix4_3 : ixN 4 3 = some 3 := by decide
theorem ix5_0 : ixN 5 0 = some 0 := by decide
theorem ix5_1 : ixN 5 1 = some 1 := by decide
theorem ix5_2 : ixN 5 2 = some 2 := by decide
theorem ix5_3 : ixN 5 3 = some 3 := by decide
theorem ix5_4 : ixN 5 4 = some 4 := by decide
theorem ix6_0 : ixN 6 0 = some 0 := by decide
theorem ix6_1 : ixN 6 1 = some 1 := by decide
theorem ix6_2 : ixN 6 2 = some 2 := by decide
theorem ix6_3 : ixN 6 3 = some 3 := by decide
theorem ix6_4 : ixN 6 4 = some 4 := by decide
theorem ix6_5 : ixN 6 5 = some 5 := by decide
theorem ix7_0 : ixN 7 0 = some 0 := by decide
theorem ix7_1 : ixN 7 1 = some 1 := by decide
theorem ix7_2 : ixN 7 2 = some 2 := by decide
theorem ix7_3 : ixN 7 3 = some 3 := by decide
theorem ix7_4 : ixN 7 4 = some 4 := by decide
theorem ix7_5 : ixN 7 5 = some 5 := by decide
theorem ix7_6 : ixN 7 6 = some 6 := by decide
theorem ix8_0 : ixN 8 0 = some 0 := by decide
theorem ix8_1 : ixN 8 1 = some 1 := by decide
theorem ix8_2 : ixN 8 2 = some 2 := by decide
theorem ix8_3 : ixN 8 3 = some 3 := by decide
theorem ix8_4 : ixN 8 4 = some 4 := by decide
theorem ix8_5 : ixN 8 5 = some 5 := by decide
theorem ix8_6 : ixN 8 6 = some 6 := by decide
theorem ix8_7 : ixN 8 7 = some 7 := by decide
theorem sl1 : (1 : Nat) ≤ sizeLine := by decide
theorem sl2 : (2 : Nat) ≤ sizeLine := by decide
theorem sl3 : (3 : Nat) ≤ sizeLine := by decide
theorem sl4 : (4 : Nat) ≤ sizeLine := by decide
theorem sl5 : (5 : Nat) ≤ sizeLine := by decide
theorem sl6 : (6 : Nat) ≤ sizeLine := by decide
theorem sl7 : (7 : Nat) ≤ sizeLine := by decide
theorem sl8 : (8 : Nat) ≤ sizeLine := by decide
theorem sl0 : (0 : Nat) ≤ sizeLine := by decide
theorem nc0 : ((0 : Nat) : Int) = 0 := rfl
theorem nc1 : ((1 : Nat) : Int) = 1 := rfl
theorem nc2 : ((2 : Nat) : Int) = 2 := rfl
theorem nc3 : ((3 : Nat) : Int) = 3 := rfl
theorem nc4 : ((4 : Nat) : Int) = 4 := rfl
theorem nc5 : ((5 : Nat) : Int) = 5 := rfl
theorem nc6 : ((6 : Nat) : Int) = 6 := rfl
theorem nc7 : ((7 : Nat) : Int) = 7 := rfl
theorem nc8 : ((8 : Nat) : Int) = 8 := rfl
theorem nc9 : ((9 : Nat) : Int) = 9 := rfl
theorem nc10 : ((10 : Nat) : Int) = 10 := rfl
theorem nc11 : ((11 : Nat) : Int) = 11 := rfl
theorem nc12 : ((12 : Nat) : Int) = 12 := rfl
theorem nc13 : ((13 : Nat) : Int) = 13 := rfl
theorem nc14 : ((14 : Nat) : Int) = 14 := rfl
theorem nc15 : ((15 : Nat) : Int) = 15 := rfl
theorem for_nx {ft : PyData → Pu.Env → Option Pu.Env} {body : FS} {d : PyData} {ds : List PyData} {ρ ρ1 ρ2 : Pu.Env} (h : ft d ρ = some ρ1) (h' : body ρ1 = some (.nx, ρ2)) : forLoop ft body (d :: ds) ρ = forLoop ft body ds ρ2 := by
  simp only [forLoop, h, h']
theorem for_ct {ft : PyData → Pu.Env → Option Pu.Env} {body : FS} {d : PyData} {ds : List PyData} {ρ ρ1 ρ2 : Pu.Env} (h : ft d ρ = some ρ1) (h' : body ρ1 = some (.ct, ρ2)) : forLoop ft body (d :: ds) ρ = forLoop ft body ds ρ2 := by
  simp only [forLoop, h, h']
theorem for_rt {ft : PyData → Pu.Env → Option Pu.Env} {body : FS} {d z : PyData} {ds : List PyData} {ρ ρ1 ρ2 : Pu.Env} (h : ft d ρ = some ρ1) (h' : body ρ1 = some (.rt z, ρ2)) : forLoop ft body (d :: ds) ρ = some (.rt z, ρ2) := by
  simp only [forLoop, h, h']
theorem for_bk {ft : PyData → Pu.Env → Option Pu.Env} {body : FS} {d : PyData} {ds : List PyData} {ρ ρ1 ρ2 : Pu.Env} (h : ft d ρ = some ρ1) (h' : body ρ1 = some (.bk, ρ2)) : forLoop ft body (d :: ds) ρ = some (.nx, ρ2) := by
  simp only [forLoop, h, h']
theorem lc_cons {body : FL} {d : PyData} {ds ys zs : List PyData} {ρ ρ1 ρ2 : Pu.Env} (h : body d ρ = some (ys, ρ1)) (h' : lcLoop body ds ρ1 = some (zs, ρ2)) : lcLoop body (d :: ds) ρ = some (ys ++ zs, ρ2) := by
  simp only [lcLoop, h, h']
end L2.Pu

/-! The pure layer, 16: the draws of a law. -/
namespace L2.Pu
open PySem PySem.Spec PyProof.Rows
def cupB (k1 k2 k3 k4 k5 k6 k7 : Int) : FS :=
 (seqS (setS 1 (callE absD (consA (valE (binE ixD (valE (binE addD (valE (callE listD (consA (slE 0) nilA))) (valE (lstE (consA (valE (cE (.int 0))) nilA))))) (valE (cE (.int 0))))) nilA)))
 (seqS (retN (lstE (consA (valE (ifE (asB (binE geD (slE 1) (valE (binE powD (valE (cE (.int k1))) (valE (cE (.int k2))))))) (binE fdivD (slE 1) (valE (cE (.int k3)))) (cE (.int 0)))) (consA (valE (binE addD (valE (binE modD (valE (callE intD (consA (valE (binE addD (valE (binE mulI (slE 1) (valE (cE (.int k4))))) (valE (cE (.int k5))))) nilA))) (valE (cE (.int k6))))) (valE (cE (.int k7))))) nilA))))
 nilS))
def rollB (k1 k2 k3 k4 k5 k6 : Int) : FS :=
 (seqS (ifS (asB (binE gtI (valE (binE ixD (slE 0) (valE (cE (.int 0))))) (valE (cE (.int 0))))) (seqS (setS 3 (binE modD (valE (callE intD (consA (valE (binE ixD (slE 0) (valE (cE (.int 0))))) nilA))) (slE 1)))
 (seqS (storeS putD (slE 0) (cE (.int 0)) (binE fdivD (valE (binE ixD (slE 0) (valE (cE (.int 0))))) (slE 1)))
 (seqS (retS (vE 3))
 nilS))) nilS)
 (seqS (storeS putD (slE 0) (cE (.int 1)) (binE modD (valE (callE intD (consA (valE (binE addD (valE (binE mulI (valE (binE ixD (slE 0) (valE (cE (.int 1))))) (valE (cE (.int k1))))) (valE (cE (.int k2))))) nilA))) (valE (cE (.int k3)))))
 (seqS (setS 2 (binE modD (valE (callE intD (consA (valE (binE mulI (valE (binE ixD (slE 0) (valE (cE (.int 1))))) (valE (binE addD (valE (binE ixD (slE 0) (valE (cE (.int 1))))) (valE (cE (.int k4))))))) nilA))) (valE (cE (.int k5)))))
 (seqS (retS (binE modD (valE (callE intD (consA (valE (binE fdivD (slE 2) (valE (cE (.int k6))))) nilA))) (slE 1)))
 nilS))))
def scriptD (ns : List Int) : PyData := .dict [(.bool true, .list (ns.map .int))]
abbrev cupD (a b : Int) : PyData := .list [.int a, .int b]
theorem atI_0 {α : Type} (x : α) (xs : List α) : atI (x :: xs) 0 = some x := by
  have : ixN (x :: xs).length 0 = some 0 := by
    unfold ixN
    rw [if_pos (Int.le_refl 0), if_pos (by rw [List.length_cons]; omega)]
    rfl
  unfold atI
  rw [this]
  rfl
theorem map_snoc (ns : List Int) : ∃ (z : Int) (r : List PyData), ns.map PyData.int ++ [PyData.int 0] = .int z :: r := by
  cases ns with
  | nil => exact ⟨0, [], rfl⟩
  | cons n ns => exact ⟨n, ns.map .int ++ [.int 0], rfl⟩
theorem cup_gen {k1 k3 k4 k5 k6 k7 : Int} {k2 : Nat} (h1 : (k2 : Int) ≤ 1000000) (h2 : k1.natAbs < 2 ^ 64) (h3 : 0 < k3 ∧ k3 < 1073741824) (h4 : -(2 ^ 64) < k4 ∧ k4 < 2 ^ 64) (h6 : 0 < k6) (ns : List Int) (hl : ns.length ≤ 63) :
    ∃ a b, runDefN 2 [.v] (cupB k1 k2 k3 k4 k5 k6 k7) [scriptD ns] = some (cupD a b, []) := by
  obtain ⟨z, r, e⟩ := map_snoc ns
  unfold scriptD
  have i0 : initEnv [.v] [.dict [(.bool true, .list (ns.map .int))]] 2 = [.val (.dict [(.bool true, .list (ns.map .int))]), .un] := rfl
  have hz : (List.map PyData.int ns).length + 1 ≤ sizeLine := by
    rw [List.length_map]
    have : (64 : Nat) ≤ sizeLine := by decide
    omega
  have hp : (0 : Int) ≤ k2 ∧ (k2 : Int) ≤ 1000000 ∧ k1.natAbs < 2 ^ 64 := ⟨Int.natCast_nonneg _, h1, h2⟩
  have hm : CMul (if z < 0 then -z else z) k4 := .inr h4
  rcases Bool.eq_false_or_eq_true (decide (k1 ^ (k2 : Int).toNat ≤ (if z < 0 then -z else z))) with h | h
  · refine ⟨(if z < 0 then -z else z) / k3, ((if z < 0 then -z else z) * k4 + k5) % k6 + k7, ?_⟩
    simp only [runDefN, i0, cupB, seqS, setS, callE, consA, valE, binE, slE, rsvs, rsv, slD, listD, nilA, lstE, cE, vals, sl1, if_true, List.length_cons, List.length_nil, Nat.zero_add, Nat.reduceAdd, addD, addS, addL, hz, Option.or, e, ixD, ixT, ixL, atI_0, absD, retN, ifE, asB, powD, hp, geD, geI, h, fdivD, h3, modD, intD, mulI, hm, h6, outsOf, nilS, sl2, List.getElem?_cons_zero, List.getElem?_cons_succ, List.set_cons_zero, List.set_cons_succ, and_self]
  · refine ⟨0, ((if z < 0 then -z else z) * k4 + k5) % k6 + k7, ?_⟩
    simp only [runDefN, i0, cupB, seqS, setS, callE, consA, valE, binE, slE, rsvs, rsv, slD, listD, nilA, lstE, cE, vals, sl1, if_true, List.length_cons, List.length_nil, Nat.zero_add, Nat.reduceAdd, addD, addS, addL, hz, Option.or, e, ixD, ixT, ixL, atI_0, absD, retN, ifE, asB, powD, hp, geD, geI, h, fdivD, h3, modD, intD, mulI, hm, h6, outsOf, nilS, sl2, List.getElem?_cons_zero, List.getElem?_cons_succ, List.set_cons_zero, List.set_cons_succ, and_self]
theorem roll_gen {k1 k2 k3 k4 k5 k6 : Int} (h1 : -(2 ^ 64) < k1 ∧ k1 < 2 ^ 64) (h3 : 0 < k3 ∧ k3 < 2 ^ 64) (h5 : 0 < k5) (h6 : 0 < k6 ∧ k6 < 1073741824) (a b m : Int) (hm : 0 < m) (hm2 : m < 1073741824) :
    ∃ r a' b', 0 ≤ r ∧ r < m ∧ runDef 4 [.o, .v] (rollB k1 k2 k3 k4 k5 k6) [cupD a b, .int m] = some (.int r, [cupD a' b']) := by
  have i0 : initEnv [.o, .v] [cupD a b, .int m] 4 = [.own true false (cupD a b), .val (.int m), .un, .un] := rfl
  have hmm : 0 < m ∧ m < 1073741824 := ⟨hm, hm2⟩
  rcases Bool.eq_false_or_eq_true (decide (0 < a)) with h | h
  · refine ⟨a % m, a / m, b, Int.emod_nonneg _ (by omega), Int.emod_lt_of_pos _ hm, ?_⟩
    simp only [runDef, i0, rollB, seqS, ifS, asB, binE, valE, slE, cE, rsv, slD, ixD, ixT, ixL, atI_0, Option.or, gtI, h, setS, modD, callE, consA, nilA, rsvs, intD, hm, if_true, storeS, fdivD, hmm, and_self, putD, putL, ix2_0, List.length_cons, List.length_nil, Nat.zero_add, Nat.reduceAdd, retS, vE, outsOf, nilS, List.getElem?_cons_zero, List.getElem?_cons_succ, List.set_cons_zero, List.set_cons_succ]
  · have c1 : CMul b k1 := .inr h1
    have hb := Int.emod_lt_of_pos (b * k1 + k2) h3.1
    have hb0 := Int.emod_nonneg (b * k1 + k2) (show k3 ≠ 0 by omega)
    have c2 : CMul ((b * k1 + k2) % k3) ((b * k1 + k2) % k3 + k4) := .inl ⟨by omega, by omega⟩
    refine ⟨((b * k1 + k2) % k3 * ((b * k1 + k2) % k3 + k4)) % k5 / k6 % m, a, (b * k1 + k2) % k3, Int.emod_nonneg _ (by omega), Int.emod_lt_of_pos _ hm, ?_⟩
    simp only [runDef, i0, rollB, seqS, ifS, asB, binE, valE, slE, cE, rsv, slD, ixD, ixT, ixL, atI, Option.bind_some, Option.or, gtI, h, setS, modD, callE, consA, nilA, rsvs, intD, hm, if_true, storeS, fdivD, h6, h5, h3, and_self, putD, putL, ix2_0, ix2_1, mulI, c1, c2, addD, addS, addL, List.length_cons, List.length_nil, Nat.zero_add, Nat.reduceAdd, retS, vE, outsOf, nilS, List.getElem?_cons_zero, List.getElem?_cons_succ, List.set_cons_zero, List.set_cons_succ]
/-- the promise of the law's def -/
def spLawR (K : PySem.W.Frag) : Sp := fun vs H Q _ => ∃ (a : Addr) (ns : List Int), vs = [.ref a] ∧ Only H ∧ SqL K H a (ns.map V.int) ∧ ns.length ≤ 63 ∧ ∀ H', Q (.bl true) H'
theorem law_imp {E : Ev} {F : FD} (h : ∀ ns : List Int, ns.length ≤ 63 → F [scriptD ns] = some (.bool true, [])) : ∀ (vs : List V) (H : Hp) (Q : VK) (Ex : XK), spLawR E.K vs H Q Ex → SpecOf E [.v] F vs H Q Ex := by
  intro vs H Q Ex q
  obtain ⟨a, ns, rfl, hO, hS, hl, q⟩ := q
  exact ⟨[scriptD ns], [], .v (script_arg hO hS) .nil, List.nodup_nil, .bool true, [], h ns hl, fun v H' fps' r _ _ _ _ _ => by cases r; exact q H'⟩
theorem walkR {l : PySem.W.OpenLaw} {q : Program} {loose : List Str} {XP : (Str → Option Value) → Heap → Prop} {YP : World → Heap → Prop} {d : DefRec} {K : Params → PySem.W.Frag} {k : Nat} (hr : Room k callerA) (hn : l.most = some 63) (hdf : d.params.defaults = [])
    (hY : ∀ (w : World) (h : Heap), YP w h → (K w.params).In h)
    (F : ∀ (w : World) (mg : Str → Option Value) (fa : Addr) (h : Heap), (K w.params).In h → h.Ns mainGlobals mg → mg d.name = some (.ref fa) →
      ∃ fd : FuncData, (∀ (s : Shared) (u : Value), BindsTo s fd ⟨[u], []⟩ [("script", u)]) ∧ ∀ base : Heap, (K w.params).In base → base.Ns mainGlobals mg → FnOk l.prog w (K w.params) mg base CX0 k fa fd ["script"] (spLawR (K w.params))) :
    PySem.W.WalkO q loose XP YP l.row.toRowW d [] (fun f vs => PySem.call f vs) :=
  L2.walk_of (n := 63) (k := k) (x := "script") (CX := fun _ => CX0) (sp := fun w => spLawR (K w.params)) hn (by decide) hdf hr hY F
    (fun w H a ns hl hO hS => ⟨a, ns, rfl, hO, hS, hl, fun _ => rfl⟩) fun _ _ _ _ _ z => z
end L2.Pu

namespace CoinK60
open PySem PySem.Spec L2 L2.Pu
def B_law_cup : FS :=
 (seqS (setS 1 (callE absD (consA (valE (binE ixD (valE (binE addD (valE (callE listD (consA (slE 0) nilA))) (valE (lstE (consA (valE (cE (.int 0))) nilA))))) (valE (cE (.int 0))))) nilA)))
 (seqS (retN (lstE (consA (valE (ifE (asB (binE geD (slE 1) (valE (binE powD (valE (cE (.int 10))) (valE (cE (.int 18))))))) (binE fdivD (slE 1) (valE (cE (.int 89)))) (cE (.int 0)))) (consA (valE (binE addD (valE (binE modD (valE (callE intD (consA (valE (binE addD (valE (binE mulI (slE 1) (valE (cE (.int 353))))) (valE (cE (.int 4259))))) nilA))) (valE (cE (.int 2077502977))))) (valE (cE (.int 199))))) nilA))))
 nilS))
def F_law_cup : FD := runDefN 2 [.v] (B_law_cup)
def B_is_whole : FS :=
 (seqS (retS (andV (isiE isInt (slE 0)) (notV (isiE isBool (slE 0)))))
 nilS)
def F_is_whole : FD := runDef 1 [.v] (B_is_whole)
def B_fits_whole : FS :=
 (seqS (retS (andV (callF [.v] F_is_whole (consA (valE (vE 0)) nilA)) (chainE leI leI (slE 1) (slE 0) (slE 2))))
 nilS)
def F_fits_whole : FD := runDef 3 [.v, .v, .v] (B_fits_whole)
def B_need_rounds : FS :=
 (seqS (ifS (notB (asB (callF [.v, .v, .v] F_fits_whole (consA (valE (vE 0)) (consA (valE (cE (.int 0))) (consA (valE (cE (.int 7))) nilA)))))) (seqS noS
 nilS) nilS)
 nilS)
def F_need_rounds : FD := runDef 1 [.v] (B_need_rounds)
def B_many_in : FS :=
 (seqS (retS (binE addD (valE (binE addD (valE (binE addD (valE (binE mulI (valE (cE (.int 2))) (valE (binE ixD (slE 0) (valE (cE (.int 0))))))) (valE (binE ixD (slE 0) (valE (cE (.int 1))))))) (valE (binE ixD (slE 0) (valE (cE (.int 2))))))) (valE (binE ixD (slE 0) (valE (cE (.int 4)))))))
 nilS)
def F_many_in : FD := runDef 1 [.v] (B_many_in)
def B_shares_of : FS :=
 (seqS (retS (lcE (range1E (consA (valE (binE addD (slE 0) (valE (cE (.int 1))))) nilA)) (lc2Body [1, 2] (nameT 1) yesB (range1E (consA (valE (binE addD (valE (binE subD (slE 0) (slE 1))) (valE (cE (.int 1))))) nilA)) (lcBody [2] (nameT 2) yesB (tupE (consA (valE (vE 1)) (consA (valE (vE 2)) nilA)))))))
 nilS)
def F_shares_of : FD := runDef 3 [.v] (B_shares_of)
def B_weighings_in : FS :=
 (seqS (setN 1 (lstE nilA))
 (seqS (forS (itemsE (callF [.v] F_shares_of (consA (valE (binE ixD (slE 0) (valE (cE (.int 0))))) nilA))) (tupT 2 (consT (nameT 2) (consT (nameT 3) nilT)))
 (seqS (forS (itemsE (callF [.v] F_shares_of (consA (valE (binE ixD (slE 0) (valE (cE (.int 1))))) nilA))) (tupT 2 (consT (nameT 4) (consT (nameT 5) nilT)))
 (seqS (forS (itemsE (callF [.v] F_shares_of (consA (valE (binE ixD (slE 0) (valE (cE (.int 2))))) nilA))) (tupT 2 (consT (nameT 6) (consT (nameT 7) nilT)))
 (seqS (setS 8 (binE subD (valE (binE subD (valE (binE subD (valE (binE addD (valE (binE addD (slE 2) (slE 4))) (slE 6))) (slE 3))) (slE 5))) (slE 7)))
 (seqS (parS [9, 10] (vM (tupE (consA (valE (vE 2)) (consA (valE (vE 4)) (consA (valE (vE 6)) (consA (valE (callE maxD (consA (valE (cE (.int 0))) (consA (valE (negE (slE 8))) nilA)))) nilA))))) (vM (tupE (consA (valE (vE 3)) (consA (valE (vE 5)) (consA (valE (vE 7)) (consA (valE (callE maxD (consA (valE (cE (.int 0))) (consA (slE 8) nilA)))) nilA))))) nilM)))
 (seqS (ifS (andB (asB (binE leI (valE (callE absD (consA (slE 8) nilA))) (valE (binE ixD (slE 0) (valE (cE (.int 3))))))) (andB (asB (binE gtI (valE (callE sumD (consA (slE 9) nilA))) (valE (cE (.int 0))))) (asB (binE geD (slE 9) (slE 10))))) (seqS (dropS (appE 1 (tupE (consA (valE (vE 9)) (consA (valE (vE 10)) nilA)))))
 nilS) nilS)
 nilS))))
 nilS))
 nilS))
 (seqS (retS (vE 1))
 nilS)))
def F_weighings_in : FD := runDef 11 [.v] (B_weighings_in)
def B_rest_of : FS :=
 (seqS (setS 5 (binE subD (valE (binE subD (valE (binE subD (valE (callE sumD (consA (valE (sliceE (slE 0) noP (intP (cE (.int 4))) cutA)) nilA))) (slE 1))) (slE 2))) (slE 3)))
 (seqS (setS 6 (tupE (consA (valE (vE 1)) (consA (valE (vE 2)) (consA (valE (vE 3)) (consA (valE (vE 5)) (consA (valE (vE 4)) nilA)))))))
 (seqS (retS (ifE (asB (binE gtI (valE (callF [.v] F_many_in (consA (valE (vE 6)) nilA))) (valE (cE (.int 0))))) (vE 6) (cE .none)))
 nilS)))
def F_rest_of : FD := runDef 7 [.v, .v, .v, .v, .v] (B_rest_of)
def B_results_in : FS :=
 (seqS (asgS (tupT 2 (consT (nameT 5) (consT (nameT 6) nilT))) (vE 1))
 (seqS (setS 2 (callF [.v, .v, .v, .v, .v] F_rest_of (consA (valE (vE 0)) (consA (valE (cE (.int 0))) (consA (valE (binE addD (valE (binE ixD (slE 5) (valE (cE (.int 0))))) (valE (binE ixD (slE 5) (valE (cE (.int 1))))))) (consA (valE (binE addD (valE (binE ixD (slE 6) (valE (cE (.int 0))))) (valE (binE ixD (slE 6) (valE (cE (.int 2))))))) (consA (valE (cE (.int 0))) nilA)))))))
 (seqS (setS 3 (callF [.v, .v, .v, .v, .v] F_rest_of (consA (valE (vE 0)) (consA (valE (cE (.int 0))) (consA (valE (binE addD (valE (binE ixD (slE 6) (valE (cE (.int 0))))) (valE (binE ixD (slE 6) (valE (cE (.int 1))))))) (consA (valE (binE addD (valE (binE ixD (slE 5) (valE (cE (.int 0))))) (valE (binE ixD (slE 5) (valE (cE (.int 2))))))) (consA (valE (cE (.int 0))) nilA)))))))
 (seqS (setN 4 (lcE (zip3E (consA (valE (sliceE (slE 0) noP (intP (cE (.int 3))) cutA)) (consA (valE (vE 5)) (consA (valE (vE 6)) nilA)))) (lcBody [7, 8, 9] (tupT 3 (consT (nameT 7) (consT (nameT 8) (consT (nameT 9) nilT)))) yesB (binE subD (valE (binE subD (slE 7) (slE 8))) (slE 9)))))
 (seqS (retS (tupE (consA (valE (vE 2)) (consA (valE (callF [.v, .v, .v, .v, .v] F_rest_of (consA (valE (vE 0)) (consA (valE (binE ixD (slE 4) (valE (cE (.int 0))))) (consA (valE (binE ixD (slE 4) (valE (cE (.int 1))))) (consA (valE (binE ixD (slE 4) (valE (cE (.int 2))))) (consA (valE (binE ixD (slE 0) (valE (cE (.int 4))))) nilA))))))) (consA (valE (vE 3)) nilA)))))
 nilS)))))
def F_results_in : FD := runDef 10 [.v, .v] (B_results_in)
def B_Search_first (G_Search_can : FD) : FS :=
 (seqS (forS (itemsE (callF [.v] F_weighings_in (consA (valE (vE 1)) nilA))) (nameT 3)
 (seqS (setN 4 (lcE (itemsE (callF [.v, .v] F_results_in (consA (valE (vE 1)) (consA (valE (vE 3)) nilA)))) (lcBody [5] (nameT 5) (asB (binE isntD (slE 5) (valE (cE .none)))) (vE 5))))
 (seqS (ifS (andB (asB (binE gtI (valE (callE lenD (consA (slE 4) nilA))) (valE (cE (.int 1))))) (asB (callE allD (consA (valE (lcE (itemsE (vE 4)) (lcBody [5] (nameT 5) yesB (callF [.b, .v, .v] G_Search_can (consA (obE 0) (consA (valE (vE 5)) (consA (valE (binE subD (slE 2) (valE (cE (.int 1))))) nilA))))))) nilA)))) (seqS (retS (vE 3))
 nilS) nilS)
 nilS)))
 (seqS (retS (cE .none))
 nilS))
def F_Search_first (G_Search_can : FD) : FD := runDef 6 [.b, .v, .v] (B_Search_first G_Search_can)
def B_Search_can (G_Search_first : FD) : FS :=
 (seqS (ifS (asB (binE eqD (valE (callF [.v] F_many_in (consA (valE (vE 1)) nilA))) (valE (cE (.int 1))))) (seqS (retS (cE (.bool true)))
 nilS) nilS)
 (seqS (ifS (orB (asB (binE eqD (slE 2) (valE (cE (.int 0))))) (asB (binE gtI (valE (callF [.v] F_many_in (consA (valE (vE 1)) nilA))) (valE (binE ixD (valE (cE (.tuple [(.int 1), (.int 3), (.int 9), (.int 27), (.int 81), (.int 243), (.int 729), (.int 2187)]))) (slE 2)))))) (seqS (retS (cE (.bool false)))
 nilS) nilS)
 (seqS (ifS (asB (binE notInD (valE (tupE (consA (valE (vE 1)) (consA (valE (vE 2)) nilA)))) (flE 0))) (seqS (storeS putD (flE 0) (tupE (consA (valE (vE 1)) (consA (valE (vE 2)) nilA))) (binE isntD (valE (callF [.b, .v, .v] G_Search_first (consA (obE 0) (consA (valE (vE 1)) (consA (valE (vE 2)) nilA))))) (valE (cE .none))))
 nilS) nilS)
 (seqS (retS (binE ixD (flE 0) (valE (tupE (consA (valE (vE 1)) (consA (valE (vE 2)) nilA))))))
 nilS))))
def F_Search_can (G_Search_first : FD) : FD := runDef 3 [.b, .v, .v] (B_Search_can G_Search_first)
def R_Search_can : Nat → FD
  | 0 => fun _ => none
  | n + 1 => F_Search_can (F_Search_first (R_Search_can n))
def B_most_unknown : FS :=
 (seqS (dropS (callF [.v] F_need_rounds (consA (valE (vE 0)) nilA)))
 (seqS (ifS (notB (asB (callF [.v, .v, .v] F_fits_whole (consA (valE (vE 1)) (consA (valE (cE (.int 0))) (consA (valE (cE (.int 14))) nilA)))))) (seqS noS
 nilS) nilS)
 (seqS (setB 2 (cE (.dict [(.none, .none)])))
 (seqS (retS (callE maxD (consA (valE (lcE (range1E (consA (valE (binE addD (valE (binE subD (valE (cE (.int 14))) (slE 1))) (valE (cE (.int 1))))) nilA)) (lcBody [3] (nameT 3) (asB (callF [.b, .v, .v] (R_Search_can 9) (consA (obE 2) (consA (valE (tupE (consA (valE (vE 3)) (consA (valE (cE (.int 0))) (consA (valE (cE (.int 0))) (consA (valE (vE 1)) (consA (valE (cE (.int 1))) nilA))))))) (consA (valE (vE 0)) nilA))))) (vE 3)))) nilA)))
 nilS))))
def F_most_unknown : FD := runDef 4 [.v, .v] (B_most_unknown)
def B_is_tuple_of : FS :=
 (seqS (retS (andV (isiE isTuple (slE 0)) (chainE leI leI (slE 1) (valE (callE lenD (consA (slE 0) nilA))) (slE 2))))
 nilS)
def F_is_tuple_of : FD := runDef 3 [.v, .v, .v] (B_is_tuple_of)
def B_fits_state : FS :=
 (seqS (ifS (orB (notB (asB (callF [.v, .v, .v] F_is_tuple_of (consA (valE (vE 0)) (consA (valE (cE (.int 5))) (consA (valE (cE (.int 5))) nilA)))))) (orB (notB (asB (callE allD (consA (valE (lcE (itemsE (vE 0)) (lcBody [1] (nameT 1) yesB (callF [.v, .v, .v] F_fits_whole (consA (valE (vE 1)) (consA (valE (cE (.int 0))) (consA (valE (cE (.int 14))) nilA))))))) nilA)))) (asB (binE gtI (valE (binE ixD (slE 0) (valE (cE (.int 4))))) (valE (cE (.int 1))))))) (seqS (retS (cE (.bool false)))
 nilS) nilS)
 (seqS (retS (andV (binE leI (valE (callE sumD (consA (valE (sliceE (slE 0) noP (intP (cE (.int 4))) cutA)) nilA))) (valE (cE (.int 14)))) (binE gtI (valE (callF [.v] F_many_in (consA (valE (vE 0)) nilA))) (valE (cE (.int 0))))))
 nilS))
def F_fits_state : FD := runDef 2 [.v] (B_fits_state)
def B_need_state : FS :=
 (seqS (ifS (notB (asB (callF [.v] F_fits_state (consA (valE (vE 0)) nilA)))) (seqS noS
 nilS) nilS)
 nilS)
def F_need_state : FD := runDef 1 [.v] (B_need_state)
def B_Search_cost : FS :=
 (seqS (forS (range1E (consA (valE (binE addD (valE (cE (.int 7))) (valE (cE (.int 1))))) nilA)) (nameT 2)
 (seqS (ifS (asB (callF [.b, .v, .v] (R_Search_can 9) (consA (obE 0) (consA (valE (vE 1)) (consA (valE (vE 2)) nilA))))) (seqS (retS (vE 2))
 nilS) nilS)
 nilS))
 (seqS (retS (cE .none))
 nilS))
def F_Search_cost : FD := runDef 3 [.b, .v] (B_Search_cost)
def B_fewest_weighings : FS :=
 (seqS (dropS (callF [.v] F_need_state (consA (valE (vE 0)) nilA)))
 (seqS (retS (callT 1 F_Search_cost (cE (.dict [(.none, .none)])) (consA (valE (vE 0)) nilA)))
 nilS))
def F_fewest_weighings : FD := runDef 1 [.v] (B_fewest_weighings)
def B_law_roll : FS :=
 (seqS (ifS (asB (binE gtI (valE (binE ixD (slE 0) (valE (cE (.int 0))))) (valE (cE (.int 0))))) (seqS (setS 3 (binE modD (valE (callE intD (consA (valE (binE ixD (slE 0) (valE (cE (.int 0))))) nilA))) (slE 1)))
 (seqS (storeS putD (slE 0) (cE (.int 0)) (binE fdivD (valE (binE ixD (slE 0) (valE (cE (.int 0))))) (slE 1)))
 (seqS (retS (vE 3))
 nilS))) nilS)
 (seqS (storeS putD (slE 0) (cE (.int 1)) (binE modD (valE (callE intD (consA (valE (binE addD (valE (binE mulI (valE (binE ixD (slE 0) (valE (cE (.int 1))))) (valE (cE (.int 31159))))) (valE (cE (.int 8117))))) nilA))) (valE (cE (.int 2147483123)))))
 (seqS (setS 2 (binE modD (valE (callE intD (consA (valE (binE mulI (valE (binE ixD (slE 0) (valE (cE (.int 1))))) (valE (binE addD (valE (binE ixD (slE 0) (valE (cE (.int 1))))) (valE (cE (.int 271))))))) nilA))) (valE (cE (.int 2147483171)))))
 (seqS (retS (binE modD (valE (callE intD (consA (valE (binE fdivD (slE 2) (valE (cE (.int 853))))) nilA))) (slE 1)))
 nilS))))
def F_law_roll : FD := runDef 4 [.o, .v] (B_law_roll)
def B_law_same (G_law_same : FD) : FS :=
 (seqS (ifS (asB (isiE isTuple (slE 1))) (seqS (ifS (orB (notB (asB (isiE isTuple (slE 0)))) (asB (binE neD (valE (callE lenD (consA (slE 0) nilA))) (valE (callE lenD (consA (slE 1) nilA)))))) (seqS (retS (cE (.bool false)))
 nilS) nilS)
 (seqS (retS (callE allD (consA (valE (lcE (range1E (consA (valE (callE lenD (consA (slE 1) nilA))) nilA)) (lcBody [2] (nameT 2) yesB (callF [.v, .v] G_law_same (consA (valE (binE ixD (slE 0) (slE 2))) (consA (valE (binE ixD (slE 1) (slE 2))) nilA)))))) nilA)))
 nilS)) nilS)
 (seqS (ifS (asB (binE isD (slE 1) (valE (cE .none)))) (seqS (retS (binE isD (slE 0) (valE (cE .none))))
 nilS) nilS)
 (seqS (ifS (asB (isiE isBool (slE 1))) (seqS (retS (ifE (asB (vE 1)) (binE isD (slE 0) (valE (cE (.bool true)))) (binE isD (slE 0) (valE (cE (.bool false))))))
 nilS) nilS)
 (seqS (ifS (asB (isiE isInt (slE 1))) (seqS (retS (andV (isiE isInt (slE 0)) (andV (notV (isiE isBool (slE 0))) (binE eqD (valE (callE intD (consA (slE 0) nilA))) (slE 1)))))
 nilS) nilS)
 (seqS (retS (andV (isiE isStr (slE 0)) (binE eqD (valE (callE strA (consA (slE 0) nilA))) (slE 1))))
 nilS)))))
def F_law_same (G_law_same : FD) : FD := runDef 3 [.v, .v] (B_law_same G_law_same)
def R_law_same : Nat → FD
  | 0 => fun _ => none
  | n + 1 => F_law_same (R_law_same n)
def B_law_some : FS :=
 (seqS (retS (binE ixD (slE 1) (valE (callF [.o, .v] F_law_roll (consA (slE 0) (consA (valE (callE lenD (consA (slE 1) nilA))) nilA))))))
 nilS)
def F_law_some : FD := runDef 2 [.o, .v] (B_law_some)
def B_law_most : FS :=
 (seqS (setS 2 (ifE (asB (binE eqD (slE 1) (valE (cE (.int 0))))) (binE ixD (valE (lstE (consA (valE (cE (.int 0))) (consA (valE (cE (.int 0))) (consA (valE (cE (.int 3))) (consA (valE (cE (.int 12))) (consA (valE (cE (.int 14))) (consA (valE (cE (.int 14))) (consA (valE (cE (.int 14))) (consA (valE (cE (.int 14))) nilA)))))))))) (slE 0)) (binE ixD (valE (lstE (consA (valE (cE (.int 0))) (consA (valE (cE (.int 1))) (consA (valE (cE (.int 4))) (consA (valE (cE (.int 13))) (consA (valE (cE (.int 14))) (consA (valE (cE (.int 14))) (consA (valE (cE (.int 14))) (consA (valE (cE (.int 14))) nilA)))))))))) (slE 0))))
 (seqS (retS (callE minD (consA (slE 2) (consA (valE (binE subD (valE (cE (.int 14))) (slE 1))) nilA))))
 nilS))
def F_law_most : FD := runDef 3 [.v, .v] (B_law_most)
def B_law_is_weighing : FS :=
 (seqS (ifS (orB (notB (asB (isiE isTuple (slE 1)))) (orB (asB (binE neD (valE (callE lenD (consA (slE 1) nilA))) (valE (cE (.int 2))))) (asB (binE neD (valE (lcE (itemsE (vE 1)) (lcBody [2] (nameT 2) (orB (notB (asB (isiE isTuple (slE 2)))) (asB (binE neD (valE (callE lenD (consA (slE 2) nilA))) (valE (cE (.int 4)))))) (vE 2)))) (valE (lstE nilA)))))) (seqS (retS (cE (.bool false)))
 nilS) nilS)
 (seqS (forS (itemsE (vE 1)) (nameT 2)
 (seqS (ifS (asB (binE neD (valE (lcE (itemsE (vE 2)) (lcBody [4] (nameT 4) (orB (notB (asB (isiE isInt (slE 4)))) (orB (asB (isiE isBool (slE 4))) (asB (binE ltI (slE 4) (valE (cE (.int 0))))))) (vE 4)))) (valE (lstE nilA)))) (seqS (retS (cE (.bool false)))
 nilS) nilS)
 nilS))
 (seqS (ifS (orB (asB (binE neD (valE (callE sumD (consA (valE (binE ixD (slE 1) (valE (cE (.int 0))))) nilA))) (valE (callE sumD (consA (valE (binE ixD (slE 1) (valE (cE (.int 1))))) nilA))))) (asB (binE ltI (valE (callE sumD (consA (valE (binE ixD (slE 1) (valE (cE (.int 0))))) nilA))) (valE (cE (.int 1)))))) (seqS (retS (cE (.bool false)))
 nilS) nilS)
 (seqS (retS (binE eqD (valE (lcE (range1E (consA (valE (cE (.int 4))) nilA)) (lcBody [3] (nameT 3) (asB (binE gtI (valE (binE addD (valE (binE ixD (valE (binE ixD (slE 1) (valE (cE (.int 0))))) (slE 3))) (valE (binE ixD (valE (binE ixD (slE 1) (valE (cE (.int 1))))) (slE 3))))) (valE (binE ixD (slE 0) (slE 3))))) (vE 3)))) (valE (lstE nilA))))
 nilS))))
def F_law_is_weighing : FD := runDef 5 [.v, .v] (B_law_is_weighing)
def B_law_pans : FS :=
 (seqS (parS [2, 3] (nM (lstE nilA) (nM (lstE (consA (valE (lstE nilA)) (consA (valE (lstE nilA)) (consA (valE (lstE nilA)) nilA)))) nilM)))
 (seqS (forS (range1E (consA (valE (cE (.int 3))) nilA)) (nameT 1)
 (seqS (forS (range1E (consA (valE (binE addD (valE (binE ixD (slE 0) (slE 1))) (valE (cE (.int 1))))) nilA)) (nameT 4)
 (seqS (storeS putD (slE 3) (vE 1) (binE addD (valE (binE ixD (slE 3) (slE 1))) (valE (lcE (range1E (consA (valE (binE subD (valE (binE addD (valE (binE ixD (slE 0) (slE 1))) (valE (cE (.int 1))))) (slE 4))) nilA)) (lcBody [5] (nameT 5) yesB (tupE (consA (valE (vE 4)) (consA (valE (vE 5)) nilA))))))))
 nilS))
 nilS))
 (seqS (forS (itemsE (binE ixD (slE 3) (valE (cE (.int 0))))) (tupT 2 (consT (nameT 4) (consT (nameT 5) nilT)))
 (seqS (forS (itemsE (binE ixD (slE 3) (valE (cE (.int 1))))) (tupT 2 (consT (nameT 6) (consT (nameT 7) nilT)))
 (seqS (forS (itemsE (binE ixD (slE 3) (valE (cE (.int 2))))) (tupT 2 (consT (nameT 8) (consT (nameT 9) nilT)))
 (seqS (setS 10 (binE subD (valE (binE subD (valE (binE subD (valE (binE addD (valE (binE addD (slE 4) (slE 6))) (slE 8))) (slE 5))) (slE 7))) (slE 9)))
 (seqS (setS 11 (tupE (consA (valE (tupE (consA (valE (vE 4)) (consA (valE (vE 6)) (consA (valE (vE 8)) (consA (valE (ifE (asB (binE gtI (slE 10) (valE (cE (.int 0))))) (cE (.int 0)) (binE subD (valE (cE (.int 0))) (slE 10)))) nilA)))))) (consA (valE (tupE (consA (valE (vE 5)) (consA (valE (vE 7)) (consA (valE (vE 9)) (consA (valE (ifE (asB (binE gtI (slE 10) (valE (cE (.int 0))))) (vE 10) (cE (.int 0)))) nilA)))))) nilA))))
 (seqS (ifS (asB (callF [.v, .v] F_law_is_weighing (consA (valE (vE 0)) (consA (valE (vE 11)) nilA)))) (seqS (dropS (appE 2 (vE 11)))
 nilS) nilS)
 nilS))))
 nilS))
 nilS))
 (seqS (retS (vE 2))
 nilS))))
def F_law_pans : FD := runDef 12 [.v] (B_law_pans)
def B_law_cases : FS :=
 (seqS (retS (binE addD (valE (binE addD (valE (binE addD (valE (binE addD (valE (binE ixD (slE 0) (valE (cE (.int 0))))) (valE (binE ixD (slE 0) (valE (cE (.int 0))))))) (valE (binE ixD (slE 0) (valE (cE (.int 1))))))) (valE (binE ixD (slE 0) (valE (cE (.int 2))))))) (valE (binE ixD (slE 0) (valE (cE (.int 4)))))))
 nilS)
def F_law_cases : FD := runDef 1 [.v] (B_law_cases)
def B_law_behind : FS :=
 (seqS (asgS (tupT 2 (consT (nameT 5) (consT (nameT 6) nilT))) (vE 1))
 (seqS (setN 2 (lstE nilA))
 (seqS (forS (itemsE (tupE (consA (valE (tupE (consA (valE (vE 5)) (consA (valE (vE 6)) nilA)))) (consA (valE (tupE (consA (valE (vE 6)) (consA (valE (vE 5)) nilA)))) nilA)))) (tupT 2 (consT (nameT 7) (consT (nameT 8) nilT)))
 (seqS (parS [9, 10] (vM (binE addD (valE (binE ixD (slE 7) (valE (cE (.int 0))))) (valE (binE ixD (slE 7) (valE (cE (.int 1)))))) (vM (binE addD (valE (binE ixD (slE 8) (valE (cE (.int 0))))) (valE (binE ixD (slE 8) (valE (cE (.int 2)))))) nilM)))
 (seqS (dropS (appE 2 (ifE (asB (binE gtI (valE (binE addD (slE 9) (slE 10))) (valE (cE (.int 0))))) (tupE (consA (valE (cE (.int 0))) (consA (valE (vE 9)) (consA (valE (vE 10)) (consA (valE (binE subD (valE (binE subD (valE (callE sumD (consA (valE (sliceE (slE 0) noP (intP (cE (.int 4))) cutA)) nilA))) (slE 9))) (slE 10))) (consA (valE (cE (.int 0))) nilA)))))) (cE .none))))
 nilS)))
 (seqS (setN 3 (lcE (range1E (consA (valE (cE (.int 3))) nilA)) (lcBody [11] (nameT 11) yesB (binE subD (valE (binE subD (valE (binE ixD (slE 0) (slE 11))) (valE (binE ixD (slE 5) (slE 11))))) (valE (binE ixD (slE 6) (slE 11)))))))
 (seqS (setS 4 (tupE (consA (valE (binE ixD (slE 3) (valE (cE (.int 0))))) (consA (valE (binE ixD (slE 3) (valE (cE (.int 1))))) (consA (valE (binE ixD (slE 3) (valE (cE (.int 2))))) (consA (valE (binE subD (valE (callE sumD (consA (valE (sliceE (slE 0) noP (intP (cE (.int 4))) cutA)) nilA))) (valE (callE sumD (consA (slE 3) nilA))))) (consA (valE (binE ixD (slE 0) (valE (cE (.int 4))))) nilA)))))))
 (seqS (retS (tupE (consA (valE (binE ixD (slE 2) (valE (cE (.int 0))))) (consA (valE (ifE (asB (binE gtI (valE (callF [.v] F_law_cases (consA (valE (vE 4)) nilA))) (valE (cE (.int 0))))) (vE 4) (cE .none))) (consA (valE (binE ixD (slE 2) (valE (cE (.int 1))))) nilA)))))
 nilS))))))
def F_law_behind : FD := runDef 12 [.v, .v] (B_law_behind)
def B_law_can (G_law_can : FD) : FS :=
 (seqS (ifS (orB (asB (binE eqD (valE (callF [.v] F_law_cases (consA (valE (vE 0)) nilA))) (valE (cE (.int 1))))) (asB (binE eqD (slE 1) (valE (cE (.int 0)))))) (seqS (retS (binE eqD (valE (callF [.v] F_law_cases (consA (valE (vE 0)) nilA))) (valE (cE (.int 1)))))
 nilS) nilS)
 (seqS (ifS (asB (binE notInD (valE (tupE (consA (valE (vE 0)) (consA (valE (vE 1)) nilA)))) (slE 2))) (seqS (setS 3 (cE (.bool false)))
 (seqS (forS (itemsE (callF [.v] F_law_pans (consA (valE (vE 0)) nilA))) (nameT 4)
 (seqS (setN 5 (lcE (itemsE (callF [.v, .v] F_law_behind (consA (valE (vE 0)) (consA (valE (vE 4)) nilA)))) (lcBody [6] (nameT 6) (asB (binE isntD (slE 6) (valE (cE .none)))) (vE 6))))
 (seqS (ifS (andB (notB (asB (vE 3))) (andB (asB (binE gtI (valE (callE lenD (consA (slE 5) nilA))) (valE (cE (.int 1))))) (asB (binE leI (valE (callE maxD (consA (valE (lcE (itemsE (vE 5)) (lcBody [6] (nameT 6) yesB (callF [.v] F_law_cases (consA (valE (vE 6)) nilA))))) nilA))) (valE (binE ixD (valE (tupE (consA (valE (cE (.int 1))) (consA (valE (cE (.int 3))) (consA (valE (cE (.int 9))) (consA (valE (cE (.int 27))) nilA)))))) (valE (callE minD (consA (valE (cE (.int 3))) (consA (valE (binE subD (slE 1) (valE (cE (.int 1))))) nilA)))))))))) (seqS (setS 3 (binE eqD (valE (lcE (itemsE (vE 5)) (lcBody [6] (nameT 6) (notB (asB (callF [.v, .v, .o] G_law_can (consA (valE (vE 6)) (consA (valE (binE subD (slE 1) (valE (cE (.int 1))))) (consA (slE 2) nilA)))))) (vE 6)))) (valE (lstE nilA))))
 nilS) nilS)
 nilS)))
 (seqS (storeS putD (slE 2) (tupE (consA (valE (vE 0)) (consA (valE (vE 1)) nilA))) (vE 3))
 nilS))) nilS)
 (seqS (retS (binE ixD (slE 2) (valE (tupE (consA (valE (vE 0)) (consA (valE (vE 1)) nilA))))))
 nilS)))
def F_law_can (G_law_can : FD) : FD := runDef 7 [.v, .v, .o] (B_law_can G_law_can)
def R_law_can : Nat → FD
  | 0 => fun _ => none
  | n + 1 => F_law_can (R_law_can n)
def B_law : FS :=
 (seqS (setN 1 (callF [.v] F_law_cup (consA (valE (vE 0)) nilA)))
 (seqS (forS (range1E (consA (valE (cE (.int 2))) nilA)) (nameT 2)
 (seqS (asgS (tupT 2 (consT (nameT 7) (consT (nameT 8) nilT))) (tupE (consA (valE (callF [.o, .v] F_law_roll (consA (slE 1) (consA (valE (cE (.int 4))) nilA)))) (consA (valE (callF [.o, .v] F_law_some (consA (slE 1) (consA (valE (lstE (consA (valE (cE (.int 0))) (consA (valE (cE (.int 0))) (consA (valE (cE (.int 1))) (consA (valE (callF [.o, .v] F_law_roll (consA (slE 1) (consA (valE (cE (.int 15))) nilA)))) nilA)))))) nilA)))) nilA))))
 (seqS (ifS (notB (asB (callF [.v, .v] (R_law_same 4) (consA (valE (callF [.v, .v] F_most_unknown (consA (valE (vE 7)) (consA (valE (vE 8)) nilA)))) (consA (valE (callF [.v, .v] F_law_most (consA (valE (vE 7)) (consA (valE (vE 8)) nilA)))) nilA))))) (seqS (retS (cE (.bool false)))
 nilS) nilS)
 nilS)))
 (seqS (asgS (tupT 2 (consT (nameT 7) (consT (nameT 8) nilT))) (tupE (consA (valE (callF [.o, .v] F_law_roll (consA (slE 1) (consA (valE (cE (.int 3))) nilA)))) (consA (valE (callF [.o, .v] F_law_roll (consA (slE 1) (consA (valE (cE (.int 3))) nilA)))) nilA))))
 (seqS (setN 3 (cE (.dict [(.none, .none)])))
 (seqS (setS 4 (callE maxD (consA (valE (lcE (range1E (consA (valE (cE (.int 6))) nilA)) (lcBody [5] (nameT 5) (asB (callF [.v, .v, .o] (R_law_can 5) (consA (valE (tupE (consA (valE (vE 5)) (consA (valE (cE (.int 0))) (consA (valE (cE (.int 0))) (consA (valE (vE 8)) (consA (valE (cE (.int 1))) nilA))))))) (consA (valE (vE 7)) (consA (slE 3) nilA))))) (vE 5)))) nilA)))
 (seqS (ifS (notB (asB (callF [.v, .v] (R_law_same 4) (consA (valE (callF [.v, .v] F_most_unknown (consA (valE (vE 7)) (consA (valE (vE 8)) nilA)))) (consA (valE (vE 4)) nilA))))) (seqS (retS (cE (.bool false)))
 nilS) nilS)
 (seqS (setS 5 (callF [.v, .v] F_most_unknown (consA (valE (cE (.int 2))) (consA (valE (vE 8)) nilA))))
 (seqS (setS 6 (callF [.v] F_fewest_weighings (consA (valE (tupE (consA (valE (vE 5)) (consA (valE (cE (.int 0))) (consA (valE (cE (.int 0))) (consA (valE (vE 8)) (consA (valE (cE (.int 1))) nilA))))))) nilA)))
 (seqS (retS (andV (binE eqD (slE 6) (valE (cE (.int 2)))) (orV (binE gtI (valE (callF [.o, .v] F_law_roll (consA (slE 1) (consA (valE (cE (.int 4))) nilA)))) (valE (cE (.int 0)))) (callF [.v, .v] (R_law_same 4) (consA (valE (callF [.v, .v] F_most_unknown (consA (valE (cE (.int 4))) (consA (valE (cE (.int 9))) nilA)))) (consA (valE (cE (.int 5))) nilA))))))
 nilS)))))))))
def F_law : FD := runDef 9 [.v] (B_law)
end CoinK60

namespace CoinK60
open PySem PySem.Spec L2 L2.Pu
def wBody : FS :=
 (seqS (setS 8 (binE subD (valE (binE subD (valE (binE subD (valE (binE addD (valE (binE addD (slE 2) (slE 4))) (slE 6))) (slE 3))) (slE 5))) (slE 7)))
 (seqS (parS [9, 10] (vM (tupE (consA (valE (vE 2)) (consA (valE (vE 4)) (consA (valE (vE 6)) (consA (valE (callE maxD (consA (valE (cE (.int 0))) (consA (valE (negE (slE 8))) nilA)))) nilA))))) (vM (tupE (consA (valE (vE 3)) (consA (valE (vE 5)) (consA (valE (vE 7)) (consA (valE (callE maxD (consA (valE (cE (.int 0))) (consA (slE 8) nilA)))) nilA))))) nilM)))
 (seqS (ifS (andB (asB (binE leI (valE (callE absD (consA (slE 8) nilA))) (valE (binE ixD (slE 0) (valE (cE (.int 3))))))) (andB (asB (binE gtI (valE (callE sumD (consA (slE 9) nilA))) (valE (cE (.int 0))))) (asB (binE geD (slE 9) (slE 10))))) (seqS (dropS (appE 1 (tupE (consA (valE (vE 9)) (consA (valE (vE 10)) nilA)))))
 nilS) nilS)
 nilS)))
def farOf (a b c d e f : Int) : Int := a + c + e - b - d - f
def maxZ (j : Int) : Int := if j > 0 then j else 0
def leftOf (a b c d e f : Int) : List Int := [a, c, e, maxZ (-farOf a b c d e f)]
def rightOf (a b c d e f : Int) : List Int := [b, d, f, maxZ (farOf a b c d e f)]
def pr (l r : List Int) : PyData := .tuple [.tuple (l.map .int), .tuple (r.map .int)]
def wOk (g a b c d e f : Int) : Bool :=
  decide ((if farOf a b c d e f < 0 then - farOf a b c d e f else farOf a b c d e f) ≤ g) && (decide (0 < (leftOf a b c d e f).sum) && lexGe (leftOf a b c d e f) (rightOf a b c d e f))
def wOne (g a b c d e f : Int) : List PyData := if wOk g a b c d e f = true then [pr (leftOf a b c d e f) (rightOf a b c d e f)] else []
theorem w_body (u h l g n a b c d e f : Int) (acc : List PyData) (s8 s9 s10 : Sl) (hl : acc.length < sizeLine) : ∃ t8 t9 t10,
    wBody [.val (.tuple [.int u, .int h, .int l, .int g, .int n]), .own false false (.list acc), .val (.int a), .val (.int b), .val (.int c), .val (.int d), .val (.int e), .val (.int f), s8, s9, s10]
    = some (.nx, [.val (.tuple [.int u, .int h, .int l, .int g, .int n]), .own false false (.list (acc ++ wOne g a b c d e f)), .val (.int a), .val (.int b), .val (.int c), .val (.int d), .val (.int e), .val (.int f), t8, t9, t10]) := by
  have q1 : farOf a b c d e f = a + c + e - b - d - f := rfl
  have q2 : leftOf a b c d e f = [a, c, e, if -(a + c + e - b - d - f) > 0 then -(a + c + e - b - d - f) else 0] := rfl
  have q3 : rightOf a b c d e f = [b, d, f, if a + c + e - b - d - f > 0 then a + c + e - b - d - f else 0] := rfl
  unfold wOne wOk
  rw [q1, q2, q3]
  rcases Bool.eq_false_or_eq_true (decide ((if a + c + e - b - d - f < 0 then -(a + c + e - b - d - f) else a + c + e - b - d - f) ≤ g)) with h1 | h1
  · rcases Bool.eq_false_or_eq_true (decide (0 < [a, c, e, if -(a + c + e - b - d - f) > 0 then -(a + c + e - b - d - f) else 0].sum)) with h2 | h2
    · rcases Bool.eq_false_or_eq_true (lexGe [a, c, e, if -(a + c + e - b - d - f) > 0 then -(a + c + e - b - d - f) else 0] [b, d, f, if a + c + e - b - d - f > 0 then a + c + e - b - d - f else 0]) with h3 | h3
      · exact ⟨_, _, _, by simp only [h1, h2, h3, Bool.and_true, hl, pr, List.map_cons, List.map_nil, wBody, seqS, setS, binE, slE, valE, rsv, slD, subD, addD, addS, addL, parS, vM, nilM, tupE, consA, nilA, vE, cE, callE, negE, vals, rsvs, maxD, max2D, setMs, asB, absD, leI, ixD, ixT, atI, gtI, sumD, sumL, sumT, asInts, geD, geI, geT, List.getElem?_cons_zero, List.getElem?_cons_succ, List.set_cons_zero, List.set_cons_succ, List.length_cons, List.length_nil, Option.or, Nat.zero_add, Nat.reduceAdd, sl4, sl2, if_true, andB, ifS, dropS, appE, nilS, ix5_0, ix5_1, ix5_2, ix5_3, ix5_4, Option.bind_some]; rfl⟩
      · exact ⟨_, _, _, by simp only [h1, h2, h3, Bool.and_false, Bool.false_eq_true, if_false, List.append_nil, wBody, seqS, setS, binE, slE, valE, rsv, slD, subD, addD, addS, addL, parS, vM, nilM, tupE, consA, nilA, vE, cE, callE, negE, vals, rsvs, maxD, max2D, setMs, asB, absD, leI, ixD, ixT, atI, gtI, sumD, sumL, sumT, asInts, geD, geI, geT, List.getElem?_cons_zero, List.getElem?_cons_succ, List.set_cons_zero, List.set_cons_succ, List.length_cons, List.length_nil, Option.or, Nat.zero_add, Nat.reduceAdd, sl4, sl2, if_true, andB, ifS, dropS, appE, nilS, ix5_0, ix5_1, ix5_2, ix5_3, ix5_4, Option.bind_some]; rfl⟩
    · exact ⟨_, _, _, by simp only [h1, h2, Bool.and_false, Bool.false_and, Bool.false_eq_true, if_false, List.append_nil, wBody, seqS, setS, binE, slE, valE, rsv, slD, subD, addD, addS, addL, parS, vM, nilM, tupE, consA, nilA, vE, cE, callE, negE, vals, rsvs, maxD, max2D, setMs, asB, absD, leI, ixD, ixT, atI, gtI, sumD, sumL, sumT, asInts, geD, geI, geT, List.getElem?_cons_zero, List.getElem?_cons_succ, List.set_cons_zero, List.set_cons_succ, List.length_cons, List.length_nil, Option.or, Nat.zero_add, Nat.reduceAdd, sl4, sl2, if_true, andB, ifS, dropS, appE, nilS, ix5_0, ix5_1, ix5_2, ix5_3, ix5_4, Option.bind_some]; rfl⟩
  · exact ⟨_, _, _, by simp only [h1, Bool.false_and, Bool.false_eq_true, if_false, List.append_nil, wBody, seqS, setS, binE, slE, valE, rsv, slD, subD, addD, addS, addL, parS, vM, nilM, tupE, consA, nilA, vE, cE, callE, negE, vals, rsvs, maxD, max2D, setMs, asB, absD, leI, ixD, ixT, atI, gtI, sumD, sumL, sumT, asInts, geD, geI, geT, List.getElem?_cons_zero, List.getElem?_cons_succ, List.set_cons_zero, List.set_cons_succ, List.length_cons, List.length_nil, Option.or, Nat.zero_add, Nat.reduceAdd, sl4, sl2, if_true, andB, ifS, dropS, appE, nilS, ix5_0, ix5_1, ix5_2, ix5_3, ix5_4, Option.bind_some]; rfl⟩
abbrev st5 (u h l g n : Int) : PyData := .tuple [.int u, .int h, .int l, .int g, .int n]
abbrev pairD (p : Int × Int) : PyData := .tuple [.int p.1, .int p.2]
def pT (i j : Nat) : PyData → Pu.Env → Option Pu.Env := tupT 2 (consT (nameT i) (consT (nameT j) nilT))
theorem w_in (u h l g n a b c d : Int) : ∀ (ps : List (Int × Int)) (acc : List PyData) (s6 s7 s8 s9 s10 : Sl), acc.length + ps.length ≤ sizeLine → ∃ t6 t7 t8 t9 t10,
    forLoop (pT 6 7) wBody (ps.map pairD) [.val (st5 u h l g n), .own false false (.list acc), .val (.int a), .val (.int b), .val (.int c), .val (.int d), s6, s7, s8, s9, s10]
    = some (.nx, [.val (st5 u h l g n), .own false false (.list (acc ++ ps.flatMap fun p => wOne g a b c d p.1 p.2)), .val (.int a), .val (.int b), .val (.int c), .val (.int d), t6, t7, t8, t9, t10])
  | [], acc, s6, s7, s8, s9, s10, _ => ⟨s6, s7, s8, s9, s10, by simp only [List.map_nil, forLoop, List.flatMap_nil, List.append_nil]⟩
  | (e, f) :: ps, acc, s6, s7, s8, s9, s10, hl => by
    rw [List.length_cons] at hl
    obtain ⟨t8, t9, t10, h1⟩ := w_body u h l g n a b c d e f acc s8 s9 s10 (by omega)
    have lw : (wOne g a b c d e f).length ≤ 1 := by unfold wOne; split <;> simp
    obtain ⟨r6, r7, r8, r9, r10, h2⟩ := w_in u h l g n a b c d ps (acc ++ wOne g a b c d e f) (.val (.int e)) (.val (.int f)) t8 t9 t10 (by rw [List.length_append]; omega)
    refine ⟨r6, r7, r8, r9, r10, ?_⟩
    rw [List.map_cons, for_nx (ρ1 := [.val (st5 u h l g n), .own false false (.list acc), .val (.int a), .val (.int b), .val (.int c), .val (.int d), .val (.int e), .val (.int f), s8, s9, s10]) rfl h1, h2, List.flatMap_cons, List.append_assoc]
def shP (m : Nat) : List (Int × Int) := (List.range (m + 1)).flatMap fun one : Nat => (List.range (m - one + 1)).map fun other : Nat => (Int.ofNat one, Int.ofNat other)
def wIn (S : FD) : FS := seqS (forS (itemsE (callF [.v] S (consA (valE (binE ixD (slE 0) (valE (cE (.int 2))))) nilA))) (pT 6 7) wBody) nilS
def wMid (S : FD) : FS := seqS (forS (itemsE (callF [.v] S (consA (valE (binE ixD (slE 0) (valE (cE (.int 1))))) nilA))) (pT 4 5) (wIn S)) nilS
def wTop (S : FD) : FS := seqS (setN 1 (lstE nilA)) (seqS (forS (itemsE (callF [.v] S (consA (valE (binE ixD (slE 0) (valE (cE (.int 0))))) nilA))) (pT 2 3) (wMid S)) (seqS (retS (vE 1)) nilS))
theorem wTop_eq : B_weighings_in = wTop F_shares_of := rfl
theorem shares_ok : ∀ m : Nat, m ≤ 14 → F_shares_of [.int m] = some (.list ((shP m).map pairD), [])
  | 0, _ => by kernel_rfl
  | 1, _ => by kernel_rfl
  | 2, _ => by kernel_rfl
  | 3, _ => by kernel_rfl
  | 4, _ => by kernel_rfl
  | 5, _ => by kernel_rfl
  | 6, _ => by kernel_rfl
  | 7, _ => by kernel_rfl
  | 8, _ => by kernel_rfl
  | 9, _ => by kernel_rfl
  | 10, _ => by kernel_rfl
  | 11, _ => by kernel_rfl
  | 12, _ => by kernel_rfl
  | 13, _ => by kernel_rfl
  | 14, _ => by kernel_rfl
  | n + 15, h => absurd h (by omega)
theorem shP_len : ∀ m : Nat, m ≤ 14 → (shP m).length ≤ 120
  | 0, _ => by decide +kernel
  | 1, _ => by decide +kernel
  | 2, _ => by decide +kernel
  | 3, _ => by decide +kernel
  | 4, _ => by decide +kernel
  | 5, _ => by decide +kernel
  | 6, _ => by decide +kernel
  | 7, _ => by decide +kernel
  | 8, _ => by decide +kernel
  | 9, _ => by decide +kernel
  | 10, _ => by decide +kernel
  | 11, _ => by decide +kernel
  | 12, _ => by decide +kernel
  | 13, _ => by decide +kernel
  | 14, _ => by decide +kernel
  | n + 15, h => absurd h (by omega)
theorem w_inner (S : FD) (u h g n a b c d l : Int) (ps : List (Int × Int)) (hS : S [.int l] = some (.list (ps.map pairD), [])) (acc : List PyData) (s6 s7 s8 s9 s10 : Sl) (hz : acc.length + ps.length ≤ sizeLine) : ∃ t6 t7 t8 t9 t10,
    wIn S [.val (st5 u h l g n), .own false false (.list acc), .val (.int a), .val (.int b), .val (.int c), .val (.int d), s6, s7, s8, s9, s10]
    = some (.nx, [.val (st5 u h l g n), .own false false (.list (acc ++ ps.flatMap fun p => wOne g a b c d p.1 p.2)), .val (.int a), .val (.int b), .val (.int c), .val (.int d), t6, t7, t8, t9, t10]) := by
  obtain ⟨t6, t7, t8, t9, t10, e⟩ := w_in u h l g n a b c d ps acc s6 s7 s8 s9 s10 hz
  refine ⟨t6, t7, t8, t9, t10, ?_⟩
  simp only [wIn, seqS, forS, itemsE, callF, consA, valE, binE, slE, cE, rsv, slD, ixD, ixT, atI, ix5_2, Option.bind_some, List.getElem?_cons_zero, List.getElem?_cons_succ, List.length_cons, List.length_nil, Nat.zero_add, Nat.reduceAdd, Option.or, nilA, argsOf, slotsOf, nodupB, if_true, hS, setOuts, e, nilS]
theorem fm_len {g : Int} {a b c d : Int} : ∀ ps : List (Int × Int), (ps.flatMap fun p => wOne g a b c d p.1 p.2).length ≤ ps.length
  | [] => by simp
  | p :: ps => by
    have := fm_len (g := g) (a := a) (b := b) (c := c) (d := d) ps
    have lw : (wOne g a b c d p.1 p.2).length ≤ 1 := by unfold wOne; split <;> simp
    rw [List.flatMap_cons, List.length_append, List.length_cons]
    omega
abbrev w2 (g a b : Int) (qs ps : List (Int × Int)) : List PyData := qs.flatMap fun q => ps.flatMap fun p => wOne g a b q.1 q.2 p.1 p.2
theorem w2_cons {g a b : Int} {q : Int × Int} {qs ps : List (Int × Int)} : w2 g a b (q :: qs) ps = (ps.flatMap fun p => wOne g a b q.1 q.2 p.1 p.2) ++ w2 g a b qs ps := List.flatMap_cons
theorem w2_len {g a b : Int} {ps : List (Int × Int)} : ∀ qs : List (Int × Int), (w2 g a b qs ps).length ≤ qs.length * ps.length
  | [] => by simp
  | q :: qs => by
    have := w2_len (g := g) (a := a) (b := b) (ps := ps) qs
    have h2 := fm_len (g := g) (a := a) (b := b) (c := q.1) (d := q.2) ps
    unfold w2 at this ⊢
    rw [List.flatMap_cons, List.length_append, List.length_cons, Nat.add_mul, Nat.one_mul]
    omega
theorem w_midL (S : FD) (u h l g n a b : Int) (ps : List (Int × Int)) (hS : S [.int l] = some (.list (ps.map pairD), [])) : ∀ (qs : List (Int × Int)) (acc : List PyData) (s4 s5 s6 s7 s8 s9 s10 : Sl), acc.length + qs.length * ps.length ≤ sizeLine → ∃ t4 t5 t6 t7 t8 t9 t10,
    forLoop (pT 4 5) (wIn S) (qs.map pairD) [.val (st5 u h l g n), .own false false (.list acc), .val (.int a), .val (.int b), s4, s5, s6, s7, s8, s9, s10]
    = some (.nx, [.val (st5 u h l g n), .own false false (.list (acc ++ w2 g a b qs ps)), .val (.int a), .val (.int b), t4, t5, t6, t7, t8, t9, t10])
  | [], acc, s4, s5, s6, s7, s8, s9, s10, _ => ⟨s4, s5, s6, s7, s8, s9, s10, by simp only [w2, List.map_nil, forLoop, List.flatMap_nil, List.append_nil]⟩
  | (e, f) :: qs, acc, s4, s5, s6, s7, s8, s9, s10, hl => by
    rw [List.length_cons, Nat.add_mul, Nat.one_mul] at hl
    obtain ⟨t6, t7, t8, t9, t10, h1⟩ := w_inner S u h g n a b e f l ps hS acc s6 s7 s8 s9 s10 (by omega)
    have lw := fm_len (g := g) (a := a) (b := b) (c := e) (d := f) ps
    obtain ⟨r4, r5, r6, r7, r8, r9, r10, h2⟩ := w_midL S u h l g n a b ps hS qs (acc ++ ps.flatMap fun p => wOne g a b e f p.1 p.2) (.val (.int e)) (.val (.int f)) t6 t7 t8 t9 t10 (by rw [List.length_append]; omega)
    refine ⟨r4, r5, r6, r7, r8, r9, r10, ?_⟩
    rw [List.map_cons, for_nx (ρ1 := [.val (st5 u h l g n), .own false false (.list acc), .val (.int a), .val (.int b), .val (.int e), .val (.int f), s6, s7, s8, s9, s10]) rfl h1, h2, w2_cons, List.append_assoc]
theorem w_mid (S : FD) (u h l g n a b : Int) (qs ps : List (Int × Int)) (hS : S [.int l] = some (.list (ps.map pairD), [])) (hS2 : S [.int h] = some (.list (qs.map pairD), [])) (acc : List PyData) (s4 s5 s6 s7 s8 s9 s10 : Sl) (hz : acc.length + qs.length * ps.length ≤ sizeLine) : ∃ t4 t5 t6 t7 t8 t9 t10,
    wMid S [.val (st5 u h l g n), .own false false (.list acc), .val (.int a), .val (.int b), s4, s5, s6, s7, s8, s9, s10]
    = some (.nx, [.val (st5 u h l g n), .own false false (.list (acc ++ w2 g a b qs ps)), .val (.int a), .val (.int b), t4, t5, t6, t7, t8, t9, t10]) := by
  obtain ⟨t4, t5, t6, t7, t8, t9, t10, e⟩ := w_midL S u h l g n a b ps hS qs acc s4 s5 s6 s7 s8 s9 s10 hz
  refine ⟨t4, t5, t6, t7, t8, t9, t10, ?_⟩
  simp only [wMid, seqS, forS, itemsE, callF, consA, valE, binE, slE, cE, rsv, slD, ixD, ixT, atI, ix5_1, Option.bind_some, List.getElem?_cons_zero, List.getElem?_cons_succ, List.length_cons, List.length_nil, Nat.zero_add, Nat.reduceAdd, Option.or, nilA, argsOf, slotsOf, nodupB, if_true, hS2, setOuts, e, nilS]
abbrev w3 (g : Int) (os qs ps : List (Int × Int)) : List PyData := os.flatMap fun o => w2 g o.1 o.2 qs ps
theorem w3_cons {g : Int} {o : Int × Int} {os qs ps : List (Int × Int)} : w3 g (o :: os) qs ps = w2 g o.1 o.2 qs ps ++ w3 g os qs ps := List.flatMap_cons
theorem w_topL (S : FD) (u h l g n : Int) (qs ps : List (Int × Int)) (hS : S [.int l] = some (.list (ps.map pairD), [])) (hS2 : S [.int h] = some (.list (qs.map pairD), [])) : ∀ (os : List (Int × Int)) (acc : List PyData) (s2 s3 s4 s5 s6 s7 s8 s9 s10 : Sl), acc.length + os.length * (qs.length * ps.length) ≤ sizeLine → ∃ t2 t3 t4 t5 t6 t7 t8 t9 t10,
    forLoop (pT 2 3) (wMid S) (os.map pairD) [.val (st5 u h l g n), .own false false (.list acc), s2, s3, s4, s5, s6, s7, s8, s9, s10]
    = some (.nx, [.val (st5 u h l g n), .own false false (.list (acc ++ w3 g os qs ps)), t2, t3, t4, t5, t6, t7, t8, t9, t10])
  | [], acc, s2, s3, s4, s5, s6, s7, s8, s9, s10, _ => ⟨s2, s3, s4, s5, s6, s7, s8, s9, s10, by simp only [w3, List.map_nil, forLoop, List.flatMap_nil, List.append_nil]⟩
  | (e, f) :: os, acc, s2, s3, s4, s5, s6, s7, s8, s9, s10, hl => by
    rw [List.length_cons, Nat.add_mul, Nat.one_mul] at hl
    obtain ⟨t4, t5, t6, t7, t8, t9, t10, h1⟩ := w_mid S u h l g n e f qs ps hS hS2 acc s4 s5 s6 s7 s8 s9 s10 (by omega)
    have lw := w2_len (g := g) (a := e) (b := f) (ps := ps) qs
    obtain ⟨r2, r3, r4, r5, r6, r7, r8, r9, r10, h2⟩ := w_topL S u h l g n qs ps hS hS2 os (acc ++ w2 g e f qs ps) (.val (.int e)) (.val (.int f)) t4 t5 t6 t7 t8 t9 t10 (by rw [List.length_append]; omega)
    refine ⟨r2, r3, r4, r5, r6, r7, r8, r9, r10, ?_⟩
    rw [List.map_cons, for_nx (ρ1 := [.val (st5 u h l g n), .own false false (.list acc), .val (.int e), .val (.int f), s4, s5, s6, s7, s8, s9, s10]) rfl h1, h2, w3_cons, List.append_assoc]
theorem w_all (S : FD) (u h l g n : Int) (os qs ps : List (Int × Int)) (hS : S [.int l] = some (.list (ps.map pairD), [])) (hS2 : S [.int h] = some (.list (qs.map pairD), [])) (hS3 : S [.int u] = some (.list (os.map pairD), [])) (hz : os.length * (qs.length * ps.length) ≤ sizeLine) :
    runDef 11 [.v] (wTop S) [st5 u h l g n] = some (.list (w3 g os qs ps), []) := by
  obtain ⟨t2, t3, t4, t5, t6, t7, t8, t9, t10, e⟩ := w_topL S u h l g n qs ps hS hS2 os [] .un .un .un .un .un .un .un .un .un (by simpa using hz)
  rw [List.nil_append] at e
  have i0 : initEnv [.v] [st5 u h l g n] 11 = [.val (st5 u h l g n), .un, .un, .un, .un, .un, .un, .un, .un, .un, .un] := rfl
  simp only [runDef, i0, wTop, seqS, setN, lstE, vals, sl0, retS, vE, outsOf, forS, itemsE, callF, consA, valE, binE, slE, cE, rsv, slD, ixD, ixT, atI, ix5_0, Option.bind_some, List.getElem?_cons_zero, List.getElem?_cons_succ, List.set_cons_zero, List.set_cons_succ, List.length_cons, List.length_nil, Nat.zero_add, Nat.reduceAdd, Option.or, nilA, argsOf, slotsOf, nodupB, if_true, hS3, setOuts, e, nilS]
theorem weighings_ok (u h l : Nat) (g n : Int) (hu : u ≤ 14) (hh : h ≤ 14) (hl : l ≤ 14) : F_weighings_in [st5 u h l g n] = some (.list (w3 g (shP u) (shP h) (shP l)), []) := by
  show runDef 11 [.v] B_weighings_in [st5 u h l g n] = _
  rw [wTop_eq]
  refine w_all F_shares_of u h l g n _ _ _ (shares_ok l hl) (shares_ok h hh) (shares_ok u hu) ?_
  have h1 := shP_len u hu
  have h2 := shP_len h hh
  have h3 := shP_len l hl
  have h4 : (shP h).length * (shP l).length ≤ 120 * 120 := Nat.mul_le_mul h2 h3
  have h5 : (shP u).length * ((shP h).length * (shP l).length) ≤ 120 * (120 * 120) := Nat.mul_le_mul h1 h4
  have : (120 * (120 * 120) : Nat) ≤ sizeLine := by decide
  omega
end CoinK60

namespace CoinK60
open PySem PySem.Spec L2 L2.Pu
theorem cmul_l {i j : Int} (h : -(2 ^ 64) < i ∧ i < 2 ^ 64) : CMul i j := .inl h
theorem many_ok (u h l g n : Int) : F_many_in [st5 u h l g n] = some (.int (2 * u + h + l + n), []) := by
  have i0 : initEnv [.v] [st5 u h l g n] 1 = [.val (st5 u h l g n)] := rfl
  have c : CMul 2 u := .inl ⟨by decide, by decide⟩
  simp only [F_many_in, runDef, i0, B_many_in, seqS, retS, binE, valE, cE, rsv, slE, slD, ixD, ixT, atI, ix5_0, ix5_1, ix5_2, ix5_4, Option.bind_some, List.getElem?_cons_zero, List.getElem?_cons_succ, List.length_cons, List.length_nil, Nat.zero_add, Nat.reduceAdd, Option.or, mulI, c, if_true, addD, addS, addL, nilS, outsOf]
def restD (sm a b c d : Int) : PyData := if 0 < 2 * a + b + c + d then st5 a b c (sm - a - b - c) d else .none
def restB (M : FD) : FS := (seqS (setS 5 (binE subD (valE (binE subD (valE (binE subD (valE (callE sumD (consA (valE (sliceE (slE 0) noP (intP (cE (.int 4))) cutA)) nilA))) (slE 1))) (slE 2))) (slE 3)))
 (seqS (setS 6 (tupE (consA (valE (vE 1)) (consA (valE (vE 2)) (consA (valE (vE 3)) (consA (valE (vE 5)) (consA (valE (vE 4)) nilA)))))))
 (seqS (retS (ifE (asB (binE gtI (valE (callF [.v] M (consA (valE (vE 6)) nilA))) (valE (cE (.int 0))))) (vE 6) (cE .none)))
 nilS)))
theorem cut4 (u h l g n : PyData) : cutD [u, h, l, g, n] none (some 4) = [u, h, l, g] := rfl
theorem cut3 (u h l g n : PyData) : cutD [u, h, l, g, n] none (some 3) = [u, h, l] := rfl
theorem rest_all (M : FD) (hM : ∀ a b c d e, M [st5 a b c d e] = some (.int (2 * a + b + c + e), [])) (u h l g n a b c d : Int) : runDef 7 [.v, .v, .v, .v, .v] (restB M) [st5 u h l g n, .int a, .int b, .int c, .int d] = some (restD [u, h, l, g].sum a b c d, []) := by
  have i0 : initEnv [.v, .v, .v, .v, .v] [st5 u h l g n, .int a, .int b, .int c, .int d] 7 = [.val (st5 u h l g n), .val (.int a), .val (.int b), .val (.int c), .val (.int d), .un, .un] := rfl
  unfold restD
  rcases Bool.eq_false_or_eq_true (decide (0 < 2 * a + b + c + d)) with h1 | h1
  · rw [if_pos (of_decide_eq_true h1)]
    simp only [runDef, i0, restB, seqS, setS, binE, valE, callE, consA, nilA, sliceE, slE, noP, intP, cE, cutA, rsv, rsvs, slD, cut4, sumD, sumL, sumT, asInts, Option.or, subD, tupE, vE, vals, retS, ifE, asB, gtI, callF, argsOf, slotsOf, nodupB, hM, setOuts, h1, nilS, outsOf, List.getElem?_cons_zero, List.getElem?_cons_succ, List.set_cons_zero, List.set_cons_succ, List.length_cons, List.length_nil, Nat.zero_add, Nat.reduceAdd, sl5, if_true]
  · rw [if_neg (of_decide_eq_false h1)]
    simp only [runDef, i0, restB, seqS, setS, binE, valE, callE, consA, nilA, sliceE, slE, noP, intP, cE, cutA, rsv, rsvs, slD, cut4, sumD, sumL, sumT, asInts, Option.or, subD, tupE, vE, vals, retS, ifE, asB, gtI, callF, argsOf, slotsOf, nodupB, hM, setOuts, h1, nilS, outsOf, List.getElem?_cons_zero, List.getElem?_cons_succ, List.set_cons_zero, List.set_cons_succ, List.length_cons, List.length_nil, Nat.zero_add, Nat.reduceAdd, sl5, if_true]
theorem rest_ok (u h l g n a b c d : Int) : F_rest_of [st5 u h l g n, .int a, .int b, .int c, .int d] = some (restD [u, h, l, g].sum a b c d, []) := rest_all F_many_in many_ok u h l g n a b c d
def resB (S : FD) : FS := (seqS (asgS (tupT 2 (consT (nameT 5) (consT (nameT 6) nilT))) (vE 1))
 (seqS (setS 2 (callF [.v, .v, .v, .v, .v] S (consA (valE (vE 0)) (consA (valE (cE (.int 0))) (consA (valE (binE addD (valE (binE ixD (slE 5) (valE (cE (.int 0))))) (valE (binE ixD (slE 5) (valE (cE (.int 1))))))) (consA (valE (binE addD (valE (binE ixD (slE 6) (valE (cE (.int 0))))) (valE (binE ixD (slE 6) (valE (cE (.int 2))))))) (consA (valE (cE (.int 0))) nilA)))))))
 (seqS (setS 3 (callF [.v, .v, .v, .v, .v] S (consA (valE (vE 0)) (consA (valE (cE (.int 0))) (consA (valE (binE addD (valE (binE ixD (slE 6) (valE (cE (.int 0))))) (valE (binE ixD (slE 6) (valE (cE (.int 1))))))) (consA (valE (binE addD (valE (binE ixD (slE 5) (valE (cE (.int 0))))) (valE (binE ixD (slE 5) (valE (cE (.int 2))))))) (consA (valE (cE (.int 0))) nilA)))))))
 (seqS (setN 4 (lcE (zip3E (consA (valE (sliceE (slE 0) noP (intP (cE (.int 3))) cutA)) (consA (valE (vE 5)) (consA (valE (vE 6)) nilA)))) (lcBody [7, 8, 9] (tupT 3 (consT (nameT 7) (consT (nameT 8) (consT (nameT 9) nilT)))) yesB (binE subD (valE (binE subD (slE 7) (slE 8))) (slE 9)))))
 (seqS (retS (tupE (consA (valE (vE 2)) (consA (valE (callF [.v, .v, .v, .v, .v] S (consA (valE (vE 0)) (consA (valE (binE ixD (slE 4) (valE (cE (.int 0))))) (consA (valE (binE ixD (slE 4) (valE (cE (.int 1))))) (consA (valE (binE ixD (slE 4) (valE (cE (.int 2))))) (consA (valE (binE ixD (slE 0) (valE (cE (.int 4))))) nilA))))))) (consA (valE (vE 3)) nilA)))))
 nilS)))))
abbrev pan (a b c d : Int) : PyData := .tuple [.int a, .int b, .int c, .int d]
def resD (u h l g n a0 a1 a2 a3 b0 b1 b2 b3 : Int) : PyData :=
  .tuple [restD [u, h, l, g].sum 0 (a0 + a1) (b0 + b2) 0, restD [u, h, l, g].sum (u - a0 - b0) (h - a1 - b1) (l - a2 - b2) n, restD [u, h, l, g].sum 0 (b0 + b1) (a0 + a2) 0]
theorem res_all (S : FD) (hS : ∀ u h l g n a b c d, S [st5 u h l g n, .int a, .int b, .int c, .int d] = some (restD [u, h, l, g].sum a b c d, [])) (u h l g n a0 a1 a2 a3 b0 b1 b2 b3 : Int) :
    runDef 10 [.v, .v] (resB S) [st5 u h l g n, .tuple [pan a0 a1 a2 a3, pan b0 b1 b2 b3]] = some (resD u h l g n a0 a1 a2 a3 b0 b1 b2 b3, []) := by
  have i0 : initEnv [.v, .v] [st5 u h l g n, .tuple [pan a0 a1 a2 a3, pan b0 b1 b2 b3]] 10 = [.val (st5 u h l g n), .val (.tuple [pan a0 a1 a2 a3, pan b0 b1 b2 b3]), .un, .un, .un, .un, .un, .un, .un, .un] := rfl
  unfold resD
  simp only [runDef, i0, resB, seqS, asgS, tupT, consT, nameT, nilT, vE, setS, callF, binE, valE, consA, nilA, sliceE, slE, noP, intP, cE, cutA, rsv, slD, cut3, ixD, ixT, ixL, atI, ix4_0, ix4_1, ix4_2, ix3_0, ix3_1, ix3_2, ix5_4, Option.bind_some, addD, addS, addL, Option.or, subD, setN, lcE, zip3E, vals, itemsD, zip3D, lcLoop, lcBody, wipeE, restoreE, yesB, tupE, retS, argsOf, slotsOf, nodupB, hS, setOuts, nilS, outsOf, List.getElem?_cons_zero, List.getElem?_cons_succ, List.set_cons_zero, List.set_cons_succ, List.length_cons, List.length_nil, Nat.zero_add, Nat.reduceAdd, sl3, sl5, if_true, List.cons_append, List.nil_append]
theorem res_ok (u h l g n a0 a1 a2 a3 b0 b1 b2 b3 : Int) : F_results_in [st5 u h l g n, .tuple [pan a0 a1 a2 a3, pan b0 b1 b2 b3]] = some (resD u h l g n a0 a1 a2 a3 b0 b1 b2 b3, []) :=
  res_all F_rest_of rest_ok u h l g n a0 a1 a2 a3 b0 b1 b2 b3
end CoinK60

namespace CoinK60
open PySem PySem.Spec L2 L2.Pu
def mFast : FD := fun ds => match ds with
  | [.tuple [.int u, .int h, .int l, .int g, .int n]] => some (.int (2 * u + h + l + n), [])
  | ds => F_many_in ds
theorem mFast_eq : F_many_in = mFast := by
  funext ds
  unfold mFast
  split
  · exact many_ok _ _ _ _ _
  · rfl
def rFast : FD := fun ds => match ds with
  | [.tuple [.int u, .int h, .int l, .int g, .int n], .tuple [.tuple [.int a0, .int a1, .int a2, .int a3], .tuple [.int b0, .int b1, .int b2, .int b3]]] => some (resD u h l g n a0 a1 a2 a3 b0 b1 b2 b3, [])
  | ds => F_results_in ds
theorem rFast_eq : F_results_in = rFast := by
  funext ds
  unfold rFast
  split
  · exact res_ok _ _ _ _ _ _ _ _ _ _ _ _ _
  · rfl
def wFast : FD := fun ds => match ds with
  | [.tuple [.int (.ofNat u), .int (.ofNat h), .int (.ofNat l), .int g, .int n]] => if u ≤ 14 ∧ h ≤ 14 ∧ l ≤ 14 then some (.list (w3 g (shP u) (shP h) (shP l)), []) else F_weighings_in ds
  | ds => F_weighings_in ds
theorem wFast_eq : F_weighings_in = wFast := by
  funext ds
  unfold wFast
  split
  · rename_i u h l g n
    split
    · rename_i hc
      exact weighings_ok u h l g n hc.1 hc.2.1 hc.2.2
    · rfl
  · rfl
def B_first' (G_Search_can : FD) : FS :=
 (seqS (forS (itemsE (callF [.v] wFast (consA (valE (vE 1)) nilA))) (nameT 3)
 (seqS (setN 4 (lcE (itemsE (callF [.v, .v] rFast (consA (valE (vE 1)) (consA (valE (vE 3)) nilA)))) (lcBody [5] (nameT 5) (asB (binE isntD (slE 5) (valE (cE .none)))) (vE 5))))
 (seqS (ifS (andB (asB (binE gtI (valE (callE lenD (consA (slE 4) nilA))) (valE (cE (.int 1))))) (asB (callE allD (consA (valE (lcE (itemsE (vE 4)) (lcBody [5] (nameT 5) yesB (callF [.b, .v, .v] G_Search_can (consA (obE 0) (consA (valE (vE 5)) (consA (valE (binE subD (slE 2) (valE (cE (.int 1))))) nilA))))))) nilA)))) (seqS (retS (vE 3))
 nilS) nilS)
 nilS)))
 (seqS (retS (cE .none))
 nilS))
theorem first_eq (G : FD) : B_Search_first G = B_first' G := by
  unfold B_Search_first B_first'
  rw [← wFast_eq, ← rFast_eq]
def B_can' (G_Search_first : FD) : FS :=
 (seqS (ifS (asB (binE eqD (valE (callF [.v] mFast (consA (valE (vE 1)) nilA))) (valE (cE (.int 1))))) (seqS (retS (cE (.bool true)))
 nilS) nilS)
 (seqS (ifS (orB (asB (binE eqD (slE 2) (valE (cE (.int 0))))) (asB (binE gtI (valE (callF [.v] mFast (consA (valE (vE 1)) nilA))) (valE (binE ixD (valE (cE (.tuple [(.int 1), (.int 3), (.int 9), (.int 27), (.int 81), (.int 243), (.int 729), (.int 2187)]))) (slE 2)))))) (seqS (retS (cE (.bool false)))
 nilS) nilS)
 (seqS (ifS (asB (binE notInD (valE (tupE (consA (valE (vE 1)) (consA (valE (vE 2)) nilA)))) (flE 0))) (seqS (storeS putD (flE 0) (tupE (consA (valE (vE 1)) (consA (valE (vE 2)) nilA))) (binE isntD (valE (callF [.b, .v, .v] G_Search_first (consA (obE 0) (consA (valE (vE 1)) (consA (valE (vE 2)) nilA))))) (valE (cE .none))))
 nilS) nilS)
 (seqS (retS (binE ixD (flE 0) (valE (tupE (consA (valE (vE 1)) (consA (valE (vE 2)) nilA))))))
 nilS))))
theorem can_eq (G : FD) : B_Search_can G = B_can' G := by
  unfold B_Search_can B_can'
  rw [← mFast_eq]
def Rc : Nat → FD
  | 0 => fun _ => none
  | n + 1 => runDef 3 [.b, .v, .v] (B_can' (runDef 6 [.b, .v, .v] (B_first' (Rc n))))
theorem Rc_eq : ∀ n, R_Search_can n = Rc n
  | 0 => rfl
  | n + 1 => by
    unfold R_Search_can Rc F_Search_can F_Search_first
    rw [first_eq, can_eq, Rc_eq n]
def most' : FD := runDef 4 [.v, .v] (
 (seqS (dropS (callF [.v] F_need_rounds (consA (valE (vE 0)) nilA)))
 (seqS (ifS (notB (asB (callF [.v, .v, .v] F_fits_whole (consA (valE (vE 1)) (consA (valE (cE (.int 0))) (consA (valE (cE (.int 14))) nilA)))))) (seqS noS
 nilS) nilS)
 (seqS (setB 2 (cE (.dict [(.none, .none)])))
 (seqS (retS (callE maxD (consA (valE (lcE (range1E (consA (valE (binE addD (valE (binE subD (valE (cE (.int 14))) (slE 1))) (valE (cE (.int 1))))) nilA)) (lcBody [3] (nameT 3) (asB (callF [.b, .v, .v] (Rc 9) (consA (obE 2) (consA (valE (tupE (consA (valE (vE 3)) (consA (valE (cE (.int 0))) (consA (valE (cE (.int 0))) (consA (valE (vE 1)) (consA (valE (cE (.int 1))) nilA))))))) (consA (valE (vE 0)) nilA))))) (vE 3)))) nilA)))
 nilS)))))
theorem most_eq : F_most_unknown = most' := by
  unfold F_most_unknown B_most_unknown most'
  rw [Rc_eq]
end CoinK60

namespace CoinK60
open PySem PySem.Spec L2 L2.Pu
def turnB (Roll Some_ Most LMost Same : FD) : FS :=
 (seqS (asgS (tupT 2 (consT (nameT 7) (consT (nameT 8) nilT))) (tupE (consA (valE (callF [.o, .v] Roll (consA (slE 1) (consA (valE (cE (.int 4))) nilA)))) (consA (valE (callF [.o, .v] Some_ (consA (slE 1) (consA (valE (lstE (consA (valE (cE (.int 0))) (consA (valE (cE (.int 0))) (consA (valE (cE (.int 1))) (consA (valE (callF [.o, .v] Roll (consA (slE 1) (consA (valE (cE (.int 15))) nilA)))) nilA)))))) nilA)))) nilA))))
 (seqS (ifS (notB (asB (callF [.v, .v] Same (consA (valE (callF [.v, .v] Most (consA (valE (vE 7)) (consA (valE (vE 8)) nilA)))) (consA (valE (callF [.v, .v] LMost (consA (valE (vE 7)) (consA (valE (vE 8)) nilA)))) nilA))))) (seqS (retS (cE (.bool false)))
 nilS) nilS)
 nilS))
def lawB (Cup Roll Some_ Most LMost Same LCan Few : FD) : FS :=
 (seqS (setN 1 (callF [.v] Cup (consA (valE (vE 0)) nilA)))
 (seqS (forS (range1E (consA (valE (cE (.int 2))) nilA)) (nameT 2)
 (seqS (asgS (tupT 2 (consT (nameT 7) (consT (nameT 8) nilT))) (tupE (consA (valE (callF [.o, .v] Roll (consA (slE 1) (consA (valE (cE (.int 4))) nilA)))) (consA (valE (callF [.o, .v] Some_ (consA (slE 1) (consA (valE (lstE (consA (valE (cE (.int 0))) (consA (valE (cE (.int 0))) (consA (valE (cE (.int 1))) (consA (valE (callF [.o, .v] Roll (consA (slE 1) (consA (valE (cE (.int 15))) nilA)))) nilA)))))) nilA)))) nilA))))
 (seqS (ifS (notB (asB (callF [.v, .v] Same (consA (valE (callF [.v, .v] Most (consA (valE (vE 7)) (consA (valE (vE 8)) nilA)))) (consA (valE (callF [.v, .v] LMost (consA (valE (vE 7)) (consA (valE (vE 8)) nilA)))) nilA))))) (seqS (retS (cE (.bool false)))
 nilS) nilS)
 nilS)))
 (seqS (asgS (tupT 2 (consT (nameT 7) (consT (nameT 8) nilT))) (tupE (consA (valE (callF [.o, .v] Roll (consA (slE 1) (consA (valE (cE (.int 3))) nilA)))) (consA (valE (callF [.o, .v] Roll (consA (slE 1) (consA (valE (cE (.int 3))) nilA)))) nilA))))
 (seqS (setN 3 (cE (.dict [(.none, .none)])))
 (seqS (setS 4 (callE maxD (consA (valE (lcE (range1E (consA (valE (cE (.int 6))) nilA)) (lcBody [5] (nameT 5) (asB (callF [.v, .v, .o] LCan (consA (valE (tupE (consA (valE (vE 5)) (consA (valE (cE (.int 0))) (consA (valE (cE (.int 0))) (consA (valE (vE 8)) (consA (valE (cE (.int 1))) nilA))))))) (consA (valE (vE 7)) (consA (slE 3) nilA))))) (vE 5)))) nilA)))
 (seqS (ifS (notB (asB (callF [.v, .v] Same (consA (valE (callF [.v, .v] Most (consA (valE (vE 7)) (consA (valE (vE 8)) nilA)))) (consA (valE (vE 4)) nilA))))) (seqS (retS (cE (.bool false)))
 nilS) nilS)
 (seqS (setS 5 (callF [.v, .v] Most (consA (valE (cE (.int 2))) (consA (valE (vE 8)) nilA))))
 (seqS (setS 6 (callF [.v] Few (consA (valE (tupE (consA (valE (vE 5)) (consA (valE (cE (.int 0))) (consA (valE (cE (.int 0))) (consA (valE (vE 8)) (consA (valE (cE (.int 1))) nilA))))))) nilA)))
 (seqS (retS (andV (binE eqD (slE 6) (valE (cE (.int 2)))) (orV (binE gtI (valE (callF [.o, .v] Roll (consA (slE 1) (consA (valE (cE (.int 4))) nilA)))) (valE (cE (.int 0)))) (callF [.v, .v] Same (consA (valE (callF [.v, .v] Most (consA (valE (cE (.int 4))) (consA (valE (cE (.int 9))) nilA)))) (consA (valE (cE (.int 5))) nilA))))))
 nilS)))))))))
theorem lawB_eq : B_law = lawB F_law_cup F_law_roll F_law_some F_most_unknown F_law_most (R_law_same 4) (R_law_can 5) F_fewest_weighings := rfl
def someB (Roll : FD) : FS :=
 (seqS (retS (binE ixD (slE 1) (valE (callF [.o, .v] Roll (consA (slE 0) (consA (valE (callE lenD (consA (slE 1) nilA))) nilA))))))
 nilS)
def RollOk (Roll : FD) : Prop := ∀ a b m : Int, 0 < m → m < 1073741824 → ∃ r a' b', 0 ≤ r ∧ r < m ∧ Roll [cupD a b, .int m] = some (.int r, [cupD a' b'])
theorem roll_ok : RollOk F_law_roll := fun a b m h1 h2 => roll_gen (by decide) (by decide) (by decide) (by decide) a b m h1 h2
theorem cup_ok (ns : List Int) (hl : ns.length ≤ 63) : ∃ a b, F_law_cup [scriptD ns] = some (cupD a b, []) := cup_gen (k2 := 18) (by decide) (by decide) (by decide) (by decide) (by decide) ns hl
def SomeOk (Some_ : FD) : Prop := ∀ (a b x : Int), ∃ z a' b', (z = 0 ∨ z = 1 ∨ z = x) ∧ Some_ [cupD a b, .list [.int 0, .int 0, .int 1, .int x]] = some (.int z, [cupD a' b'])
theorem some_gen (Roll : FD) (hR : RollOk Roll) : SomeOk (runDef 2 [.o, .v] (someB Roll)) := by
  intro a b x
  obtain ⟨r, a', b', h1, h2, e⟩ := hR a b 4 (by decide) (by decide)
  have i0 : initEnv [.o, .v] [cupD a b, .list [.int 0, .int 0, .int 1, .int x]] 2 = [.own true false (cupD a b), .val (.list [.int 0, .int 0, .int 1, .int x])] := rfl
  have hr : r = 0 ∨ r = 1 ∨ r = 2 ∨ r = 3 := by omega
  rcases hr with rfl | rfl | rfl | rfl
  · exact ⟨0, a', b', .inl rfl, by simp only [runDef, i0, someB, seqS, retS, binE, valE, slE, callF, consA, nilA, callE, rsvs, rsv, slD, lenD, List.length_cons, List.length_nil, Nat.zero_add, Nat.reduceAdd, nc4, argsOf, slotsOf, nodupB, List.contains_nil, Bool.not_false, Bool.and_true, if_true, e, setOuts, setOut, ixD, ixT, ixL, atI, ix4_0, ix4_1, ix4_2, ix4_3, Option.bind_some, Option.or, outsOf, nilS, List.getElem?_cons_zero, List.getElem?_cons_succ, List.set_cons_zero, List.set_cons_succ]⟩
  · exact ⟨0, a', b', .inl rfl, by simp only [runDef, i0, someB, seqS, retS, binE, valE, slE, callF, consA, nilA, callE, rsvs, rsv, slD, lenD, List.length_cons, List.length_nil, Nat.zero_add, Nat.reduceAdd, nc4, argsOf, slotsOf, nodupB, List.contains_nil, Bool.not_false, Bool.and_true, if_true, e, setOuts, setOut, ixD, ixT, ixL, atI, ix4_0, ix4_1, ix4_2, ix4_3, Option.bind_some, Option.or, outsOf, nilS, List.getElem?_cons_zero, List.getElem?_cons_succ, List.set_cons_zero, List.set_cons_succ]⟩
  · exact ⟨1, a', b', .inr (.inl rfl), by simp only [runDef, i0, someB, seqS, retS, binE, valE, slE, callF, consA, nilA, callE, rsvs, rsv, slD, lenD, List.length_cons, List.length_nil, Nat.zero_add, Nat.reduceAdd, nc4, argsOf, slotsOf, nodupB, List.contains_nil, Bool.not_false, Bool.and_true, if_true, e, setOuts, setOut, ixD, ixT, ixL, atI, ix4_0, ix4_1, ix4_2, ix4_3, Option.bind_some, Option.or, outsOf, nilS, List.getElem?_cons_zero, List.getElem?_cons_succ, List.set_cons_zero, List.set_cons_succ]⟩
  · exact ⟨x, a', b', .inr (.inr rfl), by simp only [runDef, i0, someB, seqS, retS, binE, valE, slE, callF, consA, nilA, callE, rsvs, rsv, slD, lenD, List.length_cons, List.length_nil, Nat.zero_add, Nat.reduceAdd, nc4, argsOf, slotsOf, nodupB, List.contains_nil, Bool.not_false, Bool.and_true, if_true, e, setOuts, setOut, ixD, ixT, ixL, atI, ix4_0, ix4_1, ix4_2, ix4_3, Option.bind_some, Option.or, outsOf, nilS, List.getElem?_cons_zero, List.getElem?_cons_succ, List.set_cons_zero, List.set_cons_succ]⟩
theorem some_ok : SomeOk F_law_some := some_gen F_law_roll roll_ok
/-- what is asked of the numbers -/
def TurnOk (Most LMost Same : FD) : Prop := ∀ n g : Int, 0 ≤ n → n < 4 → 0 ≤ g → g < 15 → ∃ x y, Most [.int n, .int g] = some (x, []) ∧ LMost [.int n, .int g] = some (y, []) ∧ Same [x, y] = some (.bool true, [])
theorem turn_step {Roll Some_ Most LMost Same : FD} (hR : RollOk Roll) (hS : SomeOk Some_) (hT : TurnOk Most LMost Same) (d : PyData) (a b : Int) (s2 s3 s4 s5 s6 s7 s8 : Sl) : ∃ a' b' n g,
    turnB Roll Some_ Most LMost Same [.val d, .own false false (cupD a b), s2, s3, s4, s5, s6, s7, s8] = some (.nx, [.val d, .own false false (cupD a' b'), s2, s3, s4, s5, s6, .val (.int n), .val (.int g)]) := by
  obtain ⟨n, a1, b1, n0, n1, e1⟩ := hR a b 4 (by decide) (by decide)
  obtain ⟨x, a2, b2, x0, x1, e2⟩ := hR a1 b1 15 (by decide) (by decide)
  obtain ⟨g, a3, b3, hg, e3⟩ := hS a2 b2 x
  obtain ⟨y, z, e4, e5, e6⟩ := hT n g n0 n1 (by omega) (by omega)
  refine ⟨a3, b3, n, g, ?_⟩
  simp only [turnB, seqS, asgS, tupT, consT, nameT, nilT, tupE, consA, nilA, valE, callF, slE, cE, argsOf, slotsOf, nodupB, List.contains_nil, Bool.not_false, Bool.and_true, if_true, e1, e2, e3, e4, e5, e6, setOuts, setOut, vals, lstE, List.length_cons, List.length_nil, Nat.zero_add, Nat.reduceAdd, sl2, sl4, ifS, notB, asB, vE, Bool.not_true, nilS, List.getElem?_cons_zero, List.getElem?_cons_succ, List.set_cons_zero, List.set_cons_succ]
def seqC (LCan : FD) (n g : Int) : List Int → PyData → Option (List PyData × PyData)
  | [], t => some ([], t)
  | k :: ks, t => match LCan [st5 k 0 0 g 1, .int n, t] with
    | some (.bool true, [t']) => match seqC LCan n g ks t' with
      | some (xs, t2) => some (.int k :: xs, t2)
      | none => none
    | some (.bool false, [t']) => seqC LCan n g ks t'
    | _ => none
def canB (LCan : FD) : FL := lcBody [5] (nameT 5) (asB (callF [.v, .v, .o] LCan (consA (valE (tupE (consA (valE (vE 5)) (consA (valE (cE (.int 0))) (consA (valE (cE (.int 0))) (consA (valE (vE 8)) (consA (valE (cE (.int 1))) nilA))))))) (consA (valE (vE 7)) (consA (slE 3) nilA))))) (vE 5)
theorem seqC_lc {LCan : FD} {n g : Int} {d : PyData} {c s2 s4 s5 s6 : Sl} : ∀ {ks : List Int} {t t' : PyData} {xs : List PyData}, seqC LCan n g ks t = some (xs, t') →
    lcLoop (canB LCan) (ks.map .int) [.val d, c, s2, .own false false t, s4, s5, s6, .val (.int n), .val (.int g)] = some (xs, [.val d, c, s2, .own false false t', s4, s5, s6, .val (.int n), .val (.int g)])
  | [], t, t', xs, h => by cases h; rfl
  | k :: ks, t, t', xs, h => by
    unfold seqC at h
    split at h
    · rename_i t1 h1
      split at h
      · rename_i xs1 t2 h2
        cases h
        refine lc_cons (ys := [.int k]) (ρ1 := [.val d, c, s2, .own false false t1, s4, s5, s6, .val (.int n), .val (.int g)]) ?_ (seqC_lc h2)
        simp only [canB, lcBody, wipeE, nameT, asB, callF, consA, nilA, valE, tupE, vE, cE, slE, vals, argsOf, slotsOf, nodupB, List.contains_nil, Bool.not_false, Bool.and_true, if_true, h1, setOuts, setOut, restoreE, List.getD_cons_zero, List.getD_cons_succ, List.length_cons, List.length_nil, Nat.zero_add, Nat.reduceAdd, sl5, List.getElem?_cons_zero, List.getElem?_cons_succ, List.set_cons_zero, List.set_cons_succ]
      · cases h
    · rename_i t1 h1
      refine lc_cons (ys := []) (ρ1 := [.val d, c, s2, .own false false t1, s4, s5, s6, .val (.int n), .val (.int g)]) ?_ (seqC_lc h)
      simp only [canB, lcBody, wipeE, nameT, asB, callF, consA, nilA, valE, tupE, vE, cE, slE, vals, argsOf, slotsOf, nodupB, List.contains_nil, Bool.not_false, Bool.and_true, if_true, h1, setOuts, setOut, restoreE, List.getD_cons_zero, List.getD_cons_succ, List.length_cons, List.length_nil, Nat.zero_add, Nat.reduceAdd, sl5, List.getElem?_cons_zero, List.getElem?_cons_succ, List.set_cons_zero, List.set_cons_succ]
    · cases h
abbrev emptyX : PyData := .dict [(.none, .none)]
def BruteOk (Most LCan Same : FD) : Prop := ∀ n g : Int, 0 ≤ n → n < 3 → 0 ≤ g → g < 3 → ∃ xs t z x, seqC LCan n g [0, 1, 2, 3, 4, 5] emptyX = some (xs, t) ∧ xs.length ≤ sizeLine ∧ maxD [.list xs] = some z ∧ Most [.int n, .int g] = some (x, []) ∧ Same [x, z] = some (.bool true, [])
def TwoOk (Most Few : FD) : Prop := ∀ g : Int, 0 ≤ g → g < 3 → ∃ x, Most [.int 2, .int g] = some (.int x, []) ∧ Few [st5 x 0 0 g 1] = some (.int 2, [])
def FourOk (Most Same : FD) : Prop := ∃ x, Most [.int 4, .int 9] = some (x, []) ∧ Same [x, .int 5] = some (.bool true, [])
theorem c6 : (-(2 ^ 62) ≤ (6 : Int) ∧ (6 : Int) < 2 ^ 62) = True := eq_true (by decide)
theorem c2 : (-(2 ^ 62) ≤ (2 : Int) ∧ (2 : Int) < 2 ^ 62) = True := eq_true (by decide)
theorem r2 : rangeL 0 (2 : Int).toNat = [.int 0, .int 1] := rfl
theorem r6 : rangeL 0 (6 : Int).toNat = [(0 : Int), 1, 2, 3, 4, 5].map .int := rfl
theorem eq22 : eqD (.int 2) (.int 2) = some (.bool true) := by kernel_rfl
def restL (Roll Most Same LCan Few : FD) : FS := 
 (seqS (asgS (tupT 2 (consT (nameT 7) (consT (nameT 8) nilT))) (tupE (consA (valE (callF [.o, .v] Roll (consA (slE 1) (consA (valE (cE (.int 3))) nilA)))) (consA (valE (callF [.o, .v] Roll (consA (slE 1) (consA (valE (cE (.int 3))) nilA)))) nilA))))
 (seqS (setN 3 (cE (.dict [(.none, .none)])))
 (seqS (setS 4 (callE maxD (consA (valE (lcE (range1E (consA (valE (cE (.int 6))) nilA)) (lcBody [5] (nameT 5) (asB (callF [.v, .v, .o] LCan (consA (valE (tupE (consA (valE (vE 5)) (consA (valE (cE (.int 0))) (consA (valE (cE (.int 0))) (consA (valE (vE 8)) (consA (valE (cE (.int 1))) nilA))))))) (consA (valE (vE 7)) (consA (slE 3) nilA))))) (vE 5)))) nilA)))
 (seqS (ifS (notB (asB (callF [.v, .v] Same (consA (valE (callF [.v, .v] Most (consA (valE (vE 7)) (consA (valE (vE 8)) nilA)))) (consA (valE (vE 4)) nilA))))) (seqS (retS (cE (.bool false)))
 nilS) nilS)
 (seqS (setS 5 (callF [.v, .v] Most (consA (valE (cE (.int 2))) (consA (valE (vE 8)) nilA))))
 (seqS (setS 6 (callF [.v] Few (consA (valE (tupE (consA (valE (vE 5)) (consA (valE (cE (.int 0))) (consA (valE (cE (.int 0))) (consA (valE (vE 8)) (consA (valE (cE (.int 1))) nilA))))))) nilA)))
 (seqS (retS (andV (binE eqD (slE 6) (valE (cE (.int 2)))) (orV (binE gtI (valE (callF [.o, .v] Roll (consA (slE 1) (consA (valE (cE (.int 4))) nilA)))) (valE (cE (.int 0)))) (callF [.v, .v] Same (consA (valE (callF [.v, .v] Most (consA (valE (cE (.int 4))) (consA (valE (cE (.int 9))) nilA)))) (consA (valE (cE (.int 5))) nilA))))))
 nilS)))))))
theorem rest_run {Roll Most Same LCan Few : FD} (hR : RollOk Roll) (hB : BruteOk Most LCan Same) (h2 : TwoOk Most Few) (h4 : FourOk Most Same) (d : PyData) (a b : Int) (s2 s7 s8 : Sl) : ∃ ρ',
    restL Roll Most Same LCan Few [.val d, .own false false (cupD a b), s2, .un, .un, .un, .un, s7, s8] = some (.rt (.bool true), .val d :: ρ') := by
  obtain ⟨n, a1, b1, n0, n1, e1⟩ := hR a b 3 (by decide) (by decide)
  obtain ⟨g, a2, b2, g0, g1, e2⟩ := hR a1 b1 3 (by decide) (by decide)
  obtain ⟨xs, t, z, x, f1, f2, f3, f4, f5⟩ := hB n g n0 n1 g0 g1
  obtain ⟨y, k1, k2⟩ := h2 g g0 g1
  obtain ⟨m, m1, m2⟩ := h4
  obtain ⟨r, a3, b3, r0, r1, e3⟩ := hR a2 b2 4 (by decide) (by decide)
  have lc := seqC_lc (d := d) (c := .own false false (cupD a2 b2)) (s2 := s2) (s4 := .un) (s5 := .un) (s6 := .un) f1
  rw [← r6] at lc
  unfold canB at lc
  rcases Bool.eq_false_or_eq_true (decide (0 < r)) with h | h
  · refine ⟨[.own false false (cupD a3 b3), s2, .own false false t, .val z, .val (.int y), .val (.int 2), .val (.int n), .val (.int g)], ?_⟩
    simp only [restL, seqS, asgS, tupT, consT, nameT, nilT, tupE, consA, nilA, valE, callF, slE, cE, vE, argsOf, slotsOf, nodupB, List.contains_nil, Bool.not_false, Bool.and_true, if_true, e1, e2, setOuts, setOut, vals, List.length_cons, List.length_nil, Nat.zero_add, Nat.reduceAdd, sl2, sl5, setN, setS, callE, lcE, range1E, rsvs, rsv, slD, c6, lc, f2, f3, f4, f5, ifS, notB, asB, Bool.not_true, k1, k2, retS, andV, binE, eq22, orV, e3, gtI, h, nilS, List.getElem?_cons_zero, List.getElem?_cons_succ, List.set_cons_zero, List.set_cons_succ]
  · refine ⟨[.own false false (cupD a3 b3), s2, .own false false t, .val z, .val (.int y), .val (.int 2), .val (.int n), .val (.int g)], ?_⟩
    simp only [restL, seqS, asgS, tupT, consT, nameT, nilT, tupE, consA, nilA, valE, callF, slE, cE, vE, argsOf, slotsOf, nodupB, List.contains_nil, Bool.not_false, Bool.and_true, if_true, e1, e2, setOuts, setOut, vals, List.length_cons, List.length_nil, Nat.zero_add, Nat.reduceAdd, sl2, sl5, setN, setS, callE, lcE, range1E, rsvs, rsv, slD, c6, lc, f2, f3, f4, f5, ifS, notB, asB, Bool.not_true, k1, k2, retS, andV, binE, eq22, orV, e3, gtI, h, m1, m2, nilS, List.getElem?_cons_zero, List.getElem?_cons_succ, List.set_cons_zero, List.set_cons_succ]
end CoinK60

namespace CoinK60
open PySem PySem.Spec L2 L2.Pu
def sameB (x y : PyData) : Bool := match R_law_same 4 [x, y] with
  | some (.bool true, []) => true
  | _ => false
theorem sameB_ok {x y : PyData} (h : sameB x y = true) : R_law_same 4 [x, y] = some (.bool true, []) := by
  unfold sameB at h
  split at h
  · assumption
  · cases h
def okT (n g : Nat) : Bool := match most' [.int n, .int g], F_law_most [.int n, .int g] with
  | some (x, []), some (y, []) => sameB x y
  | _, _ => false
def okB (n g : Nat) : Bool := match seqC (R_law_can 5) n g [0, 1, 2, 3, 4, 5] emptyX with
  | some (xs, _) => decide (xs.length ≤ sizeLine) && match maxD [.list xs], most' [.int n, .int g] with
    | some z, some (x, []) => sameB x z
    | _, _ => false
  | none => false
def okW (g : Nat) : Bool := match most' [.int 2, .int g] with
  | some (.int x, []) => match F_fewest_weighings [st5 x 0 0 g 1] with
    | some (.int z, []) => decide (z = 2)
    | _ => false
  | _ => false
def okF : Bool := match most' [.int 4, .int 9] with
  | some (x, []) => sameB x (.int 5)
  | _ => false
theorem t_0_0 : okT 0 0 = true := by decide +kernel
theorem t_0_1 : okT 0 1 = true := by decide +kernel
theorem t_0_2 : okT 0 2 = true := by decide +kernel
theorem t_0_3 : okT 0 3 = true := by decide +kernel
theorem t_0_4 : okT 0 4 = true := by decide +kernel
theorem t_0_5 : okT 0 5 = true := by decide +kernel
theorem t_0_6 : okT 0 6 = true := by decide +kernel
theorem t_0_7 : okT 0 7 = true := by decide +kernel
theorem t_0_8 : okT 0 8 = true := by decide +kernel
theorem t_0_9 : okT 0 9 = true := by decide +kernel
theorem t_0_10 : okT 0 10 = true := by decide +kernel
theorem t_0_11 : okT 0 11 = true := by decide +kernel
theorem t_0_12 : okT 0 12 = true := by decide +kernel
theorem t_0_13 : okT 0 13 = true := by decide +kernel
theorem t_0_14 : okT 0 14 = true := by decide +kernel
theorem t_1_0 : okT 1 0 = true := by decide +kernel
theorem t_1_1 : okT 1 1 = true := by decide +kernel
theorem t_1_2 : okT 1 2 = true := by decide +kernel
theorem t_1_3 : okT 1 3 = true := by decide +kernel
theorem t_1_4 : okT 1 4 = true := by decide +kernel
theorem t_1_5 : okT 1 5 = true := by decide +kernel
theorem t_1_6 : okT 1 6 = true := by decide +kernel
theorem t_1_7 : okT 1 7 = true := by decide +kernel
theorem t_1_8 : okT 1 8 = true := by decide +kernel
theorem t_1_9 : okT 1 9 = true := by decide +kernel
theorem t_1_10 : okT 1 10 = true := by decide +kernel
theorem t_1_11 : okT 1 11 = true := by decide +kernel
theorem t_1_12 : okT 1 12 = true := by decide +kernel
theorem t_1_13 : okT 1 13 = true := by decide +kernel
theorem t_1_14 : okT 1 14 = true := by decide +kernel
theorem t_2_0 : okT 2 0 = true := by decide +kernel
theorem t_2_1 : okT 2 1 = true := by decide +kernel
theorem t_2_2 : okT 2 2 = true := by decide +kernel
theorem t_2_3 : okT 2 3 = true := by decide +kernel
theorem t_2_4 : okT 2 4 = true := by decide +kernel
theorem t_2_5 : okT 2 5 = true := by decide +kernel
theorem t_2_6 : okT 2 6 = true := by decide +kernel
theorem t_2_7 : okT 2 7 = true := by decide +kernel
theorem t_2_8 : okT 2 8 = true := by decide +kernel
theorem t_2_9 : okT 2 9 = true := by decide +kernel
theorem t_2_10 : okT 2 10 = true := by decide +kernel
theorem t_2_11 : okT 2 11 = true := by decide +kernel
theorem t_2_12 : okT 2 12 = true := by decide +kernel
theorem t_2_13 : okT 2 13 = true := by decide +kernel
theorem t_2_14 : okT 2 14 = true := by decide +kernel
theorem t_3_0 : okT 3 0 = true := by decide +kernel
theorem t_3_1 : okT 3 1 = true := by decide +kernel
theorem t_3_2 : okT 3 2 = true := by decide +kernel
theorem t_3_3 : okT 3 3 = true := by decide +kernel
theorem t_3_4 : okT 3 4 = true := by decide +kernel
theorem t_3_5 : okT 3 5 = true := by decide +kernel
theorem t_3_6 : okT 3 6 = true := by decide +kernel
theorem t_3_7 : okT 3 7 = true := by decide +kernel
theorem t_3_8 : okT 3 8 = true := by decide +kernel
theorem t_3_9 : okT 3 9 = true := by decide +kernel
theorem t_3_10 : okT 3 10 = true := by decide +kernel
theorem t_3_11 : okT 3 11 = true := by decide +kernel
theorem t_3_12 : okT 3 12 = true := by decide +kernel
theorem t_3_13 : okT 3 13 = true := by decide +kernel
theorem t_3_14 : okT 3 14 = true := by decide +kernel
theorem b_0_0 : okB 0 0 = true := by decide +kernel
theorem b_0_1 : okB 0 1 = true := by decide +kernel
theorem b_0_2 : okB 0 2 = true := by decide +kernel
theorem b_1_0 : okB 1 0 = true := by decide +kernel
theorem b_1_1 : okB 1 1 = true := by decide +kernel
theorem b_1_2 : okB 1 2 = true := by decide +kernel
theorem b_2_0 : okB 2 0 = true := by decide +kernel
theorem b_2_1 : okB 2 1 = true := by decide +kernel
theorem b_2_2 : okB 2 2 = true := by decide +kernel
theorem w_0 : okW 0 = true := by decide +kernel
theorem w_1 : okW 1 = true := by decide +kernel
theorem w_2 : okW 2 = true := by decide +kernel
theorem f_ok : okF = true := by decide +kernel
end CoinK60

namespace CoinK60
open PySem PySem.Spec PyProof.Rows L2 L2.Pu
def top (i : Nat) : Stmt := PySem.Challenge.pw_coinmaster_k60_whole_numbers_of_unknown.main.body.getD i (.Pass ⟨0, 0, 0, 0⟩)
abbrev s_law_cup : Stmt := top 25
abbrev N_law_cup : List Str := ["script", "cell"]
theorem sc_law_cup : FnScope N_law_cup ["script"] (defScope s_law_cup) := ⟨rfl, rfl, rfl, by decide +kernel, rfl, by decide +kernel, by decide +kernel⟩
abbrev s_is_whole : Stmt := top 6
abbrev N_is_whole : List Str := ["value"]
theorem sc_is_whole : FnScope N_is_whole ["value"] (defScope s_is_whole) := ⟨rfl, rfl, rfl, by decide +kernel, rfl, by decide +kernel, by decide +kernel⟩
abbrev s_fits_whole : Stmt := top 7
abbrev N_fits_whole : List Str := ["value", "low", "high"]
theorem sc_fits_whole : FnScope N_fits_whole ["value", "low", "high"] (defScope s_fits_whole) := ⟨rfl, rfl, rfl, by decide +kernel, rfl, by decide +kernel, by decide +kernel⟩
abbrev s_need_rounds : Stmt := top 21
abbrev N_need_rounds : List Str := ["value"]
theorem sc_need_rounds : FnScope N_need_rounds ["value"] (defScope s_need_rounds) := ⟨rfl, rfl, rfl, by decide +kernel, rfl, by decide +kernel, by decide +kernel⟩
abbrev s_Search_init : Stmt := inClass (top 19) 0
abbrev N_Search_init : List Str := ["self"]
theorem sc_Search_init : FnScope N_Search_init ["self"] (defScope s_Search_init) := ⟨rfl, rfl, rfl, by decide +kernel, rfl, by decide +kernel, by decide +kernel⟩
abbrev s_many_in : Stmt := top 13
abbrev N_many_in : List Str := ["state"]
theorem sc_many_in : FnScope N_many_in ["state"] (defScope s_many_in) := ⟨rfl, rfl, rfl, by decide +kernel, rfl, by decide +kernel, by decide +kernel⟩
abbrev s_shares_of : Stmt := top 17
abbrev N_shares_of : List Str := ["most", "one", "other"]
theorem sc_shares_of : FnScope N_shares_of ["most"] (defScope s_shares_of) := ⟨rfl, rfl, rfl, by decide +kernel, rfl, by decide +kernel, by decide +kernel⟩
abbrev s_weighings_in : Stmt := top 18
abbrev N_weighings_in : List Str := ["state", "found", "one", "other", "heavy", "more", "light", "rest", "far", "left", "right"]
theorem sc_weighings_in : FnScope N_weighings_in ["state"] (defScope s_weighings_in) := ⟨rfl, rfl, rfl, by decide +kernel, rfl, by decide +kernel, by decide +kernel⟩
abbrev s_rest_of : Stmt := top 15
abbrev N_rest_of : List Str := ["state", "unknown", "heavy", "light", "none", "good", "found"]
theorem sc_rest_of : FnScope N_rest_of ["state", "unknown", "heavy", "light", "none"] (defScope s_rest_of) := ⟨rfl, rfl, rfl, by decide +kernel, rfl, by decide +kernel, by decide +kernel⟩
abbrev s_results_in : Stmt := top 16
abbrev N_results_in : List Str := ["state", "weighing", "first", "last", "open_ones", "left", "right", "most", "one", "other"]
theorem sc_results_in : FnScope N_results_in ["state", "weighing"] (defScope s_results_in) := ⟨rfl, rfl, rfl, by decide +kernel, rfl, by decide +kernel, by decide +kernel⟩
abbrev s_Search_first : Stmt := inClass (top 19) 2
abbrev N_Search_first : List Str := ["self", "state", "many", "weighing", "results", "one"]
theorem sc_Search_first : FnScope N_Search_first ["self", "state", "many"] (defScope s_Search_first) := ⟨rfl, rfl, rfl, by decide +kernel, rfl, by decide +kernel, by decide +kernel⟩
abbrev s_Search_can : Stmt := inClass (top 19) 1
abbrev N_Search_can : List Str := ["self", "state", "many"]
theorem sc_Search_can : FnScope N_Search_can ["self", "state", "many"] (defScope s_Search_can) := ⟨rfl, rfl, rfl, by decide +kernel, rfl, by decide +kernel, by decide +kernel⟩
abbrev s_most_unknown : Stmt := top 23
abbrev N_most_unknown : List Str := ["number", "good", "search", "many"]
theorem sc_most_unknown : FnScope N_most_unknown ["number", "good"] (defScope s_most_unknown) := ⟨rfl, rfl, rfl, by decide +kernel, rfl, by decide +kernel, by decide +kernel⟩
abbrev s_is_tuple_of : Stmt := top 8
abbrev N_is_tuple_of : List Str := ["value", "least", "most"]
theorem sc_is_tuple_of : FnScope N_is_tuple_of ["value", "least", "most"] (defScope s_is_tuple_of) := ⟨rfl, rfl, rfl, by decide +kernel, rfl, by decide +kernel, by decide +kernel⟩
abbrev s_fits_state : Stmt := top 14
abbrev N_fits_state : List Str := ["value", "one"]
theorem sc_fits_state : FnScope N_fits_state ["value"] (defScope s_fits_state) := ⟨rfl, rfl, rfl, by decide +kernel, rfl, by decide +kernel, by decide +kernel⟩
abbrev s_need_state : Stmt := top 20
abbrev N_need_state : List Str := ["value"]
theorem sc_need_state : FnScope N_need_state ["value"] (defScope s_need_state) := ⟨rfl, rfl, rfl, by decide +kernel, rfl, by decide +kernel, by decide +kernel⟩
abbrev s_Search_cost : Stmt := inClass (top 19) 3
abbrev N_Search_cost : List Str := ["self", "state", "many"]
theorem sc_Search_cost : FnScope N_Search_cost ["self", "state"] (defScope s_Search_cost) := ⟨rfl, rfl, rfl, by decide +kernel, rfl, by decide +kernel, by decide +kernel⟩
abbrev s_fewest_weighings : Stmt := top 22
abbrev N_fewest_weighings : List Str := ["state"]
theorem sc_fewest_weighings : FnScope N_fewest_weighings ["state"] (defScope s_fewest_weighings) := ⟨rfl, rfl, rfl, by decide +kernel, rfl, by decide +kernel, by decide +kernel⟩
abbrev s_law_roll : Stmt := top 26
abbrev N_law_roll : List Str := ["cup", "many", "deep", "found"]
theorem sc_law_roll : FnScope N_law_roll ["cup", "many"] (defScope s_law_roll) := ⟨rfl, rfl, rfl, by decide +kernel, rfl, by decide +kernel, by decide +kernel⟩
abbrev s_law_same : Stmt := top 28
abbrev N_law_same : List Str := ["told", "due", "at"]
theorem sc_law_same : FnScope N_law_same ["told", "due"] (defScope s_law_same) := ⟨rfl, rfl, rfl, by decide +kernel, rfl, by decide +kernel, by decide +kernel⟩
abbrev s_law_some : Stmt := top 27
abbrev N_law_some : List Str := ["cup", "things"]
theorem sc_law_some : FnScope N_law_some ["cup", "things"] (defScope s_law_some) := ⟨rfl, rfl, rfl, by decide +kernel, rfl, by decide +kernel, by decide +kernel⟩
abbrev s_law_most : Stmt := top 34
abbrev N_law_most : List Str := ["number", "good", "known"]
theorem sc_law_most : FnScope N_law_most ["number", "good"] (defScope s_law_most) := ⟨rfl, rfl, rfl, by decide +kernel, rfl, by decide +kernel, by decide +kernel⟩
abbrev s_law_is_weighing : Stmt := top 30
abbrev N_law_is_weighing : List Str := ["state", "value", "pan", "at", "one"]
theorem sc_law_is_weighing : FnScope N_law_is_weighing ["state", "value"] (defScope s_law_is_weighing) := ⟨rfl, rfl, rfl, by decide +kernel, rfl, by decide +kernel, by decide +kernel⟩
abbrev s_law_pans : Stmt := top 32
abbrev N_law_pans : List Str := ["state", "at", "found", "pairs", "one", "other", "heavy", "more", "light", "rest", "less", "pans"]
theorem sc_law_pans : FnScope N_law_pans ["state"] (defScope s_law_pans) := ⟨rfl, rfl, rfl, by decide +kernel, rfl, by decide +kernel, by decide +kernel⟩
abbrev s_law_cases : Stmt := top 29
abbrev N_law_cases : List Str := ["state"]
theorem sc_law_cases : FnScope N_law_cases ["state"] (defScope s_law_cases) := ⟨rfl, rfl, rfl, by decide +kernel, rfl, by decide +kernel, by decide +kernel⟩
abbrev s_law_behind : Stmt := top 31
abbrev N_law_behind : List Str := ["state", "weighing", "found", "free", "even", "left", "right", "one", "other", "heavy", "light", "at"]
theorem sc_law_behind : FnScope N_law_behind ["state", "weighing"] (defScope s_law_behind) := ⟨rfl, rfl, rfl, by decide +kernel, rfl, by decide +kernel, by decide +kernel⟩
abbrev s_law_can : Stmt := top 33
abbrev N_law_can : List Str := ["state", "many", "table", "good", "pans", "behind", "one"]
theorem sc_law_can : FnScope N_law_can ["state", "many", "table"] (defScope s_law_can) := ⟨rfl, rfl, rfl, by decide +kernel, rfl, by decide +kernel, by decide +kernel⟩
abbrev s_law : Stmt := top 35
abbrev N_law : List Str := ["script", "cup", "turn", "table", "due", "many", "told", "number", "good"]
theorem sc_law : FnScope N_law ["script"] (defScope s_law) := ⟨rfl, rfl, rfl, by decide +kernel, rfl, by decide +kernel, by decide +kernel⟩
structure Txt (P : Program) (w : World) (K : PySem.W.Frag) (mg : Str → Option Value) (C : Addr) : Prop where
  m_abs : mg "abs" = none
  m_all : mg "all" = none
  m_bool : mg "bool" = none
  m_int : mg "int" = none
  m_isinstance : mg "isinstance" = none
  m_len : mg "len" = none
  m_list : mg "list" = none
  m_max : mg "max" = none
  m_min : mg "min" = none
  m_range : mg "range" = none
  m_str : mg "str" = none
  m_sum : mg "sum" = none
  m_tuple : mg "tuple" = none
  m_zip : mg "zip" = none
  c_COINS : ∃ t, mg "COINS" = some (.int 14 t)
  c_ROUNDS : ∃ t, mg "ROUNDS" = some (.int 7 t)
  c_TOLD : ∃ a, mg "TOLD" = some (.ref a) ∧ ∀ H, Rep ⟨P, w, K, C, "known"⟩ H (.ref a) (.tuple [(.int 1), (.int 3), (.int 9), (.int 27), (.int 81), (.int 243), (.int 729), (.int 2187)])
  cl : Cls K C
  noA : NoAttr K C "known"
  m_Search : mg "Search" = some (.ref C)
section
variable {P : Program} {w : World} {K : PySem.W.Frag} {mg : Str → Option Value} {base : Heap} {C : Addr}
theorem ok_init {k : Nat} {f : Addr} {fd : FuncData} (F : Fun K "__init__" "Search.__init__" s_Search_init f fd) (T : Txt P w K mg C) : FnOk P w K mg base CX0 (k + 1) f fd ["self"] (spInit ⟨P, w, K, C, "known"⟩) := by
  refine F.ok sc_Search_init (fun vs H Q E h => ?_) (fun cdv A outer s H vs Q E hr h => ?_)
  · obtain ⟨p, dx, rfl, _⟩ := h
    rfl
  · obtain ⟨p, dx, rfl, hp, k⟩ := h
    refine ⟨_, pss_one (ps_fld (pv 0) pe_dnewX0 rfl), ?_⟩
    intro d hd
    have npd : p ≠ d := ne_of_none hp hd
    refine ⟨_, rfl, p, C, dx, [], rfl, (by rw [upd_ne npd]; exact hp), T.cl, T.noA, (by show 0 < 1000; decide), ?_⟩
    refine k d _ hd upd_same (by rw [upd_ne npd.symm, upd_same]; rfl) fun b o e hb => ?_
    rw [upd_ne hb, upd_ne (ne_of_none e hd)]
    exact e
theorem ok_law_cup {k : Nat} {f : Addr} {fd : FuncData} (F : Fun K "_law_cup" "_law_cup" s_law_cup f fd) (T : Txt P w K mg C) : FnOk P w K mg base CX0 (k + 1) f fd ["script"] (SpecOfN ⟨P, w, K, C, "known"⟩ [.v] (F_law_cup)) := by
  refine F.ok sc_law_cup (fun vs H Q E h => specN_len h) (fun cdv A outer s H vs Q E hr h => ⟨_, ?_, body_okN (N := N_law_cup) (f := B_law_cup) (by decide) h⟩)
  have hu := hu64 hr
  have hu0 := hu00 hr
  have hu1 := hu65 hr
  show PBv (C, "known") _ (defBody s_law_cup) (B_law_cup)
  unfold B_law_cup
  exact (pb_cons (ps_set' (i := 1) sc_law_cup.nd rfl (by first | exact Or.inl rfl | exact Or.inr rfl) (pv_callB call_absD (by rfl) T.m_abs (by rfl) (pa_cons' (po_val (pv_ix (ix_ixD hu) (po_val (pv_bin op_addD (po_val (pv_new (pn_callTy call_listD (by rfl) T.m_list (by rfl) (pa_cons' (po_var (pv 0)) pa_nil')))) (po_val (pv_new (pn_lst (pa_cons' (po_val pv_int) pa_nil')))))) (po_val pv_int) (by intro _ _; rfl))) pa_nil')))
 (pb_cons (ps_retN (pn_lst (pa_cons' (po_val (pv_if (pt_cmp' (op_geD hu0) (po_var (pv 1)) (po_val (pv_bin op_powD (po_val pv_int) (po_val pv_int))) (nomark _)) (pv_bin op_fdivD (po_var (pv 1)) (po_val pv_int)) pv_int)) (pa_cons' (po_val (pv_bin op_addD (po_val (pv_bin op_modD (po_val (pv_callTy call_intD (by rfl) T.m_int (by rfl) (pa_cons' (po_val (pv_bin op_addD (po_val (pv_bin op_mulI (po_var (pv 1)) (po_val pv_int))) (po_val pv_int))) pa_nil'))) (po_val pv_int))) (po_val pv_int))) pa_nil'))))
 pb_nil))
theorem ok_is_whole {k : Nat} {f : Addr} {fd : FuncData} (F : Fun K "is_whole" "is_whole" s_is_whole f fd) (T : Txt P w K mg C) : FnOk P w K mg base CX0 (k + 1) f fd ["value"] (SpecOf ⟨P, w, K, C, "known"⟩ [.v] (F_is_whole)) := by
  refine F.ok sc_is_whole (fun vs H Q E h => spec_len h) (fun cdv A outer s H vs Q E hr h => ⟨_, ?_, body_ok (N := N_is_whole) (f := B_is_whole) (by decide) h⟩)
  have hu := hu64 hr
  have hu0 := hu00 hr
  have hu1 := hu65 hr
  show PBv (C, "known") _ (defBody s_is_whole) (B_is_whole)
  unfold B_is_whole
  exact (pb_cons (ps_ret' (pv_and (pv_isi isT_int (by rfl) T.m_isinstance (by rfl) T.m_int (by rfl) (po_var (pv 0))) (pv_one (pv_not (pv_isi isT_bool (by rfl) T.m_isinstance (by rfl) T.m_bool (by rfl) (po_var (pv 0)))))))
 pb_nil)
theorem ok_fits_whole {k : Nat} {f : Addr} {fd : FuncData} (F : Fun K "fits_whole" "fits_whole" s_fits_whole f fd) (T : Txt P w K mg C) (k_is_whole : Known P w K mg base (C, "known") "is_whole" k [.v] F_is_whole) : FnOk P w K mg base CX0 (k + 1) f fd ["value", "low", "high"] (SpecOf ⟨P, w, K, C, "known"⟩ [.v, .v, .v] (F_fits_whole)) := by
  refine F.ok sc_fits_whole (fun vs H Q E h => spec_len h) (fun cdv A outer s H vs Q E hr h => ⟨_, ?_, body_ok (N := N_fits_whole) (f := B_fits_whole) (by decide) h⟩)
  have hu := hu64 hr
  have hu0 := hu00 hr
  have hu1 := hu65 hr
  show PBv (C, "known") _ (defBody s_fits_whole) (B_fits_whole)
  unfold B_fits_whole
  exact (pb_cons (ps_ret' (pv_and (pv_call k_is_whole hr (by rfl) (pa_cons' (po_val (pv_var (pv 0))) pa_nil')) (pv_one (pv_chain op_leI op_leI (po_var (pv 1)) (po_var (pv 0)) (po_var (pv 2))))))
 pb_nil)
theorem ok_need_rounds {k : Nat} {f : Addr} {fd : FuncData} (F : Fun K "need_rounds" "need_rounds" s_need_rounds f fd) (T : Txt P w K mg C) (k_fits_whole : Known P w K mg base (C, "known") "fits_whole" k [.v, .v, .v] F_fits_whole) : FnOk P w K mg base CX0 (k + 1) f fd ["value"] (SpecOf ⟨P, w, K, C, "known"⟩ [.v] (F_need_rounds)) := by
  obtain ⟨t_ROUNDS, h_ROUNDS⟩ := T.c_ROUNDS
  have r_ROUNDS : ∀ H, Rep ⟨P, w, K, C, "known"⟩ H (.int 7) (.int 7) := fun _ => .int _
  refine F.ok sc_need_rounds (fun vs H Q E h => spec_len h) (fun cdv A outer s H vs Q E hr h => ⟨_, ?_, body_ok (N := N_need_rounds) (f := B_need_rounds) (by decide) h⟩)
  have hu := hu64 hr
  have hu0 := hu00 hr
  have hu1 := hu65 hr
  show PBv (C, "known") _ (defBody s_need_rounds) (B_need_rounds)
  unfold B_need_rounds
  exact (pb_cons (ps_if' (pt_not' (pt_val' (pv_call k_fits_whole hr (by rfl) (pa_cons' (po_val (pv_var (pv 0))) (pa_cons' (po_val pv_int) (pa_cons' (po_val (pv_glob (by rfl) h_ROUNDS (by first | exact rfl | exact ⟨_, rfl⟩) r_ROUNDS)) pa_nil')))))) (pb_cons ps_no
 pb_nil) pb_nil)
 pb_nil)
theorem ok_many_in {k : Nat} {f : Addr} {fd : FuncData} (F : Fun K "many_in" "many_in" s_many_in f fd) (T : Txt P w K mg C) : FnOk P w K mg base CX0 (k + 1) f fd ["state"] (SpecOf ⟨P, w, K, C, "known"⟩ [.v] (F_many_in)) := by
  refine F.ok sc_many_in (fun vs H Q E h => spec_len h) (fun cdv A outer s H vs Q E hr h => ⟨_, ?_, body_ok (N := N_many_in) (f := B_many_in) (by decide) h⟩)
  have hu := hu64 hr
  have hu0 := hu00 hr
  have hu1 := hu65 hr
  show PBv (C, "known") _ (defBody s_many_in) (B_many_in)
  unfold B_many_in
  exact (pb_cons (ps_ret' (pv_bin op_addD (po_val (pv_bin op_addD (po_val (pv_bin op_addD (po_val (pv_bin op_mulI (po_val pv_int) (po_val (pv_ix (ix_ixD hu) (po_var (pv 0)) (po_val pv_int) (by intro _ _; rfl))))) (po_val (pv_ix (ix_ixD hu) (po_var (pv 0)) (po_val pv_int) (by intro _ _; rfl))))) (po_val (pv_ix (ix_ixD hu) (po_var (pv 0)) (po_val pv_int) (by intro _ _; rfl))))) (po_val (pv_ix (ix_ixD hu) (po_var (pv 0)) (po_val pv_int) (by intro _ _; rfl)))))
 pb_nil)
theorem ok_shares_of {k : Nat} {f : Addr} {fd : FuncData} (F : Fun K "shares_of" "shares_of" s_shares_of f fd) (T : Txt P w K mg C) : FnOk P w K mg base CX0 (k + 1) f fd ["most"] (SpecOf ⟨P, w, K, C, "known"⟩ [.v] (F_shares_of)) := by
  refine F.ok sc_shares_of (fun vs H Q E h => spec_len h) (fun cdv A outer s H vs Q E hr h => ⟨_, ?_, body_ok (N := N_shares_of) (f := B_shares_of) (by decide) h⟩)
  have hu := hu64 hr
  have hu0 := hu00 hr
  have hu1 := hu65 hr
  show PBv (C, "known") _ (defBody s_shares_of) (B_shares_of)
  unfold B_shares_of
  exact (pb_cons (ps_ret' (pv_new (pn_lc2 (own := [("one", 1), ("other", 2)]) (own1 := [2]) rfl sc_shares_of.nd (pi_range1' (by rfl) T.m_range (pa_cons' (po_val (pv_bin op_addD (po_var (pv 0)) (po_val pv_int))) pa_nil')) (blkOk_by (by kernel_rfl)) (by decide) (fun _ _ _ _ _ => (pg_name (i := 1) sc_shares_of.nd rfl (by first | exact Or.inl rfl | exact Or.inr rfl))) (tgOk_name (by decide)) (fun _ _ _ _ _ => pts_nil') (fun _ _ _ _ _ => (pi_range1' (by rfl) T.m_range (pa_cons' (po_val (pv_bin op_addD (po_val (pv_bin op_subD (po_var (pv 0)) (po_var (pv 1)))) (po_val pv_int))) pa_nil'))) (fun _ _ _ _ _ => (pg_name (i := 2) sc_shares_of.nd rfl (by first | exact Or.inl rfl | exact Or.inr rfl))) (tgOk_name (by decide)) (fun _ _ _ _ _ => pts_nil') (fun _ _ _ _ _ => (pv_tup (pa_cons' (po_val (pv_var (pv 1))) (pa_cons' (po_val (pv_var (pv 2))) pa_nil')))))))
 pb_nil)
theorem ok_weighings_in {k : Nat} {f : Addr} {fd : FuncData} (F : Fun K "weighings_in" "weighings_in" s_weighings_in f fd) (T : Txt P w K mg C) (k_shares_of : Known P w K mg base (C, "known") "shares_of" k [.v] F_shares_of) : FnOk P w K mg base CX0 (k + 1) f fd ["state"] (SpecOf ⟨P, w, K, C, "known"⟩ [.v] (F_weighings_in)) := by
  refine F.ok sc_weighings_in (fun vs H Q E h => spec_len h) (fun cdv A outer s H vs Q E hr h => ⟨_, ?_, body_ok (N := N_weighings_in) (f := B_weighings_in) (by decide) h⟩)
  have hu := hu64 hr
  have hu0 := hu00 hr
  have hu1 := hu65 hr
  show PBv (C, "known") _ (defBody s_weighings_in) (B_weighings_in)
  unfold B_weighings_in
  exact (pb_cons (ps_setN (i := 1) sc_weighings_in.nd rfl (by first | exact Or.inl rfl | exact Or.inr rfl) (pn_lst pa_nil'))
 (pb_cons (ps_for' (own := [2, 3]) PassesOwn.never rfl (pi_items (pv_call k_shares_of hr (by rfl) (pa_cons' (po_val (pv_ix (ix_ixD hu) (po_var (pv 0)) (po_val pv_int) (by intro _ _; rfl))) pa_nil'))) (pg_tup rfl (pgs_cons (pg_name (i := 2) sc_weighings_in.nd rfl (by first | exact Or.inl rfl | exact Or.inr rfl)) (pgs_cons (pg_name (i := 3) sc_weighings_in.nd rfl (by first | exact Or.inl rfl | exact Or.inr rfl)) pgs_nil))) (tgOk_tup (tgsOk_cons (tgOk_name (by decide)) (tgsOk_cons (tgOk_name (by decide)) tgsOk_nil)))
 (pb_cons (ps_for' (own := [4, 5]) PassesOwn.never rfl (pi_items (pv_call k_shares_of hr (by rfl) (pa_cons' (po_val (pv_ix (ix_ixD hu) (po_var (pv 0)) (po_val pv_int) (by intro _ _; rfl))) pa_nil'))) (pg_tup rfl (pgs_cons (pg_name (i := 4) sc_weighings_in.nd rfl (by first | exact Or.inl rfl | exact Or.inr rfl)) (pgs_cons (pg_name (i := 5) sc_weighings_in.nd rfl (by first | exact Or.inl rfl | exact Or.inr rfl)) pgs_nil))) (tgOk_tup (tgsOk_cons (tgOk_name (by decide)) (tgsOk_cons (tgOk_name (by decide)) tgsOk_nil)))
 (pb_cons (ps_for' (own := [6, 7]) PassesOwn.never rfl (pi_items (pv_call k_shares_of hr (by rfl) (pa_cons' (po_val (pv_ix (ix_ixD hu) (po_var (pv 0)) (po_val pv_int) (by intro _ _; rfl))) pa_nil'))) (pg_tup rfl (pgs_cons (pg_name (i := 6) sc_weighings_in.nd rfl (by first | exact Or.inl rfl | exact Or.inr rfl)) (pgs_cons (pg_name (i := 7) sc_weighings_in.nd rfl (by first | exact Or.inl rfl | exact Or.inr rfl)) pgs_nil))) (tgOk_tup (tgsOk_cons (tgOk_name (by decide)) (tgsOk_cons (tgOk_name (by decide)) tgsOk_nil)))
 (pb_cons (ps_set' (i := 8) sc_weighings_in.nd rfl (by first | exact Or.inl rfl | exact Or.inr rfl) (pv_bin op_subD (po_val (pv_bin op_subD (po_val (pv_bin op_subD (po_val (pv_bin op_addD (po_val (pv_bin op_addD (po_var (pv 2)) (po_var (pv 4)))) (po_var (pv 6)))) (po_var (pv 3)))) (po_var (pv 5)))) (po_var (pv 7))))
 (pb_cons (ps_par' (i := 9) (j := 10) rfl sc_weighings_in.nd rfl rfl (by decide) rfl rfl (pm_v (pv_tup (pa_cons' (po_val (pv_var (pv 2))) (pa_cons' (po_val (pv_var (pv 4))) (pa_cons' (po_val (pv_var (pv 6))) (pa_cons' (po_val (pv_callB (call_maxD rfl) (by rfl) T.m_max (by rfl) (pa_cons' (po_val pv_int) (pa_cons' (po_val (pv_neg (po_var (pv 8)))) pa_nil')))) pa_nil'))))) (pm_v (pv_tup (pa_cons' (po_val (pv_var (pv 3))) (pa_cons' (po_val (pv_var (pv 5))) (pa_cons' (po_val (pv_var (pv 7))) (pa_cons' (po_val (pv_callB (call_maxD rfl) (by rfl) T.m_max (by rfl) (pa_cons' (po_val pv_int) (pa_cons' (po_var (pv 8)) pa_nil')))) pa_nil'))))) pm_nil)))
 (pb_cons (ps_if' (pt_of (pw_and' (pt_cmp' op_leI (po_val (pv_callB call_absD (by rfl) T.m_abs (by rfl) (pa_cons' (po_var (pv 8)) pa_nil'))) (po_val (pv_ix (ix_ixD hu) (po_var (pv 0)) (po_val pv_int) (by intro _ _; rfl))) (nomark _)) (pw_and' (pt_cmp' op_gtI (po_val (pv_callB (call_sumD rfl) (by rfl) T.m_sum (by rfl) (pa_cons' (po_var (pv 9)) pa_nil'))) (po_val pv_int) (nomark _)) (pw_and1' (pt_cmp' (op_geD hu0) (po_var (pv 9)) (po_var (pv 10)) (nomark _)))))) (pb_cons (ps_expr' (pv_append (pv 1) (pv_tup (pa_cons' (po_val (pv_var (pv 9))) (pa_cons' (po_val (pv_var (pv 10))) pa_nil')))))
 pb_nil) pb_nil)
 pb_nil))))
 pb_nil))
 pb_nil))
 (pb_cons (ps_ret' (pv_var (pv 1)))
 pb_nil)))
theorem ok_rest_of {k : Nat} {f : Addr} {fd : FuncData} (F : Fun K "rest_of" "rest_of" s_rest_of f fd) (T : Txt P w K mg C) (k_many_in : Known P w K mg base (C, "known") "many_in" k [.v] F_many_in) : FnOk P w K mg base CX0 (k + 1) f fd ["state", "unknown", "heavy", "light", "none"] (SpecOf ⟨P, w, K, C, "known"⟩ [.v, .v, .v, .v, .v] (F_rest_of)) := by
  refine F.ok sc_rest_of (fun vs H Q E h => spec_len h) (fun cdv A outer s H vs Q E hr h => ⟨_, ?_, body_ok (N := N_rest_of) (f := B_rest_of) (by decide) h⟩)
  have hu := hu64 hr
  have hu0 := hu00 hr
  have hu1 := hu65 hr
  show PBv (C, "known") _ (defBody s_rest_of) (B_rest_of)
  unfold B_rest_of
  exact (pb_cons (ps_set' (i := 5) sc_rest_of.nd rfl (by first | exact Or.inl rfl | exact Or.inr rfl) (pv_bin op_subD (po_val (pv_bin op_subD (po_val (pv_bin op_subD (po_val (pv_callB (call_sumD rfl) (by rfl) T.m_sum (by rfl) (pa_cons' (po_val (pv_sliceA (po_var (pv 0)) po_none' (po_some' pv_int))) pa_nil'))) (po_var (pv 1)))) (po_var (pv 2)))) (po_var (pv 3))))
 (pb_cons (ps_set' (i := 6) sc_rest_of.nd rfl (by first | exact Or.inl rfl | exact Or.inr rfl) (pv_tup (pa_cons' (po_val (pv_var (pv 1))) (pa_cons' (po_val (pv_var (pv 2))) (pa_cons' (po_val (pv_var (pv 3))) (pa_cons' (po_val (pv_var (pv 5))) (pa_cons' (po_val (pv_var (pv 4))) pa_nil')))))))
 (pb_cons (ps_ret' (pv_if (pt_cmp' op_gtI (po_val (pv_call k_many_in hr (by rfl) (pa_cons' (po_val (pv_var (pv 6))) pa_nil'))) (po_val pv_int) (nomark _)) (pv_var (pv 6)) pv_non))
 pb_nil)))
theorem ok_results_in {k : Nat} {f : Addr} {fd : FuncData} (F : Fun K "results_in" "results_in" s_results_in f fd) (T : Txt P w K mg C) (k_rest_of : Known P w K mg base (C, "known") "rest_of" k [.v, .v, .v, .v, .v] F_rest_of) : FnOk P w K mg base CX0 (k + 1) f fd ["state", "weighing"] (SpecOf ⟨P, w, K, C, "known"⟩ [.v, .v] (F_results_in)) := by
  refine F.ok sc_results_in (fun vs H Q E h => spec_len h) (fun cdv A outer s H vs Q E hr h => ⟨_, ?_, body_ok (N := N_results_in) (f := B_results_in) (by decide) h⟩)
  have hu := hu64 hr
  have hu0 := hu00 hr
  have hu1 := hu65 hr
  show PBv (C, "known") _ (defBody s_results_in) (B_results_in)
  unfold B_results_in
  exact (pb_cons (ps_asg' (own := [5, 6]) (pv_var (pv 1)) (pg_tup rfl (pgs_cons (pg_name (i := 5) sc_results_in.nd rfl (by first | exact Or.inl rfl | exact Or.inr rfl)) (pgs_cons (pg_name (i := 6) sc_results_in.nd rfl (by first | exact Or.inl rfl | exact Or.inr rfl)) pgs_nil))) (tgOk_tup (tgsOk_cons (tgOk_name (by decide)) (tgsOk_cons (tgOk_name (by decide)) tgsOk_nil))))
 (pb_cons (ps_set' (i := 2) sc_results_in.nd rfl (by first | exact Or.inl rfl | exact Or.inr rfl) (pv_call k_rest_of hr (by rfl) (pa_cons' (po_val (pv_var (pv 0))) (pa_cons' (po_val pv_int) (pa_cons' (po_val (pv_bin op_addD (po_val (pv_ix (ix_ixD hu) (po_var (pv 5)) (po_val pv_int) (by intro _ _; rfl))) (po_val (pv_ix (ix_ixD hu) (po_var (pv 5)) (po_val pv_int) (by intro _ _; rfl))))) (pa_cons' (po_val (pv_bin op_addD (po_val (pv_ix (ix_ixD hu) (po_var (pv 6)) (po_val pv_int) (by intro _ _; rfl))) (po_val (pv_ix (ix_ixD hu) (po_var (pv 6)) (po_val pv_int) (by intro _ _; rfl))))) (pa_cons' (po_val pv_int) pa_nil')))))))
 (pb_cons (ps_set' (i := 3) sc_results_in.nd rfl (by first | exact Or.inl rfl | exact Or.inr rfl) (pv_call k_rest_of hr (by rfl) (pa_cons' (po_val (pv_var (pv 0))) (pa_cons' (po_val pv_int) (pa_cons' (po_val (pv_bin op_addD (po_val (pv_ix (ix_ixD hu) (po_var (pv 6)) (po_val pv_int) (by intro _ _; rfl))) (po_val (pv_ix (ix_ixD hu) (po_var (pv 6)) (po_val pv_int) (by intro _ _; rfl))))) (pa_cons' (po_val (pv_bin op_addD (po_val (pv_ix (ix_ixD hu) (po_var (pv 5)) (po_val pv_int) (by intro _ _; rfl))) (po_val (pv_ix (ix_ixD hu) (po_var (pv 5)) (po_val pv_int) (by intro _ _; rfl))))) (pa_cons' (po_val pv_int) pa_nil')))))))
 (pb_cons (ps_setLc' (i := 4) (own := [("most", 7), ("one", 8), ("other", 9)]) rfl sc_results_in.nd rfl rfl (sw_true rfl rfl rfl rfl) (pi_zip3 (by rfl) T.m_zip (pa_cons' (po_val (pv_sliceA (po_var (pv 0)) po_none' (po_some' pv_int))) (pa_cons' (po_val (pv_var (pv 5))) (pa_cons' (po_val (pv_var (pv 6))) pa_nil')))) (blkOk_by (by kernel_rfl)) (fun _ _ _ _ _ => (pg_tup rfl (pgs_cons (pg_name (i := 7) sc_results_in.nd rfl (by first | exact Or.inl rfl | exact Or.inr rfl)) (pgs_cons (pg_name (i := 8) sc_results_in.nd rfl (by first | exact Or.inl rfl | exact Or.inr rfl)) (pgs_cons (pg_name (i := 9) sc_results_in.nd rfl (by first | exact Or.inl rfl | exact Or.inr rfl)) pgs_nil))))) (tgOk_tup (tgsOk_cons (tgOk_name (by decide)) (tgsOk_cons (tgOk_name (by decide)) (tgsOk_cons (tgOk_name (by decide)) tgsOk_nil)))) (fun _ _ _ _ _ => pts_nil') (fun _ _ _ _ _ => (pv_bin op_subD (po_val (pv_bin op_subD (po_var (pv 7)) (po_var (pv 8)))) (po_var (pv 9)))))
 (pb_cons (ps_ret' (pv_tup (pa_cons' (po_val (pv_var (pv 2))) (pa_cons' (po_val (pv_call k_rest_of hr (by rfl) (pa_cons' (po_val (pv_var (pv 0))) (pa_cons' (po_val (pv_ix (ix_ixD hu) (po_var (pv 4)) (po_val pv_int) (by intro _ _; rfl))) (pa_cons' (po_val (pv_ix (ix_ixD hu) (po_var (pv 4)) (po_val pv_int) (by intro _ _; rfl))) (pa_cons' (po_val (pv_ix (ix_ixD hu) (po_var (pv 4)) (po_val pv_int) (by intro _ _; rfl))) (pa_cons' (po_val (pv_ix (ix_ixD hu) (po_var (pv 0)) (po_val pv_int) (by intro _ _; rfl))) pa_nil'))))))) (pa_cons' (po_val (pv_var (pv 3))) pa_nil')))))
 pb_nil)))))
theorem ok_Search_first {k : Nat} {G_Search_can : FD} {f : Addr} {fd : FuncData} (F : Fun K "first" "Search.first" s_Search_first f fd) (T : Txt P w K mg C) (k_weighings_in : Known P w K mg base (C, "known") "weighings_in" k [.v] F_weighings_in) (k_results_in : Known P w K mg base (C, "known") "results_in" k [.v, .v] F_results_in) (k_Search_can : KnownM P w K mg base (C, "known") "can" k [.b, .v, .v] G_Search_can) : FnOk P w K mg base CX0 (k + 1) f fd ["self", "state", "many"] (SpecOf ⟨P, w, K, C, "known"⟩ [.b, .v, .v] (F_Search_first G_Search_can)) := by
  refine F.ok sc_Search_first (fun vs H Q E h => spec_len h) (fun cdv A outer s H vs Q E hr h => ⟨_, ?_, body_ok (N := N_Search_first) (f := B_Search_first G_Search_can) (by decide) h⟩)
  have hu := hu64 hr
  have hu0 := hu00 hr
  have hu1 := hu65 hr
  show PBv (C, "known") _ (defBody s_Search_first) (B_Search_first G_Search_can)
  unfold B_Search_first
  exact (pb_cons (ps_for' (own := [3]) PassesOwn.never rfl (pi_items (pv_call k_weighings_in hr (by rfl) (pa_cons' (po_val (pv_var (pv 1))) pa_nil'))) (pg_name (i := 3) sc_Search_first.nd rfl (by first | exact Or.inl rfl | exact Or.inr rfl)) (tgOk_name (by decide))
 (pb_cons (ps_setLc' (i := 4) (own := [("one", 5)]) rfl sc_Search_first.nd rfl rfl (sw_true rfl rfl rfl rfl) (pi_items (pv_call k_results_in hr (by rfl) (pa_cons' (po_val (pv_var (pv 1))) (pa_cons' (po_val (pv_var (pv 3))) pa_nil')))) (blkOk_by (by kernel_rfl)) (fun _ _ _ _ _ => (pg_name (i := 5) sc_Search_first.nd rfl (by first | exact Or.inl rfl | exact Or.inr rfl))) (tgOk_name (by decide)) (fun _ _ _ _ _ => (pts_one' (pt_cmp' op_isntD (po_var (pv 5)) (po_val pv_non) (nomark _)))) (fun _ _ _ _ _ => (pv_var (pv 5))))
 (pb_cons (ps_if' (pt_of (pw_and' (pt_cmp' op_gtI (po_val (pv_callB call_lenD (by rfl) T.m_len (by rfl) (pa_cons' (po_var (pv 4)) pa_nil'))) (po_val pv_int) (nomark _)) (pw_and1' (pt_val' (pv_callB (call_allD rfl) (by rfl) T.m_all (by rfl) (pa_cons' (po_val (pv_new (pn_lc (own := [("one", 5)]) rfl sc_Search_first.nd (pi_items (pv_var (pv 4))) (blkOk_by (by kernel_rfl)) (fun _ _ _ _ _ => (pg_name (i := 5) sc_Search_first.nd rfl (by first | exact Or.inl rfl | exact Or.inr rfl))) (tgOk_name (by decide)) (fun _ _ _ _ _ => pts_nil') (fun _ _ _ _ _ => (pv_meth k_Search_can hr (pv 0) (pa_cons' (po_val (pv_var (pv 5))) (pa_cons' (po_val (pv_bin op_subD (po_var (pv 2)) (po_val pv_int))) pa_nil'))))))) pa_nil')))))) (pb_cons (ps_ret' (pv_var (pv 3)))
 pb_nil) pb_nil)
 pb_nil)))
 (pb_cons (ps_ret' pv_non)
 pb_nil))
theorem ok_Search_can {k : Nat} {G_Search_first : FD} {f : Addr} {fd : FuncData} (F : Fun K "can" "Search.can" s_Search_can f fd) (T : Txt P w K mg C) (k_many_in : Known P w K mg base (C, "known") "many_in" k [.v] F_many_in) (k_Search_first : KnownM P w K mg base (C, "known") "first" k [.b, .v, .v] G_Search_first) : FnOk P w K mg base CX0 (k + 1) f fd ["self", "state", "many"] (SpecOf ⟨P, w, K, C, "known"⟩ [.b, .v, .v] (F_Search_can G_Search_first)) := by
  obtain ⟨a_TOLD, h_TOLD, r_TOLD⟩ := T.c_TOLD
  refine F.ok sc_Search_can (fun vs H Q E h => spec_len h) (fun cdv A outer s H vs Q E hr h => ⟨_, ?_, body_ok (N := N_Search_can) (f := B_Search_can G_Search_first) (by decide) h⟩)
  have hu := hu64 hr
  have hu0 := hu00 hr
  have hu1 := hu65 hr
  show PBv (C, "known") _ (defBody s_Search_can) (B_Search_can G_Search_first)
  unfold B_Search_can
  exact (pb_cons (ps_if' (pt_cmp' (op_eqD' hu) (po_val (pv_call k_many_in hr (by rfl) (pa_cons' (po_val (pv_var (pv 1))) pa_nil'))) (po_val pv_int) (nomark _)) (pb_cons (ps_ret' pv_bl)
 pb_nil) pb_nil)
 (pb_cons (ps_if' (pt_of (pw_or' (pt_cmp' (op_eqD' hu) (po_var (pv 2)) (po_val pv_int) (nomark _)) (pw_or1' (pt_cmp' op_gtI (po_val (pv_call k_many_in hr (by rfl) (pa_cons' (po_val (pv_var (pv 1))) pa_nil'))) (po_val (pv_ix (ix_ixD hu) (po_val (pv_glob (by rfl) h_TOLD (by first | exact rfl | exact ⟨_, rfl⟩) r_TOLD)) (po_var (pv 2)) (by intro _ _; rfl))) (nomark _))))) (pb_cons (ps_ret' pv_bl)
 pb_nil) pb_nil)
 (pb_cons (ps_if' (pt_cmp' (op_notInD' hu1) (po_val (pv_tup (pa_cons' (po_val (pv_var (pv 1))) (pa_cons' (po_val (pv_var (pv 2))) pa_nil')))) (po_fld (O := (C, "known")) (pv 0) T.cl T.noA) (by with_unfolding_all rfl)) (pb_cons (ps_store (put_D hu) (po_fld (O := (C, "known")) (pv 0) T.cl T.noA) (pv_tup (pa_cons' (po_val (pv_var (pv 1))) (pa_cons' (po_val (pv_var (pv 2))) pa_nil'))) (pv_cmp op_isntD (po_val (pv_meth k_Search_first hr (pv 0) (pa_cons' (po_val (pv_var (pv 1))) (pa_cons' (po_val (pv_var (pv 2))) pa_nil')))) (po_val pv_non) (nomark _)))
 pb_nil) pb_nil)
 (pb_cons (ps_ret' (pv_ix (ix_ixD hu) (po_fld (O := (C, "known")) (pv 0) T.cl T.noA) (po_val (pv_tup (pa_cons' (po_val (pv_var (pv 1))) (pa_cons' (po_val (pv_var (pv 2))) pa_nil')))) (by intro _ _; rfl)))
 pb_nil))))
theorem no_Search_can {k : Nat} {f : Addr} {fd : FuncData} (F : Fun K "can" "Search.can" s_Search_can f fd) : FnOk P w K mg base CX0 (k + 1) f fd ["self", "state", "many"] (SpecOf ⟨P, w, K, C, "known"⟩ [.b, .v, .v] (R_Search_can 0)) :=
  F.ok sc_Search_can (fun vs H Q E h => spec_len h) (fun cdv A outer s H vs Q E hr h => by obtain ⟨_, _, _, _, _, _, e, _⟩ := h; cases e)
theorem ok_most_unknown {k : Nat} {f : Addr} {fd : FuncData} (F : Fun K "most_unknown" "most_unknown" s_most_unknown f fd) (T : Txt P w K mg C) (k_need_rounds : Known P w K mg base (C, "known") "need_rounds" k [.v] F_need_rounds) {f0 : Addr} {fd0 : FuncData} (M : Mk K C f0) (k_init : FnOk P w K mg base CX0 k f0 fd0 ["self"] (spInit ⟨P, w, K, C, "known"⟩)) (b_init : Binds K fd0 ["self"] []) (k_fits_whole : Known P w K mg base (C, "known") "fits_whole" k [.v, .v, .v] F_fits_whole) (k_Search_can : KnownM P w K mg base (C, "known") "can" k [.b, .v, .v] (R_Search_can 9)) : FnOk P w K mg base CX0 (k + 2) f fd ["number", "good"] (SpecOf ⟨P, w, K, C, "known"⟩ [.v, .v] (F_most_unknown)) := by
  obtain ⟨t_COINS, h_COINS⟩ := T.c_COINS
  have r_COINS : ∀ H, Rep ⟨P, w, K, C, "known"⟩ H (.int 14) (.int 14) := fun _ => .int _
  refine F.ok sc_most_unknown (fun vs H Q E h => spec_len h) (fun cdv A outer s H vs Q E hr h => ⟨_, ?_, body_ok (N := N_most_unknown) (f := B_most_unknown) (by decide) h⟩)
  have hu := hu64 hr
  have hu0 := hu00 hr
  have hu1 := hu65 hr
  have hr1 := hr
  replace hr : Room k _ := hr.mono (Nat.le_succ k)
  show PBv (C, "known") _ (defBody s_most_unknown) (B_most_unknown)
  unfold B_most_unknown
  exact (pb_cons (ps_expr' (pv_call k_need_rounds hr (by rfl) (pa_cons' (po_val (pv_var (pv 0))) pa_nil')))
 (pb_cons (ps_if' (pt_not' (pt_val' (pv_call k_fits_whole hr (by rfl) (pa_cons' (po_val (pv_var (pv 1))) (pa_cons' (po_val pv_int) (pa_cons' (po_val (pv_glob (by rfl) h_COINS (by first | exact rfl | exact ⟨_, rfl⟩) r_COINS)) pa_nil')))))) (pb_cons ps_no
 pb_nil) pb_nil)
 (pb_cons (ps_setB (i := 2) sc_most_unknown.nd rfl (by first | exact Or.inl rfl | exact Or.inr rfl) (pb_make0 M k_init hr1 (by rfl) T.m_Search b_init))
 (pb_cons (ps_ret' (pv_callB (call_maxD rfl) (by rfl) T.m_max (by rfl) (pa_cons' (po_val (pv_new (pn_lc (own := [("many", 3)]) rfl sc_most_unknown.nd (pi_range1' (by rfl) T.m_range (pa_cons' (po_val (pv_bin op_addD (po_val (pv_bin op_subD (po_val (pv_glob (by rfl) h_COINS (by first | exact rfl | exact ⟨_, rfl⟩) r_COINS)) (po_var (pv 1)))) (po_val pv_int))) pa_nil')) (blkOk_by (by kernel_rfl)) (fun _ _ _ _ _ => (pg_name (i := 3) sc_most_unknown.nd rfl (by first | exact Or.inl rfl | exact Or.inr rfl))) (tgOk_name (by decide)) (fun _ _ _ _ _ => (pts_one' (pt_val' (pv_meth k_Search_can hr (pv 2) (pa_cons' (po_val (pv_tup (pa_cons' (po_val (pv_var (pv 3))) (pa_cons' (po_val pv_int) (pa_cons' (po_val pv_int) (pa_cons' (po_val (pv_var (pv 1))) (pa_cons' (po_val pv_int) pa_nil'))))))) (pa_cons' (po_val (pv_var (pv 0))) pa_nil')))))) (fun _ _ _ _ _ => (pv_var (pv 3)))))) pa_nil')))
 pb_nil))))
theorem ok_is_tuple_of {k : Nat} {f : Addr} {fd : FuncData} (F : Fun K "is_tuple_of" "is_tuple_of" s_is_tuple_of f fd) (T : Txt P w K mg C) : FnOk P w K mg base CX0 (k + 1) f fd ["value", "least", "most"] (SpecOf ⟨P, w, K, C, "known"⟩ [.v, .v, .v] (F_is_tuple_of)) := by
  refine F.ok sc_is_tuple_of (fun vs H Q E h => spec_len h) (fun cdv A outer s H vs Q E hr h => ⟨_, ?_, body_ok (N := N_is_tuple_of) (f := B_is_tuple_of) (by decide) h⟩)
  have hu := hu64 hr
  have hu0 := hu00 hr
  have hu1 := hu65 hr
  show PBv (C, "known") _ (defBody s_is_tuple_of) (B_is_tuple_of)
  unfold B_is_tuple_of
  exact (pb_cons (ps_ret' (pv_and (pv_isi isT_tuple (by rfl) T.m_isinstance (by rfl) T.m_tuple (by rfl) (po_var (pv 0))) (pv_one (pv_chain op_leI op_leI (po_var (pv 1)) (po_val (pv_callB call_lenD (by rfl) T.m_len (by rfl) (pa_cons' (po_var (pv 0)) pa_nil'))) (po_var (pv 2))))))
 pb_nil)
theorem ok_fits_state {k : Nat} {f : Addr} {fd : FuncData} (F : Fun K "fits_state" "fits_state" s_fits_state f fd) (T : Txt P w K mg C) (k_is_tuple_of : Known P w K mg base (C, "known") "is_tuple_of" k [.v, .v, .v] F_is_tuple_of) (k_many_in : Known P w K mg base (C, "known") "many_in" k [.v] F_many_in) (k_fits_whole : Known P w K mg base (C, "known") "fits_whole" k [.v, .v, .v] F_fits_whole) : FnOk P w K mg base CX0 (k + 1) f fd ["value"] (SpecOf ⟨P, w, K, C, "known"⟩ [.v] (F_fits_state)) := by
  obtain ⟨t_COINS, h_COINS⟩ := T.c_COINS
  have r_COINS : ∀ H, Rep ⟨P, w, K, C, "known"⟩ H (.int 14) (.int 14) := fun _ => .int _
  refine F.ok sc_fits_state (fun vs H Q E h => spec_len h) (fun cdv A outer s H vs Q E hr h => ⟨_, ?_, body_ok (N := N_fits_state) (f := B_fits_state) (by decide) h⟩)
  have hu := hu64 hr
  have hu0 := hu00 hr
  have hu1 := hu65 hr
  show PBv (C, "known") _ (defBody s_fits_state) (B_fits_state)
  unfold B_fits_state
  exact (pb_cons (ps_if' (pt_of (pw_or' (pt_not' (pt_val' (pv_call k_is_tuple_of hr (by rfl) (pa_cons' (po_val (pv_var (pv 0))) (pa_cons' (po_val pv_int) (pa_cons' (po_val pv_int) pa_nil')))))) (pw_or' (pt_not' (pt_val' (pv_callB (call_allD rfl) (by rfl) T.m_all (by rfl) (pa_cons' (po_val (pv_new (pn_lc (own := [("one", 1)]) rfl sc_fits_state.nd (pi_items (pv_var (pv 0))) (blkOk_by (by kernel_rfl)) (fun _ _ _ _ _ => (pg_name (i := 1) sc_fits_state.nd rfl (by first | exact Or.inl rfl | exact Or.inr rfl))) (tgOk_name (by decide)) (fun _ _ _ _ _ => pts_nil') (fun _ _ _ _ _ => (pv_call k_fits_whole hr (by rfl) (pa_cons' (po_val (pv_var (pv 1))) (pa_cons' (po_val pv_int) (pa_cons' (po_val (pv_glob (by rfl) h_COINS (by first | exact rfl | exact ⟨_, rfl⟩) r_COINS)) pa_nil')))))))) pa_nil')))) (pw_or1' (pt_cmp' op_gtI (po_val (pv_ix (ix_ixD hu) (po_var (pv 0)) (po_val pv_int) (by intro _ _; rfl))) (po_val pv_int) (nomark _)))))) (pb_cons (ps_ret' pv_bl)
 pb_nil) pb_nil)
 (pb_cons (ps_ret' (pv_and (pv_cmp op_leI (po_val (pv_callB (call_sumD rfl) (by rfl) T.m_sum (by rfl) (pa_cons' (po_val (pv_sliceA (po_var (pv 0)) po_none' (po_some' pv_int))) pa_nil'))) (po_val (pv_glob (by rfl) h_COINS (by first | exact rfl | exact ⟨_, rfl⟩) r_COINS)) (nomark _)) (pv_one (pv_cmp op_gtI (po_val (pv_call k_many_in hr (by rfl) (pa_cons' (po_val (pv_var (pv 0))) pa_nil'))) (po_val pv_int) (nomark _)))))
 pb_nil))
theorem ok_need_state {k : Nat} {f : Addr} {fd : FuncData} (F : Fun K "need_state" "need_state" s_need_state f fd) (T : Txt P w K mg C) (k_fits_state : Known P w K mg base (C, "known") "fits_state" k [.v] F_fits_state) : FnOk P w K mg base CX0 (k + 1) f fd ["value"] (SpecOf ⟨P, w, K, C, "known"⟩ [.v] (F_need_state)) := by
  refine F.ok sc_need_state (fun vs H Q E h => spec_len h) (fun cdv A outer s H vs Q E hr h => ⟨_, ?_, body_ok (N := N_need_state) (f := B_need_state) (by decide) h⟩)
  have hu := hu64 hr
  have hu0 := hu00 hr
  have hu1 := hu65 hr
  show PBv (C, "known") _ (defBody s_need_state) (B_need_state)
  unfold B_need_state
  exact (pb_cons (ps_if' (pt_not' (pt_val' (pv_call k_fits_state hr (by rfl) (pa_cons' (po_val (pv_var (pv 0))) pa_nil')))) (pb_cons ps_no
 pb_nil) pb_nil)
 pb_nil)
theorem ok_Search_cost {k : Nat} {f : Addr} {fd : FuncData} (F : Fun K "cost" "Search.cost" s_Search_cost f fd) (T : Txt P w K mg C) (k_Search_can : KnownM P w K mg base (C, "known") "can" k [.b, .v, .v] (R_Search_can 9)) : FnOk P w K mg base CX0 (k + 1) f fd ["self", "state"] (SpecOf ⟨P, w, K, C, "known"⟩ [.b, .v] (F_Search_cost)) := by
  obtain ⟨t_ROUNDS, h_ROUNDS⟩ := T.c_ROUNDS
  have r_ROUNDS : ∀ H, Rep ⟨P, w, K, C, "known"⟩ H (.int 7) (.int 7) := fun _ => .int _
  refine F.ok sc_Search_cost (fun vs H Q E h => spec_len h) (fun cdv A outer s H vs Q E hr h => ⟨_, ?_, body_ok (N := N_Search_cost) (f := B_Search_cost) (by decide) h⟩)
  have hu := hu64 hr
  have hu0 := hu00 hr
  have hu1 := hu65 hr
  show PBv (C, "known") _ (defBody s_Search_cost) (B_Search_cost)
  unfold B_Search_cost
  exact (pb_cons (ps_for' (own := [2]) PassesOwn.never rfl (pi_range1' (by rfl) T.m_range (pa_cons' (po_val (pv_bin op_addD (po_val (pv_glob (by rfl) h_ROUNDS (by first | exact rfl | exact ⟨_, rfl⟩) r_ROUNDS)) (po_val pv_int))) pa_nil')) (pg_name (i := 2) sc_Search_cost.nd rfl (by first | exact Or.inl rfl | exact Or.inr rfl)) (tgOk_name (by decide))
 (pb_cons (ps_if' (pt_val' (pv_meth k_Search_can hr (pv 0) (pa_cons' (po_val (pv_var (pv 1))) (pa_cons' (po_val (pv_var (pv 2))) pa_nil')))) (pb_cons (ps_ret' (pv_var (pv 2)))
 pb_nil) pb_nil)
 pb_nil))
 (pb_cons (ps_ret' pv_non)
 pb_nil))
theorem ok_fewest_weighings {k : Nat} {f : Addr} {fd : FuncData} (F : Fun K "fewest_weighings" "fewest_weighings" s_fewest_weighings f fd) (T : Txt P w K mg C) (k_need_state : Known P w K mg base (C, "known") "need_state" k [.v] F_need_state) (k_Search_cost : KnownM P w K mg base (C, "known") "cost" k [.b, .v] F_Search_cost) {f0 : Addr} {fd0 : FuncData} (M : Mk K C f0) (k_init : FnOk P w K mg base CX0 k f0 fd0 ["self"] (spInit ⟨P, w, K, C, "known"⟩)) (b_init : Binds K fd0 ["self"] []) : FnOk P w K mg base CX0 (k + 2) f fd ["state"] (SpecOf ⟨P, w, K, C, "known"⟩ [.v] (F_fewest_weighings)) := by
  refine F.ok sc_fewest_weighings (fun vs H Q E h => spec_len h) (fun cdv A outer s H vs Q E hr h => ⟨_, ?_, body_ok (N := N_fewest_weighings) (f := B_fewest_weighings) (by decide) h⟩)
  have hu := hu64 hr
  have hu0 := hu00 hr
  have hu1 := hu65 hr
  have hr1 := hr
  replace hr : Room k _ := hr.mono (Nat.le_succ k)
  show PBv (C, "known") _ (defBody s_fewest_weighings) (B_fewest_weighings)
  unfold B_fewest_weighings
  exact (pb_cons (ps_expr' (pv_call k_need_state hr (by rfl) (pa_cons' (po_val (pv_var (pv 0))) pa_nil')))
 (pb_cons (ps_ret' (pv_methT (n := 1) k_Search_cost hr (pb_make0 M k_init hr1 (by rfl) T.m_Search b_init) (pa_cons' (po_val (pv_var (pv 0))) pa_nil')))
 pb_nil))
theorem ok_law_roll {k : Nat} {f : Addr} {fd : FuncData} (F : Fun K "_law_roll" "_law_roll" s_law_roll f fd) (T : Txt P w K mg C) : FnOk P w K mg base CX0 (k + 1) f fd ["cup", "many"] (SpecOf ⟨P, w, K, C, "known"⟩ [.o, .v] (F_law_roll)) := by
  refine F.ok sc_law_roll (fun vs H Q E h => spec_len h) (fun cdv A outer s H vs Q E hr h => ⟨_, ?_, body_ok (N := N_law_roll) (f := B_law_roll) (by decide) h⟩)
  have hu := hu64 hr
  have hu0 := hu00 hr
  have hu1 := hu65 hr
  show PBv (C, "known") _ (defBody s_law_roll) (B_law_roll)
  unfold B_law_roll
  exact (pb_cons (ps_if' (pt_cmp' op_gtI (po_val (pv_ix (ix_ixD hu) (po_var (pv 0)) (po_val pv_int) (by intro _ _; rfl))) (po_val pv_int) (nomark _)) (pb_cons (ps_set' (i := 3) sc_law_roll.nd rfl (by first | exact Or.inl rfl | exact Or.inr rfl) (pv_bin op_modD (po_val (pv_callTy call_intD (by rfl) T.m_int (by rfl) (pa_cons' (po_val (pv_ix (ix_ixD hu) (po_var (pv 0)) (po_val pv_int) (by intro _ _; rfl))) pa_nil'))) (po_var (pv 1))))
 (pb_cons (ps_store (put_D hu) (po_var (pv 0)) pv_int (pv_bin op_fdivD (po_val (pv_ix (ix_ixD hu) (po_var (pv 0)) (po_val pv_int) (by intro _ _; rfl))) (po_var (pv 1))))
 (pb_cons (ps_ret' (pv_var (pv 3)))
 pb_nil))) pb_nil)
 (pb_cons (ps_store (put_D hu) (po_var (pv 0)) pv_int (pv_bin op_modD (po_val (pv_callTy call_intD (by rfl) T.m_int (by rfl) (pa_cons' (po_val (pv_bin op_addD (po_val (pv_bin op_mulI (po_val (pv_ix (ix_ixD hu) (po_var (pv 0)) (po_val pv_int) (by intro _ _; rfl))) (po_val pv_int))) (po_val pv_int))) pa_nil'))) (po_val pv_int)))
 (pb_cons (ps_set' (i := 2) sc_law_roll.nd rfl (by first | exact Or.inl rfl | exact Or.inr rfl) (pv_bin op_modD (po_val (pv_callTy call_intD (by rfl) T.m_int (by rfl) (pa_cons' (po_val (pv_bin op_mulI (po_val (pv_ix (ix_ixD hu) (po_var (pv 0)) (po_val pv_int) (by intro _ _; rfl))) (po_val (pv_bin op_addD (po_val (pv_ix (ix_ixD hu) (po_var (pv 0)) (po_val pv_int) (by intro _ _; rfl))) (po_val pv_int))))) pa_nil'))) (po_val pv_int)))
 (pb_cons (ps_ret' (pv_bin op_modD (po_val (pv_callTy call_intD (by rfl) T.m_int (by rfl) (pa_cons' (po_val (pv_bin op_fdivD (po_var (pv 2)) (po_val pv_int))) pa_nil'))) (po_var (pv 1))))
 pb_nil))))
theorem ok_law_same {k : Nat} {G_law_same : FD} {f : Addr} {fd : FuncData} (F : Fun K "_law_same" "_law_same" s_law_same f fd) (T : Txt P w K mg C) (k_law_same : Known P w K mg base (C, "known") "_law_same" k [.v, .v] G_law_same) : FnOk P w K mg base CX0 (k + 1) f fd ["told", "due"] (SpecOf ⟨P, w, K, C, "known"⟩ [.v, .v] (F_law_same G_law_same)) := by
  refine F.ok sc_law_same (fun vs H Q E h => spec_len h) (fun cdv A outer s H vs Q E hr h => ⟨_, ?_, body_ok (N := N_law_same) (f := B_law_same G_law_same) (by decide) h⟩)
  have hu := hu64 hr
  have hu0 := hu00 hr
  have hu1 := hu65 hr
  show PBv (C, "known") _ (defBody s_law_same) (B_law_same G_law_same)
  unfold B_law_same
  exact (pb_cons (ps_if' (pt_val' (pv_isi isT_tuple (by rfl) T.m_isinstance (by rfl) T.m_tuple (by rfl) (po_var (pv 1)))) (pb_cons (ps_if' (pt_of (pw_or' (pt_not' (pt_val' (pv_isi isT_tuple (by rfl) T.m_isinstance (by rfl) T.m_tuple (by rfl) (po_var (pv 0))))) (pw_or1' (pt_cmp' (op_neD' hu) (po_val (pv_callB call_lenD (by rfl) T.m_len (by rfl) (pa_cons' (po_var (pv 0)) pa_nil'))) (po_val (pv_callB call_lenD (by rfl) T.m_len (by rfl) (pa_cons' (po_var (pv 1)) pa_nil'))) (nomark _))))) (pb_cons (ps_ret' pv_bl)
 pb_nil) pb_nil)
 (pb_cons (ps_ret' (pv_callB (call_allD rfl) (by rfl) T.m_all (by rfl) (pa_cons' (po_val (pv_new (pn_lc (own := [("at", 2)]) rfl sc_law_same.nd (pi_range1' (by rfl) T.m_range (pa_cons' (po_val (pv_callB call_lenD (by rfl) T.m_len (by rfl) (pa_cons' (po_var (pv 1)) pa_nil'))) pa_nil')) (blkOk_by (by kernel_rfl)) (fun _ _ _ _ _ => (pg_name (i := 2) sc_law_same.nd rfl (by first | exact Or.inl rfl | exact Or.inr rfl))) (tgOk_name (by decide)) (fun _ _ _ _ _ => pts_nil') (fun _ _ _ _ _ => (pv_call k_law_same hr (by rfl) (pa_cons' (po_val (pv_ix (ix_ixD hu) (po_var (pv 0)) (po_var (pv 2)) (by intro _ _; rfl))) (pa_cons' (po_val (pv_ix (ix_ixD hu) (po_var (pv 1)) (po_var (pv 2)) (by intro _ _; rfl))) pa_nil'))))))) pa_nil')))
 pb_nil)) pb_nil)
 (pb_cons (ps_if' (pt_cmp' op_isD (po_var (pv 1)) (po_val pv_non) (nomark _)) (pb_cons (ps_ret' (pv_cmp op_isD (po_var (pv 0)) (po_val pv_non) (nomark _)))
 pb_nil) pb_nil)
 (pb_cons (ps_if' (pt_val' (pv_isi isT_bool (by rfl) T.m_isinstance (by rfl) T.m_bool (by rfl) (po_var (pv 1)))) (pb_cons (ps_ret' (pv_if (pt_val' (pv_var (pv 1))) (pv_cmp op_isD (po_var (pv 0)) (po_val pv_bl) (nomark _)) (pv_cmp op_isD (po_var (pv 0)) (po_val pv_bl) (nomark _))))
 pb_nil) pb_nil)
 (pb_cons (ps_if' (pt_val' (pv_isi isT_int (by rfl) T.m_isinstance (by rfl) T.m_int (by rfl) (po_var (pv 1)))) (pb_cons (ps_ret' (pv_and (pv_isi isT_int (by rfl) T.m_isinstance (by rfl) T.m_int (by rfl) (po_var (pv 0))) (pv_and (pv_not (pv_isi isT_bool (by rfl) T.m_isinstance (by rfl) T.m_bool (by rfl) (po_var (pv 0)))) (pv_one (pv_cmp (op_eqD' hu) (po_val (pv_callTy call_intD (by rfl) T.m_int (by rfl) (pa_cons' (po_var (pv 0)) pa_nil'))) (po_var (pv 1)) (nomark _))))))
 pb_nil) pb_nil)
 (pb_cons (ps_ret' (pv_and (pv_isi isT_str (by rfl) T.m_isinstance (by rfl) T.m_str (by rfl) (po_var (pv 0))) (pv_one (pv_cmp (op_eqD' hu) (po_val (pv_callTy call_strA (by rfl) T.m_str (by rfl) (pa_cons' (po_var (pv 0)) pa_nil'))) (po_var (pv 1)) (nomark _)))))
 pb_nil)))))
theorem no_law_same {k : Nat} {f : Addr} {fd : FuncData} (F : Fun K "_law_same" "_law_same" s_law_same f fd) : FnOk P w K mg base CX0 (k + 1) f fd ["told", "due"] (SpecOf ⟨P, w, K, C, "known"⟩ [.v, .v] (R_law_same 0)) :=
  F.ok sc_law_same (fun vs H Q E h => spec_len h) (fun cdv A outer s H vs Q E hr h => by obtain ⟨_, _, _, _, _, _, e, _⟩ := h; cases e)
theorem ok_law_some {k : Nat} {f : Addr} {fd : FuncData} (F : Fun K "_law_some" "_law_some" s_law_some f fd) (T : Txt P w K mg C) (k_law_roll : Known P w K mg base (C, "known") "_law_roll" k [.o, .v] F_law_roll) : FnOk P w K mg base CX0 (k + 1) f fd ["cup", "things"] (SpecOf ⟨P, w, K, C, "known"⟩ [.o, .v] (F_law_some)) := by
  refine F.ok sc_law_some (fun vs H Q E h => spec_len h) (fun cdv A outer s H vs Q E hr h => ⟨_, ?_, body_ok (N := N_law_some) (f := B_law_some) (by decide) h⟩)
  have hu := hu64 hr
  have hu0 := hu00 hr
  have hu1 := hu65 hr
  show PBv (C, "known") _ (defBody s_law_some) (B_law_some)
  unfold B_law_some
  exact (pb_cons (ps_ret' (pv_ix (ix_ixD hu) (po_var (pv 1)) (po_val (pv_call k_law_roll hr (by rfl) (pa_cons' (po_var (pv 0)) (pa_cons' (po_val (pv_callB call_lenD (by rfl) T.m_len (by rfl) (pa_cons' (po_var (pv 1)) pa_nil'))) pa_nil')))) (by intro _ _; rfl)))
 pb_nil)
theorem ok_law_most {k : Nat} {f : Addr} {fd : FuncData} (F : Fun K "_law_most" "_law_most" s_law_most f fd) (T : Txt P w K mg C) : FnOk P w K mg base CX0 (k + 1) f fd ["number", "good"] (SpecOf ⟨P, w, K, C, "known"⟩ [.v, .v] (F_law_most)) := by
  refine F.ok sc_law_most (fun vs H Q E h => spec_len h) (fun cdv A outer s H vs Q E hr h => ⟨_, ?_, body_ok (N := N_law_most) (f := B_law_most) (by decide) h⟩)
  have hu := hu64 hr
  have hu0 := hu00 hr
  have hu1 := hu65 hr
  show PBv (C, "known") _ (defBody s_law_most) (B_law_most)
  unfold B_law_most
  exact (pb_cons (ps_set' (i := 2) sc_law_most.nd rfl (by first | exact Or.inl rfl | exact Or.inr rfl) (pv_if (pt_cmp' (op_eqD' hu) (po_var (pv 1)) (po_val pv_int) (nomark _)) (pv_ix (ix_ixD hu) (po_val (pv_new (pn_lst (pa_cons' (po_val pv_int) (pa_cons' (po_val pv_int) (pa_cons' (po_val pv_int) (pa_cons' (po_val pv_int) (pa_cons' (po_val pv_int) (pa_cons' (po_val pv_int) (pa_cons' (po_val pv_int) (pa_cons' (po_val pv_int) pa_nil'))))))))))) (po_var (pv 0)) (by intro _ _; rfl)) (pv_ix (ix_ixD hu) (po_val (pv_new (pn_lst (pa_cons' (po_val pv_int) (pa_cons' (po_val pv_int) (pa_cons' (po_val pv_int) (pa_cons' (po_val pv_int) (pa_cons' (po_val pv_int) (pa_cons' (po_val pv_int) (pa_cons' (po_val pv_int) (pa_cons' (po_val pv_int) pa_nil'))))))))))) (po_var (pv 0)) (by intro _ _; rfl))))
 (pb_cons (ps_ret' (pv_callB (call_minD rfl) (by rfl) T.m_min (by rfl) (pa_cons' (po_var (pv 2)) (pa_cons' (po_val (pv_bin op_subD (po_val pv_int) (po_var (pv 1)))) pa_nil'))))
 pb_nil))
theorem ok_law_is_weighing {k : Nat} {f : Addr} {fd : FuncData} (F : Fun K "_law_is_weighing" "_law_is_weighing" s_law_is_weighing f fd) (T : Txt P w K mg C) : FnOk P w K mg base CX0 (k + 1) f fd ["state", "value"] (SpecOf ⟨P, w, K, C, "known"⟩ [.v, .v] (F_law_is_weighing)) := by
  refine F.ok sc_law_is_weighing (fun vs H Q E h => spec_len h) (fun cdv A outer s H vs Q E hr h => ⟨_, ?_, body_ok (N := N_law_is_weighing) (f := B_law_is_weighing) (by decide) h⟩)
  have hu := hu64 hr
  have hu0 := hu00 hr
  have hu1 := hu65 hr
  show PBv (C, "known") _ (defBody s_law_is_weighing) (B_law_is_weighing)
  unfold B_law_is_weighing
  exact (pb_cons (ps_if' (pt_of (pw_or' (pt_not' (pt_val' (pv_isi isT_tuple (by rfl) T.m_isinstance (by rfl) T.m_tuple (by rfl) (po_var (pv 1))))) (pw_or' (pt_cmp' (op_neD' hu) (po_val (pv_callB call_lenD (by rfl) T.m_len (by rfl) (pa_cons' (po_var (pv 1)) pa_nil'))) (po_val pv_int) (nomark _)) (pw_or1' (pt_cmp' (op_neD' hu) (po_val (pv_new (pn_lc (own := [("pan", 2)]) rfl sc_law_is_weighing.nd (pi_items (pv_var (pv 1))) (blkOk_by (by kernel_rfl)) (fun _ _ _ _ _ => (pg_name (i := 2) sc_law_is_weighing.nd rfl (by first | exact Or.inl rfl | exact Or.inr rfl))) (tgOk_name (by decide)) (fun _ _ _ _ _ => (pts_one' (pt_of (pw_or' (pt_not' (pt_val' (pv_isi isT_tuple (by rfl) T.m_isinstance (by rfl) T.m_tuple (by rfl) (po_var (pv 2))))) (pw_or1' (pt_cmp' (op_neD' hu) (po_val (pv_callB call_lenD (by rfl) T.m_len (by rfl) (pa_cons' (po_var (pv 2)) pa_nil'))) (po_val pv_int) (nomark _))))))) (fun _ _ _ _ _ => (pv_var (pv 2)))))) (po_val (pv_new (pn_lst pa_nil'))) (nomark _)))))) (pb_cons (ps_ret' pv_bl)
 pb_nil) pb_nil)
 (pb_cons (ps_for' (own := [2]) PassesOwn.never rfl (pi_items (pv_var (pv 1))) (pg_name (i := 2) sc_law_is_weighing.nd rfl (by first | exact Or.inl rfl | exact Or.inr rfl)) (tgOk_name (by decide))
 (pb_cons (ps_if' (pt_cmp' (op_neD' hu) (po_val (pv_new (pn_lc (own := [("one", 4)]) rfl sc_law_is_weighing.nd (pi_items (pv_var (pv 2))) (blkOk_by (by kernel_rfl)) (fun _ _ _ _ _ => (pg_name (i := 4) sc_law_is_weighing.nd rfl (by first | exact Or.inl rfl | exact Or.inr rfl))) (tgOk_name (by decide)) (fun _ _ _ _ _ => (pts_one' (pt_of (pw_or' (pt_not' (pt_val' (pv_isi isT_int (by rfl) T.m_isinstance (by rfl) T.m_int (by rfl) (po_var (pv 4))))) (pw_or' (pt_val' (pv_isi isT_bool (by rfl) T.m_isinstance (by rfl) T.m_bool (by rfl) (po_var (pv 4)))) (pw_or1' (pt_cmp' op_ltI (po_var (pv 4)) (po_val pv_int) (nomark _)))))))) (fun _ _ _ _ _ => (pv_var (pv 4)))))) (po_val (pv_new (pn_lst pa_nil'))) (nomark _)) (pb_cons (ps_ret' pv_bl)
 pb_nil) pb_nil)
 pb_nil))
 (pb_cons (ps_if' (pt_of (pw_or' (pt_cmp' (op_neD' hu) (po_val (pv_callB (call_sumD rfl) (by rfl) T.m_sum (by rfl) (pa_cons' (po_val (pv_ix (ix_ixD hu) (po_var (pv 1)) (po_val pv_int) (by intro _ _; rfl))) pa_nil'))) (po_val (pv_callB (call_sumD rfl) (by rfl) T.m_sum (by rfl) (pa_cons' (po_val (pv_ix (ix_ixD hu) (po_var (pv 1)) (po_val pv_int) (by intro _ _; rfl))) pa_nil'))) (nomark _)) (pw_or1' (pt_cmp' op_ltI (po_val (pv_callB (call_sumD rfl) (by rfl) T.m_sum (by rfl) (pa_cons' (po_val (pv_ix (ix_ixD hu) (po_var (pv 1)) (po_val pv_int) (by intro _ _; rfl))) pa_nil'))) (po_val pv_int) (nomark _))))) (pb_cons (ps_ret' pv_bl)
 pb_nil) pb_nil)
 (pb_cons (ps_ret' (pv_cmp (op_eqD' hu) (po_val (pv_new (pn_lc (own := [("at", 3)]) rfl sc_law_is_weighing.nd (pi_range1' (by rfl) T.m_range (pa_cons' (po_val pv_int) pa_nil')) (blkOk_by (by kernel_rfl)) (fun _ _ _ _ _ => (pg_name (i := 3) sc_law_is_weighing.nd rfl (by first | exact Or.inl rfl | exact Or.inr rfl))) (tgOk_name (by decide)) (fun _ _ _ _ _ => (pts_one' (pt_cmp' op_gtI (po_val (pv_bin op_addD (po_val (pv_ix (ix_ixD hu) (po_val (pv_ix (ix_ixD hu) (po_var (pv 1)) (po_val pv_int) (by intro _ _; rfl))) (po_var (pv 3)) (by intro _ _; rfl))) (po_val (pv_ix (ix_ixD hu) (po_val (pv_ix (ix_ixD hu) (po_var (pv 1)) (po_val pv_int) (by intro _ _; rfl))) (po_var (pv 3)) (by intro _ _; rfl))))) (po_val (pv_ix (ix_ixD hu) (po_var (pv 0)) (po_var (pv 3)) (by intro _ _; rfl))) (nomark _)))) (fun _ _ _ _ _ => (pv_var (pv 3)))))) (po_val (pv_new (pn_lst pa_nil'))) (nomark _)))
 pb_nil))))
theorem ok_law_pans {k : Nat} {f : Addr} {fd : FuncData} (F : Fun K "_law_pans" "_law_pans" s_law_pans f fd) (T : Txt P w K mg C) (k_law_is_weighing : Known P w K mg base (C, "known") "_law_is_weighing" k [.v, .v] F_law_is_weighing) : FnOk P w K mg base CX0 (k + 1) f fd ["state"] (SpecOf ⟨P, w, K, C, "known"⟩ [.v] (F_law_pans)) := by
  refine F.ok sc_law_pans (fun vs H Q E h => spec_len h) (fun cdv A outer s H vs Q E hr h => ⟨_, ?_, body_ok (N := N_law_pans) (f := B_law_pans) (by decide) h⟩)
  have hu := hu64 hr
  have hu0 := hu00 hr
  have hu1 := hu65 hr
  show PBv (C, "known") _ (defBody s_law_pans) (B_law_pans)
  unfold B_law_pans
  exact (pb_cons (ps_par' (i := 2) (j := 3) rfl sc_law_pans.nd rfl rfl (by decide) rfl rfl (pm_n (pn_lst pa_nil') (pm_n (pn_lst (pa_cons' (po_val (pv_new (pn_lst pa_nil'))) (pa_cons' (po_val (pv_new (pn_lst pa_nil'))) (pa_cons' (po_val (pv_new (pn_lst pa_nil'))) pa_nil')))) pm_nil)))
 (pb_cons (ps_for' (own := [1]) PassesOwn.never rfl (pi_range1' (by rfl) T.m_range (pa_cons' (po_val pv_int) pa_nil')) (pg_name (i := 1) sc_law_pans.nd rfl (by first | exact Or.inl rfl | exact Or.inr rfl)) (tgOk_name (by decide))
 (pb_cons (ps_for' (own := [4]) PassesOwn.never rfl (pi_range1' (by rfl) T.m_range (pa_cons' (po_val (pv_bin op_addD (po_val (pv_ix (ix_ixD hu) (po_var (pv 0)) (po_var (pv 1)) (by intro _ _; rfl))) (po_val pv_int))) pa_nil')) (pg_name (i := 4) sc_law_pans.nd rfl (by first | exact Or.inl rfl | exact Or.inr rfl)) (tgOk_name (by decide))
 (pb_cons (ps_store (put_D hu) (po_var (pv 3)) (pv_var (pv 1)) (pv_bin op_addD (po_val (pv_ix (ix_ixD hu) (po_var (pv 3)) (po_var (pv 1)) (by intro _ _; rfl))) (po_val (pv_new (pn_lc (own := [("other", 5)]) rfl sc_law_pans.nd (pi_range1' (by rfl) T.m_range (pa_cons' (po_val (pv_bin op_subD (po_val (pv_bin op_addD (po_val (pv_ix (ix_ixD hu) (po_var (pv 0)) (po_var (pv 1)) (by intro _ _; rfl))) (po_val pv_int))) (po_var (pv 4)))) pa_nil')) (blkOk_by (by kernel_rfl)) (fun _ _ _ _ _ => (pg_name (i := 5) sc_law_pans.nd rfl (by first | exact Or.inl rfl | exact Or.inr rfl))) (tgOk_name (by decide)) (fun _ _ _ _ _ => pts_nil') (fun _ _ _ _ _ => (pv_tup (pa_cons' (po_val (pv_var (pv 4))) (pa_cons' (po_val (pv_var (pv 5))) pa_nil')))))))))
 pb_nil))
 pb_nil))
 (pb_cons (ps_for' (own := [4, 5]) PassesOwn.never rfl (pi_items (pv_ix (ix_ixD hu) (po_var (pv 3)) (po_val pv_int) (by intro _ _; rfl))) (pg_tup rfl (pgs_cons (pg_name (i := 4) sc_law_pans.nd rfl (by first | exact Or.inl rfl | exact Or.inr rfl)) (pgs_cons (pg_name (i := 5) sc_law_pans.nd rfl (by first | exact Or.inl rfl | exact Or.inr rfl)) pgs_nil))) (tgOk_tup (tgsOk_cons (tgOk_name (by decide)) (tgsOk_cons (tgOk_name (by decide)) tgsOk_nil)))
 (pb_cons (ps_for' (own := [6, 7]) PassesOwn.never rfl (pi_items (pv_ix (ix_ixD hu) (po_var (pv 3)) (po_val pv_int) (by intro _ _; rfl))) (pg_tup rfl (pgs_cons (pg_name (i := 6) sc_law_pans.nd rfl (by first | exact Or.inl rfl | exact Or.inr rfl)) (pgs_cons (pg_name (i := 7) sc_law_pans.nd rfl (by first | exact Or.inl rfl | exact Or.inr rfl)) pgs_nil))) (tgOk_tup (tgsOk_cons (tgOk_name (by decide)) (tgsOk_cons (tgOk_name (by decide)) tgsOk_nil)))
 (pb_cons (ps_for' (own := [8, 9]) PassesOwn.never rfl (pi_items (pv_ix (ix_ixD hu) (po_var (pv 3)) (po_val pv_int) (by intro _ _; rfl))) (pg_tup rfl (pgs_cons (pg_name (i := 8) sc_law_pans.nd rfl (by first | exact Or.inl rfl | exact Or.inr rfl)) (pgs_cons (pg_name (i := 9) sc_law_pans.nd rfl (by first | exact Or.inl rfl | exact Or.inr rfl)) pgs_nil))) (tgOk_tup (tgsOk_cons (tgOk_name (by decide)) (tgsOk_cons (tgOk_name (by decide)) tgsOk_nil)))
 (pb_cons (ps_set' (i := 10) sc_law_pans.nd rfl (by first | exact Or.inl rfl | exact Or.inr rfl) (pv_bin op_subD (po_val (pv_bin op_subD (po_val (pv_bin op_subD (po_val (pv_bin op_addD (po_val (pv_bin op_addD (po_var (pv 4)) (po_var (pv 6)))) (po_var (pv 8)))) (po_var (pv 5)))) (po_var (pv 7)))) (po_var (pv 9))))
 (pb_cons (ps_set' (i := 11) sc_law_pans.nd rfl (by first | exact Or.inl rfl | exact Or.inr rfl) (pv_tup (pa_cons' (po_val (pv_tup (pa_cons' (po_val (pv_var (pv 4))) (pa_cons' (po_val (pv_var (pv 6))) (pa_cons' (po_val (pv_var (pv 8))) (pa_cons' (po_val (pv_if (pt_cmp' op_gtI (po_var (pv 10)) (po_val pv_int) (nomark _)) pv_int (pv_bin op_subD (po_val pv_int) (po_var (pv 10))))) pa_nil')))))) (pa_cons' (po_val (pv_tup (pa_cons' (po_val (pv_var (pv 5))) (pa_cons' (po_val (pv_var (pv 7))) (pa_cons' (po_val (pv_var (pv 9))) (pa_cons' (po_val (pv_if (pt_cmp' op_gtI (po_var (pv 10)) (po_val pv_int) (nomark _)) (pv_var (pv 10)) pv_int)) pa_nil')))))) pa_nil'))))
 (pb_cons (ps_if' (pt_val' (pv_call k_law_is_weighing hr (by rfl) (pa_cons' (po_val (pv_var (pv 0))) (pa_cons' (po_val (pv_var (pv 11))) pa_nil')))) (pb_cons (ps_expr' (pv_append (pv 2) (pv_var (pv 11))))
 pb_nil) pb_nil)
 pb_nil))))
 pb_nil))
 pb_nil))
 (pb_cons (ps_ret' (pv_var (pv 2)))
 pb_nil))))
theorem ok_law_cases {k : Nat} {f : Addr} {fd : FuncData} (F : Fun K "_law_cases" "_law_cases" s_law_cases f fd) (T : Txt P w K mg C) : FnOk P w K mg base CX0 (k + 1) f fd ["state"] (SpecOf ⟨P, w, K, C, "known"⟩ [.v] (F_law_cases)) := by
  refine F.ok sc_law_cases (fun vs H Q E h => spec_len h) (fun cdv A outer s H vs Q E hr h => ⟨_, ?_, body_ok (N := N_law_cases) (f := B_law_cases) (by decide) h⟩)
  have hu := hu64 hr
  have hu0 := hu00 hr
  have hu1 := hu65 hr
  show PBv (C, "known") _ (defBody s_law_cases) (B_law_cases)
  unfold B_law_cases
  exact (pb_cons (ps_ret' (pv_bin op_addD (po_val (pv_bin op_addD (po_val (pv_bin op_addD (po_val (pv_bin op_addD (po_val (pv_ix (ix_ixD hu) (po_var (pv 0)) (po_val pv_int) (by intro _ _; rfl))) (po_val (pv_ix (ix_ixD hu) (po_var (pv 0)) (po_val pv_int) (by intro _ _; rfl))))) (po_val (pv_ix (ix_ixD hu) (po_var (pv 0)) (po_val pv_int) (by intro _ _; rfl))))) (po_val (pv_ix (ix_ixD hu) (po_var (pv 0)) (po_val pv_int) (by intro _ _; rfl))))) (po_val (pv_ix (ix_ixD hu) (po_var (pv 0)) (po_val pv_int) (by intro _ _; rfl)))))
 pb_nil)
theorem ok_law_behind {k : Nat} {f : Addr} {fd : FuncData} (F : Fun K "_law_behind" "_law_behind" s_law_behind f fd) (T : Txt P w K mg C) (k_law_cases : Known P w K mg base (C, "known") "_law_cases" k [.v] F_law_cases) : FnOk P w K mg base CX0 (k + 1) f fd ["state", "weighing"] (SpecOf ⟨P, w, K, C, "known"⟩ [.v, .v] (F_law_behind)) := by
  refine F.ok sc_law_behind (fun vs H Q E h => spec_len h) (fun cdv A outer s H vs Q E hr h => ⟨_, ?_, body_ok (N := N_law_behind) (f := B_law_behind) (by decide) h⟩)
  have hu := hu64 hr
  have hu0 := hu00 hr
  have hu1 := hu65 hr
  show PBv (C, "known") _ (defBody s_law_behind) (B_law_behind)
  unfold B_law_behind
  exact (pb_cons (ps_asg' (own := [5, 6]) (pv_var (pv 1)) (pg_tup rfl (pgs_cons (pg_name (i := 5) sc_law_behind.nd rfl (by first | exact Or.inl rfl | exact Or.inr rfl)) (pgs_cons (pg_name (i := 6) sc_law_behind.nd rfl (by first | exact Or.inl rfl | exact Or.inr rfl)) pgs_nil))) (tgOk_tup (tgsOk_cons (tgOk_name (by decide)) (tgsOk_cons (tgOk_name (by decide)) tgsOk_nil))))
 (pb_cons (ps_setN (i := 2) sc_law_behind.nd rfl (by first | exact Or.inl rfl | exact Or.inr rfl) (pn_lst pa_nil'))
 (pb_cons (ps_for' (own := [7, 8]) PassesOwn.never rfl (pi_items (pv_tup (pa_cons' (po_val (pv_tup (pa_cons' (po_val (pv_var (pv 5))) (pa_cons' (po_val (pv_var (pv 6))) pa_nil')))) (pa_cons' (po_val (pv_tup (pa_cons' (po_val (pv_var (pv 6))) (pa_cons' (po_val (pv_var (pv 5))) pa_nil')))) pa_nil')))) (pg_tup rfl (pgs_cons (pg_name (i := 7) sc_law_behind.nd rfl (by first | exact Or.inl rfl | exact Or.inr rfl)) (pgs_cons (pg_name (i := 8) sc_law_behind.nd rfl (by first | exact Or.inl rfl | exact Or.inr rfl)) pgs_nil))) (tgOk_tup (tgsOk_cons (tgOk_name (by decide)) (tgsOk_cons (tgOk_name (by decide)) tgsOk_nil)))
 (pb_cons (ps_par' (i := 9) (j := 10) rfl sc_law_behind.nd rfl rfl (by decide) rfl rfl (pm_v (pv_bin op_addD (po_val (pv_ix (ix_ixD hu) (po_var (pv 7)) (po_val pv_int) (by intro _ _; rfl))) (po_val (pv_ix (ix_ixD hu) (po_var (pv 7)) (po_val pv_int) (by intro _ _; rfl)))) (pm_v (pv_bin op_addD (po_val (pv_ix (ix_ixD hu) (po_var (pv 8)) (po_val pv_int) (by intro _ _; rfl))) (po_val (pv_ix (ix_ixD hu) (po_var (pv 8)) (po_val pv_int) (by intro _ _; rfl)))) pm_nil)))
 (pb_cons (ps_expr' (pv_append (pv 2) (pv_if (pt_cmp' op_gtI (po_val (pv_bin op_addD (po_var (pv 9)) (po_var (pv 10)))) (po_val pv_int) (nomark _)) (pv_tup (pa_cons' (po_val pv_int) (pa_cons' (po_val (pv_var (pv 9))) (pa_cons' (po_val (pv_var (pv 10))) (pa_cons' (po_val (pv_bin op_subD (po_val (pv_bin op_subD (po_val (pv_callB (call_sumD rfl) (by rfl) T.m_sum (by rfl) (pa_cons' (po_val (pv_sliceA (po_var (pv 0)) po_none' (po_some' pv_int))) pa_nil'))) (po_var (pv 9)))) (po_var (pv 10)))) (pa_cons' (po_val pv_int) pa_nil')))))) pv_non)))
 pb_nil)))
 (pb_cons (ps_setLc' (i := 3) (own := [("at", 11)]) rfl sc_law_behind.nd rfl rfl (sw_true rfl rfl rfl rfl) (pi_range1' (by rfl) T.m_range (pa_cons' (po_val pv_int) pa_nil')) (blkOk_by (by kernel_rfl)) (fun _ _ _ _ _ => (pg_name (i := 11) sc_law_behind.nd rfl (by first | exact Or.inl rfl | exact Or.inr rfl))) (tgOk_name (by decide)) (fun _ _ _ _ _ => pts_nil') (fun _ _ _ _ _ => (pv_bin op_subD (po_val (pv_bin op_subD (po_val (pv_ix (ix_ixD hu) (po_var (pv 0)) (po_var (pv 11)) (by intro _ _; rfl))) (po_val (pv_ix (ix_ixD hu) (po_var (pv 5)) (po_var (pv 11)) (by intro _ _; rfl))))) (po_val (pv_ix (ix_ixD hu) (po_var (pv 6)) (po_var (pv 11)) (by intro _ _; rfl))))))
 (pb_cons (ps_set' (i := 4) sc_law_behind.nd rfl (by first | exact Or.inl rfl | exact Or.inr rfl) (pv_tup (pa_cons' (po_val (pv_ix (ix_ixD hu) (po_var (pv 3)) (po_val pv_int) (by intro _ _; rfl))) (pa_cons' (po_val (pv_ix (ix_ixD hu) (po_var (pv 3)) (po_val pv_int) (by intro _ _; rfl))) (pa_cons' (po_val (pv_ix (ix_ixD hu) (po_var (pv 3)) (po_val pv_int) (by intro _ _; rfl))) (pa_cons' (po_val (pv_bin op_subD (po_val (pv_callB (call_sumD rfl) (by rfl) T.m_sum (by rfl) (pa_cons' (po_val (pv_sliceA (po_var (pv 0)) po_none' (po_some' pv_int))) pa_nil'))) (po_val (pv_callB (call_sumD rfl) (by rfl) T.m_sum (by rfl) (pa_cons' (po_var (pv 3)) pa_nil'))))) (pa_cons' (po_val (pv_ix (ix_ixD hu) (po_var (pv 0)) (po_val pv_int) (by intro _ _; rfl))) pa_nil')))))))
 (pb_cons (ps_ret' (pv_tup (pa_cons' (po_val (pv_ix (ix_ixD hu) (po_var (pv 2)) (po_val pv_int) (by intro _ _; rfl))) (pa_cons' (po_val (pv_if (pt_cmp' op_gtI (po_val (pv_call k_law_cases hr (by rfl) (pa_cons' (po_val (pv_var (pv 4))) pa_nil'))) (po_val pv_int) (nomark _)) (pv_var (pv 4)) pv_non)) (pa_cons' (po_val (pv_ix (ix_ixD hu) (po_var (pv 2)) (po_val pv_int) (by intro _ _; rfl))) pa_nil')))))
 pb_nil))))))
theorem ok_law_can {k : Nat} {G_law_can : FD} {f : Addr} {fd : FuncData} (F : Fun K "_law_can" "_law_can" s_law_can f fd) (T : Txt P w K mg C) (k_law_pans : Known P w K mg base (C, "known") "_law_pans" k [.v] F_law_pans) (k_law_cases : Known P w K mg base (C, "known") "_law_cases" k [.v] F_law_cases) (k_law_behind : Known P w K mg base (C, "known") "_law_behind" k [.v, .v] F_law_behind) (k_law_can : Known P w K mg base (C, "known") "_law_can" k [.v, .v, .o] G_law_can) : FnOk P w K mg base CX0 (k + 1) f fd ["state", "many", "table"] (SpecOf ⟨P, w, K, C, "known"⟩ [.v, .v, .o] (F_law_can G_law_can)) := by
  refine F.ok sc_law_can (fun vs H Q E h => spec_len h) (fun cdv A outer s H vs Q E hr h => ⟨_, ?_, body_ok (N := N_law_can) (f := B_law_can G_law_can) (by decide) h⟩)
  have hu := hu64 hr
  have hu0 := hu00 hr
  have hu1 := hu65 hr
  show PBv (C, "known") _ (defBody s_law_can) (B_law_can G_law_can)
  unfold B_law_can
  exact (pb_cons (ps_if' (pt_of (pw_or' (pt_cmp' (op_eqD' hu) (po_val (pv_call k_law_cases hr (by rfl) (pa_cons' (po_val (pv_var (pv 0))) pa_nil'))) (po_val pv_int) (nomark _)) (pw_or1' (pt_cmp' (op_eqD' hu) (po_var (pv 1)) (po_val pv_int) (nomark _))))) (pb_cons (ps_ret' (pv_cmp (op_eqD' hu) (po_val (pv_call k_law_cases hr (by rfl) (pa_cons' (po_val (pv_var (pv 0))) pa_nil'))) (po_val pv_int) (nomark _)))
 pb_nil) pb_nil)
 (pb_cons (ps_if' (pt_cmp' (op_notInD' hu1) (po_val (pv_tup (pa_cons' (po_val (pv_var (pv 0))) (pa_cons' (po_val (pv_var (pv 1))) pa_nil')))) (po_var (pv 2)) (by with_unfolding_all rfl)) (pb_cons (ps_set' (i := 3) sc_law_can.nd rfl (by first | exact Or.inl rfl | exact Or.inr rfl) pv_bl)
 (pb_cons (ps_for' (own := [4]) PassesOwn.never rfl (pi_items (pv_call k_law_pans hr (by rfl) (pa_cons' (po_val (pv_var (pv 0))) pa_nil'))) (pg_name (i := 4) sc_law_can.nd rfl (by first | exact Or.inl rfl | exact Or.inr rfl)) (tgOk_name (by decide))
 (pb_cons (ps_setLc' (i := 5) (own := [("one", 6)]) rfl sc_law_can.nd rfl rfl (sw_true rfl rfl rfl rfl) (pi_items (pv_call k_law_behind hr (by rfl) (pa_cons' (po_val (pv_var (pv 0))) (pa_cons' (po_val (pv_var (pv 4))) pa_nil')))) (blkOk_by (by kernel_rfl)) (fun _ _ _ _ _ => (pg_name (i := 6) sc_law_can.nd rfl (by first | exact Or.inl rfl | exact Or.inr rfl))) (tgOk_name (by decide)) (fun _ _ _ _ _ => (pts_one' (pt_cmp' op_isntD (po_var (pv 6)) (po_val pv_non) (nomark _)))) (fun _ _ _ _ _ => (pv_var (pv 6))))
 (pb_cons (ps_if' (pt_of (pw_and' (pt_not' (pt_val' (pv_var (pv 3)))) (pw_and' (pt_cmp' op_gtI (po_val (pv_callB call_lenD (by rfl) T.m_len (by rfl) (pa_cons' (po_var (pv 5)) pa_nil'))) (po_val pv_int) (nomark _)) (pw_and1' (pt_cmp' op_leI (po_val (pv_callB (call_maxD rfl) (by rfl) T.m_max (by rfl) (pa_cons' (po_val (pv_new (pn_lc (own := [("one", 6)]) rfl sc_law_can.nd (pi_items (pv_var (pv 5))) (blkOk_by (by kernel_rfl)) (fun _ _ _ _ _ => (pg_name (i := 6) sc_law_can.nd rfl (by first | exact Or.inl rfl | exact Or.inr rfl))) (tgOk_name (by decide)) (fun _ _ _ _ _ => pts_nil') (fun _ _ _ _ _ => (pv_call k_law_cases hr (by rfl) (pa_cons' (po_val (pv_var (pv 6))) pa_nil')))))) pa_nil'))) (po_val (pv_ix (ix_ixD hu) (po_val (pv_tup (pa_cons' (po_val pv_int) (pa_cons' (po_val pv_int) (pa_cons' (po_val pv_int) (pa_cons' (po_val pv_int) pa_nil')))))) (po_val (pv_callB (call_minD rfl) (by rfl) T.m_min (by rfl) (pa_cons' (po_val pv_int) (pa_cons' (po_val (pv_bin op_subD (po_var (pv 1)) (po_val pv_int))) pa_nil')))) (by intro _ _; rfl))) (nomark _)))))) (pb_cons (ps_set' (i := 3) sc_law_can.nd rfl (by first | exact Or.inl rfl | exact Or.inr rfl) (pv_cmp (op_eqD' hu) (po_val (pv_new (pn_lc (own := [("one", 6)]) rfl sc_law_can.nd (pi_items (pv_var (pv 5))) (blkOk_by (by kernel_rfl)) (fun _ _ _ _ _ => (pg_name (i := 6) sc_law_can.nd rfl (by first | exact Or.inl rfl | exact Or.inr rfl))) (tgOk_name (by decide)) (fun _ _ _ _ _ => (pts_one' (pt_not' (pt_val' (pv_call k_law_can hr (by rfl) (pa_cons' (po_val (pv_var (pv 6))) (pa_cons' (po_val (pv_bin op_subD (po_var (pv 1)) (po_val pv_int))) (pa_cons' (po_var (pv 2)) pa_nil')))))))) (fun _ _ _ _ _ => (pv_var (pv 6)))))) (po_val (pv_new (pn_lst pa_nil'))) (nomark _)))
 pb_nil) pb_nil)
 pb_nil)))
 (pb_cons (ps_store (put_D hu) (po_var (pv 2)) (pv_tup (pa_cons' (po_val (pv_var (pv 0))) (pa_cons' (po_val (pv_var (pv 1))) pa_nil'))) (pv_var (pv 3)))
 pb_nil))) pb_nil)
 (pb_cons (ps_ret' (pv_ix (ix_ixD hu) (po_var (pv 2)) (po_val (pv_tup (pa_cons' (po_val (pv_var (pv 0))) (pa_cons' (po_val (pv_var (pv 1))) pa_nil')))) (by intro _ _; rfl)))
 pb_nil)))
theorem no_law_can {k : Nat} {f : Addr} {fd : FuncData} (F : Fun K "_law_can" "_law_can" s_law_can f fd) : FnOk P w K mg base CX0 (k + 1) f fd ["state", "many", "table"] (SpecOf ⟨P, w, K, C, "known"⟩ [.v, .v, .o] (R_law_can 0)) :=
  F.ok sc_law_can (fun vs H Q E h => spec_len h) (fun cdv A outer s H vs Q E hr h => by obtain ⟨_, _, _, _, _, _, e, _⟩ := h; cases e)
theorem ok_law {k : Nat} {f : Addr} {fd : FuncData} (F : Fun K "law" "law" s_law f fd) (T : Txt P w K mg C) (k_law_cup : KnownN P w K mg base (C, "known") "_law_cup" k [.v] F_law_cup) (k_most_unknown : Known P w K mg base (C, "known") "most_unknown" k [.v, .v] F_most_unknown) (k_fewest_weighings : Known P w K mg base (C, "known") "fewest_weighings" k [.v] F_fewest_weighings) (k_law_roll : Known P w K mg base (C, "known") "_law_roll" k [.o, .v] F_law_roll) (k_law_same : Known P w K mg base (C, "known") "_law_same" k [.v, .v] (R_law_same 4)) (k_law_some : Known P w K mg base (C, "known") "_law_some" k [.o, .v] F_law_some) (k_law_most : Known P w K mg base (C, "known") "_law_most" k [.v, .v] F_law_most) (k_law_can : Known P w K mg base (C, "known") "_law_can" k [.v, .v, .o] (R_law_can 5)) : FnOk P w K mg base CX0 (k + 1) f fd ["script"] (SpecOf ⟨P, w, K, C, "known"⟩ [.v] (F_law)) := by
  refine F.ok sc_law (fun vs H Q E h => spec_len h) (fun cdv A outer s H vs Q E hr h => ⟨_, ?_, body_ok (N := N_law) (f := B_law) (by decide) h⟩)
  have hu := hu64 hr
  have hu0 := hu00 hr
  have hu1 := hu65 hr
  show PBv (C, "known") _ (defBody s_law) (B_law)
  unfold B_law
  exact (pb_cons (ps_setN (i := 1) sc_law.nd rfl (by first | exact Or.inl rfl | exact Or.inr rfl) (pn_call k_law_cup hr (by rfl) (pa_cons' (po_val (pv_var (pv 0))) pa_nil')))
 (pb_cons (ps_for' (own := [2]) PassesOwn.never rfl (pi_range1' (by rfl) T.m_range (pa_cons' (po_val pv_int) pa_nil')) (pg_name (i := 2) sc_law.nd rfl (by first | exact Or.inl rfl | exact Or.inr rfl)) (tgOk_name (by decide))
 (pb_cons (ps_asg' (own := [7, 8]) (pv_tup (pa_cons' (po_val (pv_call k_law_roll hr (by rfl) (pa_cons' (po_var (pv 1)) (pa_cons' (po_val pv_int) pa_nil')))) (pa_cons' (po_val (pv_call k_law_some hr (by rfl) (pa_cons' (po_var (pv 1)) (pa_cons' (po_val (pv_new (pn_lst (pa_cons' (po_val pv_int) (pa_cons' (po_val pv_int) (pa_cons' (po_val pv_int) (pa_cons' (po_val (pv_call k_law_roll hr (by rfl) (pa_cons' (po_var (pv 1)) (pa_cons' (po_val pv_int) pa_nil')))) pa_nil'))))))) pa_nil')))) pa_nil'))) (pg_tup rfl (pgs_cons (pg_name (i := 7) sc_law.nd rfl (by first | exact Or.inl rfl | exact Or.inr rfl)) (pgs_cons (pg_name (i := 8) sc_law.nd rfl (by first | exact Or.inl rfl | exact Or.inr rfl)) pgs_nil))) (tgOk_tup (tgsOk_cons (tgOk_name (by decide)) (tgsOk_cons (tgOk_name (by decide)) tgsOk_nil))))
 (pb_cons (ps_if' (pt_not' (pt_val' (pv_call k_law_same hr (by rfl) (pa_cons' (po_val (pv_call k_most_unknown hr (by rfl) (pa_cons' (po_val (pv_var (pv 7))) (pa_cons' (po_val (pv_var (pv 8))) pa_nil')))) (pa_cons' (po_val (pv_call k_law_most hr (by rfl) (pa_cons' (po_val (pv_var (pv 7))) (pa_cons' (po_val (pv_var (pv 8))) pa_nil')))) pa_nil'))))) (pb_cons (ps_ret' pv_bl)
 pb_nil) pb_nil)
 pb_nil)))
 (pb_cons (ps_asg' (own := [7, 8]) (pv_tup (pa_cons' (po_val (pv_call k_law_roll hr (by rfl) (pa_cons' (po_var (pv 1)) (pa_cons' (po_val pv_int) pa_nil')))) (pa_cons' (po_val (pv_call k_law_roll hr (by rfl) (pa_cons' (po_var (pv 1)) (pa_cons' (po_val pv_int) pa_nil')))) pa_nil'))) (pg_tup rfl (pgs_cons (pg_name (i := 7) sc_law.nd rfl (by first | exact Or.inl rfl | exact Or.inr rfl)) (pgs_cons (pg_name (i := 8) sc_law.nd rfl (by first | exact Or.inl rfl | exact Or.inr rfl)) pgs_nil))) (tgOk_tup (tgsOk_cons (tgOk_name (by decide)) (tgsOk_cons (tgOk_name (by decide)) tgsOk_nil))))
 (pb_cons (ps_setN (i := 3) sc_law.nd rfl (by first | exact Or.inl rfl | exact Or.inr rfl) pn_dnewX)
 (pb_cons (ps_set' (i := 4) sc_law.nd rfl (by first | exact Or.inl rfl | exact Or.inr rfl) (pv_callB (call_maxD rfl) (by rfl) T.m_max (by rfl) (pa_cons' (po_val (pv_new (pn_lc (own := [("many", 5)]) rfl sc_law.nd (pi_range1' (by rfl) T.m_range (pa_cons' (po_val pv_int) pa_nil')) (blkOk_by (by kernel_rfl)) (fun _ _ _ _ _ => (pg_name (i := 5) sc_law.nd rfl (by first | exact Or.inl rfl | exact Or.inr rfl))) (tgOk_name (by decide)) (fun _ _ _ _ _ => (pts_one' (pt_val' (pv_call k_law_can hr (by rfl) (pa_cons' (po_val (pv_tup (pa_cons' (po_val (pv_var (pv 5))) (pa_cons' (po_val pv_int) (pa_cons' (po_val pv_int) (pa_cons' (po_val (pv_var (pv 8))) (pa_cons' (po_val pv_int) pa_nil'))))))) (pa_cons' (po_val (pv_var (pv 7))) (pa_cons' (po_var (pv 3)) pa_nil'))))))) (fun _ _ _ _ _ => (pv_var (pv 5)))))) pa_nil')))
 (pb_cons (ps_if' (pt_not' (pt_val' (pv_call k_law_same hr (by rfl) (pa_cons' (po_val (pv_call k_most_unknown hr (by rfl) (pa_cons' (po_val (pv_var (pv 7))) (pa_cons' (po_val (pv_var (pv 8))) pa_nil')))) (pa_cons' (po_val (pv_var (pv 4))) pa_nil'))))) (pb_cons (ps_ret' pv_bl)
 pb_nil) pb_nil)
 (pb_cons (ps_set' (i := 5) sc_law.nd rfl (by first | exact Or.inl rfl | exact Or.inr rfl) (pv_call k_most_unknown hr (by rfl) (pa_cons' (po_val pv_int) (pa_cons' (po_val (pv_var (pv 8))) pa_nil'))))
 (pb_cons (ps_set' (i := 6) sc_law.nd rfl (by first | exact Or.inl rfl | exact Or.inr rfl) (pv_call k_fewest_weighings hr (by rfl) (pa_cons' (po_val (pv_tup (pa_cons' (po_val (pv_var (pv 5))) (pa_cons' (po_val pv_int) (pa_cons' (po_val pv_int) (pa_cons' (po_val (pv_var (pv 8))) (pa_cons' (po_val pv_int) pa_nil'))))))) pa_nil')))
 (pb_cons (ps_ret' (pv_and (pv_cmp (op_eqD' hu) (po_var (pv 6)) (po_val pv_int) (nomark _)) (pv_one (pv_or (pv_cmp op_gtI (po_val (pv_call k_law_roll hr (by rfl) (pa_cons' (po_var (pv 1)) (pa_cons' (po_val pv_int) pa_nil')))) (po_val pv_int) (nomark _)) (pv_one (pv_call k_law_same hr (by rfl) (pa_cons' (po_val (pv_call k_most_unknown hr (by rfl) (pa_cons' (po_val pv_int) (pa_cons' (po_val pv_int) pa_nil')))) (pa_cons' (po_val pv_int) pa_nil'))))))))
 pb_nil)))))))))
end
end CoinK60

namespace CoinK60
open PySem PySem.Spec PyProof.Rows L2 L2.Pu
theorem all_mk {l : PySem.W.OpenLaw} {w : World} {K : PySem.W.Frag} {h : Heap} {mg : Str → Option Value} {fa C f0 f1 f2 f3 f4 f5 f6 f7 f8 f9 f10 f11 f12 f13 f14 f15 f16 f17 f18 f19 f20 f21 f22 f23 f24 f25 f26 f27 a_TOLD : Addr} (X : K.In h) (G : h.Ns mainGlobals mg) (hfa : mg "law" = some (.ref fa)) (HL : ∀ ns : List Int, ns.length ≤ 63 → F_law [scriptD ns] = some (.bool true, []))
    {od0 an0 od1 an1 od2 an2 od3 an3 od4 an4 od5 an5 od6 an6 od7 an7 od8 an8 od9 an9 od10 an10 od11 an11 od12 an12 od13 an13 od14 an14 od15 an15 od16 an16 od17 an17 od18 an18 od19 an19 od20 an20 od21 an21 od22 an22 od23 an23 od24 an24 od25 an25 od26 an26 od27 an27 o_TOLD : Option Addr} {sl0 sl1 sl2 sl3 sl4 sl5 sl6 sl7 sl8 sl9 sl10 sl11 sl12 sl13 sl14 sl15 sl16 sl17 sl18 sl19 sl20 sl21 sl22 sl23 sl24 sl25 sl26 sl27 sl_TOLD : Array (Option Value)} {oc0 kV0 dc0 pm0 cd0 ct0 oc1 kV1 dc1 pm1 cd1 ct1 oc2 kV2 dc2 pm2 cd2 ct2 oc3 kV3 dc3 pm3 cd3 ct3 oc4 kV4 dc4 pm4 cd4 ct4 oc5 kV5 dc5 pm5 cd5 ct5 oc6 kV6 dc6 pm6 cd6 ct6 oc7 kV7 dc7 pm7 cd7 ct7 oc8 kV8 dc8 pm8 cd8 ct8 oc9 kV9 dc9 pm9 cd9 ct9 oc10 kV10 dc10 pm10 cd10 ct10 oc11 kV11 dc11 pm11 cd11 ct11 oc12 kV12 dc12 pm12 cd12 ct12 oc13 kV13 dc13 pm13 cd13 ct13 oc14 kV14 dc14 pm14 cd14 ct14 oc15 kV15 dc15 pm15 cd15 ct15 oc16 kV16 dc16 pm16 cd16 ct16 oc17 kV17 dc17 pm17 cd17 ct17 oc18 kV18 dc18 pm18 cd18 ct18 oc19 kV19 dc19 pm19 cd19 ct19 oc20 kV20 dc20 pm20 cd20 ct20 oc21 kV21 dc21 pm21 cd21 ct21 oc22 kV22 dc22 pm22 cd22 ct22 oc23 kV23 dc23 pm23 cd23 ct23 oc24 kV24 dc24 pm24 cd24 ct24 oc25 kV25 dc25 pm25 cd25 ct25 oc26 kV26 dc26 pm26 cd26 ct26 oc27 kV27 dc27 pm27 cd27 ct27 : Value} {t_COINS t_ROUNDS n_TOLD t_TOLD0 t_TOLD1 t_TOLD2 t_TOLD3 t_TOLD4 t_TOLD5 t_TOLD6 t_TOLD7 : Nat}
    (aC : PySem.W.nsIn K mainGlobals "Search" = some (some (.ref C)))
    (a0 : PySem.W.nsIn K mainGlobals "_law_cup" = some (some (.ref f0)))
    (l0 : K.lookup f0 = some ⟨oc0, od0, .func (PySem.W.fnOf "_law_cup" "_law_cup" (defArgs s_law_cup) (defBody s_law_cup) (defScope s_law_cup) .none kV0 dc0 pm0 an0 cd0 ct0), sl0⟩)
    (c0 : PySem.W.codeIn K cd0 "_law_cup" = true)
    (k0 : PySem.W.keepIn K (.ref f0) = true)
    (a1 : PySem.W.nsIn K mainGlobals "is_whole" = some (some (.ref f1)))
    (l1 : K.lookup f1 = some ⟨oc1, od1, .func (PySem.W.fnOf "is_whole" "is_whole" (defArgs s_is_whole) (defBody s_is_whole) (defScope s_is_whole) .none kV1 dc1 pm1 an1 cd1 ct1), sl1⟩)
    (c1 : PySem.W.codeIn K cd1 "is_whole" = true)
    (k1 : PySem.W.keepIn K (.ref f1) = true)
    (a2 : PySem.W.nsIn K mainGlobals "fits_whole" = some (some (.ref f2)))
    (l2 : K.lookup f2 = some ⟨oc2, od2, .func (PySem.W.fnOf "fits_whole" "fits_whole" (defArgs s_fits_whole) (defBody s_fits_whole) (defScope s_fits_whole) .none kV2 dc2 pm2 an2 cd2 ct2), sl2⟩)
    (c2 : PySem.W.codeIn K cd2 "fits_whole" = true)
    (k2 : PySem.W.keepIn K (.ref f2) = true)
    (a3 : PySem.W.nsIn K mainGlobals "need_rounds" = some (some (.ref f3)))
    (l3 : K.lookup f3 = some ⟨oc3, od3, .func (PySem.W.fnOf "need_rounds" "need_rounds" (defArgs s_need_rounds) (defBody s_need_rounds) (defScope s_need_rounds) .none kV3 dc3 pm3 an3 cd3 ct3), sl3⟩)
    (c3 : PySem.W.codeIn K cd3 "need_rounds" = true)
    (k3 : PySem.W.keepIn K (.ref f3) = true)
    (a4 : PySem.W.findIn K (.ref C) "__init__" = some (some (.ref f4)))
    (i4 : PySem.W.isFn K (.ref f4) = true)
    (l4 : K.lookup f4 = some ⟨oc4, od4, .func (PySem.W.fnOf "__init__" "Search.__init__" (defArgs s_Search_init) (defBody s_Search_init) (defScope s_Search_init) .none kV4 dc4 pm4 an4 cd4 ct4), sl4⟩)
    (c4 : PySem.W.codeIn K cd4 "Search.__init__" = true)
    (k4 : PySem.W.keepIn K (.ref f4) = true)
    (a5 : PySem.W.nsIn K mainGlobals "many_in" = some (some (.ref f5)))
    (l5 : K.lookup f5 = some ⟨oc5, od5, .func (PySem.W.fnOf "many_in" "many_in" (defArgs s_many_in) (defBody s_many_in) (defScope s_many_in) .none kV5 dc5 pm5 an5 cd5 ct5), sl5⟩)
    (c5 : PySem.W.codeIn K cd5 "many_in" = true)
    (k5 : PySem.W.keepIn K (.ref f5) = true)
    (a6 : PySem.W.nsIn K mainGlobals "shares_of" = some (some (.ref f6)))
    (l6 : K.lookup f6 = some ⟨oc6, od6, .func (PySem.W.fnOf "shares_of" "shares_of" (defArgs s_shares_of) (defBody s_shares_of) (defScope s_shares_of) .none kV6 dc6 pm6 an6 cd6 ct6), sl6⟩)
    (c6 : PySem.W.codeIn K cd6 "shares_of" = true)
    (k6 : PySem.W.keepIn K (.ref f6) = true)
    (a7 : PySem.W.nsIn K mainGlobals "weighings_in" = some (some (.ref f7)))
    (l7 : K.lookup f7 = some ⟨oc7, od7, .func (PySem.W.fnOf "weighings_in" "weighings_in" (defArgs s_weighings_in) (defBody s_weighings_in) (defScope s_weighings_in) .none kV7 dc7 pm7 an7 cd7 ct7), sl7⟩)
    (c7 : PySem.W.codeIn K cd7 "weighings_in" = true)
    (k7 : PySem.W.keepIn K (.ref f7) = true)
    (a8 : PySem.W.nsIn K mainGlobals "rest_of" = some (some (.ref f8)))
    (l8 : K.lookup f8 = some ⟨oc8, od8, .func (PySem.W.fnOf "rest_of" "rest_of" (defArgs s_rest_of) (defBody s_rest_of) (defScope s_rest_of) .none kV8 dc8 pm8 an8 cd8 ct8), sl8⟩)
    (c8 : PySem.W.codeIn K cd8 "rest_of" = true)
    (k8 : PySem.W.keepIn K (.ref f8) = true)
    (a9 : PySem.W.nsIn K mainGlobals "results_in" = some (some (.ref f9)))
    (l9 : K.lookup f9 = some ⟨oc9, od9, .func (PySem.W.fnOf "results_in" "results_in" (defArgs s_results_in) (defBody s_results_in) (defScope s_results_in) .none kV9 dc9 pm9 an9 cd9 ct9), sl9⟩)
    (c9 : PySem.W.codeIn K cd9 "results_in" = true)
    (k9 : PySem.W.keepIn K (.ref f9) = true)
    (a10 : PySem.W.findIn K (.ref C) "first" = some (some (.ref f10)))
    (i10 : PySem.W.isFn K (.ref f10) = true)
    (l10 : K.lookup f10 = some ⟨oc10, od10, .func (PySem.W.fnOf "first" "Search.first" (defArgs s_Search_first) (defBody s_Search_first) (defScope s_Search_first) .none kV10 dc10 pm10 an10 cd10 ct10), sl10⟩)
    (c10 : PySem.W.codeIn K cd10 "Search.first" = true)
    (k10 : PySem.W.keepIn K (.ref f10) = true)
    (a11 : PySem.W.findIn K (.ref C) "can" = some (some (.ref f11)))
    (i11 : PySem.W.isFn K (.ref f11) = true)
    (l11 : K.lookup f11 = some ⟨oc11, od11, .func (PySem.W.fnOf "can" "Search.can" (defArgs s_Search_can) (defBody s_Search_can) (defScope s_Search_can) .none kV11 dc11 pm11 an11 cd11 ct11), sl11⟩)
    (c11 : PySem.W.codeIn K cd11 "Search.can" = true)
    (k11 : PySem.W.keepIn K (.ref f11) = true)
    (a12 : PySem.W.nsIn K mainGlobals "most_unknown" = some (some (.ref f12)))
    (l12 : K.lookup f12 = some ⟨oc12, od12, .func (PySem.W.fnOf "most_unknown" "most_unknown" (defArgs s_most_unknown) (defBody s_most_unknown) (defScope s_most_unknown) .none kV12 dc12 pm12 an12 cd12 ct12), sl12⟩)
    (c12 : PySem.W.codeIn K cd12 "most_unknown" = true)
    (k12 : PySem.W.keepIn K (.ref f12) = true)
    (a13 : PySem.W.nsIn K mainGlobals "is_tuple_of" = some (some (.ref f13)))
    (l13 : K.lookup f13 = some ⟨oc13, od13, .func (PySem.W.fnOf "is_tuple_of" "is_tuple_of" (defArgs s_is_tuple_of) (defBody s_is_tuple_of) (defScope s_is_tuple_of) .none kV13 dc13 pm13 an13 cd13 ct13), sl13⟩)
    (c13 : PySem.W.codeIn K cd13 "is_tuple_of" = true)
    (k13 : PySem.W.keepIn K (.ref f13) = true)
    (a14 : PySem.W.nsIn K mainGlobals "fits_state" = some (some (.ref f14)))
    (l14 : K.lookup f14 = some ⟨oc14, od14, .func (PySem.W.fnOf "fits_state" "fits_state" (defArgs s_fits_state) (defBody s_fits_state) (defScope s_fits_state) .none kV14 dc14 pm14 an14 cd14 ct14), sl14⟩)
    (c14 : PySem.W.codeIn K cd14 "fits_state" = true)
    (k14 : PySem.W.keepIn K (.ref f14) = true)
    (a15 : PySem.W.nsIn K mainGlobals "need_state" = some (some (.ref f15)))
    (l15 : K.lookup f15 = some ⟨oc15, od15, .func (PySem.W.fnOf "need_state" "need_state" (defArgs s_need_state) (defBody s_need_state) (defScope s_need_state) .none kV15 dc15 pm15 an15 cd15 ct15), sl15⟩)
    (c15 : PySem.W.codeIn K cd15 "need_state" = true)
    (k15 : PySem.W.keepIn K (.ref f15) = true)
    (a16 : PySem.W.findIn K (.ref C) "cost" = some (some (.ref f16)))
    (i16 : PySem.W.isFn K (.ref f16) = true)
    (l16 : K.lookup f16 = some ⟨oc16, od16, .func (PySem.W.fnOf "cost" "Search.cost" (defArgs s_Search_cost) (defBody s_Search_cost) (defScope s_Search_cost) .none kV16 dc16 pm16 an16 cd16 ct16), sl16⟩)
    (c16 : PySem.W.codeIn K cd16 "Search.cost" = true)
    (k16 : PySem.W.keepIn K (.ref f16) = true)
    (a17 : PySem.W.nsIn K mainGlobals "fewest_weighings" = some (some (.ref f17)))
    (l17 : K.lookup f17 = some ⟨oc17, od17, .func (PySem.W.fnOf "fewest_weighings" "fewest_weighings" (defArgs s_fewest_weighings) (defBody s_fewest_weighings) (defScope s_fewest_weighings) .none kV17 dc17 pm17 an17 cd17 ct17), sl17⟩)
    (c17 : PySem.W.codeIn K cd17 "fewest_weighings" = true)
    (k17 : PySem.W.keepIn K (.ref f17) = true)
    (a18 : PySem.W.nsIn K mainGlobals "_law_roll" = some (some (.ref f18)))
    (l18 : K.lookup f18 = some ⟨oc18, od18, .func (PySem.W.fnOf "_law_roll" "_law_roll" (defArgs s_law_roll) (defBody s_law_roll) (defScope s_law_roll) .none kV18 dc18 pm18 an18 cd18 ct18), sl18⟩)
    (c18 : PySem.W.codeIn K cd18 "_law_roll" = true)
    (k18 : PySem.W.keepIn K (.ref f18) = true)
    (a19 : PySem.W.nsIn K mainGlobals "_law_same" = some (some (.ref f19)))
    (l19 : K.lookup f19 = some ⟨oc19, od19, .func (PySem.W.fnOf "_law_same" "_law_same" (defArgs s_law_same) (defBody s_law_same) (defScope s_law_same) .none kV19 dc19 pm19 an19 cd19 ct19), sl19⟩)
    (c19 : PySem.W.codeIn K cd19 "_law_same" = true)
    (k19 : PySem.W.keepIn K (.ref f19) = true)
    (a20 : PySem.W.nsIn K mainGlobals "_law_some" = some (some (.ref f20)))
    (l20 : K.lookup f20 = some ⟨oc20, od20, .func (PySem.W.fnOf "_law_some" "_law_some" (defArgs s_law_some) (defBody s_law_some) (defScope s_law_some) .none kV20 dc20 pm20 an20 cd20 ct20), sl20⟩)
    (c20 : PySem.W.codeIn K cd20 "_law_some" = true)
    (k20 : PySem.W.keepIn K (.ref f20) = true)
    (a21 : PySem.W.nsIn K mainGlobals "_law_most" = some (some (.ref f21)))
    (l21 : K.lookup f21 = some ⟨oc21, od21, .func (PySem.W.fnOf "_law_most" "_law_most" (defArgs s_law_most) (defBody s_law_most) (defScope s_law_most) .none kV21 dc21 pm21 an21 cd21 ct21), sl21⟩)
    (c21 : PySem.W.codeIn K cd21 "_law_most" = true)
    (k21 : PySem.W.keepIn K (.ref f21) = true)
    (a22 : PySem.W.nsIn K mainGlobals "_law_is_weighing" = some (some (.ref f22)))
    (l22 : K.lookup f22 = some ⟨oc22, od22, .func (PySem.W.fnOf "_law_is_weighing" "_law_is_weighing" (defArgs s_law_is_weighing) (defBody s_law_is_weighing) (defScope s_law_is_weighing) .none kV22 dc22 pm22 an22 cd22 ct22), sl22⟩)
    (c22 : PySem.W.codeIn K cd22 "_law_is_weighing" = true)
    (k22 : PySem.W.keepIn K (.ref f22) = true)
    (a23 : PySem.W.nsIn K mainGlobals "_law_pans" = some (some (.ref f23)))
    (l23 : K.lookup f23 = some ⟨oc23, od23, .func (PySem.W.fnOf "_law_pans" "_law_pans" (defArgs s_law_pans) (defBody s_law_pans) (defScope s_law_pans) .none kV23 dc23 pm23 an23 cd23 ct23), sl23⟩)
    (c23 : PySem.W.codeIn K cd23 "_law_pans" = true)
    (k23 : PySem.W.keepIn K (.ref f23) = true)
    (a24 : PySem.W.nsIn K mainGlobals "_law_cases" = some (some (.ref f24)))
    (l24 : K.lookup f24 = some ⟨oc24, od24, .func (PySem.W.fnOf "_law_cases" "_law_cases" (defArgs s_law_cases) (defBody s_law_cases) (defScope s_law_cases) .none kV24 dc24 pm24 an24 cd24 ct24), sl24⟩)
    (c24 : PySem.W.codeIn K cd24 "_law_cases" = true)
    (k24 : PySem.W.keepIn K (.ref f24) = true)
    (a25 : PySem.W.nsIn K mainGlobals "_law_behind" = some (some (.ref f25)))
    (l25 : K.lookup f25 = some ⟨oc25, od25, .func (PySem.W.fnOf "_law_behind" "_law_behind" (defArgs s_law_behind) (defBody s_law_behind) (defScope s_law_behind) .none kV25 dc25 pm25 an25 cd25 ct25), sl25⟩)
    (c25 : PySem.W.codeIn K cd25 "_law_behind" = true)
    (k25 : PySem.W.keepIn K (.ref f25) = true)
    (a26 : PySem.W.nsIn K mainGlobals "_law_can" = some (some (.ref f26)))
    (l26 : K.lookup f26 = some ⟨oc26, od26, .func (PySem.W.fnOf "_law_can" "_law_can" (defArgs s_law_can) (defBody s_law_can) (defScope s_law_can) .none kV26 dc26 pm26 an26 cd26 ct26), sl26⟩)
    (c26 : PySem.W.codeIn K cd26 "_law_can" = true)
    (k26 : PySem.W.keepIn K (.ref f26) = true)
    (a27 : PySem.W.nsIn K mainGlobals "law" = some (some (.ref f27)))
    (l27 : K.lookup f27 = some ⟨oc27, od27, .func (PySem.W.fnOf "law" "law" (defArgs s_law) (defBody s_law) (defScope s_law) .none kV27 dc27 pm27 an27 cd27 ct27), sl27⟩)
    (c27 : PySem.W.codeIn K cd27 "law" = true)
    (k27 : PySem.W.keepIn K (.ref f27) = true)
    (pg : PySem.W.plainGet K C Str.empty = true)
    (hd : PySem.W.hasDictIn K C = true)
    (po : PySem.W.plainOver K C = true)
    (sa : PySem.W.findIn K (.ref C) "__setattr__" = some (some (.builtin "object.__setattr__")))
    (mk : PySem.W.makesIn K C = true)
    (kc : PySem.W.keepIn K (.ref C) = true)
    (nA : PySem.W.findIn K (.ref C) "known" = some none)
    (z_abs : PySem.W.nsIn K mainGlobals "abs" = some none)
    (z_all : PySem.W.nsIn K mainGlobals "all" = some none)
    (z_bool : PySem.W.nsIn K mainGlobals "bool" = some none)
    (z_int : PySem.W.nsIn K mainGlobals "int" = some none)
    (z_isinstance : PySem.W.nsIn K mainGlobals "isinstance" = some none)
    (z_len : PySem.W.nsIn K mainGlobals "len" = some none)
    (z_list : PySem.W.nsIn K mainGlobals "list" = some none)
    (z_max : PySem.W.nsIn K mainGlobals "max" = some none)
    (z_min : PySem.W.nsIn K mainGlobals "min" = some none)
    (z_range : PySem.W.nsIn K mainGlobals "range" = some none)
    (z_str : PySem.W.nsIn K mainGlobals "str" = some none)
    (z_sum : PySem.W.nsIn K mainGlobals "sum" = some none)
    (z_tuple : PySem.W.nsIn K mainGlobals "tuple" = some none)
    (z_zip : PySem.W.nsIn K mainGlobals "zip" = some none)
    (q_COINS : PySem.W.nsIn K mainGlobals "COINS" = some (some (.int 14 t_COINS)))
    (q_ROUNDS : PySem.W.nsIn K mainGlobals "ROUNDS" = some (some (.int 7 t_ROUNDS)))
    (q_TOLD : PySem.W.nsIn K mainGlobals "TOLD" = some (some (.ref a_TOLD)))
    (y_TOLD : K.lookup a_TOLD = some ⟨.type "tuple", o_TOLD, .seq #[.int 1 t_TOLD0, .int 3 t_TOLD1, .int 9 t_TOLD2, .int 27 t_TOLD3, .int 81 t_TOLD4, .int 243 t_TOLD5, .int 729 t_TOLD6, .int 2187 t_TOLD7] n_TOLD, sl_TOLD⟩) :
    ∃ fd : FuncData, (∀ (s : Shared) (v : Value), BindsTo s fd ⟨[v], []⟩ [("script", v)]) ∧ ∀ base : Heap, K.In base → base.Ns mainGlobals mg → FnOk l.prog w K mg base CX0 26 fa fd ["script"] (spLawR K) := by
  have e := hfa.symm.trans (PySem.W.mg_of X G a27)
  cases e
  have T : Txt l.prog w K mg C := ⟨PySem.W.mg_none_of X G z_abs, PySem.W.mg_none_of X G z_all, PySem.W.mg_none_of X G z_bool, PySem.W.mg_none_of X G z_int, PySem.W.mg_none_of X G z_isinstance, PySem.W.mg_none_of X G z_len, PySem.W.mg_none_of X G z_list, PySem.W.mg_none_of X G z_max, PySem.W.mg_none_of X G z_min, PySem.W.mg_none_of X G z_range, PySem.W.mg_none_of X G z_str, PySem.W.mg_none_of X G z_sum, PySem.W.mg_none_of X G z_tuple, PySem.W.mg_none_of X G z_zip, ⟨_, PySem.W.mg_of X G q_COINS⟩, ⟨_, PySem.W.mg_of X G q_ROUNDS⟩, ⟨_, PySem.W.mg_of X G q_TOLD, fun H => .tup (xs := [.int 1, .int 3, .int 9, .int 27, .int 81, .int 243, .int 729, .int 2187]) (.inr ⟨_, _, _, y_TOLD, rfl, rfl, by show 8 ≤ sizeLine; decide, (.cons ⟨_, rfl⟩ (.cons ⟨_, rfl⟩ (.cons ⟨_, rfl⟩ (.cons ⟨_, rfl⟩ (.cons ⟨_, rfl⟩ (.cons ⟨_, rfl⟩ (.cons ⟨_, rfl⟩ (.cons ⟨_, rfl⟩ .nil))))))))⟩) (.cons (.int _) (.cons (.int _) (.cons (.int _) (.cons (.int _) (.cons (.int _) (.cons (.int _) (.cons (.int _) (.cons (.int _) .nil))))))))⟩, ⟨pg, hd, po, sa⟩, nA, PySem.W.mg_of X G aC⟩
  have F0 := fun_mk (st := s_law_cup) l0 c0 k0
  have b0 := F0.binds (ps := ["script"]) fun _ _ _ _ _ _ us hl => match us, hl with | [_], _ => rfl
  have F1 := fun_mk (st := s_is_whole) l1 c1 k1
  have b1 := F1.binds (ps := ["value"]) fun _ _ _ _ _ _ us hl => match us, hl with | [_], _ => rfl
  have F2 := fun_mk (st := s_fits_whole) l2 c2 k2
  have b2 := F2.binds (ps := ["value", "low", "high"]) fun _ _ _ _ _ _ us hl => match us, hl with | [_, _, _], _ => rfl
  have F3 := fun_mk (st := s_need_rounds) l3 c3 k3
  have b3 := F3.binds (ps := ["value"]) fun _ _ _ _ _ _ us hl => match us, hl with | [_], _ => rfl
  have F4 := fun_mk (st := s_Search_init) l4 c4 k4
  have b4 := F4.binds (ps := ["self"]) fun _ _ _ _ _ _ us hl => match us, hl with | [_], _ => rfl
  have F5 := fun_mk (st := s_many_in) l5 c5 k5
  have b5 := F5.binds (ps := ["state"]) fun _ _ _ _ _ _ us hl => match us, hl with | [_], _ => rfl
  have F6 := fun_mk (st := s_shares_of) l6 c6 k6
  have b6 := F6.binds (ps := ["most"]) fun _ _ _ _ _ _ us hl => match us, hl with | [_], _ => rfl
  have F7 := fun_mk (st := s_weighings_in) l7 c7 k7
  have b7 := F7.binds (ps := ["state"]) fun _ _ _ _ _ _ us hl => match us, hl with | [_], _ => rfl
  have F8 := fun_mk (st := s_rest_of) l8 c8 k8
  have b8 := F8.binds (ps := ["state", "unknown", "heavy", "light", "none"]) fun _ _ _ _ _ _ us hl => match us, hl with | [_, _, _, _, _], _ => rfl
  have F9 := fun_mk (st := s_results_in) l9 c9 k9
  have b9 := F9.binds (ps := ["state", "weighing"]) fun _ _ _ _ _ _ us hl => match us, hl with | [_, _], _ => rfl
  have F10 := fun_mk (st := s_Search_first) l10 c10 k10
  have b10 := F10.binds (ps := ["self", "state", "many"]) fun _ _ _ _ _ _ us hl => match us, hl with | [_, _, _], _ => rfl
  have F11 := fun_mk (st := s_Search_can) l11 c11 k11
  have b11 := F11.binds (ps := ["self", "state", "many"]) fun _ _ _ _ _ _ us hl => match us, hl with | [_, _, _], _ => rfl
  have F12 := fun_mk (st := s_most_unknown) l12 c12 k12
  have b12 := F12.binds (ps := ["number", "good"]) fun _ _ _ _ _ _ us hl => match us, hl with | [_, _], _ => rfl
  have F13 := fun_mk (st := s_is_tuple_of) l13 c13 k13
  have b13 := F13.binds (ps := ["value", "least", "most"]) fun _ _ _ _ _ _ us hl => match us, hl with | [_, _, _], _ => rfl
  have F14 := fun_mk (st := s_fits_state) l14 c14 k14
  have b14 := F14.binds (ps := ["value"]) fun _ _ _ _ _ _ us hl => match us, hl with | [_], _ => rfl
  have F15 := fun_mk (st := s_need_state) l15 c15 k15
  have b15 := F15.binds (ps := ["value"]) fun _ _ _ _ _ _ us hl => match us, hl with | [_], _ => rfl
  have F16 := fun_mk (st := s_Search_cost) l16 c16 k16
  have b16 := F16.binds (ps := ["self", "state"]) fun _ _ _ _ _ _ us hl => match us, hl with | [_, _], _ => rfl
  have F17 := fun_mk (st := s_fewest_weighings) l17 c17 k17
  have b17 := F17.binds (ps := ["state"]) fun _ _ _ _ _ _ us hl => match us, hl with | [_], _ => rfl
  have F18 := fun_mk (st := s_law_roll) l18 c18 k18
  have b18 := F18.binds (ps := ["cup", "many"]) fun _ _ _ _ _ _ us hl => match us, hl with | [_, _], _ => rfl
  have F19 := fun_mk (st := s_law_same) l19 c19 k19
  have b19 := F19.binds (ps := ["told", "due"]) fun _ _ _ _ _ _ us hl => match us, hl with | [_, _], _ => rfl
  have F20 := fun_mk (st := s_law_some) l20 c20 k20
  have b20 := F20.binds (ps := ["cup", "things"]) fun _ _ _ _ _ _ us hl => match us, hl with | [_, _], _ => rfl
  have F21 := fun_mk (st := s_law_most) l21 c21 k21
  have b21 := F21.binds (ps := ["number", "good"]) fun _ _ _ _ _ _ us hl => match us, hl with | [_, _], _ => rfl
  have F22 := fun_mk (st := s_law_is_weighing) l22 c22 k22
  have b22 := F22.binds (ps := ["state", "value"]) fun _ _ _ _ _ _ us hl => match us, hl with | [_, _], _ => rfl
  have F23 := fun_mk (st := s_law_pans) l23 c23 k23
  have b23 := F23.binds (ps := ["state"]) fun _ _ _ _ _ _ us hl => match us, hl with | [_], _ => rfl
  have F24 := fun_mk (st := s_law_cases) l24 c24 k24
  have b24 := F24.binds (ps := ["state"]) fun _ _ _ _ _ _ us hl => match us, hl with | [_], _ => rfl
  have F25 := fun_mk (st := s_law_behind) l25 c25 k25
  have b25 := F25.binds (ps := ["state", "weighing"]) fun _ _ _ _ _ _ us hl => match us, hl with | [_, _], _ => rfl
  have F26 := fun_mk (st := s_law_can) l26 c26 k26
  have b26 := F26.binds (ps := ["state", "many", "table"]) fun _ _ _ _ _ _ us hl => match us, hl with | [_, _, _], _ => rfl
  have F27 := fun_mk (st := s_law) l27 c27 k27
  have b27 := F27.binds (ps := ["script"]) fun _ _ _ _ _ _ us hl => match us, hl with | [_], _ => rfl
  refine ⟨PySem.W.fnOf "law" "law" (defArgs s_law) (defBody s_law) (defScope s_law) .none kV27 dc27 pm27 an27 cd27 ct27, fun s v => .of_eq rfl, fun base _ _ => ?_⟩
  · have K_law_cup : KnownN l.prog w K mg base (C, "known") "_law_cup" 1 [.v] F_law_cup := ⟨⟨_, _, _, PySem.W.mg_of X G a0, k0, b0, ok_law_cup (k := 0) (base := base) F0 T⟩⟩
    have K_is_whole : Known l.prog w K mg base (C, "known") "is_whole" 1 [.v] F_is_whole := ⟨⟨_, _, _, PySem.W.mg_of X G a1, k1, b1, ok_is_whole (k := 0) (base := base) F1 T⟩⟩
    have K_fits_whole : Known l.prog w K mg base (C, "known") "fits_whole" 2 [.v, .v, .v] F_fits_whole := ⟨⟨_, _, _, PySem.W.mg_of X G a2, k2, b2, ok_fits_whole (k := 1) (base := base) F2 T (k_is_whole := K_is_whole.mono (by omega))⟩⟩
    have K_need_rounds : Known l.prog w K mg base (C, "known") "need_rounds" 3 [.v] F_need_rounds := ⟨⟨_, _, _, PySem.W.mg_of X G a3, k3, b3, ok_need_rounds (k := 2) (base := base) F3 T (k_fits_whole := K_fits_whole.mono (by omega))⟩⟩
    have K_init := ok_init (P := l.prog) (w := w) (mg := mg) (base := base) (k := 0) F4 T
    have K_many_in : Known l.prog w K mg base (C, "known") "many_in" 1 [.v] F_many_in := ⟨⟨_, _, _, PySem.W.mg_of X G a5, k5, b5, ok_many_in (k := 0) (base := base) F5 T⟩⟩
    have K_shares_of : Known l.prog w K mg base (C, "known") "shares_of" 1 [.v] F_shares_of := ⟨⟨_, _, _, PySem.W.mg_of X G a6, k6, b6, ok_shares_of (k := 0) (base := base) F6 T⟩⟩
    have K_weighings_in : Known l.prog w K mg base (C, "known") "weighings_in" 2 [.v] F_weighings_in := ⟨⟨_, _, _, PySem.W.mg_of X G a7, k7, b7, ok_weighings_in (k := 1) (base := base) F7 T (k_shares_of := K_shares_of.mono (by omega))⟩⟩
    have K_rest_of : Known l.prog w K mg base (C, "known") "rest_of" 2 [.v, .v, .v, .v, .v] F_rest_of := ⟨⟨_, _, _, PySem.W.mg_of X G a8, k8, b8, ok_rest_of (k := 1) (base := base) F8 T (k_many_in := K_many_in.mono (by omega))⟩⟩
    have K_results_in : Known l.prog w K mg base (C, "known") "results_in" 3 [.v, .v] F_results_in := ⟨⟨_, _, _, PySem.W.mg_of X G a9, k9, b9, ok_results_in (k := 2) (base := base) F9 T (k_rest_of := K_rest_of.mono (by omega))⟩⟩
    have KR_Search_can : ∀ n : Nat, KnownM l.prog w K mg base (C, "known") "can" (3 + 2 * n + 1) [.b, .v, .v] (R_Search_can n) := by
      intro n
      induction n with
      | zero => exact ⟨⟨_, _, _, ⟨pg, hd, po, sa⟩, ⟨a11, i11, k11⟩, (by show ("can" : Str) ≠ "known"; decide +kernel), b11, no_Search_can (k := 3) F11⟩⟩
      | succ n ih =>
        have J_Search_first : KnownM l.prog w K mg base (C, "known") "first" (3 + 2 * n + 2) [.b, .v, .v] _ := ⟨⟨_, _, _, ⟨pg, hd, po, sa⟩, ⟨a10, i10, k10⟩, (by show ("first" : Str) ≠ "known"; decide +kernel), b10, ok_Search_first (k := (3 + 2 * n + 1)) (base := base) F10 T (k_weighings_in := K_weighings_in.mono (by omega)) (k_results_in := K_results_in.mono (by omega)) (k_Search_can := ih.mono (by omega))⟩⟩
        have J := ok_Search_can (k := (3 + 2 * n + 2)) (base := base) F11 T (k_many_in := K_many_in.mono (by omega)) (k_Search_first := J_Search_first.mono (by omega))
        exact ⟨⟨_, _, _, ⟨pg, hd, po, sa⟩, ⟨a11, i11, k11⟩, (by show ("can" : Str) ≠ "known"; decide +kernel), b11, J.mono (by omega)⟩⟩
    have K_Search_can := KR_Search_can 9
    have K_Search_first : KnownM l.prog w K mg base (C, "known") "first" 23 [.b, .v, .v] (F_Search_first (R_Search_can 9)) := ⟨⟨_, _, _, ⟨pg, hd, po, sa⟩, ⟨a10, i10, k10⟩, (by show ("first" : Str) ≠ "known"; decide +kernel), b10, ok_Search_first (k := 22) (base := base) F10 T (k_weighings_in := K_weighings_in.mono (by omega)) (k_results_in := K_results_in.mono (by omega)) (k_Search_can := K_Search_can.mono (by omega))⟩⟩
    have K_most_unknown : Known l.prog w K mg base (C, "known") "most_unknown" 24 [.v, .v] F_most_unknown := ⟨⟨_, _, _, PySem.W.mg_of X G a12, k12, b12, ok_most_unknown (k := 22) (base := base) F12 T (k_need_rounds := K_need_rounds.mono (by omega)) (M := ⟨mk, a4, i4, kc⟩) (k_init := K_init.mono (by omega)) (b_init := b4) (k_fits_whole := K_fits_whole.mono (by omega)) (k_Search_can := K_Search_can.mono (by omega))⟩⟩
    have K_is_tuple_of : Known l.prog w K mg base (C, "known") "is_tuple_of" 1 [.v, .v, .v] F_is_tuple_of := ⟨⟨_, _, _, PySem.W.mg_of X G a13, k13, b13, ok_is_tuple_of (k := 0) (base := base) F13 T⟩⟩
    have K_fits_state : Known l.prog w K mg base (C, "known") "fits_state" 3 [.v] F_fits_state := ⟨⟨_, _, _, PySem.W.mg_of X G a14, k14, b14, ok_fits_state (k := 2) (base := base) F14 T (k_is_tuple_of := K_is_tuple_of.mono (by omega)) (k_many_in := K_many_in.mono (by omega)) (k_fits_whole := K_fits_whole.mono (by omega))⟩⟩
    have K_need_state : Known l.prog w K mg base (C, "known") "need_state" 4 [.v] F_need_state := ⟨⟨_, _, _, PySem.W.mg_of X G a15, k15, b15, ok_need_state (k := 3) (base := base) F15 T (k_fits_state := K_fits_state.mono (by omega))⟩⟩
    have K_Search_cost : KnownM l.prog w K mg base (C, "known") "cost" 23 [.b, .v] F_Search_cost := ⟨⟨_, _, _, ⟨pg, hd, po, sa⟩, ⟨a16, i16, k16⟩, (by show ("cost" : Str) ≠ "known"; decide +kernel), b16, ok_Search_cost (k := 22) (base := base) F16 T (k_Search_can := K_Search_can.mono (by omega))⟩⟩
    have K_fewest_weighings : Known l.prog w K mg base (C, "known") "fewest_weighings" 25 [.v] F_fewest_weighings := ⟨⟨_, _, _, PySem.W.mg_of X G a17, k17, b17, ok_fewest_weighings (k := 23) (base := base) F17 T (k_need_state := K_need_state.mono (by omega)) (k_Search_cost := K_Search_cost.mono (by omega)) (M := ⟨mk, a4, i4, kc⟩) (k_init := K_init.mono (by omega)) (b_init := b4)⟩⟩
    have K_law_roll : Known l.prog w K mg base (C, "known") "_law_roll" 1 [.o, .v] F_law_roll := ⟨⟨_, _, _, PySem.W.mg_of X G a18, k18, b18, ok_law_roll (k := 0) (base := base) F18 T⟩⟩
    have KR_law_same : ∀ n : Nat, Known l.prog w K mg base (C, "known") "_law_same" (0 + 1 * n + 1) [.v, .v] (R_law_same n) := by
      intro n
      induction n with
      | zero => exact ⟨⟨_, _, _, PySem.W.mg_of X G a19, k19, b19, no_law_same (k := 0) F19⟩⟩
      | succ n ih =>
        have J := ok_law_same (k := (0 + 1 * n + 1)) (base := base) F19 T (k_law_same := ih.mono (by omega))
        exact ⟨⟨_, _, _, PySem.W.mg_of X G a19, k19, b19, J.mono (by omega)⟩⟩
    have K_law_same := KR_law_same 4
    have K_law_some : Known l.prog w K mg base (C, "known") "_law_some" 2 [.o, .v] F_law_some := ⟨⟨_, _, _, PySem.W.mg_of X G a20, k20, b20, ok_law_some (k := 1) (base := base) F20 T (k_law_roll := K_law_roll.mono (by omega))⟩⟩
    have K_law_most : Known l.prog w K mg base (C, "known") "_law_most" 1 [.v, .v] F_law_most := ⟨⟨_, _, _, PySem.W.mg_of X G a21, k21, b21, ok_law_most (k := 0) (base := base) F21 T⟩⟩
    have K_law_is_weighing : Known l.prog w K mg base (C, "known") "_law_is_weighing" 1 [.v, .v] F_law_is_weighing := ⟨⟨_, _, _, PySem.W.mg_of X G a22, k22, b22, ok_law_is_weighing (k := 0) (base := base) F22 T⟩⟩
    have K_law_pans : Known l.prog w K mg base (C, "known") "_law_pans" 2 [.v] F_law_pans := ⟨⟨_, _, _, PySem.W.mg_of X G a23, k23, b23, ok_law_pans (k := 1) (base := base) F23 T (k_law_is_weighing := K_law_is_weighing.mono (by omega))⟩⟩
    have K_law_cases : Known l.prog w K mg base (C, "known") "_law_cases" 1 [.v] F_law_cases := ⟨⟨_, _, _, PySem.W.mg_of X G a24, k24, b24, ok_law_cases (k := 0) (base := base) F24 T⟩⟩
    have K_law_behind : Known l.prog w K mg base (C, "known") "_law_behind" 2 [.v, .v] F_law_behind := ⟨⟨_, _, _, PySem.W.mg_of X G a25, k25, b25, ok_law_behind (k := 1) (base := base) F25 T (k_law_cases := K_law_cases.mono (by omega))⟩⟩
    have KR_law_can : ∀ n : Nat, Known l.prog w K mg base (C, "known") "_law_can" (2 + 1 * n + 1) [.v, .v, .o] (R_law_can n) := by
      intro n
      induction n with
      | zero => exact ⟨⟨_, _, _, PySem.W.mg_of X G a26, k26, b26, no_law_can (k := 2) F26⟩⟩
      | succ n ih =>
        have J := ok_law_can (k := (2 + 1 * n + 1)) (base := base) F26 T (k_law_pans := K_law_pans.mono (by omega)) (k_law_cases := K_law_cases.mono (by omega)) (k_law_behind := K_law_behind.mono (by omega)) (k_law_can := ih.mono (by omega))
        exact ⟨⟨_, _, _, PySem.W.mg_of X G a26, k26, b26, J.mono (by omega)⟩⟩
    have K_law_can := KR_law_can 5
    exact (ok_law (k := 25) (base := base) F27 T (k_law_cup := K_law_cup.mono (by omega)) (k_most_unknown := K_most_unknown.mono (by omega)) (k_fewest_weighings := K_fewest_weighings.mono (by omega)) (k_law_roll := K_law_roll.mono (by omega)) (k_law_same := K_law_same.mono (by omega)) (k_law_some := K_law_some.mono (by omega)) (k_law_most := K_law_most.mono (by omega)) (k_law_can := K_law_can.mono (by omega))).imp (law_imp (E := ⟨l.prog, w, K, C, "known"⟩) HL)


end CoinK60

namespace CoinK60
open PySem PySem.Spec PyProof.Rows L2 L2.Pu
theorem okT_all : ∀ n g : Nat, n < 4 → g < 15 → okT n g = true
  | 0, 0, _, _ => t_0_0
  | 0, 1, _, _ => t_0_1
  | 0, 2, _, _ => t_0_2
  | 0, 3, _, _ => t_0_3
  | 0, 4, _, _ => t_0_4
  | 0, 5, _, _ => t_0_5
  | 0, 6, _, _ => t_0_6
  | 0, 7, _, _ => t_0_7
  | 0, 8, _, _ => t_0_8
  | 0, 9, _, _ => t_0_9
  | 0, 10, _, _ => t_0_10
  | 0, 11, _, _ => t_0_11
  | 0, 12, _, _ => t_0_12
  | 0, 13, _, _ => t_0_13
  | 0, 14, _, _ => t_0_14
  | 1, 0, _, _ => t_1_0
  | 1, 1, _, _ => t_1_1
  | 1, 2, _, _ => t_1_2
  | 1, 3, _, _ => t_1_3
  | 1, 4, _, _ => t_1_4
  | 1, 5, _, _ => t_1_5
  | 1, 6, _, _ => t_1_6
  | 1, 7, _, _ => t_1_7
  | 1, 8, _, _ => t_1_8
  | 1, 9, _, _ => t_1_9
  | 1, 10, _, _ => t_1_10
  | 1, 11, _, _ => t_1_11
  | 1, 12, _, _ => t_1_12
  | 1, 13, _, _ => t_1_13
  | 1, 14, _, _ => t_1_14
  | 2, 0, _, _ => t_2_0
  | 2, 1, _, _ => t_2_1
  | 2, 2, _, _ => t_2_2
  | 2, 3, _, _ => t_2_3
  | 2, 4, _, _ => t_2_4
  | 2, 5, _, _ => t_2_5
  | 2, 6, _, _ => t_2_6
  | 2, 7, _, _ => t_2_7
  | 2, 8, _, _ => t_2_8
  | 2, 9, _, _ => t_2_9
  | 2, 10, _, _ => t_2_10
  | 2, 11, _, _ => t_2_11
  | 2, 12, _, _ => t_2_12
  | 2, 13, _, _ => t_2_13
  | 2, 14, _, _ => t_2_14
  | 3, 0, _, _ => t_3_0
  | 3, 1, _, _ => t_3_1
  | 3, 2, _, _ => t_3_2
  | 3, 3, _, _ => t_3_3
  | 3, 4, _, _ => t_3_4
  | 3, 5, _, _ => t_3_5
  | 3, 6, _, _ => t_3_6
  | 3, 7, _, _ => t_3_7
  | 3, 8, _, _ => t_3_8
  | 3, 9, _, _ => t_3_9
  | 3, 10, _, _ => t_3_10
  | 3, 11, _, _ => t_3_11
  | 3, 12, _, _ => t_3_12
  | 3, 13, _, _ => t_3_13
  | 3, 14, _, _ => t_3_14
  | n + 4, _, h, _ => absurd h (by omega)
  | 0, g + 15, _, h => absurd h (by omega)
  | 1, g + 15, _, h => absurd h (by omega)
  | 2, g + 15, _, h => absurd h (by omega)
  | 3, g + 15, _, h => absurd h (by omega)
theorem okB_all : ∀ n g : Nat, n < 3 → g < 3 → okB n g = true
  | 0, 0, _, _ => b_0_0
  | 0, 1, _, _ => b_0_1
  | 0, 2, _, _ => b_0_2
  | 1, 0, _, _ => b_1_0
  | 1, 1, _, _ => b_1_1
  | 1, 2, _, _ => b_1_2
  | 2, 0, _, _ => b_2_0
  | 2, 1, _, _ => b_2_1
  | 2, 2, _, _ => b_2_2
  | n + 3, _, h, _ => absurd h (by omega)
  | 0, g + 3, _, h => absurd h (by omega)
  | 1, g + 3, _, h => absurd h (by omega)
  | 2, g + 3, _, h => absurd h (by omega)
theorem okW_all : ∀ g : Nat, g < 3 → okW g = true
  | 0, _ => w_0
  | 1, _ => w_1
  | 2, _ => w_2
  | g + 3, h => absurd h (by omega)
theorem turn_ok : TurnOk F_most_unknown F_law_most (R_law_same 4) := by
  intro n g n0 n1 g0 g1
  obtain ⟨n, rfl⟩ := Int.eq_ofNat_of_zero_le n0
  obtain ⟨g, rfl⟩ := Int.eq_ofNat_of_zero_le g0
  have h := okT_all n g (by omega) (by omega)
  unfold okT at h
  rw [most_eq]
  split at h
  · rename_i x y e1 e2
    exact ⟨x, y, e1, e2, sameB_ok h⟩
  · cases h
theorem brute_ok : BruteOk F_most_unknown (R_law_can 5) (R_law_same 4) := by
  intro n g n0 n1 g0 g1
  obtain ⟨n, rfl⟩ := Int.eq_ofNat_of_zero_le n0
  obtain ⟨g, rfl⟩ := Int.eq_ofNat_of_zero_le g0
  have h := okB_all n g (by omega) (by omega)
  unfold okB at h
  rw [most_eq]
  split at h
  · rename_i xs t e1
    rw [Bool.and_eq_true] at h
    obtain ⟨h1, h2⟩ := h
    split at h2
    · rename_i z x e2 e3
      exact ⟨xs, t, z, x, e1, of_decide_eq_true h1, e2, e3, sameB_ok h2⟩
    · cases h2
  · cases h
theorem two_ok : TwoOk F_most_unknown F_fewest_weighings := by
  intro g g0 g1
  obtain ⟨g, rfl⟩ := Int.eq_ofNat_of_zero_le g0
  have h := okW_all g (by omega)
  unfold okW at h
  rw [most_eq]
  split at h
  · rename_i x e1
    split at h
    · rename_i z e2
      have hz := of_decide_eq_true h
      subst hz
      exact ⟨x, e1, e2⟩
    · cases h
  · cases h
theorem four_ok : FourOk F_most_unknown (R_law_same 4) := by
  have h := f_ok
  unfold okF at h
  unfold FourOk
  rw [most_eq]
  split at h
  · rename_i x e1
    exact ⟨x, e1, sameB_ok h⟩
  · cases h
theorem law_all {Cup Roll Some_ Most LMost Same LCan Few : FD} {d : PyData} {a b : Int} (hC : Cup [d] = some (cupD a b, [])) (hR : RollOk Roll) (hS : SomeOk Some_) (hT : TurnOk Most LMost Same) (hB : BruteOk Most LCan Same) (h2 : TwoOk Most Few) (h4 : FourOk Most Same) :
    runDef 9 [.v] (lawB Cup Roll Some_ Most LMost Same LCan Few) [d] = some (.bool true, []) := by
  have i0 : initEnv [.v] [d] 9 = [.val d, .un, .un, .un, .un, .un, .un, .un, .un] := rfl
  obtain ⟨a1, b1, n1, g1, t1⟩ := turn_step hR hS hT d a b (.val (.int 0)) .un .un .un .un .un .un
  obtain ⟨a2, b2, n2, g2, t2⟩ := turn_step hR hS hT d a1 b1 (.val (.int 1)) .un .un .un .un (.val (.int n1)) (.val (.int g1))
  obtain ⟨ρ', e⟩ := rest_run hR hB h2 h4 d a2 b2 (.val (.int 1)) (.val (.int n2)) (.val (.int g2))
  have loop : forLoop (nameT 2) (turnB Roll Some_ Most LMost Same) (rangeL 0 (2 : Int).toNat) [.val d, .own false false (cupD a b), .un, .un, .un, .un, .un, .un, .un] = some (.nx, [.val d, .own false false (cupD a2 b2), .val (.int 1), .un, .un, .un, .un, .val (.int n2), .val (.int g2)]) := by
    rw [r2, for_nx rfl t1, for_nx rfl t2]
    rfl
  have sh : lawB Cup Roll Some_ Most LMost Same LCan Few = seqS (setN 1 (callF [.v] Cup (consA (valE (vE 0)) nilA))) (seqS (forS (range1E (consA (valE (cE (.int 2))) nilA)) (nameT 2) (turnB Roll Some_ Most LMost Same)) (restL Roll Most Same LCan Few)) := rfl
  rw [sh]
  simp only [runDef, i0, seqS, setN, callF, consA, valE, vE, nilA, argsOf, slotsOf, nodupB, if_true, hC, setOuts, forS, range1E, cE, rsvs, rsv, c2, loop, e, outsOf, List.getElem?_cons_zero, List.getElem?_cons_succ, List.set_cons_zero, List.set_cons_succ]
theorem law_ok (ns : List Int) (hl : ns.length ≤ 63) : F_law [scriptD ns] = some (.bool true, []) := by
  obtain ⟨a, b, e⟩ := cup_ok ns hl
  show runDef 9 [.v] B_law [scriptD ns] = _
  rw [lawB_eq]
  exact law_all e roll_ok some_ok turn_ok brute_ok two_ok four_ok
end CoinK60

open PySem PySem.W PyProof.Rows
set_option maxRecDepth 100000 in
set_option maxHeartbeats 0 in
theorem PySem.Challenge.cw_coinmaster_k60_whole_numbers_of_unknown_holds : PySem.Challenge.rw_coinmaster_k60_whole_numbers_of_unknown.Holds := by
  w_on; o_law; k_head; (case hw => w_witness2)
  k_fill
  refine L2.Pu.walkR (l := PySem.Challenge.rw_coinmaster_k60_whole_numbers_of_unknown) (k := 26) ⟨rfl, by decide, by decide⟩ rfl rfl (fun w h Y => PySem.W.kIn_of Y) ?F
  case F =>
    intro w mg fa h KX G hmg
    refine' CoinK60.all_mk KX G hmg CoinK60.law_ok ?aC ?a0 ?l0 ?c0 ?k0 ?a1 ?l1 ?c1 ?k1 ?a2 ?l2 ?c2 ?k2 ?a3 ?l3 ?c3 ?k3 ?a4 ?i4 ?l4 ?c4 ?k4 ?a5 ?l5 ?c5 ?k5 ?a6 ?l6 ?c6 ?k6 ?a7 ?l7 ?c7 ?k7 ?a8 ?l8 ?c8 ?k8 ?a9 ?l9 ?c9 ?k9 ?a10 ?i10 ?l10 ?c10 ?k10 ?a11 ?i11 ?l11 ?c11 ?k11 ?a12 ?l12 ?c12 ?k12 ?a13 ?l13 ?c13 ?k13 ?a14 ?l14 ?c14 ?k14 ?a15 ?l15 ?c15 ?k15 ?a16 ?i16 ?l16 ?c16 ?k16 ?a17 ?l17 ?c17 ?k17 ?a18 ?l18 ?c18 ?k18 ?a19 ?l19 ?c19 ?k19 ?a20 ?l20 ?c20 ?k20 ?a21 ?l21 ?c21 ?k21 ?a22 ?l22 ?c22 ?k22 ?a23 ?l23 ?c23 ?k23 ?a24 ?l24 ?c24 ?k24 ?a25 ?l25 ?c25 ?k25 ?a26 ?l26 ?c26 ?k26 ?a27 ?l27 ?c27 ?k27 ?pg ?hd ?po ?sa ?mk ?kc ?nA ?z_abs ?z_all ?z_bool ?z_int ?z_isinstance ?z_len ?z_list ?z_max ?z_min ?z_range ?z_str ?z_sum ?z_tuple ?z_zip ?q_COINS ?q_ROUNDS ?q_TOLD ?y_TOLD
    (case aC => k_is)
    (case a0 => k_is)
    (case l0 => k_is)
    (case c0 => k_is)
    (case k0 => k_is)
    (case a1 => k_is)
    (case l1 => k_is)
    (case c1 => k_is)
    (case k1 => k_is)
    (case a2 => k_is)
    (case l2 => k_is)
    (case c2 => k_is)
    (case k2 => k_is)
    (case a3 => k_is)
    (case l3 => k_is)
    (case c3 => k_is)
    (case k3 => k_is)
    (case a4 => k_is)
    (case i4 => k_is)
    (case l4 => k_is)
    (case c4 => k_is)
    (case k4 => k_is)
    (case a5 => k_is)
    (case l5 => k_is)
    (case c5 => k_is)
    (case k5 => k_is)
    (case a6 => k_is)
    (case l6 => k_is)
    (case c6 => k_is)
    (case k6 => k_is)
    (case a7 => k_is)
    (case l7 => k_is)
    (case c7 => k_is)
    (case k7 => k_is)
    (case a8 => k_is)
    (case l8 => k_is)
    (case c8 => k_is)
    (case k8 => k_is)
    (case a9 => k_is)
    (case l9 => k_is)
    (case c9 => k_is)
    (case k9 => k_is)
    (case a10 => k_is)
    (case i10 => k_is)
    (case l10 => k_is)
    (case c10 => k_is)
    (case k10 => k_is)
    (case a11 => k_is)
    (case i11 => k_is)
    (case l11 => k_is)
    (case c11 => k_is)
    (case k11 => k_is)
    (case a12 => k_is)
    (case l12 => k_is)
    (case c12 => k_is)
    (case k12 => k_is)
    (case a13 => k_is)
    (case l13 => k_is)
    (case c13 => k_is)
    (case k13 => k_is)
    (case a14 => k_is)
    (case l14 => k_is)
    (case c14 => k_is)
    (case k14 => k_is)
    (case a15 => k_is)
    (case l15 => k_is)
    (case c15 => k_is)
    (case k15 => k_is)
    (case a16 => k_is)
    (case i16 => k_is)
    (case l16 => k_is)
    (case c16 => k_is)
    (case k16 => k_is)
    (case a17 => k_is)
    (case l17 => k_is)
    (case c17 => k_is)
    (case k17 => k_is)
    (case a18 => k_is)
    (case l18 => k_is)
    (case c18 => k_is)
    (case k18 => k_is)
    (case a19 => k_is)
    (case l19 => k_is)
    (case c19 => k_is)
    (case k19 => k_is)
    (case a20 => k_is)
    (case l20 => k_is)
    (case c20 => k_is)
    (case k20 => k_is)
    (case a21 => k_is)
    (case l21 => k_is)
    (case c21 => k_is)
    (case k21 => k_is)
    (case a22 => k_is)
    (case l22 => k_is)
    (case c22 => k_is)
    (case k22 => k_is)
    (case a23 => k_is)
    (case l23 => k_is)
    (case c23 => k_is)
    (case k23 => k_is)
    (case a24 => k_is)
    (case l24 => k_is)
    (case c24 => k_is)
    (case k24 => k_is)
    (case a25 => k_is)
    (case l25 => k_is)
    (case c25 => k_is)
    (case k25 => k_is)
    (case a26 => k_is)
    (case l26 => k_is)
    (case c26 => k_is)
    (case k26 => k_is)
    (case a27 => k_is)
    (case l27 => k_is)
    (case c27 => k_is)
    (case k27 => k_is)
    (case pg => k_is)
    (case hd => k_is)
    (case po => k_is)
    (case sa => k_is)
    (case mk => k_is)
    (case kc => k_is)
    (case nA => k_is)
    (case z_abs => k_is)
    (case z_all => k_is)
    (case z_bool => k_is)
    (case z_int => k_is)
    (case z_isinstance => k_is)
    (case z_len => k_is)
    (case z_list => k_is)
    (case z_max => k_is)
    (case z_min => k_is)
    (case z_range => k_is)
    (case z_str => k_is)
    (case z_sum => k_is)
    (case z_tuple => k_is)
    (case z_zip => k_is)
    (case q_COINS => k_is)
    (case q_ROUNDS => k_is)
    (case q_TOLD => k_is)
    (case y_TOLD => k_is)

