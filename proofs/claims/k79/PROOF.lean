import PyProof.Rows.All
import Wide.All
import OpenK.AllK
import Wide.FinOn
import HandS.ForMost
import HandS.Deep
import HandS.TupAny
import HandS.TupMul
import HandS.Conv
import HandS.Iter
import KE.GoesEnum
import KE.GoesMore
import KE.DataCmp
import HandS.TupLe
import HandS.Small
import HandS.IsInst
import HandS.Style
import KE.DataMinMax
import KE.SortData
import HandS.Zip
import KE.DataFind
import HandS.SortInts
import HandS.AnyAll
import HandS.SetBool
import HandS.Strs
import HandS.TupSets
import HandS.SetFor
import PySem.Challenge.RW_slowshelves_k79_whole_more_rooms_than_ei
set_option Elab.async false
set_option linter.all false
set_option maxRecDepth 100000
/-! the Q layer: expressions and statements as pure functions of an environment of pure data -/
namespace Q
open PySem PySem.Spec PyProof.Rows L2

abbrev D := PyData
/-- a mutable object that one slot owns -/
inductive Hot where
  | lst (xs : List D)
  | dic (kvs : List (D × D))
  | rows (xss : List (List D))
  | raw (f : Addr → HO)
/-- pin: a parameter that the caller sees changed; lk: walked just now -/
structure Md where
  pin : Bool
  lk : Bool
abbrev Md.free : Md := ⟨false, false⟩
inductive Sl where
  | un
  | val (d : D)
  | hot (m : Md) (h : Hot)
abbrev Sto := List Sl
inductive Res (α : Type) where
  | ok (a : α) (env : Sto)
  | no
/-- an expression's result: data, the content of a slot, a new object that nobody holds yet -/
inductive Rv where
  | cold (d : D)
  | slot (i : Nat)
  | hot (h : Hot)

section
variable {K : PySem.W.Frag} {G G' H H' : Hp}
def Sub (G G' : Hp) : Prop := ∀ b o, G b = some o → G' b = some o
theorem Sub.refl : Sub G G := fun _ _ e => e
theorem Sub.trans {G'' : Hp} (a : Sub G G') (b : Sub G' G'') : Sub G G'' := fun c o e => b c o (a c o e)
theorem Sub.upd {a : Addr} {o : HO} (h : G a = none) : Sub G (upd G a o) := fun b u e => by
  rw [upd_ne (ne_of_none e h)]; exact e
theorem _root_.L2.Rd.sub (s : Sub G G') {a : Addr} {u : HO} (r : Rd G a u) : Rd G' a u := by
  rcases r with r | ⟨o, r⟩
  · exact .inl (s _ _ r)
  · exact .inr ⟨o, s _ _ r⟩
theorem _root_.L2.SqL.sub (s : Sub G G') {a : Addr} {xs : List V} (r : SqL K G a xs) : SqL K G' a xs := r.imp (Rd.sub s) id
theorem _root_.L2.SqT.sub (s : Sub G G') {a : Addr} {xs : List V} (r : SqT K G a xs) : SqT K G' a xs := r.imp (Rd.sub s) id
end
def keyD : Key → D
  | .inl i => .int i
  | .inr x => .str x
/-- a tuple without a dict of its own -/
def Tp (K : PySem.W.Frag) (G : Hp) (a : Addr) (xs : List V) : Prop :=
  (∃ o : Obj, o.cls = .type "tuple" ∧ o.dict = none ∧ G a = some (.frz o (.tup xs))) ∨
    ∃ (o : Obj) (its : Array Value) (n : Nat), K.lookup a = some o ∧ o.cls = .type "tuple" ∧ o.dict = none ∧ o.data = .seq its n ∧ its.size ≤ sizeLine ∧ Vals xs its.toList
theorem Tp.sub {K : PySem.W.Frag} {G G' : Hp} (s : Sub G G') {a : Addr} {xs : List V} (r : Tp K G a xs) : Tp K G' a xs := r.imp (fun ⟨o, h1, h2, h3⟩ => ⟨o, h1, h2, s _ _ h3⟩) id
theorem Tp.sq {K : PySem.W.Frag} {G : Hp} {a : Addr} {xs : List V} (r : Tp K G a xs) : SqT K G a xs := r.imp (fun ⟨o, _, _, h3⟩ => .inr ⟨o, h3⟩) fun ⟨o, its, n, h1, h2, _, h3, h4, h5⟩ => ⟨o, its, n, h1, h2, h3, h4, h5⟩
theorem Tp.of {K : PySem.W.Frag} {G : Hp} {a : Addr} {xs : List V} {o : Obj} (h1 : o.cls = .type "tuple") (h2 : o.dict = none) (h : G a = some (.frz o (.tup xs))) : Tp K G a xs := .inl ⟨o, h1, h2, h⟩
theorem Tp.obj {X : Cx} {pins : List (Addr × Obj)} {σ : L2.St} {H : Hp} {s : Shared} {a : Addr} {xs : List V} (I : L2.Inv X pins σ H s) (r : Tp X.K H a xs) : ∃ o, s.heap.get? a = some o ∧ o.cls = .type "tuple" ∧ o.dict = none := by
  rcases r with ⟨o, h1, h2, h3⟩ | ⟨o, its, n, h1, h2, h3, _⟩
  · exact ⟨o, (I.hok a _ h3).1, h1, h2⟩
  · exact ⟨o, I.kIn a o h1, h2, h3⟩
mutual
/-- data in the cold heap -/
inductive Rp (K : PySem.W.Frag) (G : Hp) : V → D → Prop
  | non : Rp K G .non .none
  | bl (b : Bool) : Rp K G (.bl b) (.bool b)
  | int (i : Int) : Rp K G (.int i) (.int i)
  | str (x : Str) : Rp K G (.str x) (.str x)
  | lst {a : Addr} {xs : List V} {ds : List D} : Rd G a (.lst xs) → RpAll K G xs ds → Rp K G (.ref a) (.list ds)
  | tup {a : Addr} {xs : List V} {ds : List D} : Tp K G a xs → RpAll K G xs ds → Rp K G (.ref a) (.tuple ds)
  | dic {a : Addr} {ks : List (Key × V)} {kvs : List (D × D)} : Rd G a (.dK ks) → RpKv K G ks kvs → Rp K G (.ref a) (.dict kvs)
  /-- the script: a list that is read alone; told apart by a key that no dict has -/
  | scr {a : Addr} {xs : List V} {ds : List D} : SqL K G a xs → RpAll K G xs ds → Rp K G (.ref a) (.dict [(.none, .list ds)])
inductive RpAll (K : PySem.W.Frag) (G : Hp) : List V → List D → Prop
  | nil : RpAll K G [] []
  | cons {v : V} {vs : List V} {d : D} {ds : List D} : Rp K G v d → RpAll K G vs ds → RpAll K G (v :: vs) (d :: ds)
inductive RpKv (K : PySem.W.Frag) (G : Hp) : List (Key × V) → List (D × D) → Prop
  | nil : RpKv K G [] []
  | cons {k : Key} {v : V} {ks : List (Key × V)} {d : D} {kvs : List (D × D)} : Rp K G v d → RpKv K G ks kvs → RpKv K G ((k, v) :: ks) ((keyD k, d) :: kvs)
end
section
variable {K : PySem.W.Frag} {G G' H H' : Hp}
mutual
theorem Rp.sub (s : Sub G G') : ∀ {v : V} {d : D}, Rp K G v d → Rp K G' v d
  | _, _, .non => .non
  | _, _, .bl b => .bl b
  | _, _, .int i => .int i
  | _, _, .str x => .str x
  | _, _, .lst h a => .lst (Rd.sub s h) (RpAll.sub s a)
  | _, _, .tup h a => .tup (Tp.sub s h) (RpAll.sub s a)
  | _, _, .dic h a => .dic (Rd.sub s h) (RpKv.sub s a)
  | _, _, .scr h a => .scr (SqL.sub s h) (RpAll.sub s a)
theorem RpAll.sub (s : Sub G G') : ∀ {vs : List V} {ds : List D}, RpAll K G vs ds → RpAll K G' vs ds
  | _, _, .nil => .nil
  | _, _, .cons h t => .cons (Rp.sub s h) (RpAll.sub s t)
theorem RpKv.sub (s : Sub G G') : ∀ {vs : List (Key × V)} {ds : List (D × D)}, RpKv K G vs ds → RpKv K G' vs ds
  | _, _, .nil => .nil
  | _, _, .cons h t => .cons (Rp.sub s h) (RpKv.sub s t)
end
mutual
theorem Rp.dp : ∀ {v : V} {d : D}, Rp K G v d → d.canLay0 = true → Dp K G v d
  | _, _, .non, _ => .non
  | _, _, .bl b, _ => .bl b
  | _, _, .int i, _ => .int i
  | _, _, .str x, _ => .str x
  | _, _, .lst h a, c => .lst (.inl h) (RpAll.dp a c)
  | _, _, .tup h a, c => .tup h.sq (RpAll.dp a c)
  | _, _, .dic _ _, c => by cases c
  | _, _, .scr _ _, c => by cases c
theorem RpAll.dp : ∀ {vs : List V} {ds : List D}, RpAll K G vs ds → PyData.canLayAll0 ds = true → DpAll K G vs ds
  | _, _, .nil, _ => .nil
  | _, _, .cons h t, c => by
    rw [PyData.canLayAll0, Bool.and_eq_true] at c
    exact .cons (Rp.dp h c.1) (RpAll.dp t c.2)
end
theorem RpAll.length : ∀ {vs : List V} {ds : List D}, RpAll K G vs ds → vs.length = ds.length
  | _, _, .nil => rfl
  | _, _, .cons _ t => by rw [List.length_cons, List.length_cons, RpAll.length t]
theorem RpAll.get : ∀ {vs : List V} {ds : List D}, RpAll K G vs ds → ∀ {i : Nat} {d : D}, ds[i]? = some d → ∃ v, vs[i]? = some v ∧ Rp K G v d
  | _, _, .nil, _, _, e => nomatch e
  | _, _, .cons h _, 0, _, e => by
    simp at e; subst e
    exact ⟨_, rfl, h⟩
  | _, _, .cons _ t, i + 1, _, e => by
    obtain ⟨v, e1, h⟩ := RpAll.get t (i := i) (by simpa using e)
    exact ⟨v, by simpa using e1, h⟩
theorem RpAll.append : ∀ {vs ws : List V} {ds es : List D}, RpAll K G vs ds → RpAll K G ws es → RpAll K G (vs ++ ws) (ds ++ es)
  | _, _, _, _, .nil, h => h
  | _, _, _, _, .cons h t, k => .cons h (RpAll.append t k)
theorem RpAll.set : ∀ {vs : List V} {ds : List D}, RpAll K G vs ds → ∀ (i : Nat) {v : V} {d : D}, Rp K G v d → RpAll K G (vs.set i v) (ds.set i d)
  | _, _, .nil, _, _, _, _ => .nil
  | _, _, .cons _ t, 0, _, _, h => .cons h t
  | _, _, .cons q t, i + 1, _, _, h => .cons q (RpAll.set t i h)
theorem RpAll.take : ∀ {vs : List V} {ds : List D}, RpAll K G vs ds → ∀ n : Nat, RpAll K G (vs.take n) (ds.take n)
  | _, _, _, 0 => .nil
  | _, _, .nil, _ + 1 => .nil
  | _, _, .cons h t, n + 1 => .cons h (RpAll.take t n)
theorem RpAll.drop : ∀ {vs : List V} {ds : List D}, RpAll K G vs ds → ∀ n : Nat, RpAll K G (vs.drop n) (ds.drop n)
  | _, _, h, 0 => h
  | _, _, .nil, _ + 1 => .nil
  | _, _, .cons _ t, n + 1 => RpAll.drop t n
theorem RpAll.eraseIdx : ∀ {vs : List V} {ds : List D}, RpAll K G vs ds → ∀ n : Nat, RpAll K G (vs.eraseIdx n) (ds.eraseIdx n)
  | _, _, .nil, _ => .nil
  | _, _, .cons _ t, 0 => t
  | _, _, .cons h t, n + 1 => .cons h (RpAll.eraseIdx t n)
theorem RpAll.reverse : ∀ {vs : List V} {ds : List D}, RpAll K G vs ds → RpAll K G vs.reverse ds.reverse
  | _, _, .nil => .nil
  | _, _, .cons h t => by
    simp only [List.reverse_cons]
    exact RpAll.append (RpAll.reverse t) (.cons h .nil)
theorem RpAll.dropLast {vs : List V} {ds : List D} (h : RpAll K G vs ds) : RpAll K G vs.dropLast ds.dropLast := by
  rw [List.dropLast_eq_take, List.dropLast_eq_take, h.length]
  exact h.take _
theorem RpAll.rep {vs : List V} {ds : List D} (h : RpAll K G vs ds) : ∀ k : Nat, RpAll K G (List.replicate k vs).flatten (List.replicate k ds).flatten
  | 0 => .nil
  | k + 1 => by
    simp only [List.replicate_succ, List.flatten_cons]
    exact RpAll.append h (RpAll.rep h k)
theorem RpAll.ints : ∀ {vs : List V} {ns : List Int}, RpAll K G vs (ns.map .int) → vs = ns.map .int
  | [], [], _ => rfl
  | [], _ :: _, h => by cases h
  | _ :: _, [], h => by cases h
  | _ :: _, _ :: _, .cons h t => by
    cases h
    rw [RpAll.ints t]
    rfl
theorem RpAll.of_ints : ∀ ns : List Int, RpAll K G (ns.map V.int) (ns.map .int)
  | [] => .nil
  | n :: ns => .cons (.int n) (RpAll.of_ints ns)
theorem RpAll.bools : ∀ {vs : List V} {ns : List Bool}, RpAll K G vs (ns.map .bool) → vs = ns.map .bl
  | [], [], _ => rfl
  | [], _ :: _, h => by cases h
  | _ :: _, [], h => by cases h
  | _ :: _, _ :: _, .cons h t => by
    cases h
    rw [RpAll.bools t]
    rfl

/-! ### what stands at a slot -/
def HotR (K : PySem.W.Frag) (G H : Hp) (own : Addr → Prop) (v : V) : Hot → Prop
  | .lst xs => ∃ a vs, v = .ref a ∧ own a ∧ H a = some (.lst vs) ∧ RpAll K G vs xs
  | .dic kvs => ∃ a ks, v = .ref a ∧ own a ∧ H a = some (.dK ks) ∧ RpKv K G ks kvs
  | .raw f => ∃ a, v = .ref a ∧ own a ∧ H a = some (f a)
  | .rows xss => ∃ (a : Addr) (as : List Addr), v = .ref a ∧ own a ∧ a ∉ as ∧ as.Nodup ∧ (∀ b ∈ as, own b) ∧ H a = some (.lst (as.map V.ref)) ∧ Paired (fun b xs => ∃ vs, H b = some (.lst vs) ∧ RpAll K G vs xs) as xss
theorem Paired.mapM {α β : Type} {F G : α → β → Prop} : ∀ {l₁ : List α} {l₂ : List β}, Paired F l₁ l₂ → (∀ a ∈ l₁, ∀ b, F a b → G a b) → Paired G l₁ l₂
  | _, _, .nil, _ => .nil
  | _, _, .cons r t, f => .cons (f _ (by simp) _ r) (Paired.mapM t fun a ha b => f a (by simp [ha]) b)
/-- it stands where its own objects stand -/
theorem HotR.stay {own own' : Addr → Prop} (s : Sub G G') {v : V} {h : Hot} (ho : ∀ a, own a → own' a ∧ H' a = H a) (q : HotR K G H own v h) : HotR K G' H' own' v h := by
  cases h with
  | lst xs =>
    obtain ⟨a, vs, e, o, ha, r⟩ := q
    exact ⟨a, vs, e, (ho a o).1, by rw [(ho a o).2]; exact ha, RpAll.sub s r⟩
  | dic kvs =>
    obtain ⟨a, ks, e, o, ha, r⟩ := q
    exact ⟨a, ks, e, (ho a o).1, by rw [(ho a o).2]; exact ha, RpKv.sub s r⟩
  | rows xss =>
    obtain ⟨a, as, e, o, n1, n2, oo, ha, r⟩ := q
    refine ⟨a, as, e, (ho a o).1, n1, n2, fun b hb => (ho b (oo b hb)).1, by rw [(ho a o).2]; exact ha, Paired.mapM r fun b hb xs ⟨vs, e1, r1⟩ => ⟨vs, by rw [(ho b (oo b hb)).2]; exact e1, RpAll.sub s r1⟩⟩
  | raw f =>
    obtain ⟨a, e, o, ha⟩ := q
    exact ⟨a, e, (ho a o).1, by rw [(ho a o).2]; exact ha⟩

def SlR (K : PySem.W.Frag) (G H H0 : Hp) (own : Addr → Prop) (v : Option (Option V)) : Option Sl → Prop
  | none => True
  | some .un => True
  | some (.val d) => ∃ x, v = some (some x) ∧ Rp K G x d
  | some (.hot m h) => ∃ x, v = some (some x) ∧ HotR K G H (fun a => own a ∧ (m.pin = false → H0 a = none)) x h
theorem SlR.stay {H0 : Hp} {own own' : Addr → Prop} (s : Sub G G') {v : Option (Option V)} {sl : Option Sl} (ho : ∀ a, own a → own' a ∧ H' a = H a) (q : SlR K G H H0 own v sl) : SlR K G' H' H0 own' v sl := by
  cases sl with
  | none => trivial
  | some sl =>
    cases sl with
    | un => trivial
    | val d =>
      obtain ⟨x, e, r⟩ := q
      exact ⟨x, e, Rp.sub s r⟩
    | hot m h =>
      obtain ⟨x, e, r⟩ := q
      exact ⟨x, e, r.stay s fun a z => ⟨⟨(ho a z.1).1, z.2⟩, (ho a z.1).2⟩⟩
end

/-- what is fixed while a body runs: the entry's heap and its cold part, the objects that the caller lent, the slots that stay bound, what waits -/
structure Ctx where
  K : PySem.W.Frag
  H0 : Hp
  G0 : Hp
  F0 : Addr → Option Nat
  pins : List (Nat × V)
  locks : List (Nat × V × Hot)
  xv : List (Option V)
  xs : List Sl
/-- it was made here, or lent for this pinned slot -/
def Lent (C : Ctx) (a : Addr) (i : Nat) : Prop := C.H0 a = none ∨ (C.F0 a = some i ∧ ∃ p ∈ C.pins, p.1 = i)
structure St1 (C : Ctx) (G : Hp) (ow : Addr → Option Nat) (σ : L2.St) (H : Hp) (env : Sto) : Prop where
  len : env.length = σ.length
  lx : C.xs.length = C.xv.length
  sl : ∀ i, SlR C.K G H C.H0 (fun a => ow a = some i) ((σ ++ C.xv)[i]?) ((env ++ C.xs)[i]?)
  ow : ∀ a i, ow a = some i → H a ≠ none ∧ G a = none ∧ Lent C a i
  g0 : Sub C.G0 G
  gh : Sub G H
  new : ∀ b o, G b = some o → C.G0 b = some o ∨ C.H0 b = none
  fr : ∀ b o, C.H0 b = some o → C.F0 b = none → H b = some o
  dom : ∀ b, C.H0 b ≠ none → H b ≠ none
  pin : ∀ p ∈ C.pins, σ[p.1]? = some (some p.2) ∧ ∃ m h, env[p.1]? = some (.hot m h) ∧ m.pin = true
  lock : ∀ p ∈ C.locks, σ[p.1]? = some (some p.2.1) ∧ ∃ m, env[p.1]? = some (.hot m p.2.2) ∧ m.lk = true
def Stt (C : Ctx) (σ : L2.St) (H : Hp) (env : Sto) : Prop := ∃ G ow, St1 C G ow σ H env

def Ctx.push (C : Ctx) (v : V) (s : Sl) : Ctx := { C with xv := C.xv ++ [some v], xs := C.xs ++ [s] }
def pend (C : Ctx) (v : V) : Rv → Ctx
  | .cold d => C.push v (.val d)
  | .hot h => C.push v (.hot Md.free h)
  | .slot _ => C
def RvOk (σ : L2.St) (v : V) : Rv → Prop
  | .slot i => σ[i]? = some (some v)
  | _ => True
theorem pend_K {C : Ctx} {v : V} {r : Rv} : (pend C v r).K = C.K := by cases r <;> rfl

section
variable {C : Ctx} {G G' H H' : Hp} {ow ow' : Addr → Option Nat} {σ : L2.St} {env : Sto} {v : V} {s : Sl}
theorem get_push {α : Type} (l m : List α) (x : α) (i : Nat) : (l ++ (m ++ [x]))[i]? = if i < (l ++ m).length then (l ++ m)[i]? else if i = (l ++ m).length then some x else none := by
  rw [← List.append_assoc]
  by_cases h : i < (l ++ m).length
  · rw [if_pos h, List.getElem?_append_left h]
  · rw [if_neg h, List.getElem?_append_right (by omega)]
    by_cases e : i = (l ++ m).length
    · rw [if_pos e, e, Nat.sub_self]; rfl
    · rw [if_neg e, List.getElem?_eq_none]
      rw [List.length_singleton]
      omega
theorem St1.lens (S : St1 C G ow σ H env) : (σ ++ C.xv).length = (env ++ C.xs).length := by
  rw [List.length_append, List.length_append, S.len, S.lx]
/-- what waited last is dropped -/
theorem St1.drop (S : St1 (C.push v s) G ow σ H env) : St1 C G ow σ H env := by
  have lx : C.xs.length = C.xv.length := by
    have := S.lx
    simp only [Ctx.push, List.length_append, List.length_cons, List.length_nil] at this
    omega
  refine ⟨S.len, lx, fun i => ?_, S.ow, S.g0, S.gh, S.new, S.fr, S.dom, S.pin, S.lock⟩
  have q := S.sl i
  have e1 : (σ ++ C.xv).length = (env ++ C.xs).length := by rw [List.length_append, List.length_append, S.len, lx]
  simp only [Ctx.push] at q
  rw [get_push, get_push, e1] at q
  by_cases h : i < (env ++ C.xs).length
  · rw [if_pos h, if_pos h] at q
    exact q
  · rw [List.getElem?_eq_none (show (env ++ C.xs).length ≤ i by omega)]
    trivial
theorem Stt.drop (S : Stt (C.push v s) σ H env) : Stt C σ H env := let ⟨G, ow, S⟩ := S; ⟨G, ow, S.drop⟩
theorem Stt.unpend {r : Rv} (S : Stt (pend C v r) σ H env) : Stt C σ H env := by
  cases r with
  | cold d => exact S.drop
  | hot h => exact S.drop
  | slot i => exact S
theorem St1.unpend {r : Rv} (S : St1 (pend C v r) G ow σ H env) : St1 C G ow σ H env := by
  cases r with
  | cold d => exact St1.drop S
  | hot h => exact St1.drop S
  | slot i => exact S
/-- what waited last, as it stands -/
theorem St1.top (S : St1 (C.push v s) G ow σ H env) : SlR C.K G H C.H0 (fun a => ow a = some (env ++ C.xs).length) (some (some v)) (some s) := by
  have q := S.sl (env ++ C.xs).length
  have lx : C.xs.length = C.xv.length := by
    have := S.lx
    simp only [Ctx.push, List.length_append, List.length_cons, List.length_nil] at this
    omega
  have e1 : (σ ++ C.xv).length = (env ++ C.xs).length := by rw [List.length_append, List.length_append, S.len, lx]
  simp only [Ctx.push] at q
  rw [get_push, get_push, e1, if_neg (Nat.lt_irrefl _), if_neg (Nat.lt_irrefl _), if_pos rfl, if_pos rfl] at q
  exact q
/-- something waits -/
theorem St1.push (S : St1 C G ow σ H env) (q : SlR C.K G H C.H0 (fun a => ow a = some (env ++ C.xs).length) (some (some v)) (some s)) : St1 (C.push v s) G ow σ H env := by
  refine ⟨S.len, by simp only [Ctx.push, List.length_append, S.lx]; rfl, fun i => ?_, S.ow, S.g0, S.gh, S.new, S.fr, S.dom, S.pin, S.lock⟩
  simp only [Ctx.push]
  rw [get_push, get_push, S.lens]
  by_cases h : i < (env ++ C.xs).length
  · rw [if_pos h, if_pos h]
    exact S.sl i
  · rw [if_neg h, if_neg h]
    by_cases e : i = (env ++ C.xs).length
    · rw [if_pos e, if_pos e, e]
      exact q
    · rw [if_neg e, if_neg e]
      trivial
theorem St1.pushVal {d : D} (S : St1 C G ow σ H env) (q : Rp C.K G v d) : St1 (C.push v (.val d)) G ow σ H env := S.push ⟨v, rfl, q⟩
theorem Stt.scal {d : D} (S : Stt C σ H env) (q : ∀ G, Rp C.K G v d) : Stt (C.push v (.val d)) σ H env := let ⟨G, ow, S⟩ := S; ⟨G, ow, S.pushVal (q G)⟩
/-- the heap and its cold part grow, or change where a slot's own objects don't stand -/
theorem St1.step (S : St1 C G ow σ H env) (sg : Sub G G') (gh : Sub G' H') (new : ∀ b o, G' b = some o → G b = some o ∨ (C.H0 b = none ∧ G b = none))
    (ho : ∀ a i, ow a = some i → ow' a = some i ∧ H' a = H a) (now : ∀ a i, ow' a = some i → H' a ≠ none ∧ G' a = none ∧ Lent C a i) (fr : ∀ b o, H b = some o → ow b = none → H' b = some o) : St1 C G' ow' σ H' env := by
  have hk : ∀ b o, H b = some o → H' b = some o := fun b o e => by
    cases q : ow b with
    | none => exact fr b o e q
    | some i => rw [(ho b i q).2]; exact e
  refine ⟨S.len, S.lx, fun i => (S.sl i).stay sg fun a z => ho a i z, now, S.g0.trans sg, gh, fun b o e => ?_, fun b o e n => hk b o (S.fr b o e n), fun b n => ?_, S.pin, S.lock⟩
  · rcases new b o e with z | z
    · exact S.new b o z
    · exact .inr z.1
  · cases q : H b with
    | none => exact absurd q (S.dom b n)
    | some o => rw [hk b o q]; exact fun z => nomatch z
theorem St1.free (S : St1 C G ow σ H env) {p : Addr} (hp : H p = none) : G p = none ∧ C.H0 p = none ∧ ∀ a i, ow a = some i → a ≠ p := by
  refine ⟨?_, ?_, fun a i e z => (S.ow a i e).1 (z ▸ hp)⟩
  · cases q : G p with
    | none => rfl
    | some u => rw [S.gh p u q] at hp; cases hp
  · cases q : C.H0 p with
    | none => rfl
    | some u => exact absurd hp (S.dom p (by rw [q]; exact fun z => nomatch z))
/-- a new cold object -/
theorem St1.alloc {p : Addr} {o : HO} (S : St1 C G ow σ H env) (hp : H p = none) : St1 C (upd G p o) ow σ (upd H p o) env := by
  obtain ⟨gp, h0, np⟩ := S.free hp
  refine S.step (Sub.upd gp) (fun b u e => ?_) (fun b u e => ?_) (fun a i e => ⟨e, upd_ne (np a i e)⟩) (fun a i e => ?_) (fun b u e _ => Sub.upd hp b u e)
  · by_cases hb : b = p
    · subst hb; rw [upd_same] at e ⊢; exact e
    · rw [upd_ne hb] at e ⊢; exact S.gh b u e
  · by_cases hb : b = p
    · subst hb; exact .inr ⟨h0, gp⟩
    · rw [upd_ne hb] at e; exact .inl e
  · rw [upd_ne (np a i e), upd_ne (np a i e)]; exact S.ow a i e
/-- a new object of ours -/
theorem St1.allocHot {p : Addr} {o : HO} (S : St1 C G ow σ H env) (hp : H p = none) (i : Nat) :
    St1 C G (fun a => if a = p then some i else ow a) σ (upd H p o) env ∧ C.H0 p = none := by
  obtain ⟨gp, h0, np⟩ := S.free hp
  refine ⟨S.step Sub.refl (fun b u e => ?_) (fun b u e => .inl e) (fun a i e => ⟨by rw [if_neg (np a i e)]; exact e, upd_ne (np a i e)⟩) (fun a j e => ?_) (fun b u e _ => Sub.upd hp b u e), h0⟩
  · rw [upd_ne (fun z => by rw [z, gp] at e; cases e)]; exact S.gh b u e
  · by_cases hb : a = p
    · subst hb; exact ⟨by rw [upd_same]; exact fun z => (nomatch z), gp, .inl h0⟩
    · rw [if_neg hb] at e; rw [upd_ne hb]; exact S.ow a j e
theorem sl_at {i : Nat} {x : Sl} (h : env[i]? = some x) : (env ++ C.xs)[i]? = some x := by
  rw [List.getElem?_append_left (List.getElem?_eq_some_iff.mp h).1]; exact h
theorem set_at {α : Type} {env xs : List α} {i : Nat} {x : α} (hi : i < env.length) (j : Nat) : (env.set i x ++ xs)[j]? = if j = i then some x else (env ++ xs)[j]? := by
  by_cases e : j = i
  · subst e
    rw [if_pos rfl, List.getElem?_append_left (by rw [List.length_set]; exact hi), List.getElem?_set_self hi]
  · rw [if_neg e]
    by_cases h : j < env.length
    · rw [List.getElem?_append_left (by rw [List.length_set]; exact h), List.getElem?_append_left h, List.getElem?_set_ne (Ne.symm e)]
    · rw [List.getElem?_append_right (by rw [List.length_set]; omega), List.getElem?_append_right (by omega), List.length_set]
/-- a slot by its number -/
theorem St1.slot {i : Nat} {x : Sl} (S : St1 C G ow σ H env) (h : env[i]? = some x) : SlR C.K G H C.H0 (fun a => ow a = some i) (σ[i]?) (some x) := by
  have q := S.sl i
  have hi := (List.getElem?_eq_some_iff.mp h).1
  rw [sl_at h, List.getElem?_append_left (by rw [← S.len]; exact hi)] at q
  exact q

/-- as data -/
def Hot.data : Hot → Option D
  | .lst xs => some (.list xs)
  | .rows xss => some (.list (xss.map .list))
  | .dic kvs => some (.dict kvs)
  | .raw _ => none
def Sl.view : Sl → Option D
  | .val d => some d
  | .hot _ h => h.data
  | .un => none
def view (r : Rv) (env : Sto) : Option D := match r with
  | .cold d => some d
  | .hot h => h.data
  | .slot i => (env[i]?).bind Sl.view
theorem rows_all {K : PySem.W.Frag} {G H : Hp} (s : Sub G H) : ∀ {as : List Addr} {xss : List (List D)}, Paired (fun b xs => ∃ vs, H b = some (.lst vs) ∧ RpAll K G vs xs) as xss → RpAll K H (as.map V.ref) (xss.map .list)
  | _, _, .nil => .nil
  | _, _, .cons ⟨_, e, r⟩ t => .cons (.lst (Rd.of e) (RpAll.sub s r)) (rows_all s t)
theorem HotR.view {K : PySem.W.Frag} {own : Addr → Prop} {h : Hot} {d : D} (s : Sub G H) (q : HotR K G H own v h) (e : h.data = some d) : Rp K H v d := by
  cases h with
  | lst xs =>
    obtain ⟨a, vs, rfl, o, ha, r⟩ := q
    cases e
    exact .lst (Rd.of ha) (RpAll.sub s r)
  | rows xss =>
    obtain ⟨a, as, rfl, o, n1, n2, oo, ha, r⟩ := q
    cases e
    exact .lst (Rd.of ha) (rows_all s r)
  | dic kvs =>
    obtain ⟨a, ks, rfl, o, ha, r⟩ := q
    cases e
    exact .dic (Rd.of ha) (RpKv.sub s r)
  | raw f => cases e
theorem SlR.view {K : PySem.W.Frag} {H0 : Hp} {own : Addr → Prop} {sl : Sl} {d : D} (s : Sub G H) (q : SlR K G H H0 own (some (some v)) (some sl)) (e : sl.view = some d) : Rp K H v d := by
  cases sl with
  | un => cases e
  | val d' =>
    obtain ⟨x, e1, r⟩ := q
    cases e1
    cases e
    exact Rp.sub s r
  | hot m h =>
    obtain ⟨x, e1, r⟩ := q
    cases e1
    exact r.view s e
/-- a pending result, read -/
theorem St1.view {r : Rv} {d : D} (S : St1 (pend C v r) G ow σ H env) (ok : RvOk σ v r) (e : view r env = some d) : Rp C.K H v d := by
  cases r with
  | cold d' => exact SlR.view S.gh (St1.top S) e
  | hot h => exact SlR.view S.gh (St1.top S) (show Sl.view (.hot Md.free h) = some d from e)
  | slot i =>
    simp only [Q.view, Option.bind_eq_some_iff] at e
    obtain ⟨sl, e1, e2⟩ := e
    have q := St1.slot (C := C) S e1
    have ok : σ[i]? = some (some v) := ok
    rw [ok] at q
    exact q.view (St1.gh (C := C) S) e2
theorem Stt.view {r : Rv} {d : D} (S : Stt (pend C v r) σ H env) (ok : RvOk σ v r) (e : Q.view r env = some d) : Rp C.K H v d := let ⟨_, _, S⟩ := S; S.view ok e

/-- its addresses are told to be cold -/
def ext (G H : Hp) (own : Addr → Bool) : Hp := fun b => if own b = true then H b else G b
theorem ext_sub {own : Addr → Bool} (gh : Sub G H) : Sub G (ext G H own) := fun b o e => by
  unfold ext
  by_cases h : own b = true
  · rw [if_pos h]; exact gh b o e
  · rw [if_neg h]; exact e
/-- what is needed of the state when own objects are told to be cold -/
theorem St1.cool {own : Addr → Bool} {n : Nat} (S : St1 C G ow σ H env) (ho : ∀ a, own a = true → ow a = some n ∧ C.H0 a = none) :
    (∀ a j, (if own a = true then none else ow a) = some j → H a ≠ none ∧ ext G H own a = none ∧ Lent C a j) ∧ Sub (ext G H own) H ∧ (∀ b o, ext G H own b = some o → C.G0 b = some o ∨ C.H0 b = none) := by
  refine ⟨fun a j e => ?_, fun b o e => ?_, fun b o e => ?_⟩
  · by_cases h : own a = true
    · rw [if_pos h] at e; cases e
    · rw [if_neg h] at e
      obtain ⟨h1, h2, h3⟩ := S.ow a j e
      refine ⟨h1, ?_, h3⟩
      unfold ext
      rw [if_neg h]; exact h2
  · unfold ext at e
    by_cases h : own b = true
    · rw [if_pos h] at e; exact e
    · rw [if_neg h] at e; exact S.gh b o e
  · unfold ext at e
    by_cases h : own b = true
    · exact .inr (ho b h).2
    · rw [if_neg h] at e; exact S.new b o e
theorem rows_ext {K : PySem.W.Frag} {own : Addr → Bool} (s : Sub G (ext G H own)) : ∀ {as : List Addr} {xss : List (List D)}, (∀ b ∈ as, own b = true) → Paired (fun b xs => ∃ vs, H b = some (.lst vs) ∧ RpAll K G vs xs) as xss → RpAll K (ext G H own) (as.map V.ref) (xss.map .list)
  | _, _, _, .nil => .nil
  | _, _, h, .cons ⟨_, e, r⟩ t => .cons (.lst (Rd.of (by unfold ext; rw [if_pos (h _ (by simp))]; exact e)) (RpAll.sub s r)) (rows_ext s (fun b hb => h b (by simp [hb])) t)
/-- what a hot object is as data once its addresses are cold -/
theorem HotR.frozen {K : PySem.W.Frag} {own : Addr → Prop} {h : Hot} {d : D} (s : Sub G H) (q : HotR K G H own v h) (e : h.data = some d) :
    ∃ ob : Addr → Bool, (∀ a, ob a = true → own a) ∧ Rp K (ext G H ob) v d := by
  cases h with
  | lst xs =>
    obtain ⟨a, vs, rfl, o, ha, r⟩ := q
    cases e
    have ho : ∀ b, decide (b = a) = true → own b := fun b h => by rw [of_decide_eq_true h]; exact o
    refine ⟨fun b => decide (b = a), ho, .lst (Rd.of (u := .lst vs) ?_) (RpAll.sub (ext_sub s) r)⟩
    unfold ext
    rw [if_pos (decide_eq_true rfl)]; exact ha
  | rows xss =>
    obtain ⟨a, as, rfl, o, n1, n2, oo, ha, r⟩ := q
    cases e
    have ho : ∀ b, decide (b ∈ a :: as) = true → own b := fun b h => by
      rcases List.mem_cons.mp (of_decide_eq_true h) with z | z
      · rw [z]; exact o
      · exact oo b z
    refine ⟨fun b => decide (b ∈ a :: as), ho, .lst (Rd.of (u := .lst (as.map V.ref)) ?_) (rows_ext (ext_sub s) (fun b hb => decide_eq_true (List.mem_cons_of_mem _ hb)) r)⟩
    unfold ext
    rw [if_pos (decide_eq_true List.mem_cons_self)]; exact ha
  | dic kvs =>
    obtain ⟨a, ks, rfl, o, ha, r⟩ := q
    cases e
    have ho : ∀ b, decide (b = a) = true → own b := fun b h => by rw [of_decide_eq_true h]; exact o
    refine ⟨fun b => decide (b = a), ho, .dic (Rd.of (u := .dK ks) ?_) (RpKv.sub (ext_sub s) r)⟩
    unfold ext
    rw [if_pos (decide_eq_true rfl)]; exact ha
  | raw f => cases e
theorem SlR.cool {K : PySem.W.Frag} {H0 : Hp} {own : Addr → Bool} {n j : Nat} (gh : Sub G H) (ho : ∀ a, own a = true → ow a = some n) (hj : j ≠ n) {x : Option (Option V)} {sl : Option Sl} (q : SlR K G H H0 (fun a => ow a = some j) x sl) :
    SlR K (ext G H own) H H0 (fun a => (if own a = true then none else ow a) = some j) x sl :=
  q.stay (ext_sub gh) fun a z => ⟨by
    have z : ow a = some j := z
    by_cases h : own a = true
    · rw [ho a h] at z
      exact absurd (Option.some.inj z).symm hj
    · show (if own a = true then none else ow a) = some j
      rw [if_neg h]; exact z, rfl⟩
/-- a slot's object is given to all -/
theorem Stt.freeze {i : Nat} {m : Md} {h : Hot} {d : D} (S : Stt C σ H env) (hs : env[i]? = some (.hot m h)) (hp : m.pin = false) (hl : m.lk = false) (e : h.data = some d) : Stt C σ H (env.set i (.val d)) := by
  obtain ⟨G, ow, S⟩ := S
  obtain ⟨x, e1, q⟩ := S.slot hs
  have hi := (List.getElem?_eq_some_iff.mp hs).1
  obtain ⟨ob, ho, r⟩ := q.frozen S.gh e
  have ho' : ∀ a, ob a = true → ow a = some i ∧ C.H0 a = none := fun a z => ⟨(ho a z).1, (ho a z).2 hp⟩
  obtain ⟨c1, c2, c3⟩ := S.cool ho'
  refine ⟨ext G H ob, fun a => if ob a = true then none else ow a, by rw [List.length_set]; exact S.len, S.lx, fun j => ?_, c1, S.g0.trans (ext_sub S.gh), c2, c3, S.fr, S.dom, fun p hpm => ?_, fun p hpm => ?_⟩
  · rw [set_at hi]
    by_cases e : j = i
    · subst e
      rw [if_pos rfl, List.getElem?_append_left (by rw [← S.len]; exact hi)]
      exact ⟨x, e1, r⟩
    · rw [if_neg e]
      exact (S.sl j).cool S.gh (fun a z => (ho' a z).1) e
  · obtain ⟨e1, m', h', e2, e3⟩ := S.pin p hpm
    refine ⟨e1, m', h', ?_, e3⟩
    rw [List.getElem?_set_ne]
    · exact e2
    · intro z; rw [← z, hs] at e2; cases e2; rw [hp] at e3; cases e3
  · obtain ⟨e1, m', e2, e3⟩ := S.lock p hpm
    refine ⟨e1, m', ?_, e3⟩
    rw [List.getElem?_set_ne]
    · exact e2
    · intro z; rw [← z, hs] at e2; cases e2; rw [hl] at e3; cases e3
/-- .. what waits -/
theorem Stt.freezeTop {m : Md} {h : Hot} {d : D} (S : Stt (C.push v (.hot m h)) σ H env) (hp : m.pin = false) (e : h.data = some d) : Stt (C.push v (.val d)) σ H env := by
  obtain ⟨G, ow, S⟩ := S
  obtain ⟨x, e1, q⟩ := S.top
  cases e1
  obtain ⟨ob, ho, r⟩ := q.frozen S.gh e
  have S0 := S.drop
  have ho' : ∀ a, ob a = true → ow a = some (env ++ C.xs).length ∧ C.H0 a = none := fun a z => ⟨(ho a z).1, (ho a z).2 hp⟩
  obtain ⟨c1, c2, c3⟩ := S0.cool ho'
  refine ⟨ext G H ob, fun a => if ob a = true then none else ow a, St1.push ⟨S0.len, S0.lx, fun j => ?_, c1, S0.g0.trans (ext_sub S0.gh), c2, c3, S0.fr, S0.dom, S0.pin, S0.lock⟩ ⟨v, rfl, r⟩⟩
  by_cases hj : j < (env ++ C.xs).length
  · exact (S0.sl j).cool S0.gh (fun a z => (ho' a z).1) (Nat.ne_of_lt hj)
  · rw [List.getElem?_eq_none (show (env ++ C.xs).length ≤ j by omega)]
    trivial
end
end Q
set_option Elab.async false
set_option linter.all false
set_option maxRecDepth 100000
namespace Q
open PySem PySem.Spec PyProof.Rows L2

abbrev Ex := Sto → Res Rv
abbrev ExL := Sto → Res (List Rv)
abbrev ExB := Sto → Res Bool
inductive Out where
  | nx
  | rt (r : Rv)
  | bk
  | ct
abbrev Sm := Sto → Res Out

def Res.bind {α β : Type} (x : Res α) (f : α → Sto → Res β) : Res β := match x with
  | .ok a e => f a e
  | .no => .no
theorem Res.bind_ok {α β : Type} {x : Res α} {f : α → Sto → Res β} {b : β} {e' : Sto} (h : x.bind f = .ok b e') : ∃ a e, x = .ok a e ∧ f a e = .ok b e' := by
  cases x with
  | ok a e => exact ⟨a, e, rfl, h⟩
  | no => cases h

def pendA (C : Ctx) : List V → List Rv → Ctx
  | v :: vs, r :: rs => pendA (pend C v r) vs rs
  | _, _ => C
theorem pendA_K : ∀ {vs : List V} {rs : List Rv} {C : Ctx}, (pendA C vs rs).K = C.K
  | [], _, _ => rfl
  | _ :: _, [], _ => rfl
  | v :: vs, r :: rs, C => by
    show (pendA (pend C v r) vs rs).K = C.K
    rw [pendA_K, pend_K]

/-! ### the readings of pure functions -/
def rd (K : PySem.W.Frag) (f : Ex) : TE := fun σ H Q => ∃ C env r env', C.K = K ∧ Stt C σ H env ∧ f env = .ok r env' ∧ ∀ v H', Stt (pend C v r) σ H' env' → RvOk σ v r → Q v H'
def rdA (K : PySem.W.Frag) (f : ExL) : TA := fun σ H Q => ∃ C env rs env', C.K = K ∧ Stt C σ H env ∧ f env = .ok rs env' ∧ ∀ vs H', Stt (pendA C vs rs) σ H' env' → Paired (RvOk σ) vs rs → Q vs H'
def rdB (K : PySem.W.Frag) (f : ExB) : TT := fun σ H Q => ∃ C env b env', C.K = K ∧ Stt C σ H env ∧ f env = .ok b env' ∧ ∀ H', Stt C σ H' env' → Q b H'
def EndOk (C : Ctx) (D : Ends) (env : Sto) : Out → Prop
  | .nx => ∀ σ H, Stt C σ H env → D.nx σ H
  | .bk => ∀ σ H, Stt C σ H env → D.bk σ H
  | .ct => ∀ σ H, Stt C σ H env → D.ct σ H
  | .rt r => ∀ v σ H, Stt (pend C v r) σ H env → RvOk σ v r → D.rt v H
def rdS (K : PySem.W.Frag) (g : Sm) : TS := fun D σ H => ∃ C env o env', C.K = K ∧ Stt C σ H env ∧ g env = .ok o env' ∧ EndOk C D env' o

abbrev QE (X : Cx) (e : Expr) (f : Ex) : Prop := PE X e (rd X.K f)
abbrev QA (X : Cx) (es : List Expr) (f : ExL) : Prop := PA X es (rdA X.K f)
abbrev QT (X : Cx) (e : Expr) (f : ExB) : Prop := PT X e (rdB X.K f)
abbrev QW (X : Cx) (e : Expr) (f : ExB) : Prop := PW X e (rdB X.K f)
abbrev QS (X : Cx) (st : Stmt) (g : Sm) : Prop := PS X st (rdS X.K g)
abbrev QSs (X : Cx) (st : List Stmt) (g : Sm) : Prop := PSs X st (rdS X.K g)

section
variable {X : Cx}
theorem _root_.L2.PE.imp {e : Expr} {t t' : TE} (h : PE X e t) (i : ∀ σ H Q, t' σ H Q → t σ H Q) : PE X e t' := ⟨fun pins s σ H Q I q => h.run pins s σ H Q I (i σ H Q q)⟩
theorem _root_.L2.PA.imp {e : List Expr} {t t' : TA} (h : PA X e t) (i : ∀ σ H Q, t' σ H Q → t σ H Q) : PA X e t' := ⟨fun pos pins s σ H Q I q => h.run pos pins s σ H Q I (i σ H Q q)⟩
theorem _root_.L2.PT.imp {e : Expr} {t t' : TT} (h : PT X e t) (i : ∀ σ H Q, t' σ H Q → t σ H Q) : PT X e t' := ⟨fun pins s σ H Q I q => h.run pins s σ H Q I (i σ H Q q)⟩
theorem _root_.L2.PW.imp {e : Expr} {t t' : TT} (h : PW X e t) (i : ∀ σ H Q, t' σ H Q → t σ H Q) : PW X e t' := ⟨fun wh pins s σ H Q I q => h.run wh pins s σ H Q I (i σ H Q q)⟩
theorem _root_.L2.PS.imp {e : Stmt} {t t' : TS} (h : PS X e t) (i : ∀ D σ H, t' D σ H → t D σ H) : PS X e t' := ⟨fun pins s σ H D I q => h.run pins s σ H D I (i D σ H q)⟩
theorem _root_.L2.PSs.imp {e : List Stmt} {t t' : TS} (h : PSs X e t) (i : ∀ D σ H, t' D σ H → t D σ H) : PSs X e t' := ⟨fun pins s σ H D I q => h.run pins s σ H D I (i D σ H q)⟩
end

/-! ### freezing -/
def toCold : Rv → Sto → Res Rv
  | .cold d, env => .ok (.cold d) env
  | .hot h, env => match h.data with
    | some d => .ok (.cold d) env
    | none => .no
  | .slot i, env => match env[i]? with
    | some (.val d) => .ok (.cold d) env
    | some (.hot m h) => match m.pin, m.lk, h.data with
      | false, false, some d => .ok (.cold d) (env.set i (.val d))
      | _, _, _ => .no
    | _ => .no
def cold (f : Ex) : Ex := fun env => (f env).bind toCold
section
variable {C : Ctx} {σ : L2.St} {H : Hp} {env env' : Sto} {v : V} {r r' : Rv}
theorem RvOk.top {d : D} {G : Hp} {ow : Addr → Option Nat} {i : Nat} (S : St1 C G ow σ H env) (ok : σ[i]? = some (some v)) (e : env[i]? = some (.val d)) : Rp C.K G v d := by
  obtain ⟨x, e1, q⟩ := S.slot e
  rw [ok] at e1; cases e1
  exact q
theorem toCold_ok (S : Stt (pend C v r) σ H env) (ok : RvOk σ v r) (e : toCold r env = .ok r' env') : ∃ d, r' = .cold d ∧ Stt (C.push v (.val d)) σ H env' := by
  cases r with
  | cold d => cases e; exact ⟨d, rfl, S⟩
  | hot h =>
    simp only [toCold] at e
    split at e
    · rename_i d hd
      cases e
      exact ⟨d, rfl, Stt.freezeTop (C := C) S rfl hd⟩
    · cases e
  | slot i =>
    simp only [toCold] at e
    have ok : σ[i]? = some (some v) := ok
    split at e
    · rename_i d hd
      cases e
      obtain ⟨G, ow, S⟩ := S
      exact ⟨d, rfl, G, ow, St1.pushVal (C := C) S (RvOk.top S ok hd)⟩
    · rename_i m h hs
      split at e
      · rename_i d hp hl hd
        cases e
        obtain ⟨G, ow, S2⟩ := Stt.freeze (C := C) S hs hp hl hd
        refine ⟨d, rfl, G, ow, S2.pushVal (RvOk.top S2 ok ?_)⟩
        rw [List.getElem?_set_self (List.getElem?_eq_some_iff.mp hs).1]
      · cases e
    · cases e
end
section
variable {X : Cx} {e : Expr} {f : Ex}
theorem QE.cold (h : QE X e f) : QE X e (cold f) := h.imp fun σ H Q ⟨C, env, r, env', hK, S, ef, k⟩ => by
  obtain ⟨r1, e1, a, b⟩ := Res.bind_ok ef
  refine ⟨C, env, r1, e1, hK, S, a, fun v H' S' ok => ?_⟩
  obtain ⟨d, rfl, S2⟩ := toCold_ok S' ok b
  exact k v H' S2 trivial
end

/-! ### names, constants -/
def eVar (i : Nat) : Ex := fun env => match env[i]? with
  | some (.val _) => .ok (.slot i) env
  | some (.hot _ _) => .ok (.slot i) env
  | _ => .no
def eC (d : D) : Ex := fun env => .ok (.cold d) env
section
variable {X : Cx} {pos : Pos}
theorem rd_var {K : PySem.W.Frag} {i : Nat} {σ : L2.St} {H : Hp} {Q : VK} : rd K (eVar i) σ H Q → tVar i σ H Q := by
  rintro ⟨C, env, r, env', hK, S, ef, k⟩
  simp only [eVar] at ef
  have hS := S
  obtain ⟨G, ow, S1⟩ := hS
  split at ef
  · rename_i d hd
    cases ef
    obtain ⟨x, e1, q⟩ := S1.slot hd
    exact ⟨x, e1, k x H S e1⟩
  · rename_i m h hd
    cases ef
    obtain ⟨x, e1, q⟩ := S1.slot hd
    exact ⟨x, e1, k x H S e1⟩
  · cases ef
theorem qe_var (i : Nat) {x : Str} (hN : X.N[i]? = some x := by rfl) (hv : Vis X.env.scope x := by first | exact Or.inl rfl | exact Or.inr (Or.inl rfl) | exact Or.inr (Or.inr rfl)) (hd : (x == ("__debug__" : Str)) = false := by decide)
    (hcd : (x == ("__classdict__" : Str)) = false := by decide) : QE X (.Name x pos) (eVar i) := (pe_var hN hv hd hcd).imp fun _ _ _ => rd_var
theorem rd_c {K : PySem.W.Frag} {v : V} {d : D} (hd : ∀ G, Rp K G v d) {σ : L2.St} {H : Hp} {Q : VK} : rd K (eC d) σ H Q → tC v σ H Q := by
  rintro ⟨C, env, r, env', hK, S, ef, k⟩
  cases ef
  exact k v H (S.scal fun G => by rw [hK]; exact hd G) trivial
theorem qe_int {i : Int} {j : Nat} : QE X (.Constant (.int i) j pos) (eC (.int i)) := pe_int.imp fun _ _ _ => rd_c fun _ => .int i
theorem qe_bl {b : Bool} {j : Nat} : QE X (.Constant (.bool b) j pos) (eC (.bool b)) := pe_bl.imp fun _ _ _ => rd_c fun _ => .bl b
theorem qe_non {j : Nat} : QE X (.Constant .none j pos) (eC .none) := pe_non.imp fun _ _ _ => rd_c fun _ => .non
theorem qe_str {x : Str} {j : Nat} : QE X (.Constant (.str x) j pos) (eC (.str x)) := pe_str.imp fun _ _ _ => rd_c fun _ => .str x
/-- a module's constant -/
theorem qe_glob {x : Str} {v : V} {u : Value} {d : D} (hg : Gl X x) (hm : X.mg x = some u) (r : RelV v u) (hd : ∀ G, Rp X.K G v d) (hdb : (x == ("__debug__" : Str)) = false := by decide) : QE X (.Name x pos) (eC d) :=
  (pe_glob hg hm r hdb).imp fun _ _ _ => rd_c hd
theorem qe_globI {x : Str} {i : Int} {t : Tok} (hg : Gl X x) (hm : X.mg x = some (.int i t)) (hdb : (x == ("__debug__" : Str)) = false := by decide) : QE X (.Name x pos) (eC (.int i)) := qe_glob hg hm (v := .int i) ⟨t, rfl⟩ (fun _ => .int i) hdb
end

/-! ### argument lists -/
def aNil : ExL := fun env => .ok [] env
def aCons (f : Ex) (g : ExL) : ExL := fun env => (f env).bind fun r e1 => (g e1).bind fun rs e2 => .ok (r :: rs) e2
section
variable {X : Cx}
theorem qa_nil : QA X [] aNil := pa_nil.imp fun σ H Q ⟨C, env, rs, env', hK, S, ef, k⟩ => by
  cases ef
  exact k [] H S .nil
theorem qa_cons {e : Expr} {es : List Expr} {f : Ex} {g : ExL} (ha : QE X e f) (hr : QA X es g) (hs : starEach (e :: es) X.env = (false, eval e X.env) :: starEach es X.env := by rfl) : QA X (e :: es) (aCons f g) :=
  (pa_cons ha hr hs).imp fun σ H Q ⟨C, env, rs, env', hK, S, ef, k⟩ => by
    obtain ⟨r, e1, a, ef⟩ := Res.bind_ok ef
    obtain ⟨rs', e2, b, ef⟩ := Res.bind_ok ef
    cases ef
    refine ⟨C, env, r, e1, hK, S, a, fun v H1 S1 ok1 => ⟨pend C v r, e1, rs', _, by rw [pend_K]; exact hK, S1, b, fun vs H2 S2 ok2 => ?_⟩⟩
    exact k (v :: vs) H2 S2 (.cons ok1 ok2)
end

/-! ### operations by values -/
def bin (g : Rv → Rv → Sto → Res Rv) (fa fb : Ex) : Ex := fun env => (fa env).bind fun ra e1 => (fb e1).bind fun rb e2 => g ra rb e2
def una (g : Rv → Sto → Res Rv) (fa : Ex) : Ex := fun env => (fa env).bind g
def OpS (X : Cx) (r : R2) (g : Rv → Rv → Sto → Res Rv) : Prop := ∀ (C : Ctx) (σ : L2.St) (H : Hp) (env : Sto) (v u : V) (ra rb r' : Rv) (env' : Sto) (Q : VK), C.K = X.K → Stt (pend (pend C v ra) u rb) σ H env → RvOk σ v ra → RvOk σ u rb →
  g ra rb env = .ok r' env' → (∀ x H', Stt (pend C x r') σ H' env' → RvOk σ x r' → Q x H') → r v u H Q
def UnS (X : Cx) (r : V → Hp → VK → Prop) (g : Rv → Sto → Res Rv) : Prop := ∀ (C : Ctx) (σ : L2.St) (H : Hp) (env : Sto) (v : V) (ra r' : Rv) (env' : Sto) (Q : VK), C.K = X.K → Stt (pend C v ra) σ H env → RvOk σ v ra →
  g ra env = .ok r' env' → (∀ x H', Stt (pend C x r') σ H' env' → RvOk σ x r' → Q x H') → r v H Q
theorem rd_op {X : Cx} {r : R2} {g : Rv → Rv → Sto → Res Rv} (h : OpS X r g) {fa fb : Ex} {σ : L2.St} {H : Hp} {Q : VK} : rd X.K (bin g fa fb) σ H Q → tOp r (rd X.K fa) (rd X.K fb) σ H Q := by
  rintro ⟨C, env, r', env', hK, S, ef, k⟩
  obtain ⟨ra, e1, a, ef⟩ := Res.bind_ok ef
  obtain ⟨rb, e2, b, ef⟩ := Res.bind_ok ef
  refine ⟨C, env, ra, e1, hK, S, a, fun v H1 S1 ok1 => ⟨pend C v ra, e1, rb, e2, by rw [pend_K]; exact hK, S1, b, fun u H2 S2 ok2 => ?_⟩⟩
  exact h C σ H2 e2 v u ra rb r' env' Q hK S2 ok1 ok2 ef k
theorem rd_un {X : Cx} {r : V → Hp → VK → Prop} {g : Rv → Sto → Res Rv} (h : UnS X r g) {fa : Ex} {σ : L2.St} {H : Hp} {Q : VK} : rd X.K (una g fa) σ H Q → tUn r (rd X.K fa) σ H Q := by
  rintro ⟨C, env, r', env', hK, S, ef, k⟩
  obtain ⟨ra, e1, a, ef⟩ := Res.bind_ok ef
  exact ⟨C, env, ra, e1, hK, S, a, fun v H1 S1 ok1 => h C σ H1 e1 v ra r' env' Q hK S1 ok1 ef k⟩
section
variable {X : Cx} {a b : Expr} {fa fb : Ex} {pos : Pos}
theorem qe_op {op : Operator} {r : R2} {g : Rv → Rv → Sto → Res Rv} (ho : OpR X (binaryOp op) r) (h : OpS X r g) (ha : QE X a fa) (hb : QE X b fb) : QE X (.BinOp a op b pos) (bin g fa fb) := (pe_op ho ha hb).imp fun _ _ _ => rd_op h
theorem qe_cmp {op : CmpOp} {r : R2} {g : Rv → Rv → Sto → Res Rv} (ho : OpR X (compareOp op) r) (h : OpS X r g) (ha : QE X a fa) (hb : QE X b fb) (hm : behindInMarks op b = false) : QE X (.Compare a [op] [b] pos) (bin g fa fb) :=
  (pe_cmpR ho ha hb hm).imp fun _ _ _ => rd_op h
def asB (f : Ex) : ExB := fun env => (f env).bind fun r e => match r with
  | .cold (.bool b) => .ok b e
  | .slot i => match e[i]? with
    | some (.val (.bool b)) => .ok b e
    | _ => .no
  | _ => .no
theorem rd_asB {K : PySem.W.Frag} {f : Ex} {σ : L2.St} {H : Hp} {Q : Bool → Hp → Prop} : rdB K (asB f) σ H Q → rd K f σ H fun x H' => ∃ k, x = .bl k ∧ Q k H' := by
  rintro ⟨C, env, b, env', hK, S, ef, k⟩
  obtain ⟨r, e1, a, ef⟩ := Res.bind_ok ef
  refine ⟨C, env, r, e1, hK, S, a, fun v H1 S1 ok1 => ?_⟩
  cases r with
  | cold d =>
    cases d with
    | bool b' =>
      cases ef
      have S2 := S1
      obtain ⟨G, ow, S2⟩ := S2
      obtain ⟨x, e, q⟩ := St1.top (C := C) S2
      cases e
      cases q
      exact ⟨_, rfl, k H1 (Stt.drop (C := C) S1)⟩
    | _ => cases ef
  | hot h => cases ef
  | slot i =>
    simp only at ef
    split at ef
    · rename_i b' hs
      cases ef
      obtain ⟨G, ow, S2⟩ := id S1
      have q := RvOk.top (C := C) S2 ok1 hs
      cases q
      exact ⟨_, rfl, k H1 S1⟩
    · cases ef
theorem qt_cmp {op : CmpOp} {r : R2} {g : Rv → Rv → Sto → Res Rv} (ho : OpR X (compareOp op) r) (h : OpS X r g) (ha : QE X a fa) (hb : QE X b fb) (hm : behindInMarks op b = false) : QT X (.Compare a [op] [b] pos) (asB (bin g fa fb)) :=
  (pt_cmpR ho ha hb hm).imp fun σ H Q q => rd_op h (rd_asB q)
theorem qt_val {e : Expr} {f : Ex} (h : QE X e f) (he : ∀ whole, isTrue e X.env whole = (do let v ← whole; standAt e.pos; holding [v] (truthy v)) := by intro _; rfl) : QT X e (asB f) :=
  (pt_val h he).imp fun σ H Q q => rd_asB q
/-! ### and, or, not -/
def bAnd (f g : ExB) : ExB := fun env => (f env).bind fun b e => if b = true then g e else .ok false e
def bOr (f g : ExB) : ExB := fun env => (f env).bind fun b e => if b = true then .ok true e else g e
def bNot (f : ExB) : ExB := fun env => (f env).bind fun b e => .ok (!b) e
variable {rest : List Expr} {f g : ExB}
theorem rd_and {K : PySem.W.Frag} {σ : L2.St} {H : Hp} {Q : Bool → Hp → Prop} : rdB K (bAnd f g) σ H Q → tAnd (rdB K f) (rdB K g) σ H Q := by
  rintro ⟨C, env, b, env', hK, S, ef, k⟩
  obtain ⟨b1, e1, a, ef⟩ := Res.bind_ok ef
  refine ⟨C, env, b1, e1, hK, S, a, fun H1 S1 => ?_⟩
  cases b1 with
  | true =>
    rw [if_pos rfl] at ef ⊢
    exact ⟨C, e1, b, env', hK, S1, ef, k⟩
  | false =>
    rw [if_neg Bool.false_ne_true] at ef ⊢
    cases ef
    exact k H1 S1
theorem rd_or {K : PySem.W.Frag} {σ : L2.St} {H : Hp} {Q : Bool → Hp → Prop} : rdB K (bOr f g) σ H Q → tOr (rdB K f) (rdB K g) σ H Q := by
  rintro ⟨C, env, b, env', hK, S, ef, k⟩
  obtain ⟨b1, e1, a, ef⟩ := Res.bind_ok ef
  refine ⟨C, env, b1, e1, hK, S, a, fun H1 S1 => ?_⟩
  cases b1 with
  | false =>
    rw [if_neg Bool.false_ne_true] at ef ⊢
    exact ⟨C, e1, b, env', hK, S1, ef, k⟩
  | true =>
    rw [if_pos rfl] at ef ⊢
    cases ef
    exact k H1 S1
theorem qw_and1 (h : QT X a f) : QW X (.BoolOp .And [a] pos) f := pw_and1 h
theorem qw_or1 (h : QT X a f) : QW X (.BoolOp .Or [a] pos) f := pw_or1 h
theorem qw_and (h : QT X a f) (k : QW X (.BoolOp .And (b :: rest) pos) g) : QW X (.BoolOp .And (a :: b :: rest) pos) (bAnd f g) := (pw_and h k).imp fun _ _ _ => rd_and
theorem qw_or (h : QT X a f) (k : QW X (.BoolOp .Or (b :: rest) pos) g) : QW X (.BoolOp .Or (a :: b :: rest) pos) (bOr f g) := (pw_or h k).imp fun _ _ _ => rd_or
theorem qt_bool {e : Expr} (h : QW X e f) : QT X e f := h.pt
theorem qt_not (h : QT X a f) : QT X (.UnaryOp .Not a pos) (bNot f) := (pt_not h).imp fun σ H Q ⟨C, env, b, env', hK, S, ef, k⟩ => by
  obtain ⟨b1, e1, q, ef⟩ := Res.bind_ok ef
  cases ef
  exact ⟨C, env, b1, _, hK, S, q, fun H1 S1 => k H1 S1⟩
/-- .. as values: bools alone -/
def eAnd (f g : Ex) : Ex := fun env => (asB f env).bind fun b e => if b = true then g e else .ok (.cold (.bool false)) e
def eOr (f g : Ex) : Ex := fun env => (asB f env).bind fun b e => if b = true then .ok (.cold (.bool true)) e else g e
def eNot (f : Ex) : Ex := fun env => (asB f env).bind fun b e => .ok (.cold (.bool (!b))) e
theorem rd_lift {K : PySem.W.Frag} {f : Ex} {σ : L2.St} {H : Hp} {C : Ctx} {env : Sto} {R : Bool → Hp → Prop} {b : Bool} {e1 : Sto} (hK : C.K = K) (S : Stt C σ H env) (a : asB f env = .ok b e1) (k : ∀ H1, Stt C σ H1 e1 → R b H1) :
    rd K f σ H fun x H1 => ∃ c, x = .bl c ∧ R c H1 := rd_asB ⟨C, env, b, e1, hK, S, a, k⟩
theorem qe_one {op : BoolOp} {fe : Ex} (h : QE X a fe) : QE X (.BoolOp op [a] pos) fe := pe_one h
theorem qe_and {fe ge : Ex} (h : QE X a fe) (k : QE X (.BoolOp .And (b :: rest) pos) ge) : QE X (.BoolOp .And (a :: b :: rest) pos) (eAnd fe ge) := (pe_and h k).imp fun σ H Q ⟨C, env, r, env', hK, S, ef, k⟩ => by
  obtain ⟨b1, e1, q, ef⟩ := Res.bind_ok ef
  refine rd_lift (R := fun c H1 => if c = true then rd X.K ge σ H1 Q else Q (.bl false) H1) hK S q fun H1 S1 => ?_
  cases b1 with
  | true =>
    simp only [if_true] at ef ⊢
    exact ⟨C, e1, r, env', hK, S1, ef, k⟩
  | false =>
    simp only [Bool.false_eq_true, if_false] at ef ⊢
    cases ef
    exact k _ H1 (S1.scal fun _ => .bl false) trivial
theorem qe_or {fe ge : Ex} (h : QE X a fe) (k : QE X (.BoolOp .Or (b :: rest) pos) ge) : QE X (.BoolOp .Or (a :: b :: rest) pos) (eOr fe ge) := (pe_or h k).imp fun σ H Q ⟨C, env, r, env', hK, S, ef, k⟩ => by
  obtain ⟨b1, e1, q, ef⟩ := Res.bind_ok ef
  refine rd_lift (R := fun c H1 => if c = true then Q (.bl true) H1 else rd X.K ge σ H1 Q) hK S q fun H1 S1 => ?_
  cases b1 with
  | false =>
    simp only [Bool.false_eq_true, if_false] at ef ⊢
    exact ⟨C, e1, r, env', hK, S1, ef, k⟩
  | true =>
    simp only [if_true] at ef ⊢
    cases ef
    exact k _ H1 (S1.scal fun _ => .bl true) trivial
theorem qe_not {fe : Ex} (h : QE X a fe) : QE X (.UnaryOp .Not a pos) (eNot fe) := (pe_not h).imp fun σ H Q ⟨C, env, r, env', hK, S, ef, k⟩ => by
  obtain ⟨b1, e1, q, ef⟩ := Res.bind_ok ef
  cases ef
  exact rd_lift (R := fun c H1 => Q (.bl (!c)) H1) hK S q fun H1 S1 => k _ H1 (S1.scal fun _ => .bl _) trivial
def eIf (t : ExB) (f g : Ex) : Ex := fun env => (t env).bind fun b e => if b = true then f e else g e
theorem qe_if {c : Expr} {t : ExB} (hc : QT X c t) (ha : QE X a fa) (hb : QE X b fb) : QE X (.IfExp c a b pos) (eIf t fa fb) := (pe_ifExp hc ha hb).imp fun σ H Q ⟨C, env, r, env', hK, S, ef, k⟩ => by
  obtain ⟨b1, e1, q, ef⟩ := Res.bind_ok ef
  refine ⟨C, env, b1, e1, hK, S, q, fun H1 S1 => ?_⟩
  cases b1 with
  | true =>
    simp only [if_true] at ef ⊢
    exact ⟨C, e1, r, env', hK, S1, ef, k⟩
  | false =>
    simp only [Bool.false_eq_true, if_false] at ef ⊢
    exact ⟨C, e1, r, env', hK, S1, ef, k⟩
end
end Q
set_option Elab.async false
set_option linter.all false
set_option maxRecDepth 100000
set_option maxHeartbeats 1000000
/-! new tuples, known to the object: the object of each is told to have no dict -/
namespace Q
open PySem PySem.Spec PyProof.Rows L2

def NewT (H : Hp) (Q : VK) (vs : List V) : Prop := ∀ (p : Addr) (o : Obj), H p = none → o.cls = .type "tuple" → o.dict = none → Q (.ref p) (upd H p (.frz o (.tup vs)))
section
variable {X : Cx} {ps : List (Addr × Obj)} {sg : L2.St} {Hh : Hp} {st : Shared} {xs ys : List V} {us : List Value} {Q : VK}
theorem laidT {A : Array Value} (e : A = us.toArray) (Iv : L2.Inv X ps sg Hh st) (rv : Vals xs us) (fit : xs.length ≤ sizeLine) (q : NewT Hh Q xs) :
    EP X ps sg Q (.ref st.heap.objs.size) { st with heap := st.heap.push { cls := .type "tuple", data := .seq A } } := by
  subst e
  have tracked := Iv.laid (t' := st.toks) (o := .frz { cls := .type "tuple", data := .seq us.toArray } (.tup xs)) (fun _ _ => Heap.get?_push_of_some _) (Nat.le_refl _) ⟨Heap.get?_push_size _ rfl, fit, us, rv, IsTup.new _ _⟩
  exact ⟨.ref _, _, tracked, rfl, q _ _ (Iv.hok.fresh (Nat.le_refl _)) rfl rfl⟩
/-- nothing new: the tuple that was there -/
theorem sameT {a : Addr} (Iv : L2.Inv X ps sg Hh st) (q : Q (.ref a) Hh) : EP X ps sg Q (.ref a) st := ⟨.ref a, _, Iv, rfl, q⟩
theorem valsEmpty (rv : Vals xs us) : us = [] ↔ xs = [] := by
  rw [← List.length_eq_zero_iff, ← List.length_eq_zero_iff, rv.length]
end
section
variable {X : Cx} {es : List Expr} {pos : Pos} {t : TA}
def tTupF (t : TA) : TE := fun σ H Q => t σ H fun xs H1 => xs.length ≤ sizeLine ∧ NewT H1 Q xs
theorem pe_tupF {n : Nat} (h : PA X es t) : PE X (.Tuple es n pos) (tTupF t) where
  run ps st sg Hh Q Iv hq := by
    apply wpAny_Tuple_spliced
    apply thn (h.run pos ps st sg Hh _ Iv hq)
    rintro us st1 ⟨xs, H1, Iv1, rv, fit, q⟩
    exact ⟨rv.length ▸ fit, laidT (by simp) Iv1 rv fit q⟩
def rCatF (K : PySem.W.Frag) : R2 := fun x y H Q => ∃ a b xs ys, x = .ref a ∧ y = .ref b ∧ SqT K H a xs ∧ SqT K H b ys ∧ xs.length + ys.length ≤ sizeLine ∧
  (xs = [] → Q (.ref b) H) ∧ (xs ≠ [] → ys = [] → Q (.ref a) H) ∧ (xs ≠ [] → ys ≠ [] → NewT H Q (xs ++ ys))
theorem op_catF : OpR X (binaryOp .Add) (rCatF X.K) := by
  rintro ps st sg Hh _ _ _ _ Q Iv e1 e2 ⟨a, b, xs, ys, rfl, rfl, sa, sb, fit, none1, none2, both⟩
  cases e1; cases e2
  obtain ⟨us, ru, ta, -⟩ := Iv.tuple sa
  obtain ⟨ws, rw, tb, -⟩ := Iv.tuple sb
  rcases Classical.em (xs = []) with hx | hx
  · have hu : us = [] := (valsEmpty ru).mpr hx
    subst hu
    exact cat_tup0 ta tb (sameT Iv (none1 hx))
  · apply HT.cat_tup ta tb (fun z => hx ((valsEmpty ru).mp z)) (fun z => sameT Iv (none2 hx ((valsEmpty rw).mp z)))
    · intro z
      exact laidT rfl Iv (ru.append rw) (by rw [List.length_append]; exact fit) (both hx fun w => z ((valsEmpty rw).mpr w))
    · rw [← ru.length, ← rw.length]; exact fit
/-- the slice is the whole -/
def allOf (n : Nat) (lo hi : Option Int) : Prop := HT.sIx n 0 lo = 0 ∧ HT.sIx n n hi = n
def rSlF (K : PySem.W.Frag) : V → Option Int → Option Int → Hp → VK → Prop := fun x lo hi H Q => ∃ a xs, x = .ref a ∧ SqT K H a xs ∧ (allOf xs.length lo hi → Q (.ref a) H) ∧ (¬ allOf xs.length lo hi → NewT H Q (cutV xs lo hi))
theorem sl_tupF : L2.SlR X (rSlF X.K) := by
  rintro ps st sg Hh _ _ vl vu lo hi sl Q Iv e1 isl pl pu ⟨a, xs, rfl, sa, whole, part⟩
  cases e1
  obtain ⟨us, ru, ta, fit⟩ := Iv.tuple sa
  have len : us.toArray.size = xs.length := by simp [ru.length]
  refine ⟨"tuple", _, (PyProof.Rows.slot_tuple_getitem).lookup, IsTup.typeIs ta, ?_⟩
  rcases Classical.em (allOf xs.length lo hi) with w | w
  · exact getItem_tuple_whole ta isl pl pu (len ▸ w) (sameT Iv (whole w))
  · apply HT.getItem_tuple_cut ta isl pl pu (len ▸ w) _ (len ▸ fit)
    simp only [len]
    exact laidT rfl Iv ((ru.drop _).take _) (Nat.le_trans (cutV_length xs lo hi) fit) (part w)
/-! ### t * n -/
theorem tuple_mul1 (l : Addr) (items : Array Value) (n : Nat) (dd : Option Addr) (sl : Array (Option Value)) (u : Tok) :
    Meets (Builtin.«tuple.__mul__» ⟨[.ref l, .int 1 u], []⟩) (fun _ R s => s.heap.get? l = some { cls := .type "tuple", dict := dd, data := .seq items n, slots := sl } ∧ R (.ok (.ret (Value.ref l))) s) :=
  Meets.of_wp fun prog w A R st ⟨at_, h⟩ => by
    obtain ⟨hp, g, d, tk, os⟩ := st
    have index1 := AutoSeq1.idx_int
    wp_walk using (wpAny_loadPart' at_)
    have one : (items.isEmpty || (1 : Int) == 1) = true := by simp
    iterate 4 first
      | refine wpAny_ite_true one ?_; wp_walk using (wpAny_loadPart' at_)
      | refine wpAny_ite_false (by decide) ?_; wp_walk using (wpAny_loadPart' at_)
      | skip
    exact ⟨_, rfl, h⟩
def rRepF (K : PySem.W.Frag) : R2 := fun x y H Q => ∃ l k xs, x = .ref l ∧ y = .int k ∧ SqT K H l xs ∧ xs ≠ [] ∧ 1 ≤ k ∧ k ≤ 1000 ∧ xs.length ≤ 1000 ∧ (k = 1 → Q (.ref l) H) ∧ (2 ≤ k → NewT H Q (List.replicate k.toNat xs).flatten)
/-- t * n is what tuple.__mul__ tells, int.__rmul__ tells nothing -/
theorem mul_by_slot {ps : List (Addr × Obj)} {sg : L2.St} {st : Shared} {l : Addr} {A : Array Value} {n : Nat} {dd : Option Addr} {sl : Array (Option Value)} {k : Int} {tk : Tok} {Q : VK}
    (ho : st.heap.get? l = some { cls := .type "tuple", dict := dd, data := .seq A n, slots := sl }) (h : wpAny (model X.prog X.w) X.A (call (.builtin "tuple.__mul__") [.ref l, .int k tk]) (EP X ps sg Q) X.xe st) :
    wpAny (model X.prog X.w) X.A (binaryOp .Mult (.ref l) (.int k tk)) (EP X ps sg Q) X.xe st := by
  have isT : st.TypeIs (.ref l) "tuple" := ⟨_, ho, rfl⟩
  apply wpAny_binaryOp_repeat_ref (U := "int") (by decide) isT (typeIs_int · k tk) noFill_tuple_mul F.fills_int_mul F.slot_int_rmul repeat_tuple F.slot_int_index.lookup
  exact call_meets F.slot_int_rmul (typeIs_int st k tk) F.entry_int_rmul (F.args_int_rmul_2 _ _) (int_rmul_tuple k tk l A n dd sl) ⟨ho, rfl, isT, h⟩
theorem op_repF : OpR X (binaryOp .Mult) (rRepF X.K) := by
  rintro ps st sg Hh _ _ _ _ Q Iv e1 e2 ⟨l, k, xs, rfl, rfl, sa, some_, k1, k2, few, once, more⟩
  cases e1
  obtain ⟨tk, rfl⟩ := e2
  obtain ⟨us, ru, ⟨⟨cls, dd, data, sl⟩, ho, ⟨⟩, n, ⟨⟩⟩, -⟩ := Iv.tuple sa
  have len : us.length = xs.length := ru.length.symm
  have filled : us.toArray.isEmpty = false := by
    rw [Bool.eq_false_iff]
    simpa using fun z => some_ ((valsEmpty ru).mp z)
  have total : k.toNat * xs.length ≤ 1000000 := Nat.le_trans (Nat.mul_le_mul (show k.toNat ≤ 1000 by omega) few) (by decide)
  apply mul_by_slot ho
  have isT : st.TypeIs (.ref l) "tuple" := ⟨_, ho, rfl⟩
  rcases Classical.em (k = 1) with e | e
  · subst e
    exact call_meets F.slot_tuple_mul isT F.entry_tuple_mul (F.args_tuple_mul_2 _ _) (tuple_mul1 l us.toArray n dd sl tk) ⟨ho, sameT Iv (once rfl)⟩
  · have prod : ((us.toArray.size : Nat) : Int) * k ≤ 1000000 := by
      obtain ⟨m, rfl⟩ : ∃ m : Nat, k = (m : Int) := ⟨k.toNat, by omega⟩
      rw [List.size_toArray, len, Int.mul_comm, ← Int.natCast_mul]
      exact Int.ofNat_le.mpr total
    have flat : (List.replicate k.toNat us).flatten.length = k.toNat * xs.length := by rw [PyProof.Rows.lm_len_rep_flat, len]
    have flat' : (List.replicate k.toNat xs).flatten.length = k.toNat * xs.length := PyProof.Rows.lm_len_rep_flat ..
    have meets := tuple_mulW l us.toArray n dd sl k tk (by simp; omega) (by rw [filled]; simpa using e) (by rw [filled]; simp; omega) (by omega) (decide_eq_false (by rw [sizeLine_eq]; omega))
      (by rw [size_rep, List.size_toArray, flat, sizeLine_eq]; omega)
    exact call_meets F.slot_tuple_mul isT F.entry_tuple_mul (F.args_tuple_mul_2 _ _) meets ⟨ho, laidT (size_rep us k.toNat) Iv (ru.rep k.toNat) (by rw [flat', sizeLine_eq]; omega) (more (by omega))⟩
/-! ### tuple(x) -/
theorem call_tupleF : CallR X (.type "tuple") (fun xs H Q => ∃ p ys, xs = [.ref p] ∧ ((SqL X.K H p ys ∧ NewT H Q ys) ∨ (SqT X.K H p ys ∧ Q (.ref p) H))) := by
  rintro ps st sg Hh _ _ Q Iv rv ⟨p, ys, rfl, arms⟩
  obtain ⟨_, rfl, e1⟩ := vals1 rv
  cases e1
  rcases arms with ⟨sl, q⟩ | ⟨st', q⟩
  · obtain ⟨us, ru, plain, fit⟩ := Iv.list sl
    apply call_tuple_list plain.isList _ (by rw [List.size_toArray, ← ru.length]; exact fit)
    intro h' kept
    exact laidT (st := { st with heap := h' }) rfl (Iv.kept (t' := st.toks) kept) ru fit q
  · obtain ⟨us, ru, plain, fit⟩ := Iv.tuple st'
    exact call_tuple_same plain (sameT Iv q)
end
/-! ### the pairs of an enumerate, over a list or a tuple -/
section
variable {P : Program} {w : World} {K : PySem.W.Frag} {elts : List Expr} {kk : Nat} {tpos : Pos}
def yF (H : Hp) (v : V) (H' : Hp) (i : Nat) (x : V) : Prop := ∃ (T : Addr) (o : Obj), v = .ref T ∧ H T = none ∧ o.cls = .type "tuple" ∧ o.dict = none ∧ H' = upd H T (.frz o (.tup [.int (i : Nat), x]))
/-- the items of a row at a: Sq tells what the row holds -/
def IteS (Sq : Hp → Addr → List V → Prop) (a : Addr) : It :=
  ⟨fun i H => ∃ (xs : List V) (x : V), Sq H a xs ∧ xs[i]? = some x, fun i H v H' => ∃ x, yF H v H' i x ∧ ∀ xs, Sq H a xs → xs[i]? = some x, fun i H => ∃ xs : List V, Sq H a xs ∧ xs.length = i⟩
/-- a kind of row: how it is held, how its iterator stands -/
structure RowKind (P : Program) (w : World) (K : PySem.W.Frag) where
  Sq : Hp → Addr → List V → Prop
  At : Heap → Addr → Addr → Nat → Prop
  Ob : Heap → Addr → Array Value → Prop
  seen : ∀ (X : Cx) (ps : List (Addr × Obj)) (st : Shared) (sg : L2.St) (Hh : Hp) (a : Addr) (xs : List V), X.K = K → L2.Inv X ps sg Hh st → Sq Hh a xs → ∃ us : List Value, Vals xs us ∧ Ob st.heap a us.toArray
  uniq : ∀ (X : Cx) (ps : List (Addr × Obj)) (st : Shared) (sg : L2.St) (Hh : Hp) (a : Addr) (xs ys : List V), X.K = K → L2.Inv X ps sg Hh st → Sq Hh a xs → Sq Hh a ys → xs = ys
  draws : ∀ (A : Around) (it a : Addr) (items : Array Value), A.handled = none → a ≠ it → Draws P w A it [it, a] items.size (fun i v => items[i]? = some v) (fun i h => At h it a i ∧ Ob h a items)
  itO : Addr → Obj
  begin_ : ∀ (a : Addr) (items : Array Value), Begins (.ref a) (itO a) fun h => Ob h a items
  atNew : ∀ (h : Heap) (it a : Addr), h.get? it = some (itO a) → At h it a 0
  low : ∀ (h : Heap) (a : Addr) (items : Array Value), Ob h a items → a < h.objs.size
  atObj : ∀ (h : Heap) (it a : Addr) (i : Nat), At h it a i → ∃ o, h.get? it = some o ∧ ∀ v, o.data ≠ .cell v
  atStay : ∀ (h h' : Heap) (it a : Addr) (i : Nat), At h it a i → (∀ o, h.get? it = some o → h'.get? it = some o) → At h' it a i
def lists (P : Program) (w : World) (K : PySem.W.Frag) : RowKind P w K where
  Sq := SqL K
  At h it a i := h.IsListIter it a i
  Ob h a items := h.IsList a items
  seen X ps st sg Hh a xs hK Iv q := by
    subst hK
    obtain ⟨us, ru, plain, -⟩ := Iv.list q
    exact ⟨us, ru, plain.isList⟩
  uniq X ps st sg Hh a xs ys hK Iv q r := by subst hK; exact Iv.list_inj q r
  draws A it a items hh ne := Draws.list hh it a ne items
  itO a := { cls := .type "list_iterator", data := .fields #[.ref a, .int 0 0] }
  begin_ := begins_list
  atNew h it a e := ⟨_, e, rfl, rfl⟩
  low h a items := fun ⟨_, e, _⟩ => Heap.lt_size e
  atObj h it a i := fun ⟨o, ho, _, hd⟩ => ⟨o, ho, fun v q => by rw [hd] at q; cases q⟩
  atStay h h' it a i g k := g.at k
def tuples (P : Program) (w : World) (K : PySem.W.Frag) : RowKind P w K where
  Sq := SqT K
  At h it a i := h.IsTupleIter it a i
  Ob h a items := h.IsTuple a items
  seen X ps st sg Hh a xs hK Iv q := by
    subst hK
    obtain ⟨us, ru, plain, -⟩ := Iv.tuple q
    exact ⟨us, ru, plain⟩
  uniq X ps st sg Hh a xs ys hK Iv q r := by subst hK; exact Iv.tuple_inj q r
  draws A it a items hh ne := Draws.tuple hh it a ne items
  itO a := { cls := .type "tuple_iterator", data := .fields #[.ref a, .int 0 0] }
  begin_ := begins_tuple
  atNew h it a e := ⟨_, e, rfl, rfl⟩
  low h a items := fun ⟨_, e, _⟩ => Heap.lt_size e
  atObj h it a i := fun ⟨o, ho, _, hd⟩ => ⟨o, ho, fun v q => by rw [hd] at q; cases q⟩
  atStay h h' it a i g k := g.at k
theorem pairOk {X : Cx} {H : Hp} {h'' : Heap} {p : Addr} {i : Nat} {x : V} {u : Value} {tk : Tok} (ru : L2.RelV x u) (hT : h''.get? p = some { cls := .type "tuple", data := .seq #[.int i tk, u] }) :
    ObjOk X.prog X.w (upd H p (.frz { cls := .type "tuple", data := .seq #[.int i tk, u] } (.tup [.int (i : Nat), x]))) h'' p (.frz { cls := .type "tuple", data := .seq #[.int i tk, u] } (.tup [.int (i : Nat), x])) :=
  ⟨hT, by show 2 ≤ sizeLine; decide, [.int i tk, u], .cons ⟨_, rfl⟩ (.cons ru .nil), ⟨_, hT, rfl, _, rfl⟩⟩
theorem two_of {e it b : Addr} (hb : b ∈ [e, it]) : b = e ∨ b = it := by simpa using hb
/-- where the enumerate stands -/
def EnAt (R : RowKind P w K) (a e it : Addr) (i : Nat) (h : Heap) : Prop := (∃ old, IsEnum h e it ((i : Nat) : Int) old) ∧ R.At h it a i ∧ e ≠ it
theorem turnEnum (R : RowKind P w K) (a e it : Addr) (ait : a ≠ it) (ae : a ≠ e) : Turn P w K (.Tuple elts kk tpos) (IteS R.Sq a) [e, it] e (EnAt R a e it) where
  mem := List.mem_cons_self
  obj i h at_ b hb := by
    rcases two_of hb with z | z <;> subst z
    · obtain ⟨old, en⟩ := at_.1
      exact ⟨_, en, nofun⟩
    · exact R.atObj _ _ _ _ at_.2.1
  keep i h h' at_ k := by
    obtain ⟨⟨old, en⟩, under, ne⟩ := at_
    exact ⟨⟨old, k e List.mem_cons_self _ en⟩, R.atStay _ _ _ _ _ under (k it (by simp)), ne⟩
  item := by
    rintro X rfl rfl rfl calm i ps st sg Hh E Iv free ⟨⟨old, en⟩, under, ne⟩ ⟨xs, x, sq, hx⟩
    obtain ⟨us, ru, ob⟩ := R.seen X ps st sg Hh a xs rfl Iv sq
    obtain ⟨u, hu, rel⟩ := ru.get hx
    have below : ∀ b ∈ [e, it], b < st.heap.objs.size := fun b hb => by
      rcases two_of hb with z | z <;> subst z
      · exact Heap.lt_size en
      · obtain ⟨o, ho, -⟩ := R.atObj _ _ _ _ under
        exact Heap.lt_size ho
    have less : i < us.toArray.size := by simpa using (List.getElem?_eq_some_iff.mp hu).1
    apply wpAny_pyNext_enum_itemD (R.draws X.A.in1 it a us.toArray (Iv.ok.hd calm) ait) en ⟨under, ob⟩ less ne (by simp [ne, ae.symm])
    intro y h1 tk hy out at1 pair size1 kept1
    obtain rfl : y = u := Option.some.inj (hy.symm.trans (by simpa using hu))
    refine ⟨_, rfl, wpAny_letOwnedTupleGo_enum (s := { st with heap := h1, toks := tk + 1 }) out ?_⟩
    intro h2 en2 same
    have pair2 : h2.get? st.heap.objs.size = some { cls := .type "tuple", data := .seq #[.int i tk, y] } := by rw [same.2 _ (Nat.ne_of_gt (below e (by simp)))]; exact pair
    have apart : ∀ b o, b ∉ [e, it] → st.heap.get? b = some o → h2.get? b = some o := fun b o nb q => by
      simp only [List.mem_cons, List.not_mem_nil, or_false, not_or] at nb
      rw [same.2 b nb.1]
      exact kept1 b o nb.1 nb.2 q
    have Iv2 := Iv.turnedNew (t' := tk + 1) apart free (Nat.le_refl _) (pairOk (H := Hh) rel pair2)
    refine ⟨.ref st.heap.objs.size, _, Iv2, rfl, ⟨x, ⟨_, _, rfl, Iv.hok.fresh (Nat.le_refl _), rfl, rfl, rfl⟩, fun ys q => R.uniq X ps st sg Hh a xs ys rfl Iv sq q ▸ hx⟩, ⟨⟨y, ?_⟩, R.atStay _ _ _ _ _ at1.1 fun o q => (same.2 it ne.symm).trans q, ne⟩, ?_⟩
    · rw [Int.natCast_succ]; exact en2
    · intro b hb
      rw [upd_ne (Nat.ne_of_lt (below b hb))]
      exact (free b hb).1
  done := by
    rintro X rfl rfl rfl calm i ps st sg Hh E Iv free ⟨⟨old, en⟩, under, ne⟩ ⟨xs, sq, rfl⟩
    obtain ⟨us, ru, ob⟩ := R.seen X ps st sg Hh a xs rfl Iv sq
    have len : xs.length = us.toArray.size := by simp [ru.length]
    rw [len] at en under
    obtain ⟨g0, g1, g2, g3, g4, g5⟩ := free it (by simp)
    apply wpAny_pyNext_enum_endD (R.draws X.A.in1 it a us.toArray (Iv.ok.hd calm) ait) en ⟨under, ob⟩
    exact fun h1 but => ⟨rfl, Iv.turned (t' := st.toks) (fun b o nb q => but b o nb q) g0 g1 g3 g4 g5⟩
  self A i st Q E at_ h := let ⟨⟨_, en⟩, _⟩ := at_; wpAny_pyIter_enum en h
end
end Q
set_option Elab.async false
set_option linter.all false
set_option maxRecDepth 100000
set_option maxHeartbeats 1000000
namespace Q
open PySem PySem.Spec PyProof.Rows L2

/-! ### what a result needs -/
def Fin (C : Ctx) (σ : L2.St) (env : Sto) (r : Rv) (Q : VK) : Prop := ∀ x H', Stt (pend C x r) σ H' env → RvOk σ x r → Q x H'
section
variable {C : Ctx} {G H : Hp} {ow : Addr → Option Nat} {σ : L2.St} {env : Sto} {x : V} {d : D} {ds : List D} {vs : List V} {p : Addr} {Q : VK}
theorem Fin.val (F : Fin C σ env (.cold d) Q) (S : St1 C G ow σ H env) (h : Rp C.K G x d) : Q x H := F x H ⟨G, ow, S.pushVal h⟩ trivial
theorem Fin.tup (F : Fin C σ env (.cold (.tuple ds)) Q) (S : St1 C G ow σ H env) (h : RpAll C.K G vs ds) : NewT H Q vs := fun p o hp h1 h2 =>
  F _ _ ⟨_, _, (S.alloc hp).pushVal (.tup (Tp.of h1 h2 upd_same) (RpAll.sub (Sub.upd (S.free hp).1) h))⟩ trivial
theorem Fin.lst (F : Fin C σ env (.hot (.lst ds)) Q) (S : St1 C G ow σ H env) (h : RpAll C.K G vs ds) (hp : H p = none) : Q (.ref p) (upd H p (.lst vs)) := by
  obtain ⟨S1, h0⟩ := S.allocHot (o := .lst vs) hp (env ++ C.xs).length
  exact F _ _ ⟨_, _, S1.push ⟨_, rfl, p, vs, rfl, ⟨if_pos rfl, fun _ => h0⟩, upd_same, h⟩⟩ trivial
end

/-! ### data with its items cold -/
def Dh (K : PySem.W.Frag) (G H : Hp) (v : V) : D → Prop
  | .list ds => ∃ a vs, v = .ref a ∧ Rd H a (.lst vs) ∧ RpAll K G vs ds
  | .dict kvs => ∃ a ks, v = .ref a ∧ Rd H a (.dK ks) ∧ RpKv K G ks kvs
  | d => Rp K G v d
def Hot.viewC : Hot → Option D
  | .lst xs => some (.list xs)
  | .dic kvs => some (.dict kvs)
  | .rows _ => none
  | .raw _ => none
/-- all but the script -/
def plainD : D → Option D
  | .dict ((.none, _) :: _) => none
  | d => some d
theorem plainD_is {d d' : D} (h : plainD d = some d') : d = d' ∧ ∀ x r, d ≠ .dict ((.none, x) :: r) := by
  unfold plainD at h
  split at h
  · cases h
  · rename_i no
    cases h
    exact ⟨rfl, fun x r e => no x r e⟩
def Sl.viewC : Sl → Option D
  | .val d => plainD d
  | .hot _ h => h.viewC
  | _ => none
def viewC (r : Rv) (env : Sto) : Option D := match r with
  | .cold d => plainD d
  | .hot h => h.viewC
  | .slot i => (env[i]?).bind Sl.viewC
theorem Rp.head {K : PySem.W.Frag} {G H : Hp} {v : V} {d : D} (s : Sub G H) (h : Rp K G v d) (no : ∀ x r, d ≠ .dict ((.none, x) :: r)) : Dh K G H v d := by
  cases h with
  | lst h a => exact ⟨_, _, rfl, Rd.sub s h, a⟩
  | dic h a => exact ⟨_, _, rfl, Rd.sub s h, a⟩
  | non => exact .non
  | bl b => exact .bl b
  | int i => exact .int i
  | str x => exact .str x
  | tup h a => exact .tup h a
  | scr _ _ => exact absurd rfl (no _ _)
theorem Dh.all {K : PySem.W.Frag} {G H : Hp} {v : V} {d : D} (s : Sub G H) (h : Dh K G H v d) : Rp K H v d := by
  cases d with
  | list ds =>
    obtain ⟨a, vs, rfl, q, r⟩ := h
    exact .lst q (RpAll.sub s r)
  | dict kvs =>
    obtain ⟨a, ks, rfl, q, r⟩ := h
    exact .dic q (RpKv.sub s r)
  | _ => exact Rp.sub s h
section
variable {C : Ctx} {G H : Hp} {ow : Addr → Option Nat} {σ : L2.St} {env : Sto} {v u : V} {r r2 : Rv} {d : D}
theorem HotR.viewC {K : PySem.W.Frag} {own : Addr → Prop} {h : Hot} (q : HotR K G H own v h) (e : h.viewC = some d) : Dh K G H v d := by
  cases h with
  | lst xs =>
    cases e
    obtain ⟨a, vs, rfl, o, ha, r⟩ := q
    exact ⟨a, vs, rfl, Rd.of ha, r⟩
  | dic _ =>
    cases e
    obtain ⟨a, vs, rfl, o, ha, r⟩ := q
    exact ⟨a, vs, rfl, Rd.of ha, r⟩
  | rows _ => cases e
  | raw _ => cases e
theorem SlR.viewC {K : PySem.W.Frag} {H0 : Hp} {own : Addr → Prop} {sl : Sl} (s : Sub G H) (q : SlR K G H H0 own (some (some v)) (some sl)) (e : sl.viewC = some d) : Dh K G H v d := by
  cases sl with
  | un => cases e
  | val d' =>
    obtain ⟨x, e1, r⟩ := q
    cases e1
    obtain ⟨rfl, no⟩ := plainD_is e
    exact Rp.head s r no
  | hot m h =>
    obtain ⟨x, e1, r⟩ := q
    cases e1
    exact r.viewC e
theorem St1.viewC (S : St1 (pend C v r) G ow σ H env) (ok : RvOk σ v r) (e : viewC r env = some d) : Dh C.K G H v d := by
  cases r with
  | cold d' => exact SlR.viewC S.gh (St1.top S) e
  | hot h => exact SlR.viewC S.gh (St1.top S) (show Sl.viewC (.hot Md.free h) = some d from e)
  | slot i =>
    simp only [Q.viewC, Option.bind_eq_some_iff] at e
    obtain ⟨sl, e1, e2⟩ := e
    have q := St1.slot (C := C) S e1
    have ok : σ[i]? = some (some v) := ok
    rw [ok] at q
    exact q.viewC (St1.gh (C := C) S) e2
/-- the script's items -/
def scrD : D → Option (List D)
  | .dict [(.none, .list ds)] => some ds
  | _ => none
theorem Rp.script {K : PySem.W.Frag} {ds : List D} (h : Rp K G v d) (e : scrD d = some ds) : ∃ a vs, v = .ref a ∧ SqL K G a vs ∧ RpAll K G vs ds := by
  unfold scrD at e
  split at e
  · cases e
    generalize hd : PyData.dict [(PyData.none, PyData.list _)] = d0 at h
    cases h with
    | scr h a => cases hd; exact ⟨_, _, rfl, h, a⟩
    | dic h a =>
      cases hd
      generalize hk : [(PyData.none, PyData.list ds)] = kv at a
      cases a with
      | nil => cases hk
      | cons _ _ =>
        rename_i k _ _ _ _ _ _
        cases k <;> cases hk
    | _ => cases hd
  · cases e
def scrOf (r : Rv) (env : Sto) : Option (List D) := match r with
  | .cold d => scrD d
  | .slot i => match env[i]? with
    | some (.val d) => scrD d
    | _ => none
  | _ => none
theorem St1.scrOf {ds : List D} (S : St1 (pend C v r) G ow σ H env) (ok : RvOk σ v r) (e : scrOf r env = some ds) : ∃ a vs, v = .ref a ∧ SqL C.K H a vs ∧ RpAll C.K G vs ds := by
  have go : ∀ {d}, Rp C.K G v d → scrD d = some ds → ∃ a vs, v = .ref a ∧ SqL C.K H a vs ∧ RpAll C.K G vs ds := fun h e => by
    obtain ⟨a, vs, rfl, h1, h2⟩ := h.script e
    refine ⟨a, vs, rfl, ?_, h2⟩
    cases r with
    | cold d => exact SqL.sub S.gh h1
    | hot h => exact SqL.sub S.gh h1
    | slot i => exact SqL.sub (St1.gh (C := C) S) h1
  cases r with
  | cold d =>
    obtain ⟨x, e1, q⟩ := St1.top (C := C) S
    cases e1
    exact go q e
  | hot h => cases e
  | slot i =>
    simp only [Q.scrOf] at e
    split at e
    · rename_i d hd
      exact go (RvOk.top (C := C) S ok hd) e
    · cases e
end

/-! ### binary and unary operations on data -/
def fin1 (o : Option Rv) (env : Sto) : Res Rv := match o with
  | some r => .ok r env
  | none => .no
def dat2 (h : D → D → Option Rv) : Rv → Rv → Sto → Res Rv := fun ra rb env => fin1 ((viewC ra env).bind fun a => (viewC rb env).bind fun b => h a b) env
def dat1 (h : D → Option Rv) : Rv → Sto → Res Rv := fun ra env => fin1 ((viewC ra env).bind h) env
/-- .. on data as a whole, to a scalar -/
def whole2 (h : D → D → Option D) : Rv → Rv → Sto → Res Rv := fun ra rb env => fin1 ((view ra env).bind fun a => (view rb env).bind fun b => (h a b).map .cold) env
theorem fin1_ok {o : Option Rv} {env env' : Sto} {r : Rv} (h : fin1 o env = .ok r env') : o = some r ∧ env' = env := by
  cases o with
  | none => cases h
  | some r' => cases h; exact ⟨rfl, rfl⟩
def Op2 (X : Cx) (r : R2) (h : D → D → Option Rv) : Prop := ∀ (C : Ctx) (G : Hp) (ow : Addr → Option Nat) (σ : L2.St) (H : Hp) (env : Sto) (v u : V) (a b : D) (rr : Rv) (Q : VK), C.K = X.K → St1 C G ow σ H env → Dh C.K G H v a → Dh C.K G H u b → h a b = some rr → Fin C σ env rr Q → r v u H Q
def Op1 (X : Cx) (r : V → Hp → VK → Prop) (h : D → Option Rv) : Prop := ∀ (C : Ctx) (G : Hp) (ow : Addr → Option Nat) (σ : L2.St) (H : Hp) (env : Sto) (v : V) (a : D) (rr : Rv) (Q : VK), C.K = X.K → St1 C G ow σ H env → Dh C.K G H v a → h a = some rr → Fin C σ env rr Q → r v H Q
/-- .. on data as a whole -/
def OpW (X : Cx) (r : R2) (h : D → D → Option D) : Prop := ∀ (H : Hp) (v u : V) (a b d : D) (Q : VK), Rp X.K H v a → Rp X.K H u b → h a b = some d → (∀ x, (∀ G, Rp X.K G x d) → Q x H) → r v u H Q
theorem Op2.s {X : Cx} {r : R2} {h : D → D → Option Rv} (o : Op2 X r h) : OpS X r (dat2 h) := by
  intro C σ H env v u ra rb r' env' Q hK ⟨G, ow, S⟩ ok1 ok2 e k
  obtain ⟨e, rfl⟩ := fin1_ok e
  simp only [Option.bind_eq_some_iff] at e
  obtain ⟨a, ha, b, hb, e⟩ := e
  have h1 := St1.viewC (C := C) S.unpend ok1 ha
  have h2 := St1.viewC S ok2 hb
  rw [pend_K] at h2
  exact o C G ow σ H _ v u a b r' Q hK S.unpend.unpend h1 h2 e k
theorem Op1.s {X : Cx} {r : V → Hp → VK → Prop} {h : D → Option Rv} (o : Op1 X r h) : UnS X r (dat1 h) := by
  intro C σ H env v ra r' env' Q hK ⟨G, ow, S⟩ ok1 e k
  obtain ⟨e, rfl⟩ := fin1_ok e
  simp only [Option.bind_eq_some_iff] at e
  obtain ⟨a, ha, e⟩ := e
  exact o C G ow σ H _ v a r' Q hK S.unpend (St1.viewC S ok1 ha) e k
theorem OpW.s {X : Cx} {r : R2} {h : D → D → Option D} (o : OpW X r h) : OpS X r (whole2 h) := by
  intro C σ H env v u ra rb r' env' Q hK S ok1 ok2 e k
  obtain ⟨e, rfl⟩ := fin1_ok e
  simp only [Option.bind_eq_some_iff, Option.map_eq_some_iff] at e
  obtain ⟨a, ha, b, hb, d, e2, rfl⟩ := e
  have h1 := Stt.view (C := C) S.unpend ok1 ha
  have h2 := Stt.view S ok2 hb
  rw [pend_K] at h2
  rw [hK] at h1 h2
  exact o H v u a b d Q h1 h2 e2 fun x hx => k x H (Stt.scal (C := C) S.unpend.unpend fun G => by rw [hK]; exact hx G) trivial
theorem Op2.or {X : Cx} {r r' : R2} {h h' : D → D → Option Rv} (o : Op2 X r h) (o' : Op2 X r' h') : Op2 X (fun x y H Q => r x y H Q ∨ r' x y H Q) (fun a b => (h a b).or (h' a b)) := by
  intro C G ow σ H env v u a b rr Q hK S h1 h2 e F
  rcases Option.or_eq_some_iff.mp e with e | ⟨_, e⟩
  · exact .inl (o C G ow σ H env v u a b rr Q hK S h1 h2 e F)
  · exact .inr (o' C G ow σ H env v u a b rr Q hK S h1 h2 e F)
theorem Op2.of {X : Cx} {r : R2} {h h' : D → D → Option Rv} (o : Op2 X r h) (e : ∀ a b rr, h' a b = some rr → h a b = some rr) : Op2 X r h' := fun C G ow σ H env v u a b rr Q hK S h1 h2 q F => o C G ow σ H env v u a b rr Q hK S h1 h2 (e a b rr q) F
/-- ints to a scalar -/
def hI (g : Int → Int → Option D) : D → D → Option Rv
  | .int i, .int j => (g i j).map .cold
  | _, _ => none
theorem op2_I {X : Cx} {c : Int → Int → Prop} {gv : Int → Int → V} {g : Int → Int → Option D} (h : ∀ i j d, g i j = some d → c i j ∧ ∀ K G, Rp K G (gv i j) d) : Op2 X (rI c gv) (hI g) := by
  intro C G ow σ H env v u a b rr Q hK S h1 h2 e F
  cases a with
  | int i =>
    cases b with
    | int j =>
      cases h1
      cases h2
      simp only [hI, Option.map_eq_some_iff] at e
      obtain ⟨d, e1, rfl⟩ := e
      obtain ⟨hc, hd⟩ := h i j d e1
      exact ⟨i, j, rfl, rfl, hc, F.val S (hd _ _)⟩
    | _ => cases e
  | _ => cases e
theorem op2_I0 {X : Cx} {gv : Int → Int → V} {g : Int → Int → D} (h : ∀ i j, ∀ K G, Rp K G (gv i j) (g i j)) : Op2 X (rI0 gv) (hI fun i j => some (g i j)) := by
  intro C G ow σ H env v u a b rr Q hK S h1 h2 e F
  cases a with
  | int i =>
    cases b with
    | int j =>
      cases h1
      cases h2
      cases e
      exact ⟨i, j, rfl, rfl, F.val S (h i j _ _)⟩
    | _ => cases e
  | _ => cases e

/-! ### + -/
/-- a list's object, written or frozen -/
theorem lst_obj {X : Cx} {ps : List (Addr × Obj)} {sg : L2.St} {Hh : Hp} {st : Shared} {l : Addr} {xs : List V} (Iv : L2.Inv X ps sg Hh st) (rd : Rd Hh l (.lst xs)) :
    xs.length ≤ sizeLine ∧ ∃ (us : List Value) (n : Nat), Vals xs us ∧ st.heap.get? l = some { cls := .type "list", data := .seq us.toArray n } :=
  let ⟨fit, us, n, rv, at_⟩ := rd.ok Iv.hok
  ⟨fit, us, n, rv, at_⟩
theorem laidL {X : Cx} {ps : List (Addr × Obj)} {sg : L2.St} {Hh : Hp} {st : Shared} {xs : List V} {us : List Value} {A : Array Value} {Q : VK} (e : A = us.toArray) (Iv : L2.Inv X ps sg Hh st) (rv : Vals xs us) (fit : xs.length ≤ sizeLine)
    (q : ∀ p, Hh p = none → Q (.ref p) (upd Hh p (.lst xs))) : EP X ps sg Q (.ref st.heap.objs.size) { st with heap := st.heap.push { cls := .type "list", data := .seq A } } := by
  subst e
  exact ⟨.ref _, _, Iv.lnew (t' := st.toks) rv fit, rfl, q _ Iv.fresh⟩
def cap (n : Nat) : Prop := n ≤ sizeLine
instance (n : Nat) : Decidable (cap n) := by unfold cap; infer_instance
section
variable {X : Cx}
def rCatL : R2 := fun x y H Q => ∃ l b xs zs, x = .ref l ∧ y = .ref b ∧ Rd H l (.lst xs) ∧ Rd H b (.lst zs) ∧ xs.length + zs.length ≤ sizeLine ∧ ∀ p, H p = none → Q (.ref p) (upd H p (.lst (xs ++ zs)))
theorem op_catL : OpR X (binaryOp .Add) rCatL := by
  rintro ps st sg Hh _ _ _ _ Q Iv e1 e2 ⟨l, b, xs, zs, rfl, rfl, r1, r2, fit, q⟩
  cases e1; cases e2
  obtain ⟨-, us, n, ru, o1⟩ := lst_obj Iv r1
  obtain ⟨-, ws, m, rw, o2⟩ := lst_obj Iv r2
  have lens : us.length + ws.length ≤ sizeLine := by rw [← ru.length, ← rw.length]; exact fit
  exact PySem.P.add_list o1 o2 (laidL (by simp) Iv (ru.append rw) (by rw [List.length_append]; exact fit) q) (by simpa using lens)
def hAddI : D → D → Option Rv := hI fun i j => some (.int (i + j))
def hCatL : D → D → Option Rv
  | .list xs, .list ys => if cap (xs.length + ys.length) then some (.hot (.lst (xs ++ ys))) else none
  | _, _ => none
def hCatT : D → D → Option Rv
  | .tuple xs, .tuple ys => if cap (xs.length + ys.length) then some (.cold (.tuple (xs ++ ys))) else none
  | _, _ => none
def hCatS : D → D → Option Rv
  | .str x, .str y => if cap (x.length + y.length) then some (.cold (.str (x ++ y))) else none
  | _, _ => none
theorem o_catL : Op2 X rCatL hCatL := by
  intro C G ow σ H env v u a b rr Q hK S h1 h2 e F
  cases a with
  | list xs =>
    cases b with
    | list ys =>
      obtain ⟨l, vs, rfl, r1, q1⟩ := h1
      obtain ⟨b, ws, rfl, r2, q2⟩ := h2
      simp only [hCatL] at e
      split at e
      · rename_i hc
        cases e
        exact ⟨l, b, vs, ws, rfl, rfl, r1, r2, by rw [q1.length, q2.length]; exact hc, fun p hp => F.lst S (q1.append q2) hp⟩
      · cases e
    | _ => cases e
  | _ => cases e
theorem o_catT : Op2 X (rCatF X.K) hCatT := by
  intro C G ow σ H env v u a b rr Q hK S h1 h2 e F
  cases a with
  | tuple xs =>
    cases b with
    | tuple ys =>
      cases h1 with
      | tup r1 q1 =>
        cases h2 with
        | tup r2 q2 =>
          simp only [hCatT] at e
          split at e
          · rename_i hc
            cases e
            rw [hK] at r1 r2
            refine ⟨_, _, _, _, rfl, rfl, SqT.sub S.gh r1.sq, SqT.sub S.gh r2.sq, by rw [q1.length, q2.length]; exact hc, fun z => ?_, fun z z2 => ?_, fun _ _ => F.tup S (q1.append q2)⟩
            · subst z
              cases q1
              exact F.val S (.tup (by rw [hK]; exact r2) q2)
            · subst z2
              cases q2
              rw [List.append_nil] at F
              exact F.val S (.tup (by rw [hK]; exact r1) q1)
          · cases e
    | _ => cases e
  | _ => cases e
theorem o_catS : Op2 X (fun x y H Q => ∃ i j, x = .str i ∧ y = .str j ∧ i.length + j.length ≤ sizeLine ∧ Q (.str (i ++ j)) H) hCatS := by
  intro C G ow σ H env v u a b rr Q hK S h1 h2 e F
  cases a with
  | str xs =>
    cases b with
    | str ys =>
      cases h1
      cases h2
      simp only [hCatS] at e
      split at e
      · rename_i hc
        cases e
        exact ⟨_, _, rfl, rfl, hc, F.val S (.str _)⟩
      · cases e
    | _ => cases e
  | _ => cases e
def hAdd : D → D → Option Rv
  | .int i, .int j => some (.cold (.int (i + j)))
  | .list xs, .list ys => if cap (xs.length + ys.length) then some (.hot (.lst (xs ++ ys))) else none
  | .tuple xs, .tuple ys => if cap (xs.length + ys.length) then some (.cold (.tuple (xs ++ ys))) else none
  | .str x, .str y => if cap (x.length + y.length) then some (.cold (.str (x ++ y))) else none
  | _, _ => none
variable {a b : Expr} {fa fb : Ex} {pos : Pos}
theorem qe_add (ha : QE X a fa) (hb : QE X b fb) : QE X (.BinOp a .Add b pos) (bin (dat2 hAdd) fa fb) :=
  qe_op (OpR.or op_add (OpR.or op_catL (OpR.or op_catF op_add_str))) (Op2.s (Op2.of (Op2.or (op2_I0 (g := fun i j => .int (i + j)) fun i j _ _ => .int _) (Op2.or o_catL (Op2.or o_catT o_catS))) fun a b rr e => by
    cases a <;> cases b <;> first | exact e | cases e | skip
    all_goals simp only [hAdd] at e
    all_goals simp only [hI, hCatL, hCatT, hCatS, Option.none_or, Option.or_none, Option.map_some, Option.some_or]
    all_goals exact e)) ha hb
/-! ### - * // % ** -/
def hSub : D → D → Option Rv := hI fun i j => some (.int (i - j))
theorem qe_sub (ha : QE X a fa) (hb : QE X b fb) : QE X (.BinOp a .Sub b pos) (bin (dat2 hSub) fa fb) := qe_op op_sub (Op2.s (op2_I0 (g := fun i j => .int (i - j)) fun i j _ _ => .int _)) ha hb
def mulOk (i j : Int) : Prop := (-(2 ^ 64) < i ∧ i < 2 ^ 64) ∨ (-(2 ^ 64) < j ∧ j < 2 ^ 64)
instance (i j : Int) : Decidable (mulOk i j) := by unfold mulOk; infer_instance
def hMulI : D → D → Option Rv := hI fun i j => if mulOk i j then some (.int (i * j)) else none
def hRepL : D → D → Option Rv
  | .list xs, .int k => if -(2 ^ 63) ≤ k ∧ k < 2 ^ 63 ∧ cap (xs.length * k.toNat) then some (.hot (.lst (List.replicate k.toNat xs).flatten)) else none
  | _, _ => none
def hRepT : D → D → Option Rv
  | .tuple xs, .int k => if xs ≠ [] ∧ 1 ≤ k ∧ k ≤ 1000 ∧ xs.length ≤ 1000 then some (.cold (.tuple (List.replicate k.toNat xs).flatten)) else none
  | _, _ => none
def rRepL : R2 := fun x y H Q => ∃ l k xs, x = .ref l ∧ y = .int k ∧ Rd H l (.lst xs) ∧ -(2 ^ 63) ≤ k ∧ k < 2 ^ 63 ∧ xs.length * k.toNat ≤ sizeLine ∧
  ∀ p, H p = none → Q (V.ref p) (upd H p (HO.lst (List.replicate k.toNat xs).flatten))
/-- xs * n is what list.__mul__ tells -/
theorem rep_by_slot {ps : List (Addr × Obj)} {sg : L2.St} {st : Shared} {l : Addr} {A : Array Value} {n : Nat} {k : Int} {tk : Tok} {Q : VK} (ho : st.heap.get? l = some { cls := .type "list", data := .seq A n })
    (h : wpAny (model X.prog X.w) X.A (call (.builtin "list.__mul__") [.ref l, .int k tk]) (EP X ps sg Q) X.xe st) : wpAny (model X.prog X.w) X.A (binaryOp .Mult (.ref l) (.int k tk)) (EP X ps sg Q) X.xe st := by
  have isT : st.TypeIs (.ref l) "list" := ⟨_, ho, rfl⟩
  apply wpAny_binaryOp_repeat_ref (U := "int") (by decide) isT (typeIs_int · k tk) noFill_list_mul F.fills_int_mul F.slot_int_rmul repeat_list F.slot_int_index.lookup
  exact call_meets F.slot_int_rmul (typeIs_int st k tk) F.entry_int_rmul (F.args_int_rmul_2 _ _) (int___rmul___int_list k tk l A n) ⟨ho, rfl, isT, h⟩
theorem op_repL : OpR X (binaryOp .Mult) rRepL := by
  rintro ps st sg Hh _ _ _ _ Q Iv e1 e2 ⟨l, k, xs, rfl, rfl, rd, low, high, fit, q⟩
  cases e1
  obtain ⟨tk, rfl⟩ := e2
  obtain ⟨-, us, n, ru, at_⟩ := lst_obj Iv rd
  have total : us.toArray.size * k.toNat ≤ sizeLine := by simpa [ru.length] using fit
  have far : (sizeLine : Nat) ≤ (2 ^ 63 - 1) / 8 := by decide
  have flat : List.foldl (· ++ ·) #[] (List.replicate (if us.toArray.isEmpty = true then 0 else k.toNat) us.toArray) = (List.replicate k.toNat us).flatten.toArray := by
    rcases us with _ | ⟨u, us⟩
    · simp
    · rw [if_neg (by simp)]
      simpa using foldl_rep (u :: us) k.toNat []
  apply rep_by_slot at_
  refine call_meets F.slot_list_mul ⟨_, at_, rfl⟩ F.entry_list_mul (F.args_list_mul_2 _ _) (AutoListH.list___mul___list_int_3 l us.toArray n k tk ?_ (by omega) ?_) ⟨at_, ?_⟩
  · simp [fitsIndex_both low high]
  · rw [notLongL total]; exact Bool.false_ne_true
  · exact laidL flat Iv (ru.rep k.toNat) (by rw [PyProof.Rows.lm_len_rep_flat, Nat.mul_comm]; exact fit) q
theorem o_repL : Op2 X rRepL hRepL := by
  intro C G ow σ H env v u a b rr Q hK S h1 h2 e F
  cases a with
  | list xs =>
    cases b with
    | int k =>
      obtain ⟨l, vs, rfl, r1, q1⟩ := h1
      cases h2
      simp only [hRepL] at e
      split at e
      · rename_i hc
        cases e
        exact ⟨l, k, vs, rfl, rfl, r1, hc.1, hc.2.1, by rw [q1.length]; exact hc.2.2, fun p hp => F.lst S (q1.rep _) hp⟩
      · cases e
    | _ => cases e
  | _ => cases e
theorem o_repT : Op2 X (rRepF X.K) hRepT := by
  intro C G ow σ H env v u a b rr Q hK S h1 h2 e F
  cases a with
  | tuple xs =>
    cases b with
    | int k =>
      cases h1 with
      | tup r1 q1 =>
        cases h2
        simp only [hRepT] at e
        split at e
        · rename_i hc
          cases e
          rw [hK] at r1
          refine ⟨_, k, _, rfl, rfl, SqT.sub S.gh r1.sq, fun z => hc.1 ?_, hc.2.1, hc.2.2.1, by rw [q1.length]; exact hc.2.2.2, fun z => ?_, fun _ => F.tup S (q1.rep _)⟩
          · subst z
            cases q1
            rfl
          · subst z
            have e1 : (List.replicate (Int.toNat 1) xs).flatten = xs := by simp
            rw [e1] at F
            exact F.val S (.tup (by rw [hK]; exact r1) q1)
        · cases e
    | _ => cases e
  | _ => cases e
def hMul : D → D → Option Rv
  | .int i, .int j => if mulOk i j then some (.cold (.int (i * j))) else none
  | .list xs, .int k => hRepL (.list xs) (.int k)
  | .tuple xs, .int k => hRepT (.tuple xs) (.int k)
  | _, _ => none
theorem qe_mul (ha : QE X a fa) (hb : QE X b fb) : QE X (.BinOp a .Mult b pos) (bin (dat2 hMul) fa fb) :=
  qe_op (OpR.or op_mul (OpR.or op_repL op_repF)) (Op2.s (Op2.of (Op2.or (op2_I (g := fun i j => if mulOk i j then some (.int (i * j)) else none) fun i j d e => by
      split at e
      · rename_i h; cases e; exact ⟨h, fun _ _ => .int _⟩
      · cases e) (Op2.or o_repL o_repT)) fun a b rr e => by
    cases a <;> cases b <;> first | cases e | skip
    all_goals simp only [hMul] at e
    · simp only [hI]
      split at e
      · rename_i h
        rw [if_pos h]
        cases e
        rfl
      · cases e
    · simp only [hI, Option.none_or]
      rw [e]; rfl
    · simp only [hI, Option.none_or, hRepL]
      exact e)) ha hb
def divOk (j : Int) : Prop := 0 < j ∧ j < 1073741824
instance (j : Int) : Decidable (divOk j) := by unfold divOk; infer_instance
def hDiv : D → D → Option Rv := hI fun i j => if divOk j then some (.int (i / j)) else none
def hMod : D → D → Option Rv := hI fun i j => if 0 < j then some (.int (i % j)) else none
def powOk (i j : Int) : Prop := 0 ≤ j ∧ j ≤ 1000000 ∧ i.natAbs < 2 ^ 64
instance (i j : Int) : Decidable (powOk i j) := by unfold powOk; infer_instance
def hPow : D → D → Option Rv := hI fun i j => if powOk i j then some (.int (i ^ j.toNat)) else none
theorem qe_div (ha : QE X a fa) (hb : QE X b fb) : QE X (.BinOp a .FloorDiv b pos) (bin (dat2 hDiv) fa fb) := qe_op op_fdiv (Op2.s (op2_I fun i j d e => by
  split at e
  · rename_i h; cases e; exact ⟨h, fun _ _ => .int _⟩
  · cases e)) ha hb
theorem qe_mod (ha : QE X a fa) (hb : QE X b fb) : QE X (.BinOp a .Mod b pos) (bin (dat2 hMod) fa fb) := qe_op op_mod (Op2.s (op2_I fun i j d e => by
  split at e
  · rename_i h; cases e; exact ⟨h, fun _ _ => .int _⟩
  · cases e)) ha hb
theorem qe_pow (ha : QE X a fa) (hb : QE X b fb) : QE X (.BinOp a .Pow b pos) (bin (dat2 hPow) fa fb) := qe_op op_pow (Op2.s (op2_I fun i j d e => by
  split at e
  · rename_i h; cases e; exact ⟨h, fun _ _ => .int _⟩
  · cases e)) ha hb
theorem rd_un' {r : V → Hp → VK → Prop} {h : D → Option Rv} (o : Op1 X r h) {σ : L2.St} {H : Hp} {Q : VK} : rd X.K (una (dat1 h) fa) σ H Q → tUn r (rd X.K fa) σ H Q := rd_un o.s
def hNeg : D → Option Rv
  | .int i => some (.cold (.int (-i)))
  | _ => none
theorem qe_neg (ha : QE X a fa) : QE X (.UnaryOp .USub a pos) (una (dat1 hNeg) fa) := (pe_un un_neg ha).imp fun _ _ _ => rd_un' fun C G ow σ H env v d rr Q hK S h1 e F => by
  cases d with
  | int i =>
    cases h1
    cases e
    exact ⟨i, rfl, F.val S (.int _)⟩
  | _ => cases e
end
end Q
set_option Elab.async false
set_option linter.all false
set_option maxRecDepth 100000
set_option maxHeartbeats 1000000
namespace Q
open PySem PySem.Spec PyProof.Rows L2
section
variable {X : Cx} {a b : Expr} {fa fb : Ex} {pos : Pos}

/-! ### == != -/
theorem shaped_lay {d : D} (h : SeqAt.shaped d = true) : d.canLay0 = true := SeqAt.canLay_of_shaped h
def wEq (x y : D) : Option D := if SeqAt.shaped x = true ∧ SeqAt.shaped y = true then some (.bool (PyData.eqv x y)) else none
def wNe (x y : D) : Option D := if SeqAt.shaped x = true ∧ SeqAt.shaped y = true then some (.bool (!PyData.eqv x y)) else none
theorem o_eq : OpW X (rEqD X.K) wEq := by
  intro H v u x y d Q h1 h2 e k
  simp only [wEq] at e
  split at e
  · rename_i hc
    cases e
    exact ⟨x, y, h1.dp (shaped_lay hc.1), h2.dp (shaped_lay hc.2), hc.1, hc.2, k _ fun _ => .bl _⟩
  · cases e
theorem o_ne : OpW X (rNeD X.K) wNe := by
  intro H v u x y d Q h1 h2 e k
  simp only [wNe] at e
  split at e
  · rename_i hc
    cases e
    exact ⟨x, y, h1.dp (shaped_lay hc.1), h2.dp (shaped_lay hc.2), hc.1, hc.2, k _ fun _ => .bl _⟩
  · cases e
theorem qe_eq (hu : X.A.units + 64 < cLine) (ha : QE X a fa) (hb : QE X b fb) : QE X (.Compare a [.Eq] [b] pos) (bin (whole2 wEq) fa fb) := qe_cmp (op_eqD hu) o_eq.s ha hb (nomark _)
theorem qe_ne (hu : X.A.units + 64 < cLine) (ha : QE X a fa) (hb : QE X b fb) : QE X (.Compare a [.NotEq] [b] pos) (bin (whole2 wNe) fa fb) := qe_cmp (op_neD hu) o_ne.s ha hb (nomark _)
theorem qt_eq (hu : X.A.units + 64 < cLine) (ha : QE X a fa) (hb : QE X b fb) : QT X (.Compare a [.Eq] [b] pos) (asB (bin (whole2 wEq) fa fb)) := qt_cmp (op_eqD hu) o_eq.s ha hb (nomark _)
theorem qt_ne (hu : X.A.units + 64 < cLine) (ha : QE X a fa) (hb : QE X b fb) : QT X (.Compare a [.NotEq] [b] pos) (asB (bin (whole2 wNe) fa fb)) := qt_cmp (op_neD hu) o_ne.s ha hb (nomark _)

/-! ### < <= > >= -/
theorem room_sh {A : Around} {da db : D} (h : SeqAt.shaped da = true) (hu : A.units + 64 < cLine) : A.units + min da.depth db.depth < cLine := SeqAt.room_of_shaped h hu
def rOrd (K : PySem.W.Frag) (g : D → D → Bool) : R2 := fun x y H Q => ∃ d e, Dp K H x d ∧ Dp K H y e ∧ SeqAt.shaped d = true ∧ PySem.W.alike d e = true ∧ d ≠ .none ∧ Q (.bl (g d e)) H
theorem op_ord {op : CmpOp} {g : D → D → Bool} (hu : X.A.units + 64 < cLine)
    (rule : ∀ {prog : Program} {w : World} {A : Around} {E : Value → Shared → Prop} {s : Shared} {a b : Value} {da db : D} {as bs : List Addr} {Q : Value → Shared → Prop}, Reads s.heap a da as → Reads s.heap b db bs → PySem.W.alike da db = true → da ≠ .none → A.units + min da.depth db.depth < cLine → Q (.bool (g da db)) s → wpAny (model prog w) A (compareOp op a b) Q E s) :
    OpR X (compareOp op) (rOrd X.K g) := by
  rintro ps st sg Hh _ _ va vb Q Iv e1 e2 ⟨d, e, hd, he, sd, al, nn, q⟩
  obtain ⟨_, ra⟩ := Dp.reads Iv d _ va hd e1
  obtain ⟨_, rb⟩ := Dp.reads Iv e _ vb he e2
  exact rule ra rb al nn (room_sh sd hu) ⟨.bl _, Hh, Iv, rfl, q⟩
def isNone : D → Bool
  | .none => true
  | _ => false
def wOrd (gi : Int → Int → Bool) (g : D → D → Bool) (x y : D) : Option D := match x, y with
  | .int i, .int j => some (.bool (gi i j))
  | x, y => if SeqAt.shaped x = true ∧ SeqAt.shaped y = true ∧ PySem.W.alike x y = true ∧ isNone x = false then some (.bool (g x y)) else none
theorem o_ord {gi : Int → Int → Bool} {g : D → D → Bool} : OpW X (fun x y H Q => rI0 (fun i j => .bl (gi i j)) x y H Q ∨ rOrd X.K g x y H Q) (wOrd gi g) := by
  intro H v u x y d Q h1 h2 e k
  unfold wOrd at e
  split at e
  · cases h1; cases h2; cases e
    exact .inl ⟨_, _, rfl, rfl, k _ fun _ => .bl _⟩
  · split at e
    · rename_i hc
      cases e
      refine .inr ⟨x, y, h1.dp (shaped_lay hc.1), h2.dp (shaped_lay hc.2.1), hc.1, hc.2.2.1, fun z => ?_, k _ fun _ => .bl _⟩
      subst z
      cases hc.2.2.2
    · cases e
abbrev wLt := wOrd (fun i j => decide (i < j)) PySem.W.dataLt
abbrev wLe := wOrd (fun i j => decide (i ≤ j)) fun x y => !PySem.W.dataLt y x
abbrev wGt := wOrd (fun i j => decide (j < i)) fun x y => PySem.W.dataLt y x
abbrev wGe := wOrd (fun i j => decide (j ≤ i)) fun x y => !PySem.W.dataLt x y
theorem op_Lt (hu : X.A.units + 64 < cLine) : OpR X (compareOp .Lt) (fun x y H Q => rI0 (fun i j => .bl (decide (i < j))) x y H Q ∨ rOrd X.K PySem.W.dataLt x y H Q) := OpR.or op_lt (op_ord hu PySem.W.lt_data)
theorem op_Le (hu : X.A.units + 64 < cLine) : OpR X (compareOp .LtE) (fun x y H Q => rI0 (fun i j => .bl (decide (i ≤ j))) x y H Q ∨ rOrd X.K (fun x y => !PySem.W.dataLt y x) x y H Q) := OpR.or op_le (op_ord hu PySem.W.le_data)
theorem op_Gt (hu : X.A.units + 64 < cLine) : OpR X (compareOp .Gt) (fun x y H Q => rI0 (fun i j => .bl (decide (j < i))) x y H Q ∨ rOrd X.K (fun x y => PySem.W.dataLt y x) x y H Q) := OpR.or op_gt (op_ord hu PySem.W.gt_data)
theorem op_Ge (hu : X.A.units + 64 < cLine) : OpR X (compareOp .GtE) (fun x y H Q => rI0 (fun i j => .bl (decide (j ≤ i))) x y H Q ∨ rOrd X.K (fun x y => !PySem.W.dataLt x y) x y H Q) := OpR.or op_ge (op_ord hu PySem.W.ge_data)
theorem qe_lt (hu : X.A.units + 64 < cLine) (ha : QE X a fa) (hb : QE X b fb) : QE X (.Compare a [.Lt] [b] pos) (bin (whole2 wLt) fa fb) := qe_cmp (op_Lt hu) o_ord.s ha hb (nomark _)
theorem qe_le (hu : X.A.units + 64 < cLine) (ha : QE X a fa) (hb : QE X b fb) : QE X (.Compare a [.LtE] [b] pos) (bin (whole2 wLe) fa fb) := qe_cmp (op_Le hu) o_ord.s ha hb (nomark _)
theorem qe_gt (hu : X.A.units + 64 < cLine) (ha : QE X a fa) (hb : QE X b fb) : QE X (.Compare a [.Gt] [b] pos) (bin (whole2 wGt) fa fb) := qe_cmp (op_Gt hu) o_ord.s ha hb (nomark _)
theorem qe_ge (hu : X.A.units + 64 < cLine) (ha : QE X a fa) (hb : QE X b fb) : QE X (.Compare a [.GtE] [b] pos) (bin (whole2 wGe) fa fb) := qe_cmp (op_Ge hu) o_ord.s ha hb (nomark _)
theorem qt_lt (hu : X.A.units + 64 < cLine) (ha : QE X a fa) (hb : QE X b fb) : QT X (.Compare a [.Lt] [b] pos) (asB (bin (whole2 wLt) fa fb)) := qt_cmp (op_Lt hu) o_ord.s ha hb (nomark _)
theorem qt_le (hu : X.A.units + 64 < cLine) (ha : QE X a fa) (hb : QE X b fb) : QT X (.Compare a [.LtE] [b] pos) (asB (bin (whole2 wLe) fa fb)) := qt_cmp (op_Le hu) o_ord.s ha hb (nomark _)
theorem qt_gt (hu : X.A.units + 64 < cLine) (ha : QE X a fa) (hb : QE X b fb) : QT X (.Compare a [.Gt] [b] pos) (asB (bin (whole2 wGt) fa fb)) := qt_cmp (op_Gt hu) o_ord.s ha hb (nomark _)
theorem qt_ge (hu : X.A.units + 64 < cLine) (ha : QE X a fa) (hb : QE X b fb) : QT X (.Compare a [.GtE] [b] pos) (asB (bin (whole2 wGe) fa fb)) := qt_cmp (op_Ge hu) o_ord.s ha hb (nomark _)

/-! ### in, not in -/
def keyOf : D → Option Key
  | .int i => some (.inl i)
  | .str x => some (.inr x)
  | _ => none
def dget (kvs : List (D × D)) (k : Key) : Option D := (kvs.find? fun p => decide (keyOf p.1 = some k)).map (·.2)
theorem keyOf_keyD (k : Key) : keyOf (keyD k) = some k := by cases k <;> rfl
theorem Rp.key {K : PySem.W.Frag} {G : Hp} {v : V} {d : D} {k : Key} (h : Rp K G v d) (e : keyOf d = some k) : v = kV k := by
  cases d with
  | int i => cases e; cases h; rfl
  | str x => cases e; cases h; rfl
  | _ => cases e
theorem RpKv.get {K : PySem.W.Frag} {G : Hp} : ∀ {ks : List (Key × V)} {kvs : List (D × D)}, RpKv K G ks kvs → ∀ k : Key,
    (valV ks k = none ∧ dget kvs k = none) ∨ ∃ v d, valV ks k = some v ∧ dget kvs k = some d ∧ Rp K G v d
  | _, _, .nil, k => .inl ⟨rfl, rfl⟩
  | _, _, .cons (k := j) (v := v) (d := d) h t, k => by
    by_cases e : j = k
    · subst e
      refine .inr ⟨v, d, valV_pos (p := (j, v)) rfl, ?_, h⟩
      simp [dget, List.find?_cons, keyOf_keyD]
    · have e2 : ¬ (keyOf (keyD j) = some k) := fun z => e (Option.some.inj (keyOf_keyD j ▸ z))
      have e3 : ∀ r, dget ((keyD j, d) :: r) k = dget r k := fun r => by simp [dget, List.find?_cons, e2]
      rw [valV_neg (p := (j, v)) e, e3]
      exact RpKv.get t k
def rInT (K : PySem.W.Frag) (neg : Bool) : R2 := fun x y H Q => ∃ d ds, Dp K H x d ∧ Dp K H y (.tuple ds) ∧ SeqAt.shaped d = true ∧ SeqAt.shaped (.tuple ds) = true ∧ Q (.bl (if neg then !(ds.any fun z => PyData.eqv z d) else ds.any fun z => PyData.eqv z d)) H
theorem op_inT (hu : X.A.units + 65 < cLine) : OpR X (compareOp .In) (rInT X.K false) := by
  rintro ps st sg Hh _ _ va vb Q Iv e1 e2 ⟨d, ds, hd, he, sd, se, q⟩
  obtain ⟨_, ra⟩ := Dp.reads Iv d _ va hd e1
  obtain ⟨_, rb⟩ := Dp.reads Iv (.tuple ds) _ vb he e2
  exact SeqAt.in_tuple_reads rb ra (shaped_lay se) (shaped_lay sd) (room_in_shaped sd hu) ⟨.bl _, Hh, Iv, rfl, q⟩
theorem op_notInT (hu : X.A.units + 65 < cLine) : OpR X (compareOp .NotIn) (rInT X.K true) := by
  rintro ps st sg Hh _ _ va vb Q Iv e1 e2 ⟨d, ds, hd, he, sd, se, q⟩
  obtain ⟨_, ra⟩ := Dp.reads Iv d _ va hd e1
  obtain ⟨_, rb⟩ := Dp.reads Iv (.tuple ds) _ vb he e2
  exact SeqAt.notIn_tuple_reads rb ra (shaped_lay se) (shaped_lay sd) (room_in_shaped sd hu) ⟨.bl _, Hh, Iv, rfl, q⟩
def rInDc (neg : Bool) : R2 := fun y x H Q => ∃ a o, x = .ref a ∧ DGet H a y o ∧ Q (.bl (if neg then !o.isSome else o.isSome)) H
theorem op_inDc (hu : X.A.units + 1 < cLine) : OpR X (compareOp .In) (rInDc false) := by
  intro pins s σ H x y v u Q I rx ry ⟨a, o, e, g, q⟩
  subst e
  cases ry
  exact d_in hu I g rx fun s' I' => ⟨.bl o.isSome, H, I', rfl, q⟩
theorem op_notInDc (hu : X.A.units + 1 < cLine) : OpR X (compareOp .NotIn) (rInDc true) := by
  intro pins s σ H x y v u Q I rx ry ⟨a, o, e, g, q⟩
  subst e
  cases ry
  exact d_notIn hu I g rx fun s' I' => ⟨.bl (!o.isSome), H, I', rfl, q⟩
def isIn (x : D) : D → Option Bool
  | .list ds => if SeqAt.shaped x = true ∧ SeqAt.shaped (.list ds) = true then some (ds.any fun z => PyData.eqv z x) else none
  | .tuple ds => if SeqAt.shaped x = true ∧ SeqAt.shaped (.tuple ds) = true then some (ds.any fun z => PyData.eqv z x) else none
  | .dict kvs => (plainD (.dict kvs)).bind fun _ => (keyOf x).map fun k => (dget kvs k).isSome
  | _ => none
def wIn (x y : D) : Option D := (isIn x y).map .bool
def wNotIn (x y : D) : Option D := (isIn x y).map fun b => .bool (!b)
theorem o_in (neg : Bool) : OpW X (fun x y H Q => (if neg then rNotInD X.K x y H Q else rInD X.K x y H Q) ∨ rInT X.K neg x y H Q ∨ rInDc neg x y H Q) (fun x y => (isIn x y).map fun b => .bool (if neg then !b else b)) := by
  intro H v u x y d Q h1 h2 e k
  simp only [Option.map_eq_some_iff] at e
  obtain ⟨b, e, rfl⟩ := e
  cases y with
  | list ds =>
    simp only [isIn] at e
    split at e
    · rename_i hc
      cases e
      have q := k _ fun _ => .bl _
      refine .inl ?_
      cases neg with
      | true => exact ⟨x, ds, h1.dp (shaped_lay hc.1), h2.dp (shaped_lay hc.2), hc.1, hc.2, q⟩
      | false => exact ⟨x, ds, h1.dp (shaped_lay hc.1), h2.dp (shaped_lay hc.2), hc.1, hc.2, q⟩
    · cases e
  | tuple ds =>
    simp only [isIn] at e
    split at e
    · rename_i hc
      cases e
      exact .inr (.inl ⟨x, ds, h1.dp (shaped_lay hc.1), h2.dp (shaped_lay hc.2), hc.1, hc.2, k _ fun _ => .bl _⟩)
    · cases e
  | dict kvs =>
    simp only [isIn, Option.bind_eq_some_iff, Option.map_eq_some_iff] at e
    obtain ⟨_, hp, ky, e, rfl⟩ := e
    cases h2 with
    | scr _ _ => cases hp
    | dic h a =>
      have ev := h1.key e
      subst ev
      refine .inr (.inr ⟨_, _, rfl, .inl ⟨_, ky, h, rfl, rfl⟩, ?_⟩)
      have q := k _ fun _ => .bl _
      rcases RpKv.get a ky with ⟨e1, e2⟩ | ⟨w, d, e1, e2, _⟩
      · rw [e1]; rw [e2] at q; exact q
      · rw [e1]; rw [e2] at q; exact q
  | _ => cases e
theorem op_In (hu : X.A.units + 65 < cLine) : OpR X (compareOp .In) (fun x y H Q => (if false then rNotInD X.K x y H Q else rInD X.K x y H Q) ∨ rInT X.K false x y H Q ∨ rInDc false x y H Q) :=
  OpR.or (op_inD hu) (OpR.or (op_inT hu) (op_inDc (by omega)))
theorem op_NotIn (hu : X.A.units + 65 < cLine) : OpR X (compareOp .NotIn) (fun x y H Q => (if true then rNotInD X.K x y H Q else rInD X.K x y H Q) ∨ rInT X.K true x y H Q ∨ rInDc true x y H Q) :=
  OpR.or (op_notInD hu) (OpR.or (op_notInT hu) (op_notInDc (by omega)))
theorem OpW.of {r : R2} {h h' : D → D → Option D} (o : OpW X r h) (e : ∀ a b, h' a b = h a b) : OpW X r h' := fun H v u a b d Q h1 h2 q k => o H v u a b d Q h1 h2 (by rw [← e]; exact q) k
theorem o_wIn : OpW X (fun x y H Q => (if false then rNotInD X.K x y H Q else rInD X.K x y H Q) ∨ rInT X.K false x y H Q ∨ rInDc false x y H Q) wIn := OpW.of (o_in false) fun a b => rfl
theorem o_wNotIn : OpW X (fun x y H Q => (if true then rNotInD X.K x y H Q else rInD X.K x y H Q) ∨ rInT X.K true x y H Q ∨ rInDc true x y H Q) wNotIn := OpW.of (o_in true) fun a b => rfl
theorem qe_in (hu : X.A.units + 65 < cLine) (ha : QE X a fa) (hb : QE X b fb) (hm : behindInMarks .In b = false := by rfl) : QE X (.Compare a [.In] [b] pos) (bin (whole2 wIn) fa fb) := qe_cmp (op_In hu) o_wIn.s ha hb hm
theorem qe_notin (hu : X.A.units + 65 < cLine) (ha : QE X a fa) (hb : QE X b fb) (hm : behindInMarks .NotIn b = false := by rfl) : QE X (.Compare a [.NotIn] [b] pos) (bin (whole2 wNotIn) fa fb) := qe_cmp (op_NotIn hu) o_wNotIn.s ha hb hm
theorem qt_in (hu : X.A.units + 65 < cLine) (ha : QE X a fa) (hb : QE X b fb) (hm : behindInMarks .In b = false := by rfl) : QT X (.Compare a [.In] [b] pos) (asB (bin (whole2 wIn) fa fb)) := qt_cmp (op_In hu) o_wIn.s ha hb hm
theorem qt_notin (hu : X.A.units + 65 < cLine) (ha : QE X a fa) (hb : QE X b fb) (hm : behindInMarks .NotIn b = false := by rfl) : QT X (.Compare a [.NotIn] [b] pos) (asB (bin (whole2 wNotIn) fa fb)) := qt_cmp (op_NotIn hu) o_wNotIn.s ha hb hm

/-! ### is None, is True -/
def rIs (neg : Bool) : R2 := fun x y H Q => (y = .non ∧ Q (.bl (if neg then !decide (x = .non) else decide (x = .non))) H) ∨ ∃ a b, x = .bl a ∧ y = .bl b ∧ Q (.bl (if neg then !decide (a = b) else decide (a = b))) H
theorem op_isQ : OpR X (compareOp .Is) (rIs false) := OpR.or op_isN op_is_bl
theorem op_isnotQ : OpR X (compareOp .IsNot) (rIs true) := OpR.or op_notN op_isnot_bl
def isQ (x : D) : D → Option Bool
  | .none => some (isNone x)
  | .bool b => match x with
    | .bool a => some (decide (a = b))
    | _ => none
  | _ => none
def wIs (x y : D) : Option D := (isQ x y).map .bool
def wIsNot (x y : D) : Option D := (isQ x y).map fun b => .bool (!b)
theorem o_isQ (neg : Bool) : OpW X (rIs neg) (fun x y => (isQ x y).map fun b => .bool (if neg then !b else b)) := by
  intro H v u x y d Q h1 h2 e k
  simp only [Option.map_eq_some_iff] at e
  obtain ⟨b, e, rfl⟩ := e
  have q := k _ fun _ => .bl _
  cases y with
  | none =>
    cases h2
    cases e
    refine .inl ⟨rfl, ?_⟩
    have ee : decide (v = V.non) = isNone x := by cases h1 <;> rfl
    rw [ee]; exact q
  | bool b' =>
    cases h2
    cases x with
    | bool a' =>
      cases h1
      cases e
      exact .inr ⟨_, _, rfl, rfl, q⟩
    | _ => cases e
  | _ => cases e
theorem o_wIs : OpW X (rIs false) wIs := OpW.of (o_isQ false) fun a b => rfl
theorem o_wIsNot : OpW X (rIs true) wIsNot := OpW.of (o_isQ true) fun a b => rfl
theorem qe_is (ha : QE X a fa) (hb : QE X b fb) : QE X (.Compare a [.Is] [b] pos) (bin (whole2 wIs) fa fb) := qe_cmp op_isQ o_wIs.s ha hb (nomark _)
theorem qe_isnot (ha : QE X a fa) (hb : QE X b fb) : QE X (.Compare a [.IsNot] [b] pos) (bin (whole2 wIsNot) fa fb) := qe_cmp op_isnotQ o_wIsNot.s ha hb (nomark _)
theorem qt_is (ha : QE X a fa) (hb : QE X b fb) : QT X (.Compare a [.Is] [b] pos) (asB (bin (whole2 wIs) fa fb)) := qt_cmp op_isQ o_wIs.s ha hb (nomark _)
theorem qt_isnot (ha : QE X a fa) (hb : QE X b fb) : QT X (.Compare a [.IsNot] [b] pos) (asB (bin (whole2 wIsNot) fa fb)) := qt_cmp op_isnotQ o_wIsNot.s ha hb (nomark _)

/-! ### a < b < c, of ints -/
def eChain (g g' : Int → Int → Bool) (fa fb fc : Ex) : Ex := fun env => (fa env).bind fun ra e1 => (fb e1).bind fun rb e2 => match viewC ra e2, viewC rb e2 with
  | some (.int i), some (.int j) => if g i j = true then (fc e2).bind fun rc e3 => match viewC rc e3 with
      | some (.int k) => .ok (.cold (.bool (g' j k))) e3
      | _ => .no
    else .ok (.cold (.bool false)) e2
  | _, _ => .no
theorem rd_chain {g g' : Int → Int → Bool} {fc : Ex} {σ : L2.St} {H : Hp} {Q : VK} : rd X.K (eChain g g' fa fb fc) σ H Q → tChain (rI0 fun i j => .bl (g i j)) (rI0 fun i j => .bl (g' i j)) (rd X.K fa) (rd X.K fb) (rd X.K fc) σ H Q := by
  rintro ⟨C, env, r, env', hK, S, ef, k⟩
  obtain ⟨ra, e1, qa, ef⟩ := Res.bind_ok ef
  obtain ⟨rb, e2, qb, ef⟩ := Res.bind_ok ef
  refine ⟨C, env, ra, e1, hK, S, qa, fun v H1 S1 ok1 => ⟨pend C v ra, e1, rb, e2, by rw [pend_K]; exact hK, S1, qb, fun u H2 S2 ok2 => ?_⟩⟩
  split at ef
  · rename_i i j ha hb
    have S3 := S2
    obtain ⟨G, ow, S3⟩ := S3
    have h1 := St1.viewC (C := C) S3.unpend ok1 ha
    have h2 := St1.viewC S3 ok2 hb
    cases h1
    cases h2
    refine ⟨i, j, rfl, rfl, g i j, rfl, ?_⟩
    split at ef
    · rename_i hg
      rw [if_pos hg]
      obtain ⟨rc, e3, qc, ef⟩ := Res.bind_ok ef
      refine ⟨_, e2, rc, e3, by rw [pend_K, pend_K]; exact hK, S2, qc, fun w H3 S4 ok3 => ?_⟩
      split at ef
      · rename_i kk hc
        cases ef
        obtain ⟨G, ow, S5⟩ := id S4
        have h3 := St1.viewC S5 ok3 hc
        cases h3
        exact ⟨j, kk, rfl, rfl, k _ H3 (Stt.scal (C := C) S4.unpend.unpend.unpend fun _ => .bl _) trivial⟩
      · cases ef
    · rename_i hg
      rw [if_neg hg]
      cases ef
      exact k _ H2 (Stt.scal (C := C) S2.unpend.unpend fun _ => .bl _) trivial
  · cases ef
variable {c : Expr} {fc : Ex}
theorem qe_chain {op op' : CmpOp} {g g' : Int → Int → Bool} (ho : OpR X (compareOp op) (rI0 fun i j => .bl (g i j))) (ho' : OpR X (compareOp op') (rI0 fun i j => .bl (g' i j))) (ha : QE X a fa) (hb : QE X b fb) (hc : QE X c fc)
    (hm : lastMarks [op, op'] [b, c] = false := by with_unfolding_all rfl) : QE X (.Compare a [op, op'] [b, c] pos) (eChain g g' fa fb fc) := (pe_chain ho ho' ha hb hc hm).imp fun _ _ _ => rd_chain
theorem qt_chain {op op' : CmpOp} {g g' : Int → Int → Bool} (ho : OpR X (compareOp op) (rI0 fun i j => .bl (g i j))) (ho' : OpR X (compareOp op') (rI0 fun i j => .bl (g' i j))) (ha : QE X a fa) (hb : QE X b fb) (hc : QE X c fc)
    (hm : lastMarks [op, op'] [b, c] = false := by with_unfolding_all rfl) : QT X (.Compare a [op, op'] [b, c] pos) (asB (eChain g g' fa fb fc)) := (pt_chain ho ho' ha hb hc hm).imp fun σ H Q q => rd_chain (rd_asB q)
end
end Q
set_option Elab.async false
set_option linter.all false
set_option maxRecDepth 100000
set_option maxHeartbeats 1000000
namespace Q
open PySem PySem.Spec PyProof.Rows L2

/-! ### displays -/
def colds : List Rv → Option (List D)
  | [] => some []
  | .cold d :: rs => (colds rs).map (d :: ·)
  | _ :: _ => none
section
variable {C : Ctx} {G H : Hp} {ow : Addr → Option Nat} {σ : L2.St} {env : Sto}
theorem pendA_colds : ∀ {rs : List Rv} {C : Ctx} {vs : List V} {ds : List D}, St1 (pendA C vs rs) G ow σ H env → Paired (RvOk σ) vs rs → colds rs = some ds → St1 C G ow σ H env ∧ RpAll C.K G vs ds
  | [], C, vs, ds, S, p, e => by
    cases p
    cases e
    exact ⟨S, .nil⟩
  | .cold d :: rs, C, vs, ds, S, p, e => by
    cases p with
    | cons p1 p2 =>
      rename_i v vs'
      simp only [colds, Option.map_eq_some_iff] at e
      obtain ⟨ds', e, rfl⟩ := e
      obtain ⟨S1, r⟩ := pendA_colds (C := C.push v (.val d)) S p2 e
      obtain ⟨x, e1, q⟩ := S1.top
      cases e1
      exact ⟨S1.drop, .cons q r⟩
  | .hot h :: rs, C, vs, ds, S, p, e => by cases e
  | .slot i :: rs, C, vs, ds, S, p, e => by cases e
end
def eTup (g : ExL) : Ex := fun env => (g env).bind fun rs e => fin1 ((colds rs).bind fun ds => if cap ds.length then some (.cold (.tuple ds)) else none) e
def eLst (g : ExL) : Ex := fun env => (g env).bind fun rs e => fin1 ((colds rs).bind fun ds => if cap ds.length then some (.hot (.lst ds)) else none) e
section
variable {X : Cx} {es : List Expr} {g : ExL} {pos : Pos}
theorem qe_tup {k : Nat} (h : QA X es g) : QE X (.Tuple es k pos) (eTup g) := (pe_tupF h).imp fun σ H Q ⟨C, env, r, env', hK, S, ef, k⟩ => by
  obtain ⟨rs, e1, q, ef⟩ := Res.bind_ok ef
  obtain ⟨eg, e0⟩ := fin1_ok ef
  subst e0
  simp only [Option.bind_eq_some_iff] at eg
  obtain ⟨ds, hc, eg⟩ := eg
  split at eg
  · rename_i hz
    cases eg
    refine ⟨C, env, rs, _, hK, S, q, fun vs H1 ⟨G, ow, S1⟩ ok1 => ?_⟩
    obtain ⟨S2, r⟩ := pendA_colds S1 ok1 hc
    exact ⟨by rw [r.length]; exact hz, Fin.tup k S2 r⟩
  · cases eg
theorem qe_lst (h : QA X es g) : QE X (.List es pos) (eLst g) := (pe_lst h).imp fun σ H Q ⟨C, env, r, env', hK, S, ef, k⟩ => by
  obtain ⟨rs, e1, q, ef⟩ := Res.bind_ok ef
  obtain ⟨eg, e0⟩ := fin1_ok ef
  subst e0
  simp only [Option.bind_eq_some_iff] at eg
  obtain ⟨ds, hc, eg⟩ := eg
  split at eg
  · rename_i hz
    cases eg
    refine ⟨C, env, rs, _, hK, S, q, fun vs H1 ⟨G, ow, S1⟩ ok1 => ?_⟩
    obtain ⟨S2, r⟩ := pendA_colds S1 ok1 hc
    exact ⟨by rw [r.length]; exact hz, fun p hp => Fin.lst k S2 r hp⟩
  · cases eg
def eDic0 : Ex := fun env => .ok (.hot (.dic [])) env
theorem qe_dic0 : QE X (.Dict [] [] pos) eDic0 := pe_dnewK.imp fun σ H Q ⟨C, env, r, env', hK, S, ef, k⟩ p hp => by
  cases ef
  obtain ⟨G, ow, S⟩ := S
  obtain ⟨S1, h0⟩ := S.allocHot (o := .dK []) hp (env ++ C.xs).length
  exact k _ _ ⟨_, _, S1.push ⟨_, rfl, p, [], rfl, ⟨if_pos rfl, fun _ => h0⟩, upd_same, .nil⟩⟩ trivial
end

/-! ### items -/
theorem atI_map {α β : Type} (f : α → β) (xs : List α) (i : Int) : atI (xs.map f) i = (atI xs i).map f := by
  unfold atI
  rw [List.length_map]
  cases ixN xs.length i with
  | none => rfl
  | some j => simp
theorem RpAll.atI {K : PySem.W.Frag} {G : Hp} {vs : List V} {ds : List D} (h : RpAll K G vs ds) {i : Int} {d : D} (e : atI ds i = some d) : ∃ v, L2.atI vs i = some v ∧ Rp K G v d := by
  unfold L2.atI at e ⊢
  rw [h.length]
  cases q : ixN ds.length i with
  | none => simp [q] at e
  | some j =>
    rw [q] at e
    exact h.get (i := j) e
def hIx : D → D → Option Rv
  | .list ds, .int i => (atI ds i).map .cold
  | .tuple ds, .int i => (atI ds i).map .cold
  | .dict kvs, k => (keyOf k).bind fun k => (dget kvs k).map .cold
  | _, _ => none
def rIxDc : R2 := fun x y H Q => ∃ a v, x = .ref a ∧ DGet H a y (some v) ∧ Q v H
section
variable {X : Cx} {a b : Expr} {fa fb : Ex} {pos : Pos}
theorem ix_dc (hu : X.A.units + 1 < cLine) : IxR X rIxDc := by
  intro vl sc ps s σ H x y v u Q I rx ry h hs
  obtain ⟨p, w, rfl, g, q⟩ := h
  cases rx
  exact tail_any (dict_typeIs I g) PySem.F.slot_dict_getitem.lookup (d_getItem hu I g ry fun w' s' I' rw' => ⟨w, H, I', rw', q⟩) hs
theorem o_ix : Op2 X (fun x y H Q => rIxL X.K x y H Q ∨ rIxT X.K x y H Q ∨ rIxDc x y H Q) hIx := by
  intro C G ow σ H env v u x y rr Q hK S h1 h2 e F
  unfold hIx at e
  split at e
  · rename_i ds i
    obtain ⟨a, vs, rfl, r, q⟩ := h1
    cases h2
    simp only [Option.map_eq_some_iff] at e
    obtain ⟨d, e, rfl⟩ := e
    obtain ⟨w, e2, hw⟩ := q.atI e
    exact .inl ⟨a, vs, i, w, rfl, rfl, .inl r, e2, F.val S hw⟩
  · rename_i ds i
    cases h1 with
    | tup r q =>
      cases h2
      simp only [Option.map_eq_some_iff] at e
      obtain ⟨d, e, rfl⟩ := e
      obtain ⟨w, e2, hw⟩ := q.atI e
      rw [hK] at r
      exact .inr (.inl ⟨_, _, i, w, rfl, rfl, SqT.sub S.gh r.sq, e2, F.val S hw⟩)
  · rename_i kvs
    obtain ⟨a, ks, rfl, r, q⟩ := h1
    simp only [Option.bind_eq_some_iff, Option.map_eq_some_iff] at e
    obtain ⟨k, e1, d, e2, rfl⟩ := e
    have h3 := (Dh.all S.gh h2).key e1
    subst h3
    rcases q.get k with ⟨_, z⟩ | ⟨w, d', e3, e4, hw⟩
    · rw [z] at e2; cases e2
    · rw [e4] at e2
      cases e2
      exact .inr (.inr ⟨a, w, rfl, .inl ⟨ks, k, r, rfl, e3.symm⟩, F.val S hw⟩)
  · cases e
theorem qe_ix (hu : X.A.units + 64 < cLine) (ha : QE X a fa) (hb : QE X b fb) (hs : PlainIx b := by exact fun _ _ => rfl) : QE X (.Subscript a b pos) (bin (dat2 hIx) fa fb) :=
  (pe_ix (IxR.or ix_list (IxR.or ix_tup (ix_dc (by omega)))) ha hb hs).imp fun _ _ _ => rd_op o_ix.s
end

/-! ### slices -/
abbrev ExO := Sto → Res (Option Int)
def rdO (K : PySem.W.Frag) (f : ExO) : TO := fun σ H Q => ∃ C env o env', C.K = K ∧ Stt C σ H env ∧ f env = .ok o env' ∧ ∀ H', Stt C σ H' env' → Q o H'
abbrev QO (X : Cx) (e : Option Expr) (f : ExO) : Prop := PO X e (rdO X.K f)
def oNone : ExO := fun env => .ok none env
def oSome (f : Ex) : ExO := fun env => (f env).bind fun r e => match viewC r e with
  | some (.int i) => .ok (some i) e
  | _ => .no
def cutD (ds : List D) (lo hi : Option Int) : List D := (ds.drop (HT.sIx ds.length 0 lo)).take (HT.sIx ds.length ds.length hi - HT.sIx ds.length 0 lo)
theorem RpAll.cut {K : PySem.W.Frag} {G : Hp} {vs : List V} {ds : List D} (h : RpAll K G vs ds) (lo hi : Option Int) : RpAll K G (cutV vs lo hi) (cutD ds lo hi) := by
  unfold cutV cutD
  rw [h.length]
  exact (h.drop _).take _
def hCut (lo hi : Option Int) : D → Option Rv
  | .list ds => some (.hot (.lst (cutD ds lo hi)))
  | .tuple ds => some (.cold (.tuple (cutD ds lo hi)))
  | _ => none
def eCut (f : Ex) (l h : ExO) : Ex := fun env => (f env).bind fun r e1 => (l e1).bind fun lo e2 => (h e2).bind fun hi e3 => dat1 (hCut lo hi) r e3
section
variable {X : Cx} {e : Expr} {f : Ex} {pos p2 : Pos}
theorem PO.imp {e : Option Expr} {t t' : TO} (h : PO X e t) (i : ∀ σ H Q, t' σ H Q → t σ H Q) : PO X e t' := ⟨fun pins s σ H Q I q => h.run pins s σ H Q I (i σ H Q q)⟩
theorem qo_none : QO X none oNone := PO.imp po_none fun σ H Q ⟨C, env, o, env', hK, S, ef, k⟩ => by
  cases ef
  exact k H S
theorem qo_some (h : QE X e f) : QO X (some e) (oSome f) := PO.imp (po_some h) fun σ H Q ⟨C, env, o, env', hK, S, ef, k⟩ => by
  obtain ⟨r, e1, q, ef⟩ := Res.bind_ok ef
  refine ⟨C, env, r, e1, hK, S, q, fun v H1 S1 ok1 => ?_⟩
  split at ef
  · rename_i i hi
    cases ef
    obtain ⟨G, ow, S2⟩ := id S1
    have h3 := S2.viewC ok1 hi
    cases h3
    exact ⟨i, rfl, k H1 S1.unpend⟩
  · cases ef
variable {lo hi : Option Expr} {fl fh : ExO}
theorem qe_cut (h : QE X e f) (hl : QO X lo fl) (hh : QO X hi fh) : QE X (.Subscript e (.Slice lo hi none p2) pos) (eCut f fl fh) :=
  (pe_slice (SlR.or sl_list sl_tupF) h hl hh).imp fun σ H Q ⟨C, env, r, env', hK, S, ef, k⟩ => by
    obtain ⟨ra, e1, q1, ef⟩ := Res.bind_ok ef
    obtain ⟨l, e2, q2, ef⟩ := Res.bind_ok ef
    obtain ⟨u, e3, q3, ef⟩ := Res.bind_ok ef
    refine ⟨C, env, ra, e1, hK, S, q1, fun v H1 S1 ok1 => ⟨pend C v ra, e1, l, e2, by rw [pend_K]; exact hK, S1, q2, fun H2 S2 => ⟨_, e2, u, e3, by rw [pend_K]; exact hK, S2, q3, fun H3 ⟨G, ow, S3⟩ => ?_⟩⟩⟩
    obtain ⟨eg, e0⟩ := fin1_ok ef
    subst e0
    simp only [Option.bind_eq_some_iff] at eg
    obtain ⟨d, hd, ef⟩ := eg
    have h1 := S3.viewC ok1 hd
    cases d with
    | list ds =>
      cases ef
      obtain ⟨a, vs, rfl, r1, q⟩ := h1
      exact .inl ⟨a, vs, rfl, .inl r1, fun p hp => Fin.lst k S3.unpend (q.cut l u) hp⟩
    | tuple ds =>
      cases ef
      cases h1 with
      | tup r1 q =>
        refine .inr ⟨_, _, rfl, by rw [← hK]; exact SqT.sub S3.gh r1.sq, fun z => ?_, fun z => Fin.tup k S3.unpend (q.cut l u)⟩
        rename_i a vs
        have ec : cutD ds l u = ds := by
          unfold cutD
          rw [← q.length, z.1, z.2, List.drop_zero, Nat.sub_zero, q.length, List.take_length]
        rw [ec] at k
        exact Fin.val k S3.unpend (.tup r1 q)
    | _ => cases ef
end
end Q
set_option Elab.async false
set_option linter.all false
set_option maxRecDepth 100000
set_option maxHeartbeats 1000000
namespace Q
open PySem PySem.Spec PyProof.Rows L2

/-! ### storing what waits -/
def Sl.settable : Sl → Bool
  | .hot m _ => !m.pin && !m.lk
  | _ => true
def Rv.sl : Rv → Option Sl
  | .cold d => some (.val d)
  | .hot h => some (.hot Md.free h)
  | .slot _ => none
def put (i : Nat) (r : Rv) (env : Sto) : Option Sto := match env[i]? with
  | some s => if s.settable = true then r.sl.map fun t => env.set i t else none
  | none => none
section
variable {C : Ctx} {G H : Hp} {ow : Addr → Option Nat} {σ : L2.St} {env env' : Sto} {v : V} {s t : Sl} {i : Nat}
theorem St1.unpinned (S : St1 C G ow σ H env) (hs : env[i]? = some s) (hf : s.settable = true) : (∀ p ∈ C.pins, p.1 ≠ i) ∧ ∀ p ∈ C.locks, p.1 ≠ i := by
  refine ⟨fun p hp z => ?_, fun p hp z => ?_⟩
  · obtain ⟨_, m, h, e, e2⟩ := S.pin p hp
    rw [z, hs] at e; cases e
    simp [Sl.settable, e2] at hf
  · obtain ⟨_, m, e, e2⟩ := S.lock p hp
    rw [z, hs] at e; cases e
    simp [Sl.settable, e2] at hf
theorem Lent.free {a : Addr} (h : Lent C a i) (np : ∀ p ∈ C.pins, p.1 ≠ i) : C.H0 a = none := by
  rcases h with h | ⟨_, p, hp, e⟩
  · exact h
  · exact absurd e (np p hp)
theorem St1.noTop (S : St1 C G ow σ H env) (n : Nat) (hn : env.length ≤ n) : ∀ p ∈ C.pins, p.1 ≠ n := fun p hp z => by
  obtain ⟨_, m, h, e, _⟩ := S.pin p hp
  have := (List.getElem?_eq_some_iff.mp e).1
  omega
/-- a slot's content is replaced: the owners are told anew -/
theorem St1.setSlot {ow' : Addr → Option Nat} {x : Option V} (S : St1 C G ow σ H env) (hs : env[i]? = some s) (hf : s.settable = true)
    (q : SlR C.K G H C.H0 (fun a => ow' a = some i) (some x) (some t)) (ho : ∀ a j, j ≠ i → j < (env ++ C.xs).length → ow a = some j → ow' a = some j) (hn : ∀ a j, ow' a = some j → ow a = some j ∨ ∃ j', ow a = some j' ∧ ∀ p ∈ C.pins, p.1 ≠ j') :
    St1 C G ow' (σ.set i x) H (env.set i t) := by
  have hi := (List.getElem?_eq_some_iff.mp hs).1
  obtain ⟨np, nl⟩ := S.unpinned hs hf
  refine ⟨by rw [List.length_set, List.length_set]; exact S.len, S.lx, fun j => ?_, fun a j e => ?_, S.g0, S.gh, S.new, S.fr, S.dom, fun p hp => ?_, fun p hp => ?_⟩
  · rw [set_at hi, set_at (by rw [← S.len]; exact hi)]
    by_cases e : j = i
    · subst e
      rw [if_pos rfl, if_pos rfl]
      exact q
    · rw [if_neg e, if_neg e]
      by_cases hj : j < (env ++ C.xs).length
      · exact (S.sl j).stay Sub.refl fun a z => ⟨ho a j e hj z, rfl⟩
      · rw [List.getElem?_eq_none (show (env ++ C.xs).length ≤ j by omega)]
        trivial
  · rcases hn a j e with e' | ⟨j', e', np'⟩
    · exact S.ow a j e'
    · obtain ⟨h1, h2, h3⟩ := S.ow a j' e'
      exact ⟨h1, h2, .inl (h3.free np')⟩
  · obtain ⟨e1, m, h, e2, e3⟩ := S.pin p hp
    exact ⟨by rw [List.getElem?_set_ne (np p hp).symm]; exact e1, m, h, by rw [List.getElem?_set_ne (np p hp).symm]; exact e2, e3⟩
  · obtain ⟨e1, m, e2, e3⟩ := S.lock p hp
    exact ⟨by rw [List.getElem?_set_ne (nl p hp).symm]; exact e1, m, by rw [List.getElem?_set_ne (nl p hp).symm]; exact e2, e3⟩
theorem SlR.reown {K : PySem.W.Frag} {H0 : Hp} {own own' : Addr → Prop} {x : Option (Option V)} {sl : Option Sl} (q : SlR K G H H0 own x sl) (ho : ∀ a, own a → own' a) : SlR K G H H0 own' x sl := q.stay Sub.refl fun a z => ⟨ho a z, rfl⟩
theorem Stt.put {r : Rv} (S : Stt (pend C v r) σ H env) (e : Q.put i r env = some env') : Stt C (σ.set i (some v)) H env' := by
  unfold Q.put at e
  split at e
  · rename_i s0 hs
    split at e
    · rename_i hf
      simp only [Option.map_eq_some_iff] at e
      obtain ⟨t, e1, rfl⟩ := e
      have key : ∀ (t : Sl), Stt (C.push v t) σ H env → Stt C (σ.set i (some v)) H (env.set i t) := fun t ⟨G, ow, S⟩ => by
        have hi := (List.getElem?_eq_some_iff.mp hs).1
        have hlen : i < (env ++ C.xs).length := by rw [List.length_append]; omega
        refine ⟨G, fun a => if ow a = some (env ++ C.xs).length then some i else ow a, S.drop.setSlot hs hf (S.top.reown fun a z => ?_) (fun a j h1 h2 h3 => ?_) fun a j h => ?_⟩
        · show (if ow a = some (env ++ C.xs).length then some i else ow a) = some i
          rw [if_pos z]
        · show (if ow a = some (env ++ C.xs).length then some i else ow a) = some j
          rw [if_neg (fun z => by rw [h3] at z; have := Option.some.inj z; omega)]; exact h3
        · have h : (if ow a = some (env ++ C.xs).length then some i else ow a) = some j := h
          split at h
          · exact .inr ⟨_, by assumption, S.drop.noTop _ (by rw [List.length_append]; omega)⟩
          · exact .inl h
      cases r with
      | cold d => cases e1; exact key _ S
      | hot h => cases e1; exact key _ S
      | slot j => cases e1
    · cases e
  · cases e
/-- a slot's own object is handed on -/
theorem Stt.take {h : Hot} {m : Md} (S : Stt C σ H env) (hs : env[i]? = some (.hot m h)) (hf : (Sl.hot m h).settable = true) (hv : σ[i]? = some (some v)) : Stt (C.push v (.hot Md.free h)) σ H (env.set i .un) := by
  obtain ⟨G, ow, S⟩ := S
  obtain ⟨x, e1, q⟩ := S.slot hs
  rw [hv] at e1
  cases e1
  have hp : m.pin = false := by
    cases q : m.pin with
    | false => rfl
    | true => simp [Sl.settable, q] at hf
  have hi := (List.getElem?_eq_some_iff.mp hs).1
  have S1 : St1 C G (fun a => if ow a = some i then some (env ++ C.xs).length else ow a) (σ.set i (some v)) H (env.set i .un) := S.setSlot hs hf trivial (fun a j h1 h2 h3 => by
    show (if ow a = some i then some (env ++ C.xs).length else ow a) = some j
    rw [if_neg (fun z => by rw [h3] at z; exact h1 (Option.some.inj z))]; exact h3) fun a j h => by
    have h : (if ow a = some i then some (env ++ C.xs).length else ow a) = some j := h
    split at h
    · exact .inr ⟨_, by assumption, (S.unpinned hs hf).1⟩
    · exact .inl h
  have e0 : σ.set i (some v) = σ := by
    apply List.ext_getElem?
    intro j
    by_cases e : i = j
    · subst e
      rw [List.getElem?_set_self (List.getElem?_eq_some_iff.mp hv).1, hv]
    · rw [List.getElem?_set_ne e]
  rw [e0] at S1
  refine ⟨G, _, S1.push ⟨v, rfl, q.stay Sub.refl fun a z => ⟨⟨?_, fun _ => z.2 hp⟩, rfl⟩⟩⟩
  show (if ow a = some i then some (env ++ C.xs).length else ow a) = some (env.set i .un ++ C.xs).length
  have z1 : ow a = some i := z.1
  rw [if_pos z1, List.length_append, List.length_append, List.length_set]
/-- a slot's own object is changed where it stands -/
theorem St1.mutate {H' : Hp} {m : Md} {h h' : Hot} (S : St1 C G ow σ H env) (hs : env[i]? = some (.hot m h)) (hl : m.lk = false)
    (hH : ∀ b, ow b ≠ some i → H' b = H b) (hd : ∀ b, H b ≠ none → H' b ≠ none)
    (q : ∀ x, σ[i]? = some (some x) → HotR C.K G H' (fun a => ow a = some i ∧ (m.pin = false → C.H0 a = none)) x h') : St1 C G ow σ H' (env.set i (.hot m h')) := by
  have hi := (List.getElem?_eq_some_iff.mp hs).1
  obtain ⟨x, e1, _⟩ := S.slot hs
  have nG : ∀ b o, G b = some o → ow b ≠ some i := fun b o e z => by
    have := (S.ow b i z).2.1
    rw [e] at this; cases this
  refine ⟨by rw [List.length_set]; exact S.len, S.lx, fun j => ?_, fun a j e => ?_, S.g0, fun b o e => by rw [hH b (nG b o e)]; exact S.gh b o e, S.new, fun b o e n => ?_, fun b n => hd b (S.dom b n), fun p hp => ?_, fun p hp => ?_⟩
  · rw [set_at hi]
    by_cases e : j = i
    · subst e
      rw [if_pos rfl, List.getElem?_append_left (by rw [← S.len]; exact hi)]
      exact ⟨x, e1, q x e1⟩
    · rw [if_neg e]
      refine (S.sl j).stay Sub.refl fun a z => ⟨z, hH a fun w => ?_⟩
      have z : ow a = some j := z
      rw [z] at w
      exact e (Option.some.inj w)
  · obtain ⟨h1, h2, h3⟩ := S.ow a j e
    exact ⟨hd a h1, h2, h3⟩
  · rw [hH b]
    · exact S.fr b o e n
    · intro z
      rcases (S.ow b i z).2.2 with w | w
      · rw [w] at e; cases e
      · rw [n] at w; cases w.1
  · obtain ⟨e1, m', h2, e2, e3⟩ := S.pin p hp
    refine ⟨e1, ?_⟩
    by_cases e : i = p.1
    · rw [← e, hs] at e2
      cases e2
      exact ⟨m, h', by rw [← e, List.getElem?_set_self hi], e3⟩
    · exact ⟨m', h2, by rw [List.getElem?_set_ne e]; exact e2, e3⟩
  · obtain ⟨e1, m', e2, e3⟩ := S.lock p hp
    refine ⟨e1, m', ?_, e3⟩
    rw [List.getElem?_set_ne]
    · exact e2
    · intro z; rw [← z, hs] at e2; cases e2; rw [hl] at e3; cases e3
theorem St1.mutL {a : Addr} {m : Md} {xs xs' : List D} {vs' : List V} (S : St1 C G ow σ H env) (hs : env[i]? = some (.hot m (.lst xs))) (hl : m.lk = false) (hv : σ[i]? = some (some (.ref a))) (r : RpAll C.K G vs' xs') :
    St1 C G ow σ (upd H a (.lst vs')) (env.set i (.hot m (.lst xs'))) := by
  obtain ⟨x, e1, q⟩ := S.slot hs
  rw [hv] at e1; cases e1
  obtain ⟨b, vs, e2, o, hb, _⟩ := q
  cases e2
  refine S.mutate hs hl (fun b hb => upd_ne fun z => hb (z ▸ o.1)) (fun b n => ?_) fun x hx => ?_
  · by_cases z : b = a
    · subst z; rw [upd_same]; exact fun z => nomatch z
    · rw [upd_ne z]; exact n
  · rw [hv] at hx; cases hx
    exact ⟨a, vs', rfl, o, upd_same, r⟩
theorem St1.mutD {a : Addr} {m : Md} {xs xs' : List (D × D)} {ks' : List (Key × V)} (S : St1 C G ow σ H env) (hs : env[i]? = some (.hot m (.dic xs))) (hl : m.lk = false) (hv : σ[i]? = some (some (.ref a))) (r : RpKv C.K G ks' xs') :
    St1 C G ow σ (upd H a (.dK ks')) (env.set i (.hot m (.dic xs'))) := by
  obtain ⟨x, e1, q⟩ := S.slot hs
  rw [hv] at e1; cases e1
  obtain ⟨b, vs, e2, o, hb, _⟩ := q
  cases e2
  refine S.mutate hs hl (fun b hb => upd_ne fun z => hb (z ▸ o.1)) (fun b n => ?_) fun x hx => ?_
  · by_cases z : b = a
    · subst z; rw [upd_same]; exact fun z => nomatch z
    · rw [upd_ne z]; exact n
  · rw [hv] at hx; cases hx
    exact ⟨a, ks', rfl, o, upd_same, r⟩
theorem St1.lstAt {m : Md} {xs : List D} (S : St1 C G ow σ H env) (hs : env[i]? = some (.hot m (.lst xs))) : ∃ a vs, σ[i]? = some (some (.ref a)) ∧ H a = some (.lst vs) ∧ RpAll C.K G vs xs := by
  obtain ⟨x, e1, b, vs, e2, o, hb, r⟩ := S.slot hs
  subst e2
  exact ⟨b, vs, e1, hb, r⟩
theorem St1.dicAt {m : Md} {xs : List (D × D)} (S : St1 C G ow σ H env) (hs : env[i]? = some (.hot m (.dic xs))) : ∃ a vs, σ[i]? = some (some (.ref a)) ∧ H a = some (.dK vs) ∧ RpKv C.K G vs xs := by
  obtain ⟨x, e1, b, vs, e2, o, hb, r⟩ := S.slot hs
  subst e2
  exact ⟨b, vs, e1, hb, r⟩
end

/-! ### statements in a row -/
def sNx : Sm := fun env => .ok .nx env
def sSeq (f g : Sm) : Sm := fun env => (f env).bind fun o e => match o with
  | .nx => g e
  | o => .ok o e
section
variable {X : Cx} {st : Stmt} {rest : List Stmt} {f g : Sm} {pos : Pos} {e : Expr} {fe : Ex}
theorem qss_nil : QSs X [] sNx := pss_nil.imp fun D σ H ⟨C, env, o, env', hK, S, ef, k⟩ => by
  cases ef
  exact k σ H S
theorem qss_cons (h1 : QS X st f) (h2 : QSs X rest g) : QSs X (st :: rest) (sSeq f g) := (pss_cons h1 h2).imp fun D σ H ⟨C, env, o, env', hK, S, ef, k⟩ => by
  obtain ⟨o1, e1, q, ef⟩ := Res.bind_ok ef
  refine ⟨C, env, o1, e1, hK, S, q, ?_⟩
  cases o1 with
  | nx => exact fun σ' H' S' => ⟨C, e1, o, env', hK, S', ef, k⟩
  | bk => cases ef; exact k
  | ct => cases ef; exact k
  | rt r => cases ef; exact k
theorem qss_one (h1 : QS X st f) : QSs X [st] f := (pss_one h1).imp fun _ _ _ h => h
theorem qs_pass : QS X (.Pass pos) sNx := ps_pass.imp fun D σ H ⟨C, env, o, env', hK, S, ef, k⟩ => by
  cases ef
  exact k σ H S
theorem qs_break : QS X (.Break pos) (fun env => .ok .bk env) := ps_break.imp fun D σ H ⟨C, env, o, env', hK, S, ef, k⟩ => by
  cases ef
  exact k σ H S
theorem qs_continue : QS X (.Continue pos) (fun env => .ok .ct env) := ps_continue.imp fun D σ H ⟨C, env, o, env', hK, S, ef, k⟩ => by
  cases ef
  exact k σ H S
/-- what is never reached -/
theorem qs_never : QS X st (fun _ => .no) := ps_never.imp fun D σ H ⟨C, env, o, env', hK, S, ef, k⟩ => by cases ef
theorem qe_never {e : Expr} : QE X e (fun _ => .no) := ⟨fun pins s σ H Q I ⟨C, env, o, env', hK, S, ef, k⟩ => by cases ef⟩
def sExpr (f : Ex) : Sm := fun env => (f env).bind fun _ e => .ok .nx e
theorem qs_expr (h : QE X e fe) (hs : swapsWith e none pos.line X.env = pure false := by rfl) : QS X (.Expr e pos) (sExpr fe) := (ps_expr h hs).imp fun D σ H ⟨C, env, o, env', hK, S, ef, k⟩ => by
  obtain ⟨r, e1, q, ef⟩ := Res.bind_ok ef
  cases ef
  exact ⟨C, env, r, _, hK, S, q, fun v H1 S1 ok1 => k σ H1 S1.unpend⟩
def toRet : Rv → Sto → Res Rv
  | .cold d, env => .ok (.cold d) env
  | .hot h, env => .ok (.hot h) env
  | .slot i, env => match env[i]? with
    | some (.val d) => .ok (.cold d) env
    | some (.hot m h) => if (Sl.hot m h).settable = true then .ok (.hot h) (env.set i .un) else .no
    | _ => .no
theorem toRet_ok {C : Ctx} {σ : L2.St} {H : Hp} {env env' : Sto} {v : V} {r r' : Rv} (S : Stt (pend C v r) σ H env) (ok : RvOk σ v r) (e : toRet r env = .ok r' env') : Stt (pend C v r') σ H env' ∧ RvOk σ v r' := by
  cases r with
  | cold d => cases e; exact ⟨S, trivial⟩
  | hot h => cases e; exact ⟨S, trivial⟩
  | slot i =>
    simp only [toRet] at e
    split at e
    · rename_i d hd
      cases e
      obtain ⟨G, ow, S⟩ := S
      exact ⟨⟨G, ow, St1.pushVal (C := C) S (RvOk.top S ok hd)⟩, trivial⟩
    · rename_i m h hs
      split at e
      · rename_i hf
        cases e
        exact ⟨Stt.take (C := C) S hs hf ok, trivial⟩
      · cases e
    · cases e
def sRet (f : Ex) : Sm := fun env => ((f env).bind toRet).bind fun r e => .ok (.rt r) e
theorem qs_ret (h : QE X e fe) : QS X (.Return (some e) pos) (sRet fe) := (ps_ret h).imp fun D σ H ⟨C, env, o, env', hK, S, ef, k⟩ => by
  obtain ⟨r, e1, q, ef⟩ := Res.bind_ok ef
  obtain ⟨r0, e0, q0, q⟩ := Res.bind_ok q
  cases ef
  refine ⟨C, env, r0, e0, hK, S, q0, fun v H1 S1 ok1 => ?_⟩
  obtain ⟨S2, ok2⟩ := toRet_ok S1 ok1 q
  exact k v σ H1 S2 ok2
theorem qs_retN : QS X (.Return none pos) (fun env => .ok (.rt (.cold .none)) env) := ps_retN.imp fun D σ H ⟨C, env, o, env', hK, S, ef, k⟩ => by
  cases ef
  exact k .non σ H (S.scal fun _ => .non) trivial
def sIf (t : ExB) (f g : Sm) : Sm := fun env => (t env).bind fun b e => if b = true then f e else g e
theorem qs_if {c : Expr} {a b : List Stmt} {t : ExB} (hc : QT X c t) (ha : QSs X a f) (hb : QSs X b g) : QS X (.If c a b pos) (sIf t f g) := (ps_if hc ha hb).imp fun D σ H ⟨C, env, o, env', hK, S, ef, k⟩ => by
  obtain ⟨b, e1, q, ef⟩ := Res.bind_ok ef
  refine ⟨C, env, b, e1, hK, S, q, fun H1 S1 => ?_⟩
  cases b with
  | true =>
    simp only [if_true] at ef ⊢
    exact ⟨C, e1, o, env', hK, S1, ef, k⟩
  | false =>
    simp only [Bool.false_eq_true, if_false] at ef ⊢
    exact ⟨C, e1, o, env', hK, S1, ef, k⟩
/-! ### stores -/
def toOwn : Rv → Sto → Res Rv
  | .slot i, env => toCold (.slot i) env
  | r, env => .ok r env
theorem toOwn_ok {C : Ctx} {σ : L2.St} {H : Hp} {env env' : Sto} {v : V} {r r' : Rv} (S : Stt (pend C v r) σ H env) (ok : RvOk σ v r) (e : toOwn r env = .ok r' env') : Stt (pend C v r') σ H env' ∧ RvOk σ v r' := by
  cases r with
  | cold d => cases e; exact ⟨S, trivial⟩
  | hot h => cases e; exact ⟨S, trivial⟩
  | slot i =>
    obtain ⟨d, rfl, S2⟩ := toCold_ok S ok e
    exact ⟨S2, trivial⟩
def own (f : Ex) : Ex := fun env => (f env).bind toOwn
theorem QE.own (h : QE X e fe) : QE X e (own fe) := PE.imp h fun σ H Q ⟨C, env, r, env', hK, S, ef, k⟩ => by
  obtain ⟨r1, e1, a, b⟩ := Res.bind_ok ef
  refine ⟨C, env, r1, e1, hK, S, a, fun v H' S' ok => ?_⟩
  obtain ⟨S2, ok2⟩ := toOwn_ok S' ok b
  exact k v H' S2 ok2
def putS (i : Nat) (r : Rv) (env : Sto) : Res Out := match put i r env with
  | some e => .ok .nx e
  | none => .no
def sSet (i : Nat) (f : Ex) : Sm := fun env => (own f env).bind (putS i)
theorem putS_ok {i : Nat} {r : Rv} {env env' : Sto} {o : Out} (h : putS i r env = .ok o env') : o = .nx ∧ put i r env = some env' := by
  unfold putS at h
  split at h
  · cases h; exact ⟨rfl, by assumption⟩
  · cases h
theorem rd_set {t : TE} {i : Nat} (hi : ∀ σ H Q, rd X.K fe σ H Q → t σ H Q) {D : Ends} {σ : L2.St} {H : Hp} : rdS X.K (sSet i fe) D σ H → tAsg t (gName i) D σ H := by
  rintro ⟨C, env, o, env', hK, S, ef, k⟩
  obtain ⟨r, e1, q, ef⟩ := Res.bind_ok ef
  obtain ⟨eo, eg⟩ := putS_ok ef
  subst eo
  obtain ⟨r0, e0, q0, q⟩ := Res.bind_ok q
  refine hi σ H _ ⟨C, env, r0, e0, hK, S, q0, fun v H1 S1 ok1 => ?_⟩
  obtain ⟨S2, ok2⟩ := toOwn_ok S1 ok1 q
  exact k _ H1 (S2.put eg)
theorem qs_set {i : Nat} {x : Str} {pos' : Pos} (hN : X.N.Nodup) (hi : X.N[i]? = some x) (hx : Loc X.env.scope x) (he : QE X e fe) (hs : swapsWith e (some (.Name x pos')) pos.line X.env = pure false := by rfl)
    (hf : X.fn x = true ∨ X.env.scope.names.lookup x = some .local := by first | exact .inl rfl | exact .inr rfl | assumption) : QS X (.Assign [.Name x pos'] e pos) (sSet i fe) := (ps_set hN hi hx he hs hf).imp fun _ _ _ => rd_set fun _ _ _ h => h
/-- a, b = x, y -/
def sPar2 (i j : Nat) (f g : Ex) : Sm := fun env => (own f env).bind fun r1 e1 => (own g e1).bind fun r2 e2 => (putS j r2 e2).bind fun _ e3 => putS i r1 e3
theorem qs_par2 {i j : Nat} {x y : Str} {a b : Expr} {f g : Ex} {px py pt : Pos} {kt k2 pt2} (hc : X.calm = true) (hN : X.N.Nodup) (hi : X.N[i]? = some x) (hj : X.N[j]? = some y) (hij : i ≠ j)
    (hx : X.env.scope.names.lookup x = some .local) (hy : X.env.scope.names.lookup y = some .local) (ha : QE X a f) (hb : QE X b g)
    (two : swappedStores [.Tuple [.Name x px, .Name y py] kt pt] (.Tuple [a, b] k2 pt2) X.env = pure (some [x, y]))
    (hs : swapsWithSole [.Tuple [.Name x px, .Name y py] kt pt] (.Tuple [a, b] k2 pt2) pos.line X.env = pure false := by rfl) (h1 : starEach [a, b] X.env = (false, eval a X.env) :: starEach [b] X.env := by rfl) (h2 : starEach [b] X.env = (false, eval b X.env) :: starEach [] X.env := by rfl) :
    QS X (.Assign [.Tuple [.Name x px, .Name y py] kt pt] (.Tuple [a, b] k2 pt2) pos) (sPar2 i j f g) :=
  (ps_par hc hN hi hj hij hx hy (pa_cons (QE.own ha) (pa_cons (QE.own hb) pa_nil h2) h1) two hs).imp fun D σ H ⟨C, env, o, env', hK, S, ef, k⟩ => by
    obtain ⟨r1, e1, q1, ef⟩ := Res.bind_ok ef
    obtain ⟨r2, e2, q2, ef⟩ := Res.bind_ok ef
    obtain ⟨_, e3, q3, ef⟩ := Res.bind_ok ef
    obtain ⟨_, q3⟩ := putS_ok q3
    obtain ⟨eo, eg⟩ := putS_ok ef
    subst eo
    refine ⟨C, env, r1, e1, hK, S, q1, fun v H1 S1 ok1 => ⟨pend C v r1, e1, r2, e2, by rw [pend_K]; exact hK, S1, q2, fun u H2 S2 ok2 => ⟨v, u, rfl, ?_⟩⟩⟩
    rw [List.set_comm _ _ hij]
    exact k _ H2 ((S2.put q3).put eg)
end

/-! ### targets -/
mutual
inductive Tg where
  | nm (i : Nat)
  | tp (ts : Tgs)
inductive Tgs where
  | nil
  | cons (t : Tg) (ts : Tgs)
end
def Tgs.len : Tgs → Nat
  | .nil => 0
  | .cons _ ts => ts.len + 1
mutual
def Tg.g (K : PySem.W.Frag) : Tg → TG
  | .nm i => gName i
  | .tp ts => gTup K ts.len (ts.g K)
def Tgs.g (K : PySem.W.Frag) : Tgs → TGs
  | .nil => gNil
  | .cons t ts => gCons (t.g K) (ts.g K)
def Tg.asg : Tg → D → Sto → Option Sto
  | .nm i, d, env => put i (.cold d) env
  | .tp ts, .tuple ds, env => ts.asg ds env
  | .tp _, _, _ => none
def Tgs.asg : Tgs → List D → Sto → Option Sto
  | .nil, [], env => some env
  | .cons t ts, d :: ds, env => (t.asg d env).bind fun e => ts.asg ds e
  | _, _, _ => none
def Tg.slots : Tg → List Nat
  | .nm i => [i]
  | .tp ts => ts.slots
def Tgs.slots : Tgs → List Nat
  | .nil => []
  | .cons t ts => t.slots ++ ts.slots
end
theorem wipe_set {σ : L2.St} {i : Nat} {x : Option V} : ∀ {vs : List Nat}, i ∈ vs → wipe (σ.set i x) vs = wipe σ vs
  | [], h => by cases h
  | v :: vs, h => by
    unfold wipe
    by_cases e : i ∈ vs
    · rw [wipe_set e]
    · obtain rfl | h := List.mem_cons.mp h
      · apply List.ext_getElem?
        intro j
        by_cases hj : i = j
        · subst hj
          by_cases hl : i < (wipe σ vs).length
          · rw [List.getElem?_set_self hl, List.getElem?_set_self (by rw [wipe_length, List.length_set] ; rw [wipe_length] at hl; exact hl)]
          · rw [List.getElem?_eq_none (by rw [List.length_set, wipe_length, List.length_set]; rw [wipe_length] at hl; omega), List.getElem?_eq_none (by rw [List.length_set]; omega)]
        · rw [List.getElem?_set_ne hj, List.getElem?_set_ne hj]
          have go : ∀ {vs : List Nat} {σ : L2.St}, i ∉ vs → (wipe (σ.set i x) vs)[j]? = (wipe σ vs)[j]? := by
            intro vs
            induction vs with
            | nil => intro σ _; unfold wipe; rw [List.getElem?_set_ne hj]
            | cons w ws ih =>
              intro σ hn
              unfold wipe
              by_cases hw : w = j
              · subst hw
                by_cases hl : w < (wipe σ ws).length
                · rw [List.getElem?_set_self hl, List.getElem?_set_self (by rw [wipe_length, List.length_set]; rw [wipe_length] at hl; exact hl)]
                · rw [List.getElem?_eq_none (by rw [List.length_set, wipe_length, List.length_set]; rw [wipe_length] at hl; omega), List.getElem?_eq_none (by rw [List.length_set]; omega)]
              · rw [List.getElem?_set_ne hw, List.getElem?_set_ne hw]
                exact ih (fun z => hn (List.mem_cons_of_mem _ z))
          exact go e
      · exact absurd h e
theorem colds_map : ∀ ds : List D, colds (ds.map .cold) = some ds
  | [] => rfl
  | d :: ds => by
    show (colds (ds.map .cold)).map (d :: ·) = _
    rw [colds_map ds]; rfl
theorem pend_rvok {σ : L2.St} {K : PySem.W.Frag} {G : Hp} : ∀ {vs : List V} {ds : List D}, RpAll K G vs ds → Paired (RvOk σ) vs (ds.map .cold)
  | _, _, .nil => .nil
  | _, _, .cons _ t => .cons trivial (pend_rvok t)
theorem St1.pushAll : ∀ {vs : List V} {ds : List D} {C : Ctx} {G H : Hp} {ow : Addr → Option Nat} {σ : L2.St} {env : Sto}, St1 C G ow σ H env → RpAll C.K G vs ds → St1 (pendA C vs (ds.map .cold)) G ow σ H env
  | _, _, _, _, _, _, _, _, S, .nil => S
  | _, _, C, _, _, _, _, _, S, .cons h t => St1.pushAll (C := pend C _ (.cold _)) (S.pushVal h) t
section
variable {H : Hp} {k : L2.St → Hp → Prop}
mutual
theorem Tg.ok : ∀ {t : Tg} {C : Ctx} {k : L2.St → Hp → Prop} {v : V} {d : D} {σ : L2.St} {env env' : Sto}, Stt (C.push v (.val d)) σ H env → t.asg d env = some env' →
    (∀ σ', Stt C σ' H env' → (∀ vs, (∀ i ∈ t.slots, i ∈ vs) → wipe σ' vs = wipe σ vs) → k σ' H) → t.g C.K v σ H k
  | .nm i, C, k, v, d, σ, env, env', S, e, f => f _ (Stt.put (r := .cold d) S e) fun vs h => wipe_set (h i (by simp [Tg.slots]))
  | .tp ts, C, k, v, d, σ, env, env', S, e, f => by
    cases d with
    | tuple ds =>
      obtain ⟨G, ow, S1⟩ := id S
      obtain ⟨x, e1, q⟩ := S1.top
      cases e1
      cases q with
      | tup r q =>
        rename_i a xs
        have hlen : ∀ {ts : Tgs} {ds : List D} {env env' : Sto}, ts.asg ds env = some env' → ds.length = ts.len := by
          intro ts
          induction ts using Tgs.rec (motive_1 := fun _ => True) with
          | nm i => trivial
          | tp ts _ => trivial
          | nil => intro ds env env' e; cases ds with
            | nil => rfl
            | cons d ds => simp [Tgs.asg] at e
          | cons t ts _ ih => intro ds env env' e; cases ds with
            | nil => simp [Tgs.asg] at e
            | cons d ds =>
              simp only [Tgs.asg, Option.bind_eq_some_iff] at e
              obtain ⟨e1, _, e2⟩ := e
              rw [List.length_cons, ih e2]; rfl
        refine ⟨a, xs, rfl, SqT.sub S1.gh r.sq, by rw [q.length]; exact hlen e, ?_⟩
        exact Tgs.ok (ts := ts) (ds := ds) ⟨G, ow, S1.drop, q⟩ e f
    | _ => simp [Tg.asg] at e
theorem Tgs.ok : ∀ {ts : Tgs} {C : Ctx} {k : L2.St → Hp → Prop} {vs : List V} {ds : List D} {σ : L2.St} {env env' : Sto}, (∃ G ow, St1 C G ow σ H env ∧ RpAll C.K G vs ds) → ts.asg ds env = some env' →
    (∀ σ', Stt C σ' H env' → (∀ ws, (∀ i ∈ ts.slots, i ∈ ws) → wipe σ' ws = wipe σ ws) → k σ' H) → ts.g C.K vs σ H k
  | .nil, C, k, vs, ds, σ, env, env', ⟨G, ow, S, r⟩, e, f => by
    cases ds with
    | nil =>
      cases r
      simp only [Tgs.asg, Option.some.injEq] at e
      subst e
      exact ⟨rfl, f σ ⟨G, ow, S⟩ fun _ _ => rfl⟩
    | cons d ds => simp [Tgs.asg] at e
  | .cons t ts, C, k, vs, ds, σ, env, env', ⟨G, ow, S, r⟩, e, f => by
    cases ds with
    | nil => simp [Tgs.asg] at e
    | cons d ds =>
      cases r with
      | cons r1 r2 =>
        rename_i v vs
        simp only [Tgs.asg, Option.bind_eq_some_iff] at e
        obtain ⟨e1, h1, h2⟩ := e
        refine ⟨v, vs, rfl, ?_⟩
        have S1 : Stt ((pendA C vs (ds.map .cold)).push v (.val d)) σ H env := ⟨G, ow, (S.pushAll r2).pushVal (by rw [pendA_K]; exact r1)⟩
        have q := Tg.ok (t := t) (k := fun σ' H' => ts.g C.K vs σ' H' k) S1 h1 fun σ' S2 w => ?_
        · rw [pendA_K] at q
          exact q
        · obtain ⟨G2, ow2, S2⟩ := S2
          obtain ⟨S3, r3⟩ := pendA_colds S2 (pend_rvok r2) (colds_map ds)
          refine Tgs.ok (ts := ts) ⟨G2, ow2, S3, r3⟩ h2 fun σ'' S4 w2 => f σ'' S4 fun ws hw => ?_
          rw [w2 ws fun i hi => hw i (by simp [Tgs.slots, hi]), w ws fun i hi => hw i (by simp [Tgs.slots, hi])]
end
end
end Q
set_option Elab.async false
set_option linter.all false
set_option maxRecDepth 100000
set_option maxHeartbeats 1000000
/-! enumerate over a list or a tuple; either walked -/
namespace Q
open PySem PySem.Spec PyProof.Rows L2

/-- enumerate(v): the iterator of v, and behind it the enumerate -/
def enumOb (it : Addr) : Obj := { cls := .type "enumerate", data := .fields #[.none, .bool false, .ref it, rawInt 0, .none, .none] }
theorem enum_made {v : Value} {o : Obj} {Held : Heap → Prop} (B : Begins v o Held) :
    Meets (Builtin.«enumerate.__new__» ⟨[.type "enumerate", v], []⟩) (fun _ R st => Held st.heap ∧ R (.ok (.ret (.ref (st.heap.push o).objs.size))) { st with heap := (st.heap.push o).push (enumOb st.heap.objs.size) }) :=
  Meets.of_wp fun prog w A R st ⟨held, h⟩ => by
    obtain ⟨hp, g, d, tk, os⟩ := st
    have issub := sub_enumerate
    have begun {A' : Around} {E' Q' : Value → Shared → Prop} (q : Q' (.ref hp.objs.size) ⟨hp.push o, g, d, tk, os⟩) : wpAny (model prog w) A' (pyIter v) Q' E' ⟨hp, g, d, tk, os⟩ := B.iter prog w A' E' ⟨hp, g, d, tk, os⟩ Q' held q
    wp_walk using begun
    refine wpAny_stack_any fun _ => wpAny_pure ?_
    split
    · rename_i cls _ _ _ _ _
      rcases Bool.eq_false_or_eq_true (cls == Value.type "enumerate") with hcls | hcls <;>
      · simp only [hcls]
        wp_walk using begun
        exact ⟨_, rfl, h⟩
    · wp_walk using begun
      exact ⟨_, rfl, h⟩
section
variable {X : Cx} {ps : List (Addr × Obj)} {sg : L2.St} {Hh : Hp} {st : Shared}
theorem freshFp (Iv : L2.Inv X ps sg Hh st) {b : Addr} (le : st.heap.objs.size ≤ b) : FpOk X ps Hh b := Iv.fpOk le (Iv.hok.fresh le)
end
section
variable {P : Program} {w : World} {K : PySem.W.Frag} {X : Cx} {ps : List (Addr × Obj)} {sg : L2.St} {Hh : Hp} {st : Shared} {elts : List Expr} {kk : Nat} {tpos : Pos}
theorem enum_begin (R : RowKind X.prog X.w X.K) {a : Addr} {xs : List V} {Go : It → Hp → Prop} (Iv : L2.Inv X ps sg Hh st) (sq : R.Sq Hh a xs) (go : Go (IteS R.Sq a) Hh) :
    wpAny (model X.prog X.w) X.A (call (.type "enumerate") [.ref a]) (fun v s' => wpAny (model X.prog X.w) X.A (pyIter v) (fun itv s2 => ∃ (it : Addr) (fp : List Addr) (tn : Nat → Heap → Prop) (J : It) (H2 : Hp), itv = .ref it ∧ L2.Inv X ps sg H2 s2 ∧ Turn X.prog X.w X.K (.Tuple elts kk tpos) J fp it tn ∧ tn 0 s2.heap ∧ (∀ b ∈ fp, FpOk X ps H2 b) ∧ Go J H2) X.xe s') X.xe st := by
  obtain ⟨us, ru, ob⟩ := R.seen X ps st sg Hh a xs rfl Iv sq
  have B := R.begin_ a us.toArray
  apply callType_new F.called_enumerate (by decide) (F.typeCall_enumerate_1 _) (F.newCall_enumerate_1 _) (F.args_object_init_2 · _) F.entry_enumerate_new (enum_made B)
  have size1 : (st.heap.push (R.itO a)).objs.size = st.heap.objs.size + 1 := Heap.size_push ..
  have under : ((st.heap.push (R.itO a)).push (enumOb st.heap.objs.size)).get? st.heap.objs.size = some (R.itO a) := Heap.get?_push_of_some _ (Heap.get?_push_size _ B.free)
  have en : IsEnum ((st.heap.push (R.itO a)).push (enumOb st.heap.objs.size)) (st.heap.objs.size + 1) st.heap.objs.size 0 .none := size1 ▸ Heap.get?_push_size (st.heap.push (R.itO a)) (o := enumOb st.heap.objs.size) rfl
  refine ⟨ob, ?_⟩
  rw [size1]
  refine ⟨⟨_, en, rfl⟩, wpAny_pyIter_enum (s := { st with heap := (st.heap.push (R.itO a)).push (enumOb st.heap.objs.size) }) en ?_⟩
  have Iv2 : L2.Inv X ps sg Hh { st with heap := (st.heap.push (R.itO a)).push (enumOb st.heap.objs.size) } := Iv.kept (t' := st.toks) fun _ _ q => Heap.get?_push_of_some _ (Heap.get?_push_of_some _ q)
  have low := R.low _ _ _ ob
  refine ⟨_, [st.heap.objs.size + 1, st.heap.objs.size], _, _, Hh, rfl, Iv2, turnEnum R a (st.heap.objs.size + 1) st.heap.objs.size (Nat.ne_of_lt low) (Nat.ne_of_lt (Nat.lt_succ_of_lt low)), ⟨⟨.none, en⟩, R.atNew _ _ _ under, Nat.succ_ne_self _⟩, fun b hb => ?_, go⟩
  rcases two_of hb with z | z <;> subst z
  · exact freshFp Iv (Nat.le_succ _)
  · exact freshFp Iv (Nat.le_refl _)
end
def iEnumA (P : Program) (w : World) (K : PySem.W.Frag) (ta : TA) : TI := fun σ H R => ta σ H fun vs H1 => ∃ a, vs = [.ref a] ∧ (((∃ xs, SqL K H1 a xs) ∧ R (IteS (SqL K) a) H1) ∨ ((∃ xs, SqT K H1 a xs) ∧ R (IteS (SqT K) a) H1))
theorem pi_enumA {X : Cx} {e : Expr} {ta : TA} {p pos tpos : Pos} {elts : List Expr} {kk : Nat} (hg : Gl X "enumerate") (hm : X.mg "enumerate" = none) (ha : PA X [e] ta) (one : starEach [e] X.env = [(false, eval e X.env)] := by rfl) :
    PI X (.Tuple elts kk tpos) (.Call (.Name "enumerate" p) [e] [] pos) (iEnumA X.prog X.w X.K ta) where
  run ps st sg Hh R Iv h := by
    refine Call_ (ld_blt Iv hg hm boot_enumerate ?_)
    refine PyProof.Rows.callWith_type1 ?_ one rfl
    apply thn (ha.run pos ps st sg Hh _ Iv h)
    rintro us st1 ⟨_, H1, Iv1, rv, a, rfl, arms⟩
    obtain ⟨_, rfl, e1⟩ := rv.one
    cases e1
    rcases arms with ⟨⟨xs, sq⟩, go⟩ | ⟨⟨xs, sq⟩, go⟩
    · exact enum_begin (lists X.prog X.w X.K) Iv1 sq go
    · exact enum_begin (tuples X.prog X.w X.K) Iv1 sq go
/-- a list or a tuple -/
def iSeq (K : PySem.W.Frag) (tl : TE) : TI := fun σ H R => tl σ H fun x H1 => ∃ a, x = .ref a ∧ (((∃ xs, SqL K H1 a xs) ∧ R (Itl K a) H1) ∨ ((∃ xs, SqT K H1 a xs) ∧ R (Itt K a) H1))
theorem pi_seq {X : Cx} {tg l : Expr} {tl : TE} (hl : PE X l tl) : PI X tg l (iSeq X.K tl) where
  run ps st sg Hh R Iv h := by
    apply thn (hl.run ps st sg Hh _ Iv h)
    rintro _ st1 ⟨_, H1, Iv1, e1, a, rfl, arms⟩
    cases e1
    have fp1 : ∀ b ∈ [st1.heap.objs.size], FpOk X ps H1 b := fun b hb => freshFp Iv1 (Nat.le_of_eq (List.mem_singleton.mp hb).symm)
    have later (o : Obj) : L2.Inv X ps sg H1 { st1 with heap := st1.heap.push o } := Iv1.kept (t' := st1.toks) fun _ _ => Heap.get?_push_of_some _
    rcases arms with ⟨⟨xs, sq⟩, go⟩ | ⟨⟨xs, sq⟩, go⟩
    · obtain ⟨us, -, plain, -⟩ := Iv1.list sq
      exact wpAny_pyIter_list plain.isList ⟨_, _, _, _, H1, rfl, later _, turn_list a _, ⟨_, Heap.get?_push_size _ rfl, rfl, rfl⟩, fp1, go⟩
    · obtain ⟨us, -, plain, -⟩ := Iv1.tuple sq
      exact wpAny_pyIter_tuple plain ⟨_, _, _, _, H1, rfl, later _, turn_tuple a _, ⟨_, Heap.get?_push_size _ rfl, rfl, rfl⟩, fp1, go⟩
end Q
set_option Elab.async false
set_option linter.all false
set_option maxRecDepth 100000
set_option maxHeartbeats 1000000
namespace Q
open PySem PySem.Spec PyProof.Rows L2

/-! ### contexts changed in the middle -/
section
variable {C : Ctx} {G H : Hp} {ow ow' : Addr → Option Nat} {σ σ' : L2.St} {env env' : Sto} {v w : V} {s t : Sl} {i : Nat}
theorem St1.reown (S : St1 C G ow σ H env) (ho : ∀ a j, j < (env ++ C.xs).length → ow a = some j → ow' a = some j) (hn : ∀ a j, ow' a = some j → ow a = some j ∨ ∃ j', ow a = some j' ∧ ∀ p ∈ C.pins, p.1 ≠ j') : St1 C G ow' σ H env := by
  refine ⟨S.len, S.lx, fun j => ?_, fun a j e => ?_, S.g0, S.gh, S.new, S.fr, S.dom, S.pin, S.lock⟩
  · by_cases hj : j < (env ++ C.xs).length
    · exact (S.sl j).reown fun a z => ho a j hj z
    · rw [List.getElem?_eq_none (show (env ++ C.xs).length ≤ j by omega)]
      trivial
  · rcases hn a j e with e' | ⟨j', e', np'⟩
    · exact S.ow a j e'
    · obtain ⟨h1, h2, h3⟩ := S.ow a j' e'
      exact ⟨h1, h2, .inl (h3.free np')⟩
theorem Stt.dropMid (S : Stt ((C.push w s).push v t) σ H env) : Stt (C.push v t) σ H env := by
  obtain ⟨G, ow, S⟩ := S
  have q := S.top
  have S2 := S.drop.drop
  have e1 : (env ++ (C.push w s).xs).length = (env ++ C.xs).length + 1 := by
    simp only [Ctx.push, List.length_append, List.length_cons, List.length_nil]; omega
  rw [e1] at q
  refine ⟨G, fun a => if ow a = some ((env ++ C.xs).length + 1) then some (env ++ C.xs).length else if ow a = some (env ++ C.xs).length then none else ow a,
    (S2.reown (fun a j hj e => ?_) fun a j e => ?_).push (q.reown fun a z => if_pos z)⟩
  · show (if ow a = some ((env ++ C.xs).length + 1) then some (env ++ C.xs).length else if ow a = some (env ++ C.xs).length then none else ow a) = some j
    rw [if_neg (fun z => by rw [e] at z; have := Option.some.inj z; omega), if_neg (fun z => by rw [e] at z; have := Option.some.inj z; omega)]
    exact e
  · have e : (if ow a = some ((env ++ C.xs).length + 1) then some (env ++ C.xs).length else if ow a = some (env ++ C.xs).length then none else ow a) = some j := e
    split at e
    · exact .inr ⟨_, by assumption, S2.noTop _ (by rw [List.length_append]; omega)⟩
    · split at e
      · cases e
      · exact .inl e
theorem Stt.mid {r : Rv} (S : Stt (pend (C.push w s) v r) σ H env) : Stt (pend C v r) σ H env := by
  cases r with
  | cold d => exact Stt.dropMid S
  | hot h => exact Stt.dropMid S
  | slot j => exact Stt.drop S
/-- slots told anew that held nothing of their own -/
theorem St1.resl (S : St1 C G ow σ H env) (h1 : env'.length = env.length) (h2 : σ'.length = σ.length)
    (h : ∀ j, (env'[j]? = env[j]? ∧ σ'[j]? = σ[j]?) ∨ ((∀ m q, env[j]? ≠ some (.hot m q)) ∧ SlR C.K G H C.H0 (fun a => ow a = some j) (σ'[j]?) (env'[j]?))) : St1 C G ow σ' H env' := by
  refine ⟨by rw [h1, h2]; exact S.len, S.lx, fun j => ?_, S.ow, S.g0, S.gh, S.new, S.fr, S.dom, fun p hp => ?_, fun p hp => ?_⟩
  · by_cases hj : j < env.length
    · rw [List.getElem?_append_left (by have := S.len; omega), List.getElem?_append_left (by have := S.len; omega)]
      rcases h j with ⟨e1, e2⟩ | ⟨_, q⟩
      · have q := S.sl j
        rw [List.getElem?_append_left (by have := S.len; omega), List.getElem?_append_left (by have := S.len; omega)] at q
        rw [e1, e2]; exact q
      · exact q
    · have q := S.sl j
      rw [List.getElem?_append_right (by have := S.len; omega), List.getElem?_append_right (by have := S.len; omega)] at q
      rw [List.getElem?_append_right (by have := S.len; omega), List.getElem?_append_right (by have := S.len; omega), h1, h2]
      exact q
  · obtain ⟨e1, m, q, e2, e3⟩ := S.pin p hp
    rcases h p.1 with ⟨z1, z2⟩ | ⟨z, _⟩
    · exact ⟨by rw [z2]; exact e1, m, q, by rw [z1]; exact e2, e3⟩
    · exact absurd e2 (z _ _)
  · obtain ⟨e1, m, e2, e3⟩ := S.lock p hp
    rcases h p.1 with ⟨z1, z2⟩ | ⟨z, _⟩
    · exact ⟨by rw [z2]; exact e1, m, by rw [z1]; exact e2, e3⟩
    · exact absurd e2 (z _ _)
/-- what waits last is changed -/
theorem St1.mutTopG {a : Addr} {h h' : Hot} {u : HO} (S : St1 (C.push (.ref a) (.hot Md.free h)) G ow σ H env) (oa : ow a = some (env ++ C.xs).length) (q : HotR C.K G (upd H a u) (fun b => ow b = some (env ++ C.xs).length ∧ (Md.free.pin = false → C.H0 b = none)) (.ref a) h') :
    St1 (C.push (.ref a) (.hot Md.free h')) G ow σ (upd H a u) env := by
  have S0 := S.drop
  have nG : ∀ b o, G b = some o → b ≠ a := fun b o e z => by
    have := (S0.ow a _ oa).2.1
    rw [← z, e] at this; cases this
  have S1 : St1 C G ow σ (upd H a u) env := by
    refine ⟨S0.len, S0.lx, fun j => ?_, fun b j e => ?_, S0.g0, fun b o e => by rw [upd_ne (nG b o e)]; exact S0.gh b o e, S0.new, fun b o e n => ?_, fun b n => ?_, S0.pin, S0.lock⟩
    · by_cases hj : j < (env ++ C.xs).length
      · refine (S0.sl j).stay Sub.refl fun b z => ⟨z, upd_ne fun w => ?_⟩
        have z : ow b = some j := z
        rw [w, oa] at z
        have := Option.some.inj z
        omega
      · rw [List.getElem?_eq_none (show (env ++ C.xs).length ≤ j by omega)]
        trivial
    · obtain ⟨h1, h2, h3⟩ := S0.ow b j e
      refine ⟨?_, h2, h3⟩
      by_cases z : b = a
      · subst z; rw [upd_same]; exact fun z => nomatch z
      · rw [upd_ne z]; exact h1
    · rw [upd_ne]
      · exact S0.fr b o e n
      · intro z
        rcases (S0.ow a _ oa).2.2 with w | w
        · rw [z, w] at e; cases e
        · rw [z] at n; rw [n] at w; cases w.1
    · by_cases z : b = a
      · subst z; rw [upd_same]; exact fun z => nomatch z
      · rw [upd_ne z]; exact S0.dom b n
  exact S1.push ⟨_, rfl, q⟩
theorem St1.mutTop {a : Addr} {xs xs' : List D} {vs' : List V} (S : St1 (C.push (.ref a) (.hot Md.free (.lst xs))) G ow σ H env) (r : RpAll C.K G vs' xs') : St1 (C.push (.ref a) (.hot Md.free (.lst xs'))) G ow σ (upd H a (.lst vs')) env := by
  obtain ⟨x, e1, b, vs, e2, o, hb, _⟩ := S.top
  cases e1
  cases e2
  exact S.mutTopG o.1 ⟨a, vs', rfl, o, upd_same, r⟩
theorem St1.mutTopR {a : Addr} {f f' : Addr → HO} (S : St1 (C.push (.ref a) (.hot Md.free (.raw f))) G ow σ H env) : St1 (C.push (.ref a) (.hot Md.free (.raw f'))) G ow σ (upd H a (f' a)) env := by
  obtain ⟨x, e1, b, e2, o, hb⟩ := S.top
  cases e1
  cases e2
  exact S.mutTopG o.1 ⟨a, rfl, o, upd_same⟩
end

/-! ### what is walked -/
structure Src where
  items : List D
  un : Option (Nat × Bool)
def unlk (u : Option (Nat × Bool)) (env : Sto) : Sto := match u with
  | none => env
  | some (i, b) => match env[i]? with
    | some (.hot m h) => env.set i (.hot { m with lk := b } h)
    | _ => env
structure Iter (C C' : Ctx) (J : It) (src : Src) : Prop where
  K : C'.K = C.K
  go : ∀ i d σ H env, src.items[i]? = some d → Stt C' σ H env → J.go i H
  yl : ∀ (i : Nat) (d : D) (C'' : Ctx) G ow σ H env x H', src.items[i]? = some d → St1 C'' G ow σ H env → St1 C' G ow σ H env → C''.K = C'.K → J.yld i H x H' → Stt (C''.push x (.val d)) σ H' env
  stop : ∀ i σ H env, src.items.length = i → Stt C' σ H env → J.stop i H
  out : ∀ v r σ H env, Stt (pend C' v r) σ H env → Stt (pend C v r) σ H (unlk src.un env)
theorem Iter.out0 {C C' : Ctx} {J : It} {src : Src} (I : Iter C C' J src) {σ : L2.St} {H : Hp} {env : Sto} (S : Stt C' σ H env) : Stt C σ H (unlk src.un env) := I.out .non (.slot 0) σ H env S
abbrev ExS := Sto → Res Src
def rdI (K : PySem.W.Frag) (f : ExS) : TI := fun σ H R => ∃ C env src env', C.K = K ∧ Stt C σ H env ∧ f env = .ok src env' ∧ ∀ C' J H1, Iter C C' J src → Stt C' σ H1 env' → R J H1
abbrev QI (X : Cx) (tg e : Expr) (f : ExS) : Prop := PI X tg e (rdI X.K f)
theorem _root_.L2.PI.imp {X : Cx} {tg e : Expr} {t t' : TI} (h : PI X tg e t) (i : ∀ σ H R, t' σ H R → t σ H R) : PI X tg e t' := ⟨fun pins s σ H R I q => h.run pins s σ H R I (i σ H R q)⟩

section
variable {X : Cx} {tg e a b : Expr} {f g : Ex} {p pos : Pos}
/-- a list that waits -/
theorem iter_lst {C : Ctx} {x : Addr} {ds : List D} : Iter C (C.push (.ref x) (.val (.list ds))) (Itl C.K x) ⟨ds, none⟩ := by
  have get : ∀ {G ow σ H env}, St1 (C.push (.ref x) (.val (.list ds))) G ow σ H env → ∃ vs, Rd H x (.lst vs) ∧ RpAll C.K G vs ds := fun S => by
    obtain ⟨y, e1, q⟩ := S.top
    cases e1
    cases q with
    | lst r q => exact ⟨_, Rd.sub S.gh r, q⟩
  refine ⟨rfl, fun i d σ H env hd ⟨G, ow, S⟩ => ?_, fun i d C'' G ow σ H env y H' hd S'' S hK hy => ?_, fun i σ H env hi ⟨G, ow, S⟩ => ?_, fun v r σ H env S => S.mid⟩
  · obtain ⟨vs, r, q⟩ := get S
    obtain ⟨u, hu, _⟩ := q.get hd
    exact ⟨vs, u, .inl r, hu⟩
  · obtain ⟨vs, r, q⟩ := get S
    obtain ⟨u, hu, ru⟩ := q.get hd
    obtain ⟨rfl, hy⟩ := hy
    have e := hy vs (.inl r)
    rw [hu] at e
    cases e
    exact ⟨G, ow, S''.pushVal (by rw [hK]; exact ru)⟩
  · obtain ⟨vs, r, q⟩ := get S
    exact ⟨vs, .inl r, by rw [q.length]; exact Nat.le_of_eq hi⟩
theorem iter_tup {C : Ctx} {x : Addr} {ds : List D} : Iter C (C.push (.ref x) (.val (.tuple ds))) (Itt C.K x) ⟨ds, none⟩ := by
  have get : ∀ {G ow σ H env}, St1 (C.push (.ref x) (.val (.tuple ds))) G ow σ H env → ∃ vs, SqT C.K H x vs ∧ RpAll C.K G vs ds := fun S => by
    obtain ⟨y, e1, q⟩ := S.top
    cases e1
    cases q with
    | tup r q => exact ⟨_, SqT.sub S.gh r.sq, q⟩
  refine ⟨rfl, fun i d σ H env hd ⟨G, ow, S⟩ => ?_, fun i d C'' G ow σ H env y H' hd S'' S hK hy => ?_, fun i σ H env hi ⟨G, ow, S⟩ => ?_, fun v r σ H env S => S.mid⟩
  · obtain ⟨vs, r, q⟩ := get S
    obtain ⟨u, hu, _⟩ := q.get hd
    exact ⟨vs, u, r, hu⟩
  · obtain ⟨vs, r, q⟩ := get S
    obtain ⟨u, hu, ru⟩ := q.get hd
    obtain ⟨rfl, hy⟩ := hy
    have e := hy vs r
    rw [hu] at e
    cases e
    exact ⟨G, ow, S''.pushVal (by rw [hK]; exact ru)⟩
  · obtain ⟨vs, r, q⟩ := get S
    exact ⟨vs, r, by rw [q.length]; exact Nat.le_of_eq hi⟩
def seqD : D → Option (List D)
  | .list ds => some ds
  | .tuple ds => some ds
  | _ => none
def iCold (f : Ex) : ExS := fun env => (cold f env).bind fun r e => match r with
  | .cold d => match seqD d with
    | some ds => .ok ⟨ds, none⟩ e
    | none => .no
  | _ => .no
theorem qi_cold (h : QE X e f) : QI X tg e (iCold f) := (pi_seq (QE.cold h)).imp fun σ H R ⟨C, env, src, env', hK, S, ef, k⟩ => by
  obtain ⟨r, e1, q, ef⟩ := Res.bind_ok ef
  refine ⟨C, env, r, e1, hK, S, q, fun v H1 S1 ok1 => ?_⟩
  cases r with
  | cold d =>
    simp only at ef
    split at ef
    · rename_i ds hd
      cases ef
      cases d with
      | list ds' =>
        cases hd
        obtain ⟨G, ow, S2⟩ := id S1
        obtain ⟨x, e2, z⟩ := St1.top (C := C) S2
        cases e2
        cases z with
        | lst r z =>
          rw [← hK]
          exact ⟨_, rfl, .inl ⟨⟨_, .inl (Rd.sub (St1.gh S2) r)⟩, k _ _ _ iter_lst S1⟩⟩
      | tuple ds' =>
        cases hd
        obtain ⟨G, ow, S2⟩ := id S1
        obtain ⟨x, e2, z⟩ := St1.top (C := C) S2
        cases e2
        cases z with
        | tup r z =>
          rw [← hK]
          exact ⟨_, rfl, .inr ⟨⟨_, SqT.sub (St1.gh S2) r.sq⟩, k _ _ _ iter_tup S1⟩⟩
      | _ => cases hd
    · cases ef
  | _ => cases ef
/-! a slot's own list, locked -/
def iSlot (i : Nat) : ExS := fun env => match env[i]? with
  | some (.val d) => match seqD d with
    | some ds => .ok ⟨ds, none⟩ env
    | none => .no
  | some (.hot m (.lst xs)) => .ok ⟨xs, some (i, m.lk)⟩ (env.set i (.hot { m with lk := true } (.lst xs)))
  | _ => .no
def Ctx.lk (C : Ctx) (i : Nat) (v : V) (h : Hot) : Ctx := { C with locks := (i, v, h) :: C.locks }
theorem pend_lk {C : Ctx} {i : Nat} {w v : V} {h : Hot} {r : Rv} : pend (C.lk i w h) v r = (pend C v r).lk i w h := by cases r <;> rfl
theorem pend_locks {C : Ctx} {v : V} {r : Rv} : (pend C v r).locks = C.locks := by cases r <;> rfl
theorem St1.relock {C : Ctx} {G H : Hp} {ow : Addr → Option Nat} {σ : L2.St} {env : Sto} {i : Nat} {m : Md} {h : Hot} {b : Bool} (S : St1 C G ow σ H env) (hs : env[i]? = some (.hot m h)) (hb : ∀ p ∈ C.locks, p.1 = i → b = true) : St1 C G ow σ H (env.set i (.hot { m with lk := b } h)) := by
  have hi := (List.getElem?_eq_some_iff.mp hs).1
  refine ⟨by rw [List.length_set]; exact S.len, S.lx, fun j => ?_, S.ow, S.g0, S.gh, S.new, S.fr, S.dom, fun p hp => ?_, fun p hp => ?_⟩
  · rw [set_at hi]
    by_cases e : j = i
    · subst e
      rw [if_pos rfl]
      have q := S.sl j
      rw [sl_at hs] at q
      exact q
    · rw [if_neg e]; exact S.sl j
  · obtain ⟨e1, m', h', e2, e3⟩ := S.pin p hp
    refine ⟨e1, ?_⟩
    by_cases e : i = p.1
    · rw [← e, hs] at e2
      cases e2
      exact ⟨{ m with lk := b }, h, by rw [← e, List.getElem?_set_self hi], e3⟩
    · exact ⟨m', h', by rw [List.getElem?_set_ne e]; exact e2, e3⟩
  · obtain ⟨e1, m', e2, e3⟩ := S.lock p hp
    refine ⟨e1, ?_⟩
    by_cases e : i = p.1
    · rw [← e, hs] at e2
      cases e2
      exact ⟨_, by rw [← e, List.getElem?_set_self hi], hb p hp e.symm⟩
    · exact ⟨m', by rw [List.getElem?_set_ne e]; exact e2, e3⟩
theorem St1.unlock {C : Ctx} {G H : Hp} {ow : Addr → Option Nat} {σ : L2.St} {env : Sto} {i : Nat} {w : V} {h : Hot} (S : St1 (C.lk i w h) G ow σ H env) : St1 C G ow σ H env :=
  ⟨S.len, S.lx, S.sl, S.ow, S.g0, S.gh, S.new, S.fr, S.dom, S.pin, fun p hp => S.lock p (List.mem_cons_of_mem _ hp)⟩
theorem iter_slot {C : Ctx} {i : Nat} {x : Addr} {xs : List D} {b : Bool} (hb : ∀ p ∈ C.locks, p.1 = i → b = true) : Iter C (C.lk i (.ref x) (.lst xs)) (Itl C.K x) ⟨xs, some (i, b)⟩ := by
  have get : ∀ {G ow σ H env}, St1 (C.lk i (.ref x) (.lst xs)) G ow σ H env → ∃ vs, Rd H x (.lst vs) ∧ RpAll C.K G vs xs := fun S => by
    obtain ⟨e1, m, e2, e3⟩ := S.lock (i, .ref x, .lst xs) List.mem_cons_self
    obtain ⟨a, vs, e4, ha, r⟩ := S.lstAt e2
    have e1 : _ = some (some (V.ref x)) := e1
    rw [e1] at e4
    cases e4
    exact ⟨vs, Rd.of ha, r⟩
  refine ⟨rfl, fun j d σ H env hd ⟨G, ow, S⟩ => ?_, fun j d C'' G ow σ H env y H' hd S'' S hK hy => ?_, fun j σ H env hi ⟨G, ow, S⟩ => ?_, fun v r σ H env ⟨G, ow, S⟩ => ?_⟩
  · obtain ⟨vs, r, q⟩ := get S
    obtain ⟨u, hu, _⟩ := q.get hd
    exact ⟨vs, u, .inl r, hu⟩
  · obtain ⟨vs, r, q⟩ := get S
    obtain ⟨u, hu, ru⟩ := q.get hd
    obtain ⟨rfl, hy⟩ := hy
    have e := hy vs (.inl r)
    rw [hu] at e
    cases e
    exact ⟨G, ow, S''.pushVal (by rw [hK]; exact ru)⟩
  · obtain ⟨vs, r, q⟩ := get S
    exact ⟨vs, .inl r, by rw [q.length]; exact Nat.le_of_eq hi⟩
  · rw [pend_lk] at S
    obtain ⟨e1, m, e2, e3⟩ := S.lock (i, .ref x, .lst xs) List.mem_cons_self
    have e2 : env[i]? = some (.hot m (.lst xs)) := e2
    have S2 := S.unlock.relock (b := b) e2 (by rw [pend_locks]; exact hb)
    refine ⟨G, ow, ?_⟩
    simp only [unlk, e2]
    exact S2
theorem qi_slot (i : Nat) {x : Str} (hN : X.N[i]? = some x := by rfl) (hv : Vis X.env.scope x := by first | exact Or.inl rfl | exact Or.inr (Or.inl rfl) | exact Or.inr (Or.inr rfl)) (hd : (x == ("__debug__" : Str)) = false := by decide)
    (hcd : (x == ("__classdict__" : Str)) = false := by decide) : QI X tg (.Name x pos) (iSlot i) := (pi_seq (pe_var hN hv hd hcd)).imp fun σ H R ⟨C, env, src, env', hK, S, ef, k⟩ => by
  simp only [iSlot] at ef
  split at ef
  · rename_i d hs
    split at ef
    · rename_i ds hds
      cases ef
      obtain ⟨G, ow, S1⟩ := id S
      obtain ⟨v, e1, q⟩ := S1.slot hs
      refine ⟨v, e1, ?_⟩
      have Sp : Stt (C.push v (.val d)) σ H env := ⟨G, ow, S1.pushVal q⟩
      cases d with
      | list ds' =>
        cases hds
        cases q with
        | lst r z =>
          rw [← hK]
          exact ⟨_, rfl, .inl ⟨⟨_, .inl (Rd.sub S1.gh r)⟩, k _ _ _ iter_lst Sp⟩⟩
      | tuple ds' =>
        cases hds
        cases q with
        | tup r z =>
          rw [← hK]
          exact ⟨_, rfl, .inr ⟨⟨_, SqT.sub S1.gh r.sq⟩, k _ _ _ iter_tup Sp⟩⟩
      | _ => cases hds
    · cases ef
  · rename_i m xs hs
    cases ef
    obtain ⟨G, ow, S1⟩ := id S
    obtain ⟨x, vs, e1, hx, r⟩ := S1.lstAt hs
    have hi := (List.getElem?_eq_some_iff.mp hs).1
    have hlk : ∀ p ∈ C.locks, p.1 = i → m.lk = true := fun p hp z => by
      obtain ⟨_, m', e2, e3⟩ := S1.lock p hp
      rw [z, hs] at e2
      have e4 : m = m' := by injection (Option.some.inj e2)
      rw [e4]; exact e3
    have S2 : St1 (C.lk i (.ref x) (.lst xs)) G ow σ H (env.set i (.hot { m with lk := true } (.lst xs))) := by
      have S2 := S1.relock (b := true) hs fun _ _ _ => rfl
      refine ⟨S2.len, S2.lx, S2.sl, S2.ow, S2.g0, S2.gh, S2.new, S2.fr, S2.dom, S2.pin, fun p hp => ?_⟩
      obtain rfl | hp := List.mem_cons.mp hp
      · exact ⟨e1, _, List.getElem?_set_self hi, rfl⟩
      · exact S2.lock p hp
    refine ⟨.ref x, e1, x, rfl, .inl ⟨⟨vs, .inl (Rd.of hx)⟩, ?_⟩⟩
    rw [← hK]
    exact k _ _ _ (iter_slot hlk) ⟨G, ow, S2⟩
  · cases ef
/-! range -/
def rngOk (i : Int) : Prop := -(2 ^ 62) ≤ i ∧ i < 2 ^ 62
instance (i : Int) : Decidable (rngOk i) := by unfold rngOk; infer_instance
def rngD (lo : Int) (n : Nat) : List D := (List.range n).map fun k => .int (lo + (k : Nat))
theorem iter_rng {C : Ctx} {lo : Int} {n : Nat} : Iter C C (Itr lo n) ⟨rngD lo n, none⟩ := by
  have hl : (rngD lo n).length = n := by simp [rngD]
  refine ⟨rfl, fun i d σ H env hd _ => ?_, fun i d C'' G ow σ H env y H' hd S'' S hK hy => ?_, fun i σ H env hi _ => ?_, fun v r σ H env S => S⟩
  · have := (List.getElem?_eq_some_iff.mp hd).1
    show i < n
    have h2 : i < (rngD lo n).length := this
    omega
  · obtain ⟨rfl, rfl⟩ := hy
    have h2 : i < n := by
      have h3 : i < (rngD lo n).length := (List.getElem?_eq_some_iff.mp hd).1
      omega
    have e : d = .int (lo + (i : Nat)) := by
      have h4 : (rngD lo n)[i]? = some (.int (lo + (i : Nat))) := by simp [rngD, h2]
      have h5 : (rngD lo n)[i]? = some d := hd
      rw [h4] at h5
      exact (Option.some.inj h5).symm
    subst e
    exact ⟨G, ow, S''.pushVal (.int _)⟩
  · show n ≤ i
    have h2 : (rngD lo n).length = i := hi
    omega
def intOf (r : Rv) (env : Sto) : Option Int := match viewC r env with
  | some (.int i) => some i
  | _ => none
theorem intOf_ok {C : Ctx} {σ : L2.St} {H : Hp} {env : Sto} {v : V} {r : Rv} {i : Int} (S : Stt (pend C v r) σ H env) (ok : RvOk σ v r) (e : intOf r env = some i) : v = .int i := by
  unfold intOf at e
  split at e
  · rename_i j hj
    cases e
    obtain ⟨G, ow, S⟩ := S
    have q := S.viewC ok hj
    cases q
    rfl
  · cases e
def iRng1 (f : Ex) : ExS := fun env => (f env).bind fun r e => match intOf r e with
  | some n => if rngOk n then .ok ⟨rngD 0 n.toNat, none⟩ e else .no
  | none => .no
def iRng2 (f g : Ex) : ExS := fun env => (f env).bind fun r e => (g e).bind fun r2 e2 => match intOf r e2, intOf r2 e2 with
  | some i, some j => if rngOk i ∧ rngOk j then .ok ⟨rngD i (j - i).toNat, none⟩ e2 else .no
  | _, _ => .no
theorem qi_rng1 (hg : Gl X "range") (hm : X.mg "range" = none) (ha : QE X a f) (hs : starEach [a] X.env = [(false, eval a X.env)] := by rfl) : QI X tg (.Call (.Name "range" p) [a] [] pos) (iRng1 f) :=
  (pi_range1 hg hm (pa_cons ha pa_nil hs) hs).imp fun σ H R ⟨C, env, src, env', hK, S, ef, k⟩ => by
    obtain ⟨r, e1, q, ef⟩ := Res.bind_ok ef
    refine ⟨C, env, r, e1, hK, S, q, fun v H1 S1 ok1 => ?_⟩
    split at ef
    · rename_i n hn
      split at ef
      · rename_i hr
        cases ef
        have e := intOf_ok S1 ok1 hn
        subst e
        exact ⟨n, rfl, hr.1, hr.2, k _ _ _ iter_rng S1.unpend⟩
      · cases ef
    · cases ef
theorem qi_rng2 (hg : Gl X "range") (hm : X.mg "range" = none) (ha : QE X a f) (hb : QE X b g) (hs : starEach [a, b] X.env = [(false, eval a X.env), (false, eval b X.env)] := by rfl) (hs2 : starEach [b] X.env = [(false, eval b X.env)] := by rfl) : QI X tg (.Call (.Name "range" p) [a, b] [] pos) (iRng2 f g) :=
  (pi_range2 hg hm (pa_cons ha (pa_cons hb pa_nil hs2) (by rw [hs, hs2])) hs hs2).imp fun σ H R ⟨C, env, src, env', hK, S, ef, k⟩ => by
    obtain ⟨r, e1, q, ef⟩ := Res.bind_ok ef
    obtain ⟨r2, e2, q2, ef⟩ := Res.bind_ok ef
    refine ⟨C, env, r, e1, hK, S, q, fun v H1 S1 ok1 => ⟨_, e1, r2, e2, by rw [pend_K]; exact hK, S1, q2, fun u H2 S2 ok2 => ?_⟩⟩
    split at ef
    · rename_i i j hi hj
      split at ef
      · rename_i hr
        cases ef
        have e := intOf_ok S2.unpend ok1 hi
        have e' := intOf_ok S2 ok2 hj
        subst e e'
        exact ⟨i, j, rfl, ⟨hr.1.1, hr.1.2, hr.2.1, hr.2.2⟩, k _ _ _ iter_rng S2.unpend.unpend⟩
      · cases ef
    · cases ef
/-! enumerate -/
def enumD (ds : List D) : List D := ds.zipIdx.map fun p => .tuple [.int (p.2 : Nat), p.1]
theorem enumD_get {ds : List D} {i : Nat} {d : D} (h : (enumD ds)[i]? = some d) : ∃ x, ds[i]? = some x ∧ d = .tuple [.int (i : Nat), x] := by
  unfold enumD at h
  rw [List.getElem?_map, List.getElem?_zipIdx] at h
  cases q : ds[i]? with
  | none => rw [q] at h; cases h
  | some x =>
    rw [q] at h
    simp at h
    exact ⟨x, rfl, h.symm⟩
theorem enumD_len (ds : List D) : (enumD ds).length = ds.length := by simp [enumD]
def iEnumC (f : Ex) : ExS := fun env => (cold f env).bind fun r e => match r with
  | .cold d => match seqD d with
    | some ds => .ok ⟨enumD ds, none⟩ e
    | none => .no
  | _ => .no
theorem enum_yl {C'' : Ctx} {G H H' : Hp} {ow : Addr → Option Nat} {σ : L2.St} {env : Sto} {v y : V} {d : D} {i : Nat} (S : St1 C'' G ow σ H env) (h : yF H v H' i y) (r : Rp C''.K G y d) :
    Stt (C''.push v (.val (.tuple [.int (i : Nat), d]))) σ H' env := by
  obtain ⟨T, o, rfl, hT, h1, h2, rfl⟩ := h
  exact ⟨_, _, (S.alloc hT).pushVal (.tup (Tp.of h1 h2 upd_same) (.cons (.int _) (.cons (Rp.sub (Sub.upd (S.free hT).1) r) .nil)))⟩
theorem iter_enumL {C : Ctx} {x : Addr} {ds : List D} : Iter C (C.push (.ref x) (.val (.list ds))) (IteS (SqL C.K) x) ⟨enumD ds, none⟩ := by
  have get : ∀ {G ow σ H env}, St1 (C.push (.ref x) (.val (.list ds))) G ow σ H env → ∃ vs, Rd H x (.lst vs) ∧ RpAll C.K G vs ds := fun S => by
    obtain ⟨y, e1, q⟩ := S.top
    cases e1
    cases q with
    | lst r q => exact ⟨_, Rd.sub S.gh r, q⟩
  refine ⟨rfl, fun i d σ H env hd ⟨G, ow, S⟩ => ?_, fun i d C'' G ow σ H env y H' hd S'' S hK hy => ?_, fun i σ H env hi ⟨G, ow, S⟩ => ?_, fun v r σ H env S => S.mid⟩
  · obtain ⟨vs, r, q⟩ := get S
    obtain ⟨z, hz, _⟩ := enumD_get hd
    obtain ⟨u, hu, _⟩ := q.get hz
    exact ⟨vs, u, .inl r, hu⟩
  · obtain ⟨vs, r, q⟩ := get S
    obtain ⟨z, hz, rfl⟩ := enumD_get hd
    obtain ⟨u, hu, ru⟩ := q.get hz
    obtain ⟨w, hT, hw⟩ := hy
    have e := hw vs (.inl r)
    rw [hu] at e
    cases e
    exact enum_yl S'' hT (by rw [hK]; exact ru)
  · obtain ⟨vs, r, q⟩ := get S
    have hi : (enumD ds).length = i := hi
    rw [enumD_len] at hi
    exact ⟨vs, .inl r, by rw [q.length]; exact hi⟩
theorem iter_enumT {C : Ctx} {x : Addr} {ds : List D} : Iter C (C.push (.ref x) (.val (.tuple ds))) (IteS (SqT C.K) x) ⟨enumD ds, none⟩ := by
  have get : ∀ {G ow σ H env}, St1 (C.push (.ref x) (.val (.tuple ds))) G ow σ H env → ∃ vs, SqT C.K H x vs ∧ RpAll C.K G vs ds := fun S => by
    obtain ⟨y, e1, q⟩ := S.top
    cases e1
    cases q with
    | tup r q => exact ⟨_, SqT.sub S.gh r.sq, q⟩
  refine ⟨rfl, fun i d σ H env hd ⟨G, ow, S⟩ => ?_, fun i d C'' G ow σ H env y H' hd S'' S hK hy => ?_, fun i σ H env hi ⟨G, ow, S⟩ => ?_, fun v r σ H env S => S.mid⟩
  · obtain ⟨vs, r, q⟩ := get S
    obtain ⟨z, hz, _⟩ := enumD_get hd
    obtain ⟨u, hu, _⟩ := q.get hz
    exact ⟨vs, u, r, hu⟩
  · obtain ⟨vs, r, q⟩ := get S
    obtain ⟨z, hz, rfl⟩ := enumD_get hd
    obtain ⟨u, hu, ru⟩ := q.get hz
    obtain ⟨w, hT, hw⟩ := hy
    have e := hw vs r
    rw [hu] at e
    cases e
    exact enum_yl S'' hT (by rw [hK]; exact ru)
  · obtain ⟨vs, r, q⟩ := get S
    have hi : (enumD ds).length = i := hi
    rw [enumD_len] at hi
    exact ⟨vs, r, by rw [q.length]; exact hi⟩
theorem qi_enum {elts : List Expr} {kk : Nat} {tpos : Pos} (hg : Gl X "enumerate") (hm : X.mg "enumerate" = none) (ha : QE X a f) (hs : starEach [a] X.env = [(false, eval a X.env)] := by rfl) : QI X (.Tuple elts kk tpos) (.Call (.Name "enumerate" p) [a] [] pos) (iEnumC f) :=
  (pi_enumA hg hm (pa_cons (QE.cold ha) pa_nil hs) hs).imp fun σ H R ⟨C, env, src, env', hK, S, ef, k⟩ => by
    obtain ⟨r, e1, q, ef⟩ := Res.bind_ok ef
    refine ⟨C, env, r, e1, hK, S, q, fun v H1 S1 ok1 => ?_⟩
    cases r with
    | cold d =>
      simp only at ef
      split at ef
      · rename_i ds hd
        cases ef
        obtain ⟨G, ow, S2⟩ := id S1
        obtain ⟨x, e2, z⟩ := St1.top (C := C) S2
        cases e2
        cases d with
        | list ds' =>
          cases hd
          cases z with
          | lst r z =>
            rw [← hK]
            exact ⟨_, rfl, .inl ⟨⟨_, .inl (Rd.sub (St1.gh S2) r)⟩, k _ _ _ iter_enumL S1⟩⟩
        | tuple ds' =>
          cases hd
          cases z with
          | tup r z =>
            rw [← hK]
            exact ⟨_, rfl, .inr ⟨⟨_, SqT.sub (St1.gh S2) r.sq⟩, k _ _ _ iter_enumT S1⟩⟩
        | _ => cases hd
      · cases ef
    | _ => cases ef
end

/-! ### for -/
def forL (T : Tg) (body : Sm) : List D → Sto → Res Out
  | [], e => .ok .nx e
  | d :: ds, e => match T.asg d e with
    | none => .no
    | some e1 => (body e1).bind fun o e2 => match o with
      | .nx => forL T body ds e2
      | .ct => forL T body ds e2
      | .bk => .ok .nx e2
      | .rt r => .ok (.rt r) e2
def sFor (f : ExS) (T : Tg) (body : Sm) : Sm := fun env => (f env).bind fun src e => (forL T body src.items e).bind fun o e2 => .ok o (unlk src.un e2)
section
variable {X : Cx} {tg iter : Expr} {body : List Stmt} {f : ExS} {T : Tg} {g : Sm} {pos : Pos}
theorem qs_for (hp : PassesOwn (model X.prog X.w) X.A X.env X.xe) (hc : X.calm = true) (hi : QI X tg iter f) (hg : PG X tg (T.g X.K)) (hb : QSs X body g)
    (hs : ∀ x, foldedSetIterable iter X.env x = pure x := by intro _; rfl) : QS X (.For tg iter body [] pos) (sFor f T g) := (ps_for hp hc hi hg hb hs).imp fun D σ H ⟨C, env, o, env', hK, S, ef, k⟩ => by
  obtain ⟨src, e1, q, ef⟩ := Res.bind_ok ef
  obtain ⟨o2, e2, q2, ef⟩ := Res.bind_ok ef
  cases ef
  refine ⟨C, env, src, e1, hK, S, q, fun C' J H1 I S1 => ?_⟩
  have hK' : C'.K = X.K := I.K.trans hK
  refine ⟨fun i m σ H => i ≤ src.items.length ∧ m = src.items.length - i ∧ ∃ e, Stt C' σ H e ∧ forL T g (src.items.drop i) e = .ok o e2, ⟨_, Nat.zero_le _, rfl, e1, S1, q2⟩, ?_⟩
  rintro i m σ H ⟨hi1, rfl, e, Se, ef⟩
  by_cases hlt : i < src.items.length
  · have hd : src.items[i]? = some src.items[i] := List.getElem?_eq_getElem hlt
    rw [List.drop_eq_getElem_cons hlt] at ef
    generalize src.items[i] = d at hd ef
    simp only [forL] at ef
    split at ef
    · cases ef
    · rename_i ea ha
      obtain ⟨o3, e3, q3, ef⟩ := Res.bind_ok ef
      refine .inr ⟨I.go i d σ H e hd Se, fun σ' H' => ∃ e', Stt C' σ' H' e' ∧ forL T g (src.items.drop (i + 1)) e' = .ok o e2, fun σ' H' ⟨e', s', q'⟩ => ⟨_, by omega, by omega, rfl, e', s', q'⟩, fun x H' hy => ?_⟩
      obtain ⟨G, ow, Se1⟩ := id Se
      have Sy := I.yl i d C' G ow σ H e x H' hd Se1 Se1 rfl hy
      rw [← hK']
      refine Tg.ok Sy ha fun σ2 S2 _ => ⟨C', ea, o3, e3, rfl, S2, q3, ?_⟩
      cases o3 with
      | nx => exact fun σ3 H3 S3 => ⟨e3, S3, ef⟩
      | ct => exact fun σ3 H3 S3 => ⟨e3, S3, ef⟩
      | bk =>
        cases ef
        exact fun σ3 H3 S3 => k σ3 H3 (I.out0 S3)
      | rt r =>
        cases ef
        exact fun v σ3 H3 S3 ok3 => k v σ3 H3 (I.out v r σ3 H3 _ S3) ok3
  · have e0 : i = src.items.length := by omega
    subst e0
    rw [List.drop_length] at ef
    cases ef
    exact .inl ⟨I.stop _ σ H _ rfl Se, k σ H (I.out0 Se)⟩

/-! ### while -/
def whileN (t : ExB) (body : Sm) : Nat → Sto → Res Out
  | 0, _ => .no
  | n + 1, e => (t e).bind fun b e1 => if b = true then (body e1).bind fun o e2 => match o with
      | .nx => whileN t body n e2
      | .ct => whileN t body n e2
      | .bk => .ok .nx e2
      | .rt r => .ok (.rt r) e2
    else .ok .nx e1
def sWhile (n : Nat) (t : ExB) (body : Sm) : Sm := whileN t body n
theorem qs_while {c : Expr} {t : ExB} {n : Nat} (hp : PassesOwn (model X.prog X.w) X.A X.env X.xe) (hc : QT X c t) (hb : QSs X body g) : QS X (.While c body [] pos) (sWhile n t g) := (ps_while hp hc hb).imp fun D σ H ⟨C, env, o, env', hK, S, ef, k⟩ => by
  refine ⟨fun m σ H => ∃ e, Stt C σ H e ∧ whileN t g m e = .ok o env', ⟨n, env, S, ef⟩, ?_⟩
  rintro m σ H ⟨e, Se, ef⟩
  cases m with
  | zero => cases ef
  | succ m =>
    obtain ⟨b, e1, q1, ef⟩ := Res.bind_ok ef
    refine ⟨C, e, b, e1, hK, Se, q1, fun H1 S1 => ?_⟩
    cases b with
    | false =>
      simp only [Bool.false_eq_true, if_false] at ef ⊢
      cases ef
      exact k σ H1 S1
    | true =>
      simp only [if_true] at ef ⊢
      obtain ⟨o2, e2, q2, ef⟩ := Res.bind_ok ef
      refine ⟨fun σ' H' => ∃ e', Stt C σ' H' e' ∧ whileN t g m e' = .ok o env', fun σ' H' h => ⟨m, Nat.lt_succ_self _, h⟩, C, e1, o2, e2, hK, S1, q2, ?_⟩
      cases o2 with
      | nx => exact fun σ3 H3 S3 => ⟨e2, S3, ef⟩
      | ct => exact fun σ3 H3 S3 => ⟨e2, S3, ef⟩
      | bk =>
        cases ef
        exact fun σ3 H3 S3 => k σ3 H3 S3
      | rt r =>
        cases ef
        exact fun v σ3 H3 S3 ok3 => k v σ3 H3 S3 ok3
end
end Q
set_option Elab.async false
set_option linter.all false
set_option maxRecDepth 100000
set_option maxHeartbeats 1000000
namespace Q
open PySem PySem.Spec PyProof.Rows L2

def wipeE : List Nat → Sto → Sto
  | [], e => e
  | i :: is, e => wipeE is (e.set i .un)
def backE : List Nat → Sto → Sto → Sto
  | [], _, e => e
  | i :: is, e0, e => backE is e0 (match e0[i]? with
    | some s => e.set i s
    | none => e)
def Sl.isHot : Sl → Bool
  | .hot _ _ => true
  | _ => false
def ownOk (own : List Nat) (e : Sto) : Bool := own.all fun i => match e[i]? with
  | some s => !s.isHot
  | none => false
theorem wipeE_len : ∀ (is : List Nat) (e : Sto), (wipeE is e).length = e.length
  | [], _ => rfl
  | i :: is, e => by rw [wipeE, wipeE_len is, List.length_set]
theorem wipeE_at : ∀ (is : List Nat) (e : Sto) (j : Nat), (wipeE is e)[j]? = if j ∈ is ∧ j < e.length then some .un else e[j]?
  | [], e, j => by simp [wipeE]
  | i :: is, e, j => by
    rw [wipeE, wipeE_at is, List.length_set]
    by_cases hj : j < e.length
    · by_cases h1 : j ∈ is
      · rw [if_pos ⟨h1, hj⟩, if_pos ⟨List.mem_cons_of_mem _ h1, hj⟩]
      · rw [if_neg (fun z => h1 z.1)]
        by_cases h2 : i = j
        · subst h2
          rw [List.getElem?_set_self hj, if_pos ⟨List.mem_cons_self, hj⟩]
        · rw [List.getElem?_set_ne h2, if_neg]
          rintro ⟨z, _⟩
          obtain z | z := List.mem_cons.mp z
          · exact h2 z.symm
          · exact h1 z
    · rw [if_neg (fun z => hj z.2), if_neg (fun z => hj z.2), List.getElem?_eq_none (by rw [List.length_set]; omega), List.getElem?_eq_none (by omega)]
theorem backE_len : ∀ (is : List Nat) (e0 e : Sto), (backE is e0 e).length = e.length
  | [], _, _ => rfl
  | i :: is, e0, e => by
    rw [backE, backE_len is]
    cases e0[i]? with
    | none => rfl
    | some s => rw [List.length_set]
theorem backE_at : ∀ (is : List Nat) (e0 e : Sto) (j : Nat), e0.length = e.length → (backE is e0 e)[j]? = if j ∈ is ∧ j < e.length then e0[j]? else e[j]?
  | [], e0, e, j, _ => by simp [backE]
  | i :: is, e0, e, j, hl => by
    rw [backE]
    by_cases hi : i < e.length
    · have e1 : e0[i]? = some e0[i] := List.getElem?_eq_getElem (by omega)
      rw [e1]
      simp only
      rw [backE_at is _ _ _ (by rw [List.length_set]; exact hl), List.length_set]
      by_cases hj : j < e.length
      · by_cases h1 : j ∈ is
        · rw [if_pos ⟨h1, hj⟩, if_pos ⟨List.mem_cons_of_mem _ h1, hj⟩]
        · rw [if_neg (fun z => h1 z.1)]
          by_cases h2 : i = j
          · subst h2
            rw [List.getElem?_set_self hj, if_pos ⟨List.mem_cons_self, hj⟩, e1]
          · rw [List.getElem?_set_ne h2, if_neg]
            rintro ⟨z, _⟩
            obtain z | z := List.mem_cons.mp z
            · exact h2 z.symm
            · exact h1 z
      · rw [if_neg (fun z => hj z.2), if_neg (fun z => hj z.2), List.getElem?_eq_none (by rw [List.length_set]; omega), List.getElem?_eq_none (by omega)]
    · rw [List.getElem?_eq_none (show e0.length ≤ i by omega)]
      simp only
      rw [backE_at is _ _ _ hl]
      by_cases h1 : j ∈ is
      · by_cases hj : j < e.length
        · rw [if_pos ⟨h1, hj⟩, if_pos ⟨List.mem_cons_of_mem _ h1, hj⟩]
        · rw [if_neg (fun z => hj z.2), if_neg (fun z => hj z.2)]
      · rw [if_neg (fun z => h1 z.1), if_neg]
        rintro ⟨z, hj⟩
        obtain z | z := List.mem_cons.mp z
        · omega
        · exact h1 z
theorem wipe_at : ∀ (is : List Nat) (σ : L2.St) (j : Nat), j ∉ is → (wipe σ is)[j]? = σ[j]?
  | is, σ, j, h => wipe_out h

section
variable {C : Ctx} {G H : Hp} {ow : Addr → Option Nat} {σ : L2.St} {env env' : Sto}
/-- the block's own slots are forgotten -/
theorem St1.wipe {own : List Nat} (S : St1 C G ow σ H env) (ok : ∀ i ∈ own, ∀ m q, env[i]? ≠ some (.hot m q)) {σ' : L2.St} (h1 : σ'.length = σ.length) (h2 : ∀ j, j ∉ own → σ'[j]? = σ[j]?) : St1 C G ow σ' H (wipeE own env) := by
  refine S.resl (wipeE_len _ _) h1 fun j => ?_
  rw [wipeE_at]
  by_cases hj : j ∈ own
  · refine .inr ⟨ok j hj, ?_⟩
    by_cases hl : j < env.length
    · rw [if_pos ⟨hj, hl⟩]; trivial
    · rw [if_neg (fun z => hl z.2), show env[j]? = none from List.getElem?_eq_none (by omega)]; trivial
  · rw [if_neg (fun z => hj z.1)]
    exact .inl ⟨rfl, h2 j hj⟩
theorem St1.back {own : List Nat} {σ0 : L2.St} {env0 : Sto} (S : St1 C G ow σ H env) (hw : ∀ i ∈ own, ∀ m q, env[i]? ≠ some (.hot m q)) (h0 : env0.length = env.length) (h1 : σ0.length = σ.length) (h2 : ∀ j, j ∉ own → σ[j]? = σ0[j]?)
    (hv : ∀ j ∈ own, ∀ s, env0[j]? = some s → SlR C.K G H C.H0 (fun a => ow a = some j) (σ0[j]?) (some s)) : St1 C G ow σ0 H (backE own env0 env) := by
  refine S.resl (backE_len _ _ _) h1 fun j => ?_
  rw [backE_at _ _ _ _ h0]
  by_cases hj : j ∈ own
  · refine .inr ⟨hw j hj, ?_⟩
    by_cases hl : j < env.length
    · rw [if_pos ⟨hj, hl⟩]
      have e : env0[j]? = some env0[j] := List.getElem?_eq_getElem (by omega)
      rw [e]
      exact hv j hj _ e
    · rw [if_neg (fun z => hl z.2), show env[j]? = none from List.getElem?_eq_none (by omega)]; trivial
  · rw [if_neg (fun z => hj z.1)]
    exact .inl ⟨rfl, (h2 j hj).symm⟩
end

/-! ### [elt for target in source if test] -/
def tTrue : ExB := fun env => .ok true env
def lcL (room : List D → D → Bool) (T : Tg) (t : ExB) (f : Ex) (own : List Nat) : List D → List D → Sto → Res (List D)
  | [], acc, e => .ok acc e
  | d :: ds, acc, e => match T.asg d e with
    | none => .no
    | some e1 => (t e1).bind fun b e2 => if b = true then (cold f e2).bind fun r e3 => match r with
        | .cold v => if room acc v = true then (if ownOk own e3 = true then lcL room T t f own ds (acc ++ [v]) (wipeE own e3) else .no) else .no
        | _ => .no
      else if ownOk own e2 = true then lcL room T t f own ds acc (wipeE own e2) else .no
def roomL (acc : List D) (_ : D) : Bool := decide (acc.length < sizeLine)
def eLcG (room : List D → D → Bool) (hot : List D → Hot) (s : ExS) (T : Tg) (t : ExB) (f : Ex) (own : List Nat) : Ex := fun env => (s env).bind fun src e =>
  if ownOk own e = true ∧ T.slots.all (fun i => own.contains i) = true then (lcL room T t f own src.items [] (wipeE own e)).bind fun acc e1 => if ownOk own e1 = true then .ok (.hot (hot acc)) (unlk src.un (backE own e e1)) else .no else .no
abbrev eLc := eLcG roomL .lst
/-- the reading of a comprehension whose items go into what stands at D -/
abbrev StepR := Addr → V → Hp → (Hp → Prop) → Prop
def tLcG (o0 : Addr → HO) (R : StepR) (wi : TI) (g : TG) (tt : TT) (te : TE) (vs : List Nat) : TE := fun σ H Q => wi σ H fun J H1 => ∀ D, H1 D = none → ∃ W : Nat → Nat → Hp → Prop, (∃ m, W 0 m (upd H1 D (o0 D))) ∧ ∀ i m H, W i m H →
  (J.stop i H ∧ Q (.ref D) H) ∨ (J.go i H ∧ ∃ Nx : Hp → Prop, (∀ H', Nx H' → ∃ m', m' < m ∧ W (i + 1) m' H') ∧ ∀ x H', J.yld i H x H' → g x (L2.wipe σ vs) H' fun σ2 H2 => L2.wipe σ2 vs = L2.wipe σ vs ∧ tt σ2 H2 fun b H3 =>
    if b = true then te σ2 H3 fun y H4 => R D y H4 Nx else Nx H3)
/-- what is built: at the start, and by one item more -/
structure Built (room : List D → D → Bool) (hot : List D → Hot) (o0 : Addr → HO) (R : StepR) : Prop where
  init : ∀ (K : PySem.W.Frag) (G H : Hp) (own : Addr → Prop) (p : Addr), own p → H p = some (o0 p) → HotR K G H own (.ref p) (hot [])
  step : ∀ (C : Ctx) (G : Hp) (ow : Addr → Option Nat) (σ : L2.St) (H : Hp) (env : Sto) (Dd : Addr) (a : List D) (v : D) (y : V) (Nx : Hp → Prop), St1 (C.push (.ref Dd) (.hot Md.free (hot a))) G ow σ H env → Rp C.K G y v → room a v = true →
    (∀ H', St1 (C.push (.ref Dd) (.hot Md.free (hot (a ++ [v])))) G ow σ H' env → Nx H') → R Dd y H Nx
def stepL : StepR := fun Dd y H4 Nx => ∃ acc, H4 Dd = some (.lst acc) ∧ acc.length < sizeLine ∧ Nx (upd H4 Dd (.lst (acc ++ [y])))
theorem built_lst : Built roomL .lst (fun _ => .lst []) stepL where
  init := fun K G H own p o h => ⟨p, [], rfl, o, h, .nil⟩
  step := fun C G ow σ H env Dd a v y Nx S ry hz k => by
    obtain ⟨z, e5, b5, vs5, e6, o5, h5, r5⟩ := S.top
    cases e5
    cases e6
    exact ⟨vs5, h5, by rw [r5.length]; exact of_decide_eq_true hz, k _ (S.mutTop (r5.append (.cons ry .nil)))⟩
theorem ownOk_nh {own : List Nat} {e : Sto} (h : ownOk own e = true) : ∀ i ∈ own, ∀ m q, e[i]? ≠ some (.hot m q) := fun i hi m q z => by
  have := List.all_eq_true.mp h i hi
  rw [z] at this
  simp [Sl.isHot] at this
abbrev QTs (X : Cx) (ifs : List Expr) (t : ExB) : Prop := PTs X ifs (rdB X.K t)
theorem qts_nil {X : Cx} : QTs X [] tTrue := ⟨fun pins s σ H Q I ⟨C, env, b, env', hK, S, ef, k⟩ => by
  cases ef
  exact pts_nil.run pins s σ H Q I (k H S)⟩
theorem qts_one {X : Cx} {c : Expr} {t : ExB} (h : QT X c t) : QTs X [c] t := pts_one h
/-- the values of the own slots ahead of the block -/
theorem saved {C : Ctx} {G H : Hp} {ow : Addr → Option Nat} {σ : L2.St} {env : Sto} (S : St1 C G ow σ H env) : ∀ {own : List Nat}, ownOk own env = true → ∃ (vs : List V) (ds : List D), RpAll C.K G vs ds ∧
    ∀ (G' H' : Hp) (ow' : Addr → Option Nat), RpAll C.K G' vs ds → ∀ j ∈ own, ∀ s, env[j]? = some s → SlR C.K G' H' C.H0 (fun a => ow' a = some j) (σ[j]?) (some s)
  | [], _ => ⟨[], [], .nil, fun _ _ _ _ j hj => by cases hj⟩
  | i :: own, h => by
    unfold ownOk at h
    rw [List.all_cons] at h; rw [Bool.and_eq_true] at h
    obtain ⟨vs, ds, r, k⟩ := saved S (own := own) h.2
    cases e : env[i]? with
    | none => rw [e] at h; cases h.1
    | some s =>
      rw [e] at h
      cases s with
      | un =>
        refine ⟨vs, ds, r, fun G' H' ow' r' j hj s hs => ?_⟩
        rcases List.mem_cons.mp hj with rfl | hj
        · rw [e] at hs; cases hs; trivial
        · exact k G' H' ow' r' j hj s hs
      | val d =>
        obtain ⟨x, e1, q⟩ := S.slot e
        refine ⟨x :: vs, d :: ds, .cons q r, fun G' H' ow' r' j hj s hs => ?_⟩
        cases r' with
        | cons r1 r2 =>
          rcases List.mem_cons.mp hj with rfl | hj
          · rw [e] at hs; cases hs
            exact ⟨x, e1, r1⟩
          · exact k G' H' ow' r2 j hj s hs
      | hot m q => cases h.1
theorem pendA_cold_H0 {C : Ctx} : ∀ {ds : List D} {vs : List V}, (pendA C vs (ds.map .cold)).H0 = C.H0 := by
  intro ds
  induction ds generalizing C with
  | nil => intro vs; cases vs <;> rfl
  | cons d ds ih => intro vs; cases vs with
    | nil => rfl
    | cons v vs => exact ih (C := C.push v (.val d))
theorem Stt.midA {v : V} {r : Rv} {σ : L2.St} {H : Hp} {env : Sto} : ∀ {ds : List D} {vs : List V} {C : Ctx}, vs.length = ds.length → Stt (pend (pendA C vs (ds.map .cold)) v r) σ H env → Stt (pend C v r) σ H env
  | [], [], C, _, S => S
  | d :: ds, w :: vs, C, h, S => Stt.mid (Stt.midA (C := C.push w (.val d)) (by simpa using h) S)
  | [], _ :: _, _, h, _ => nomatch h
  | _ :: _, [], _, h, _ => nomatch h
section
variable {X : Cx} {elt tg iter : Expr} {ifs : List Expr} {scope : Scope} {own : List (Str × Nat)} {pos : Pos} {s : ExS} {T : Tg} {t : ExB} {f : Ex}
theorem rd_lcG {room : List D → D → Bool} {hot : List D → Hot} {o0 : Addr → HO} {R : StepR} (B : Built room hot o0 R) {σ : L2.St} {H : Hp} {Q : VK} : rd X.K (eLcG room hot s T t f (own.map (·.2))) σ H Q → tLcG o0 R (rdI X.K s) (T.g X.K) (rdB X.K t) (rd X.K (cold f)) (own.map (·.2)) σ H Q := by
  generalize own.map (·.2) = ns
  rintro ⟨C, env, r, env', hK, S, ef, k⟩
  obtain ⟨src, e, q, ef⟩ := Res.bind_ok ef
  split at ef
  case isFalse => cases ef
  rename_i hok
  obtain ⟨hok, hsl⟩ := hok
  obtain ⟨acc, e1, ql, ef⟩ := Res.bind_ok ef
  split at ef
  case isFalse => cases ef
  rename_i hok1
  cases ef
  refine ⟨C, env, src, e, hK, S, q, fun C' J H1 I S1 => fun Dd hDd => ?_⟩
  have hK' : C'.K = X.K := I.K.trans hK
  -- the own slots' values wait
  obtain ⟨G1, ow1, S1⟩ := S1
  obtain ⟨svs, sds, sr, skeep⟩ := saved S1 hok
  have hlen : svs.length = sds.length := sr.length
  let Cs := pendA C' svs (sds.map .cold)
  have hKs : Cs.K = C'.K := pendA_K
  have hS2 : St1 Cs G1 ow1 σ H1 e := S1.pushAll sr
  have hnh := ownOk_nh hok
  have hwl : (L2.wipe σ ns).length = σ.length := wipe_length _ _
  have hwo : ∀ j, j ∉ ns → (L2.wipe σ ns)[j]? = σ[j]? := fun j hj => wipe_out hj
  have hsub : ∀ i ∈ T.slots, i ∈ ns := fun i hi => by
    have := List.all_eq_true.mp hsl i hi
    simpa using this
  have S3 : St1 Cs G1 ow1 (L2.wipe σ ns) H1 (wipeE ns e) := hS2.wipe hnh hwl hwo
  obtain ⟨S4, h04⟩ := S3.allocHot (o := o0 Dd) hDd (wipeE ns e ++ Cs.xs).length
  have S5 : Stt (Cs.push (.ref Dd) (.hot Md.free (hot []))) (L2.wipe σ ns) (upd H1 Dd (o0 Dd)) (wipeE ns e) := ⟨_, _, S4.push ⟨_, rfl, B.init _ _ _ _ _ ⟨if_pos rfl, fun _ => h04⟩ upd_same⟩⟩
  -- dropping what waits in front of the loop's context
  have down : ∀ {v r σ H e}, Stt (pend Cs v r) σ H e → Stt (pend C' v r) σ H e := fun S => S.midA hlen
  have down0 : ∀ {σ H e}, Stt Cs σ H e → Stt C' σ H e := fun S => down (v := .non) (r := .slot 0) S
  have down1 : ∀ {G ow σ H e}, St1 Cs G ow σ H e → St1 C' G ow σ H e := fun {G ow σ H e} S => (pendA_colds (rs := sds.map .cold) (ds := sds) (vs := svs) S (pend_rvok sr) (colds_map _)).1
  refine ⟨fun i m H => i ≤ src.items.length ∧ m = src.items.length - i ∧ ∃ a e, Stt (Cs.push (.ref Dd) (.hot Md.free (hot a))) (L2.wipe σ ns) H e ∧ lcL room T t f ns (src.items.drop i) a e = .ok acc e1,
    ⟨_, Nat.zero_le _, rfl, [], _, S5, ql⟩, ?_⟩
  rintro i m H ⟨hi1, rfl, a, ea, Se, ef⟩
  by_cases hlt : i < src.items.length
  · have hd : src.items[i]? = some src.items[i] := List.getElem?_eq_getElem hlt
    rw [List.drop_eq_getElem_cons hlt] at ef
    generalize src.items[i] = d at hd ef
    simp only [lcL] at ef
    split at ef
    · cases ef
    rename_i eb hb
    obtain ⟨b, ec, qt, ef⟩ := Res.bind_ok ef
    obtain ⟨G, ow, Se1⟩ := id Se
    have Sd := down1 Se1.drop
    refine .inr ⟨I.go i d _ H ea hd ⟨G, ow, Sd⟩, fun H' => ∃ a e, Stt (Cs.push (.ref Dd) (.hot Md.free (hot a))) (L2.wipe σ ns) H' e ∧ lcL room T t f ns (src.items.drop (i + 1)) a e = .ok acc e1,
      fun H' ⟨a', e', s', q'⟩ => ⟨_, by omega, by omega, rfl, a', e', s', q'⟩, fun x H' hy => ?_⟩
    have Sy := I.yl i d (Cs.push (.ref Dd) (.hot Md.free (hot a))) G ow _ H ea x H' hd Se1 Sd hKs hy
    have hKK : (Cs.push (.ref Dd) (.hot Md.free (hot a))).K = X.K := hKs.trans hK'
    rw [← hKK]
    refine Tg.ok Sy hb fun σ2 S2 hw => ⟨?_, ?_⟩
    · rw [hw ns hsub]
      have hwipe2 : ∀ (ns : List Nat) (σ : L2.St), L2.wipe (L2.wipe σ ns) ns = L2.wipe σ ns := by
        intro ns σ
        apply List.ext_getElem?
        intro j
        by_cases hj : j ∈ ns
        · have key : ∀ (σ : L2.St), (L2.wipe σ ns)[j]? = if j < σ.length then some none else none := by
            clear hb Sy S2 hw
            induction ns with
            | nil => cases hj
            | cons n ns ih =>
              intro σ
              unfold L2.wipe
              by_cases hn : n = j
              · subst hn
                by_cases hl : n < σ.length
                · rw [if_pos hl, List.getElem?_set_self (by rw [wipe_length]; exact hl)]
                · rw [if_neg hl, List.getElem?_eq_none (by rw [List.length_set, wipe_length]; omega)]
              · rw [List.getElem?_set_ne hn]
                rcases List.mem_cons.mp hj with z | z
                · exact absurd z.symm hn
                · by_cases hjn : j ∈ ns
                  · have go : ∀ (ns : List Nat) (σ : L2.St), j ∈ ns → (L2.wipe σ ns)[j]? = if j < σ.length then some none else none := by
                      intro ns
                      induction ns with
                      | nil => intro σ h; cases h
                      | cons n ns ih =>
                        intro σ h
                        unfold L2.wipe
                        by_cases hn : n = j
                        · subst hn
                          by_cases hl : n < σ.length
                          · rw [if_pos hl, List.getElem?_set_self (by rw [wipe_length]; exact hl)]
                          · rw [if_neg hl, List.getElem?_eq_none (by rw [List.length_set, wipe_length]; omega)]
                        · rw [List.getElem?_set_ne hn]
                          obtain z | z := List.mem_cons.mp h
                          · exact absurd z.symm hn
                          · exact ih σ z
                    exact go ns σ hjn
                  · exact absurd z hjn
          rw [key, key, wipe_length]
        · rw [wipe_out hj, wipe_out hj]
      exact (hwipe2 ns σ)
    · refine ⟨_, eb, b, ec, rfl, S2, qt, fun H3 S3 => ?_⟩
      have hσ2 : σ2.length = (L2.wipe σ ns).length ∧ ∀ j, j ∉ ns → (L2.wipe σ ns)[j]? = σ2[j]? := by
        have e := hw ns hsub
        refine ⟨?_, fun j hj => ?_⟩
        · have := congrArg List.length e
          rw [wipe_length, wipe_length] at this
          exact this
        · have this : (L2.wipe σ2 ns)[j]? = (L2.wipe (L2.wipe σ ns) ns)[j]? := congrArg (fun l => l[j]?) e
          rw [wipe_out hj, wipe_out hj] at this
          exact this.symm
      cases b with
      | false =>
        simp only [Bool.false_eq_true, if_false] at ef ⊢
        split at ef
        · rename_i hok2
          obtain ⟨G3, ow3, S3⟩ := S3
          exact ⟨a, _, ⟨G3, ow3, S3.wipe (ownOk_nh hok2) hσ2.1.symm hσ2.2⟩, ef⟩
        · cases ef
      | true =>
        simp only [if_true] at ef ⊢
        obtain ⟨r3, e3, q3, ef⟩ := Res.bind_ok ef
        refine ⟨_, ec, r3, e3, rfl, S3, q3, fun y H4 S4 ok4 => ?_⟩
        cases r3 with
        | cold v =>
          simp only at ef
          split at ef
          case isFalse => cases ef
          rename_i hz
          split at ef
          case isFalse => cases ef
          rename_i hok3
          obtain ⟨G4, ow4, S4⟩ := S4
          obtain ⟨z, e5, ry⟩ := St1.top (C := Cs.push (.ref Dd) (.hot Md.free (hot a))) S4
          cases e5
          have S6 := St1.drop (C := Cs.push (.ref Dd) (.hot Md.free (hot a))) S4
          exact B.step Cs G4 ow4 σ2 H4 e3 Dd a v y _ S6 ry hz fun H' S8 => ⟨a ++ [v], _, ⟨G4, ow4, St1.wipe S8 (ownOk_nh hok3) hσ2.1.symm hσ2.2⟩, ef⟩
        | hot h => cases ef
        | slot j => cases ef
  · have e0 : i = src.items.length := by omega
    subst e0
    rw [List.drop_length] at ef
    cases ef
    obtain ⟨G, ow, Se1⟩ := id Se
    refine .inl ⟨I.stop _ _ H _ rfl ⟨G, ow, down1 Se1.drop⟩, ?_⟩
    obtain ⟨S6, sr6⟩ := pendA_colds (rs := sds.map .cold) (ds := sds) (vs := svs) Se1.drop (pend_rvok sr) (colds_map _)
    have hl0 : e.length = e1.length := by rw [S1.len, S6.len, hwl]
    have Sb : Stt (Cs.push (.ref Dd) (.hot Md.free (hot acc))) σ H (backE ns e e1) := ⟨G, ow, Se1.back (ownOk_nh hok1) hl0 hwl.symm hwo fun j hj s hs => by
      have := skeep G H ow sr6 j hj s hs
      have e2 : (Cs.push (.ref Dd) (.hot Md.free (hot acc))).K = C'.K := hKs
      have e3 : (Cs.push (.ref Dd) (.hot Md.free (hot acc))).H0 = C'.H0 := pendA_cold_H0
      rw [e2, e3]; exact this⟩
    exact k _ H (I.out _ (.hot (hot acc)) _ _ _ (down (r := .hot (hot acc)) Sb)) trivial
theorem rd_lc {σ : L2.St} {H : Hp} {Q : VK} : rd X.K (eLc s T t f (own.map (·.2))) σ H Q → tLc (rdI X.K s) (T.g X.K) (rdB X.K t) (rd X.K (cold f)) (own.map (·.2)) σ H Q := rd_lcG built_lst
theorem qe_lc (hc : X.calm = true) (hN : X.N.Nodup) (hi : QI X tg iter s) (ok : BlkOk X.N X.env.scope scope own)
    (hg : ∀ (s : Shared) (H : Hp) (C : Addr) (cl : List (Str × Addr)) (fp : List Addr), PG (X.blk s H scope (compEnvC scope cl C X.env) fp) tg (T.g X.K)) (ht : ∀ (s : Shared) (H : Hp) (C : Addr) (cl : List (Str × Addr)) (fp : List Addr), QTs (X.blk s H scope (compEnvC scope cl C X.env) fp) ifs t)
    (he : ∀ (s : Shared) (H : Hp) (C : Addr) (cl : List (Str × Addr)) (fp : List Addr), QE (X.blk s H scope (compEnvC scope cl C X.env) fp) elt f) (hs : ∀ x, foldedSetIterable iter X.env x = pure x := by intro _; rfl) :
    QE X (.ListComp elt [⟨tg, iter, ifs, 0⟩] scope pos) (eLc s T t f (own.map (·.2))) :=
  (pe_lc hc hN hi ok hg ht (fun s H C cl fp => QE.cold (he s H C cl fp)) hs).imp fun _ _ _ => rd_lc
theorem qs_setLc {i : Nat} {y : Str} {py spos : Pos} (hc : X.calm = true) (hN : X.N.Nodup) (hy : X.N[i]? = some y) (hyl : X.env.scope.names.lookup y = some .local)
    (hsw : swapsWith (.ListComp elt [⟨tg, iter, ifs, 0⟩] scope pos) (some (.Name y py)) spos.line X.env = pure true) (hi : QI X tg iter s) (ok : BlkOk X.N X.env.scope scope own)
    (hg : ∀ (s : Shared) (H : Hp) (C : Addr) (cl : List (Str × Addr)) (fp : List Addr), PG (X.blk s H scope (compEnvC scope cl C X.env) fp) tg (T.g X.K)) (ht : ∀ (s : Shared) (H : Hp) (C : Addr) (cl : List (Str × Addr)) (fp : List Addr), QTs (X.blk s H scope (compEnvC scope cl C X.env) fp) ifs t)
    (he : ∀ (s : Shared) (H : Hp) (C : Addr) (cl : List (Str × Addr)) (fp : List Addr), QE (X.blk s H scope (compEnvC scope cl C X.env) fp) elt f) (hs : ∀ x, foldedSetIterable iter X.env x = pure x := by intro _; rfl) :
    QS X (.Assign [.Name y py] (.ListComp elt [⟨tg, iter, ifs, 0⟩] scope pos) spos) (sSet i (eLc s T t f (own.map (·.2)))) :=
  (ps_setLc hc hN hy hyl hsw hi ok hg ht (fun s H C cl fp => QE.cold (he s H C cl fp)) hs).imp fun _ _ _ => rd_set fun _ _ _ => rd_lc
end
end Q
set_option Elab.async false
set_option linter.all false
set_option maxRecDepth 100000
set_option maxHeartbeats 1000000
/-! defs: what one promises, its call -/
namespace Q
open PySem PySem.Spec PyProof.Rows L2

abbrev FnS := List Sl → Option (Sl × List Sl)
abbrev Md.lent : Md := ⟨true, false⟩
structure Ent (K : PySem.W.Frag) (G0 : Hp) (ow0 : Addr → Option Nat) (H : Hp) (vs : List V) (args : List Sl) : Prop where
  len : vs.length = args.length
  sl : ∀ i, SlR K G0 H H (fun a => ow0 a = some i) ((vs.map some)[i]?) (args[i]?)
  ow : ∀ a i, ow0 a = some i → H a ≠ none ∧ G0 a = none ∧ ∃ (m : Md) (h : Hot), args[i]? = some (.hot m h)
  gh : Sub G0 H
  md : ∀ (i : Nat) (m : Md) (h : Hot), args[i]? = some (.hot m h) → m.pin = true
structure Exi (K : PySem.W.Frag) (G0 : Hp) (ow0 : Addr → Option Nat) (H : Hp) (vs : List V) (v : V) (r : Sl) (args' : List Sl) (G' : Hp) (ow' : Addr → Option Nat) (H' : Hp) : Prop where
  g : Sub G0 G'
  gh : Sub G' H'
  new : ∀ b o, G' b = some o → G0 b = some o ∨ H b = none
  fr : ∀ b o, H b = some o → ow0 b = none → H' b = some o
  dom : ∀ b, H b ≠ none → H' b ≠ none
  ow : ∀ a i, ow' a = some i → H' a ≠ none ∧ G' a = none ∧ (H a = none ∨ ow0 a = some i)
  sl : ∀ i, SlR K G' H' H (fun a => ow' a = some i) ((vs.map some)[i]?) (args'[i]?)
  res : SlR K G' H' H (fun a => ow' a = some vs.length) (some (some v)) (some r)
def spQ (K : PySem.W.Frag) (F : FnS) : Sp := fun vs H Q _ => ∃ G0 ow0 args r args', Ent K G0 ow0 H vs args ∧ F args = some (r, args') ∧ ∀ v G' ow' H', Exi K G0 ow0 H vs v r args' G' ow' H' → Q v H'

/-! ### a def by its body -/
def finA : List Sl → Sto → List Sl
  | .hot _ _ :: as, s :: e => s :: finA as e
  | a :: as, _ :: e => a :: finA as e
  | _, _ => []
def resS : Out → Option Sl
  | .nx => some (.val .none)
  | .rt r => r.sl
  | _ => none
def defF (n N : Nat) (g : Sm) : FnS := fun args => if args.length = n ∧ n ≤ N then match g (args ++ List.replicate (N - n) .un) with
  | .ok o e => if n ≤ e.length then (resS o).map fun r => (r, finA args e) else none
  | .no => none else none
theorem finA_at : ∀ (args : List Sl) (e : Sto) (i : Nat), args.length ≤ e.length → (finA args e)[i]? = match args[i]? with
    | some (.hot _ _) => e[i]?
    | o => o
  | [], e, i, _ => by simp [finA]
  | a :: as, [], _, h => by simp at h
  | a :: as, s :: e, 0, _ => by cases a <;> simp [finA]
  | a :: as, s :: e, i + 1, h => by
    have ih := finA_at as e i (by simpa using h)
    cases a <;> simpa [finA] using ih
def pinsOf : Nat → List V → List Sl → List (Nat × V)
  | i, v :: vs, .hot _ _ :: as => (i, v) :: pinsOf (i + 1) vs as
  | i, _ :: vs, _ :: as => pinsOf (i + 1) vs as
  | _, _, _ => []
theorem mem_pins : ∀ {vs : List V} {as : List Sl} {n : Nat} {p : Nat × V}, p ∈ pinsOf n vs as ↔ ∃ i m h, p.1 = n + i ∧ vs[i]? = some p.2 ∧ as[i]? = some (.hot m h)
  | [], as, n, p => by
    simp [pinsOf]
  | v :: vs, [], n, p => by
    simp [pinsOf]
  | v :: vs, a :: as, n, p => by
    have ih := mem_pins (vs := vs) (as := as) (n := n + 1) (p := p)
    have step : (∃ i m h, p.1 = n + 1 + i ∧ vs[i]? = some p.2 ∧ as[i]? = some (.hot m h)) ↔ ∃ i m h, p.1 = n + (i + 1) ∧ (v :: vs)[i + 1]? = some p.2 ∧ (a :: as)[i + 1]? = some (.hot m h) := by
      constructor
      · rintro ⟨i, m, h, e1, e2, e3⟩
        exact ⟨i, m, h, by omega, by simpa using e2, by simpa using e3⟩
      · rintro ⟨i, m, h, e1, e2, e3⟩
        exact ⟨i, m, h, by omega, by simpa using e2, by simpa using e3⟩
    cases a with
    | hot m0 h0 =>
      simp only [pinsOf, List.mem_cons, ih]
      constructor
      · rintro (rfl | h)
        · exact ⟨0, m0, h0, rfl, rfl, rfl⟩
        · obtain ⟨i, m, h, q⟩ := step.mp h
          exact ⟨i + 1, m, h, q⟩
      · rintro ⟨i, m, h, e1, e2, e3⟩
        cases i with
        | zero =>
          left
          have e2 : v = p.2 := by simpa using e2
          exact Prod.ext (by simpa using e1) e2.symm
        | succ i => exact .inr (step.mpr ⟨i, m, h, e1, e2, e3⟩)
    | val d =>
      simp only [pinsOf, ih]
      constructor
      · intro h
        obtain ⟨i, m, h, q⟩ := step.mp h
        exact ⟨i + 1, m, h, q⟩
      · rintro ⟨i, m, h, e1, e2, e3⟩
        cases i with
        | zero => simp at e3
        | succ i => exact step.mpr ⟨i, m, h, e1, e2, e3⟩
    | un =>
      simp only [pinsOf, ih]
      constructor
      · intro h
        obtain ⟨i, m, h, q⟩ := step.mp h
        exact ⟨i + 1, m, h, q⟩
      · rintro ⟨i, m, h, e1, e2, e3⟩
        cases i with
        | zero => simp at e3
        | succ i => exact step.mpr ⟨i, m, h, e1, e2, e3⟩
section
variable {K : PySem.W.Frag} {P : Program} {w : World} {base : Heap} {mg : Str → Option Value}
theorem start_stt {G0 : Hp} {ow0 : Addr → Option Nat} {H : Hp} {vs : List V} {args : List Sl} {N : List Str} (E : Ent K G0 ow0 H vs args) (hN : args.length ≤ N.length) :
    St1 ⟨K, H, G0, ow0, pinsOf 0 vs args, [], [], []⟩ G0 ow0 (L2.start N vs) H (args ++ List.replicate (N.length - args.length) .un) := by
  have hl := E.len
  refine ⟨?_, rfl, fun i => ?_, fun a i e => ?_, Sub.refl, E.gh, fun b o e => .inl e, fun b o e _ => e, fun b n => n, fun p hp => ?_, fun p hp => by cases hp⟩
  · unfold L2.start
    simp only [List.length_map, List.length_replicate, List.length_append]
    omega
  · simp only [List.append_nil]
    unfold L2.start
    by_cases hi : i < args.length
    · rw [List.getElem?_append_left (by rw [List.length_map]; omega), List.getElem?_append_left hi]
      exact E.sl i
    · rw [List.getElem?_append_right (l₁ := args) (by omega)]
      by_cases h2 : i - args.length < N.length - args.length
      · rw [List.getElem?_replicate, if_pos h2]; trivial
      · rw [List.getElem?_replicate, if_neg h2]; trivial
  · obtain ⟨h1, h2, m, h, e2⟩ := E.ow a i e
    have hi := (List.getElem?_eq_some_iff.mp e2).1
    refine ⟨h1, h2, .inr ⟨e, (i, vs[i]'(by omega)), mem_pins.mpr ⟨i, m, h, by simp, ?_, e2⟩, rfl⟩⟩
    exact List.getElem?_eq_getElem (by omega)
  · obtain ⟨i, m, h, e1, e2, e3⟩ := mem_pins.mp hp
    have e1 : p.1 = i := by omega
    have hi := (List.getElem?_eq_some_iff.mp e3).1
    refine ⟨?_, m, h, ?_, E.md i m h e3⟩
    · unfold L2.start
      rw [e1, List.getElem?_append_left (by rw [List.length_map]; omega), List.getElem?_map, e2]
      rfl
    · rw [e1, List.getElem?_append_left hi]; exact e3
theorem end_exi {G0 : Hp} {ow0 : Addr → Option Nat} {H H' : Hp} {vs : List V} {args : List Sl} {n : Nat} {σ : L2.St} {e : Sto} {v : V} {t : Sl} (E : Ent K G0 ow0 H vs args) (hn : args.length ≤ e.length)
    (S : Stt (Ctx.push ⟨K, H, G0, ow0, pinsOf 0 vs args, [], [], []⟩ v t) σ H' e) : ∃ G' ow', Exi K G0 ow0 H vs v t (finA args e) G' ow' H' := by
  obtain ⟨G', ow, S⟩ := S
  have hl := E.len
  have q := S.top
  have S0 := S.drop
  have he : (e ++ ([] : List Sl)).length = e.length := by simp
  refine ⟨G', fun a => if ow a = some e.length then some vs.length else match ow a with
    | some j => if j < vs.length then some j else none
    | none => none, S0.g0, S0.gh, S0.new, S0.fr, S0.dom, fun a i h => ?_, fun i => ?_, ?_⟩
  · have h : (if ow a = some e.length then some vs.length else match ow a with
      | some j => if j < vs.length then some j else none
      | none => none) = some i := h
    split at h
    · rename_i h0
      obtain ⟨h1, h2, h3⟩ := S0.ow a _ h0
      exact ⟨h1, h2, .inl (h3.free (S0.noTop _ (Nat.le_refl _)))⟩
    · split at h
      · rename_i j hj
        split at h
        · cases h
          obtain ⟨h1, h2, h3⟩ := S0.ow a _ hj
          exact ⟨h1, h2, h3.imp id fun z => z.1⟩
        · cases h
      · cases h
  · rw [finA_at _ _ _ hn]
    have q2 := S0.sl i
    simp only [List.append_nil] at q2
    split
    · rename_i m h ha
      have hi := (List.getElem?_eq_some_iff.mp ha).1
      have hv : vs[i]? = some (vs[i]'(by omega)) := List.getElem?_eq_getElem (by omega)
      obtain ⟨e1, m', h', e2, e3⟩ := S0.pin (i, vs[i]'(by omega)) (mem_pins.mpr ⟨i, m, h, by simp, hv, ha⟩)
      have e1 : σ[i]? = some (some (vs[i]'(by omega))) := e1
      have e2 : e[i]? = some (.hot m' h') := e2
      rw [e1, e2] at q2
      rw [List.getElem?_map, hv, e2]
      refine q2.reown fun a z => ?_
      have z : ow a = some i := z
      show (if ow a = some e.length then some vs.length else match ow a with
        | some j => if j < vs.length then some j else none
        | none => none) = some i
      have hlt := (List.getElem?_eq_some_iff.mp e2).1
      rw [if_neg (fun w => by rw [z] at w; have := Option.some.inj w; omega), z]
      simp only
      rw [if_pos (by omega)]
    · rename_i o ho
      have q3 := E.sl i
      cases ha : args[i]? with
      | none => trivial
      | some s =>
        cases s with
        | un => trivial
        | val d =>
          rw [ha] at q3
          obtain ⟨x, e1, r⟩ := q3
          exact ⟨x, e1, Rp.sub S0.g0 r⟩
        | hot m h => exact absurd ha (ho m h)
  · refine q.reown fun a z => ?_
    have z : ow a = some (e ++ ([] : List Sl)).length := z
    rw [he] at z
    show (if ow a = some e.length then some vs.length else match ow a with
      | some j => if j < vs.length then some j else none
      | none => none) = some vs.length
    rw [if_pos z]
/-- THE RULE for a def -/
theorem ok_def {x qual : Str} {st : Stmt} {f : Addr} {fd : FuncData} {N ps : List Str} {k : Nat} {g : Sm} (F : Fun K x qual st f fd) (S : FnScope N ps (defScope st))
    (body : ∀ (cdv : Value) (A : Around) (outer : List Env) (s : Shared) (H : Hp) (E : XK), Room k (A.deeper (envOfC qual (defScope st) s.heap.objs.size f cdv)) → QSs (cxOf CX0 P w K mg base N qual (defScope st) f cdv A outer s H E).nox (defBody st) g) :
    FnOk P w K mg base CX0 (k + 1) f fd ps (spQ K (defF ps.length N.length g)) := by
  refine F.ok S (fun vs H Q E h => ?_) (fun cdv A outer s H vs Q E hr h => ⟨_, body cdv A outer s H E hr, ?_⟩)
  · obtain ⟨G0, ow0, args, r, args', e1, e2, _⟩ := h
    unfold defF at e2
    split at e2
    · rename_i hn
      rw [e1.len]; exact hn.1
    · cases e2
  · obtain ⟨G0, ow0, args, r, args', e1, e2, k⟩ := h
    unfold defF at e2
    split at e2
    case isFalse => cases e2
    rename_i hn
    split at e2
    case h_2 => cases e2
    rename_i o e he
    split at e2
    case isFalse => cases e2
    rename_i hle
    simp only [Option.map_eq_some_iff] at e2
    obtain ⟨r0, e2, e3⟩ := e2
    cases e3
    rw [← hn.1] at he hle
    refine ⟨_, _, o, e, rfl, ⟨_, _, start_stt e1 (by omega)⟩, he, ?_⟩
    have fin : ∀ v t σ H', resS o = some t → Stt (Ctx.push ⟨K, H, G0, ow0, pinsOf 0 vs args, [], [], []⟩ v t) σ H' e → Q v H' := fun v t σ H' ht S => by
      rw [e2] at ht
      cases ht
      obtain ⟨G', ow', X⟩ := end_exi (n := N.length) e1 hle S
      exact k v G' ow' H' X
    cases o with
    | nx => exact fun σ' H' S => fin .non _ σ' H' rfl (S.scal fun _ => .non)
    | bk => cases e2
    | ct => cases e2
    | rt r =>
      intro v σ' H' S ok
      cases r with
      | cold d => exact fin v _ σ' H' rfl S
      | hot h => exact fin v _ σ' H' rfl S
      | slot i => cases e2
end
end Q
set_option Elab.async false
set_option linter.all false
set_option maxRecDepth 100000
set_option maxHeartbeats 1000000
/-! the call of a def -/
namespace Q
open PySem PySem.Spec PyProof.Rows L2

def slotPos : List Rv → Nat → Option Nat
  | [], _ => none
  | .slot j :: rs, i => if j = i then some 0 else (slotPos rs i).map (· + 1)
  | _ :: rs, i => (slotPos rs i).map (· + 1)
theorem slotPos_get : ∀ {rs : List Rv} {i k : Nat}, slotPos rs i = some k → rs[k]? = some (.slot i)
  | [], _, _, h => by cases h
  | .slot j :: rs, i, k, h => by
    simp only [slotPos] at h
    split at h
    · rename_i e; cases h; rw [e]; rfl
    · simp only [Option.map_eq_some_iff] at h
      obtain ⟨k', h, rfl⟩ := h
      simpa using slotPos_get h
  | .cold d :: rs, i, k, h => by
    simp only [slotPos, Option.map_eq_some_iff] at h
    obtain ⟨k', h, rfl⟩ := h
    simpa using slotPos_get h
  | .hot d :: rs, i, k, h => by
    simp only [slotPos, Option.map_eq_some_iff] at h
    obtain ⟨k', h, rfl⟩ := h
    simpa using slotPos_get h
theorem slotPos_some : ∀ {rs : List Rv} {i k : Nat}, rs[k]? = some (.slot i) → ∃ k', slotPos rs i = some k'
  | [], _, _, h => by simp at h
  | r :: rs, i, 0, h => by
    simp at h; subst h
    exact ⟨0, by simp [slotPos]⟩
  | r :: rs, i, k + 1, h => by
    obtain ⟨k', e⟩ := slotPos_some (rs := rs) (i := i) (k := k) (by simpa using h)
    cases r with
    | slot j =>
      simp only [slotPos]
      split
      · exact ⟨_, rfl⟩
      · exact ⟨_, by rw [e]; rfl⟩
    | cold d => exact ⟨_, by simp only [slotPos]; rw [e]; rfl⟩
    | hot d => exact ⟨_, by simp only [slotPos]; rw [e]; rfl⟩
def toArgs : List Rv → Sto → Option (List Sl)
  | [], _ => some []
  | .cold d :: rs, e => (toArgs rs e).map (.val d :: ·)
  | .slot i :: rs, e => match e[i]? with
    | some (.hot m h) => if m.lk = false ∧ slotPos rs i = none then (toArgs rs e).map (.hot Md.lent h :: ·) else none
    | _ => none
  | .hot _ :: _, _ => none
def backA : List Rv → List Sl → Sto → Option Sto
  | [], [], e => some e
  | .slot i :: rs, .hot _ h :: as, e => match e[i]? with
    | some (.hot m _) => backA rs as (e.set i (.hot m h))
    | _ => none
  | .cold _ :: rs, _ :: as, e => backA rs as e
  | _, _, _ => none
theorem toArgs_spec : ∀ {rs : List Rv} {e : Sto} {args : List Sl}, toArgs rs e = some args → args.length = rs.length ∧
    (∀ (k : Nat) (d : D), rs[k]? = some (Rv.cold d) → args[k]? = some (Sl.val d)) ∧ (∀ (k i : Nat), rs[k]? = some (Rv.slot i) → ∃ (m : Md) (h : Hot), e[i]? = some (Sl.hot m h) ∧ m.lk = false ∧ args[k]? = some (Sl.hot Md.lent h) ∧ slotPos rs i = some k) ∧ ∀ (k : Nat) (h : Hot), rs[k]? ≠ some (Rv.hot h)
  | [], e, args, h => by
    cases h
    exact ⟨rfl, by simp, by simp, by simp⟩
  | .cold d :: rs, e, args, h => by
    simp only [toArgs, Option.map_eq_some_iff] at h
    obtain ⟨as, h, rfl⟩ := h
    obtain ⟨h1, h2, h3, h4⟩ := toArgs_spec h
    refine ⟨by simp [h1], fun k d' hk => ?_, fun k i hk => ?_, fun k h hk => ?_⟩
    · cases k with
      | zero => simp at hk; subst hk; rfl
      | succ k => simpa using h2 k d' (by simpa using hk)
    · cases k with
      | zero => simp at hk
      | succ k =>
        obtain ⟨m, h, e1, e2, e3, e4⟩ := h3 k i (by simpa using hk)
        exact ⟨m, h, e1, e2, by simpa using e3, by simp only [slotPos]; rw [e4]; rfl⟩
    · cases k with
      | zero => simp at hk
      | succ k => exact h4 k h (by simpa using hk)
  | .slot j :: rs, e, args, h => by
    simp only [toArgs] at h
    split at h
    · rename_i m h0 hs
      split at h
      · rename_i hc
        rw [Option.map_eq_some_iff] at h
        obtain ⟨as, h, rfl⟩ := h
        obtain ⟨h1, h2, h3, h4⟩ := toArgs_spec h
        refine ⟨by simp [h1], fun k d' hk => ?_, fun k i hk => ?_, fun k h hk => ?_⟩
        · cases k with
          | zero => simp at hk
          | succ k => simpa using h2 k d' (by simpa using hk)
        · cases k with
          | zero =>
            simp at hk; subst hk
            exact ⟨m, h0, hs, hc.1, rfl, by simp [slotPos]⟩
          | succ k =>
            obtain ⟨m', h', e1, e2, e3, e4⟩ := h3 k i (by simpa using hk)
            refine ⟨m', h', e1, e2, by simpa using e3, ?_⟩
            have ne : j ≠ i := fun z => by rw [z, e4] at hc; cases hc.2
            simp only [slotPos]
            rw [if_neg ne, e4]; rfl
        · cases k with
          | zero => simp at hk
          | succ k => exact h4 k h (by simpa using hk)
      · cases h
    · cases h
  | .hot _ :: _, _, _, h => by cases h
theorem backA_spec : ∀ {rs : List Rv} {as : List Sl} {e e' : Sto} , backA rs as e = some e' → (∀ (k i : Nat), rs[k]? = some (Rv.slot i) → slotPos rs i = some k) → e'.length = e.length ∧
    (∀ j : Nat, slotPos rs j = none → e'[j]? = e[j]?) ∧ ∀ (j k : Nat), slotPos rs j = some k → ∃ (m : Md) (h0 : Hot) (m' : Md) (h : Hot), e[j]? = some (Sl.hot m h0) ∧ as[k]? = some (Sl.hot m' h) ∧ e'[j]? = some (Sl.hot m h)
  | [], [], e, e', h, _ => by
    cases h
    exact ⟨rfl, fun _ _ => rfl, fun _ _ h => by cases h⟩
  | .slot i :: rs, .hot m0 h0 :: as, e, e', h, u => by
    simp only [backA] at h
    split at h
    · rename_i m h1 hs
      have hi := (List.getElem?_eq_some_iff.mp hs).1
      have ns : slotPos rs i = none := by
        cases q : slotPos rs i with
        | none => rfl
        | some k =>
          have z := u (k + 1) i (by simpa using slotPos_get q)
          simp [slotPos] at z
      have u' : ∀ k j, rs[k]? = some (.slot j) → slotPos rs j = some k := fun k j hk => by
        have z := u (k + 1) j (by simpa using hk)
        simp only [slotPos] at z
        split at z
        · cases z
        · simp only [Option.map_eq_some_iff] at z
          obtain ⟨k', z, z2⟩ := z
          have : k' = k := by omega
          rw [z, this]
      obtain ⟨l, a, b⟩ := backA_spec h u'
      refine ⟨by rw [l, List.length_set], fun j hj => ?_, fun j k hk => ?_⟩
      · simp only [slotPos] at hj
        split at hj
        · cases hj
        · rename_i ne
          rw [a j (by simpa using hj), List.getElem?_set_ne ne]
      · simp only [slotPos] at hk
        split at hk
        · rename_i e1
          cases hk
          subst e1
          exact ⟨m, h1, m0, h0, hs, rfl, by rw [a i ns, List.getElem?_set_self hi]⟩
        · rename_i ne
          simp only [Option.map_eq_some_iff] at hk
          obtain ⟨k', hk, rfl⟩ := hk
          obtain ⟨m2, h2, m3, h3, e1, e2, e3⟩ := b j k' hk
          rw [List.getElem?_set_ne ne] at e1
          exact ⟨m2, h2, m3, h3, e1, by simpa using e2, e3⟩
    · cases h
  | .cold d :: rs, a0 :: as, e, e', h, u => by
    simp only [backA] at h
    have u' : ∀ k j, rs[k]? = some (.slot j) → slotPos rs j = some k := fun k j hk => by
      have z := u (k + 1) j (by simpa using hk)
      simp only [slotPos, Option.map_eq_some_iff] at z
      obtain ⟨k', z, z2⟩ := z
      have : k' = k := by omega
      rw [z, this]
    obtain ⟨l, a, b⟩ := backA_spec h u'
    refine ⟨l, fun j hj => a j (by simpa [slotPos] using hj), fun j k hk => ?_⟩
    simp only [slotPos, Option.map_eq_some_iff] at hk
    obtain ⟨k', hk, rfl⟩ := hk
    obtain ⟨m2, h2, m3, h3, e1, e2, e3⟩ := b j k' hk
    exact ⟨m2, h2, m3, h3, e1, by simpa using e2, e3⟩
  | [], _ :: _, _, _, h, _ => by cases h
  | .slot _ :: _, [], _, _, h, _ => by cases h
  | .slot _ :: _, .un :: _, _, _, h, _ => by cases h
  | .slot _ :: _, .val _ :: _, _, _, h, _ => by cases h
  | .cold _ :: _, [], _, _, h, _ => by cases h
  | .hot _ :: _, _, _, _, h, _ => by simp [backA] at h
def callE (F : FnS) (g : ExL) : Ex := fun env => (g env).bind fun rs e => match toArgs rs e with
  | none => .no
  | some args => match F args with
    | some (.val d, as) => match backA rs as e with
      | some e' => .ok (.cold d) e'
      | none => .no
    | some (.hot ⟨false, false⟩ h, as) => match backA rs as e with
      | some e' => .ok (.hot h) e'
      | none => .no
    | _ => .no
theorem paired_get' {α β : Type} {R : α → β → Prop} : ∀ {l₁ : List α} {l₂ : List β}, Paired R l₁ l₂ → ∀ {i : Nat} {b : β}, l₂[i]? = some b → ∃ a, l₁[i]? = some a ∧ R a b
  | _, _, .nil, _, _, h => by simp at h
  | _, _, .cons r t, 0, _, h => by
    simp at h; subst h
    exact ⟨_, rfl, r⟩
  | _, _, .cons _ t, i + 1, _, h => by
    obtain ⟨a, e, r⟩ := paired_get' t (i := i) (by simpa using h)
    exact ⟨a, by simpa using e, r⟩
theorem pendA_get {G H : Hp} {ow : Addr → Option Nat} {σ : L2.St} {env : Sto} : ∀ {rs : List Rv} {C : Ctx} {vs : List V}, St1 (pendA C vs rs) G ow σ H env → Paired (RvOk σ) vs rs → St1 C G ow σ H env ∧ ∀ (k : Nat) (d : D), rs[k]? = some (Rv.cold d) → ∃ v, vs[k]? = some v ∧ Rp C.K G v d
  | [], C, vs, S, p => by
    cases p
    exact ⟨S, by simp⟩
  | r :: rs, C, vs, S, p => by
    cases p with
    | cons p1 p2 =>
      rename_i v vs'
      obtain ⟨S1, h⟩ := pendA_get (C := pend C v r) S p2
      refine ⟨S1.unpend, fun k d hk => ?_⟩
      cases k with
      | zero =>
        simp at hk; subst hk
        obtain ⟨x, e, q⟩ := St1.top (C := C) S1
        cases e
        exact ⟨v, rfl, q⟩
      | succ k =>
        obtain ⟨u, e, q⟩ := h k d (by simpa using hk)
        rw [pend_K] at q
        exact ⟨u, by simpa using e, q⟩
section
variable {C : Ctx} {G H : Hp} {ow : Addr → Option Nat} {σ : L2.St} {env env' : Sto} {vs : List V} {rs : List Rv} {args args' : List Sl}
/-- whose object it is among the arguments -/
def lentTo (rs : List Rv) (env : Sto) (ow : Addr → Option Nat) (a : Addr) : Option Nat := match ow a with
  | some i => if i < env.length then slotPos rs i else none
  | none => none
theorem lentTo_some {a : Addr} {k : Nat} (h : lentTo rs env ow a = some k) : ∃ i, ow a = some i ∧ slotPos rs i = some k := by
  unfold lentTo at h
  split at h
  · rename_i i hi
    split at h
    · exact ⟨i, hi, h⟩
    · cases h
  · cases h
theorem ent_of (S : St1 (pendA C vs rs) G ow σ H env) (p : Paired (RvOk σ) vs rs) (ha : toArgs rs env = some args) : Ent C.K G (lentTo rs env ow) H vs args := by
  obtain ⟨S0, hc⟩ := pendA_get S p
  obtain ⟨h1, h2, h3, h4⟩ := toArgs_spec ha
  have hl := p.length
  refine ⟨by rw [h1]; exact hl, fun k => ?_, fun a k h => ?_, S0.gh, fun k m h hk => ?_⟩
  · cases hk : rs[k]? with
    | none =>
      have : args[k]? = none := List.getElem?_eq_none (by rw [h1]; exact List.getElem?_eq_none_iff.mp hk)
      rw [this]; trivial
    | some r =>
      cases r with
      | cold d =>
        rw [h2 k d hk]
        obtain ⟨v, e, q⟩ := hc k d hk
        exact ⟨v, by rw [List.getElem?_map, e]; rfl, q⟩
      | hot h => exact absurd hk (h4 k h)
      | slot i =>
        obtain ⟨m, h, e1, e2, e3, e4⟩ := h3 k i hk
        rw [e3]
        obtain ⟨x, ex, q⟩ := S0.slot e1
        obtain ⟨v, ev, ok⟩ := paired_get' p hk
        have ok : σ[i]? = some (some v) := ok
        rw [ok] at ex
        cases ex
        refine ⟨x, by rw [List.getElem?_map, ev]; rfl, q.stay Sub.refl fun a z => ⟨⟨?_, fun z => by cases z⟩, rfl⟩⟩
        have z1 : ow a = some i := z.1
        show lentTo rs env ow a = some k
        unfold lentTo
        rw [z1]
        simp only
        rw [if_pos (List.getElem?_eq_some_iff.mp e1).1, e4]
  · obtain ⟨i, e1, e2⟩ := lentTo_some h
    obtain ⟨q1, q2, _⟩ := S0.ow a i e1
    obtain ⟨m, h, _, _, e3, _⟩ := h3 k i (slotPos_get e2)
    exact ⟨q1, q2, _, _, e3⟩
  · cases hr : rs[k]? with
    | none =>
      have : args[k]? = none := List.getElem?_eq_none (by rw [h1]; exact List.getElem?_eq_none_iff.mp hr)
      rw [this] at hk; cases hk
    | some r =>
      cases r with
      | cold d => rw [h2 k d hr] at hk; cases hk
      | hot h => exact absurd hr (h4 k h)
      | slot i =>
        obtain ⟨m', h', _, _, e3, _⟩ := h3 k i hr
        rw [e3] at hk
        cases hk
        rfl
open Classical in
theorem exi_to {v : V} {t : Sl} {G' : Hp} {ow' : Addr → Option Nat} {H' : Hp} (S : St1 (pendA C vs rs) G ow σ H env) (p : Paired (RvOk σ) vs rs) (ha : toArgs rs env = some args) (X : Exi C.K G (lentTo rs env ow) H vs v t args' G' ow' H') (hb : backA rs args' env = some env')
    (ht : ∀ m h, t = .hot m h → m = Md.free) : Stt (C.push v t) σ H' env' := by
  obtain ⟨S0, hc⟩ := pendA_get S p
  obtain ⟨h1, h2, h3, h4⟩ := toArgs_spec ha
  have hl := p.length
  obtain ⟨b1, b2, b3⟩ := backA_spec hb fun k i hk => let ⟨_, _, _, _, _, e⟩ := h3 k i hk; e
  let top := (env' ++ C.xs).length
  let own : Addr → Option Nat := fun a => if H a = none ∨ lentTo rs env ow a ≠ none then (match ow' a with
      | some k => if k = vs.length then some top else match rs[k]? with
        | some (.slot i) => some i
        | _ => none
      | none => none) else ow a
  have hnew : ∀ {a}, H a = none → own a = match ow' a with
      | some k => if k = vs.length then some top else match rs[k]? with
        | some (.slot i) => some i
        | _ => none
      | none => none := fun h => if_pos (.inl h)
  have hlent : ∀ {a}, lentTo rs env ow a ≠ none → own a = match ow' a with
      | some k => if k = vs.length then some top else match rs[k]? with
        | some (.slot i) => some i
        | _ => none
      | none => none := fun h => if_pos (.inr h)
  have hold : ∀ {a}, H a ≠ none → lentTo rs env ow a = none → own a = ow a := fun h1 h2 => if_neg (by
    rintro (z | z)
    · exact h1 z
    · exact z h2)
  have both : ∀ {a k}, ow' a = some k → own a = if k = vs.length then some top else match rs[k]? with
        | some (.slot i) => some i
        | _ => none := fun {a k} h => by
    obtain ⟨_, _, z⟩ := X.ow a k h
    rcases z with z | z
    · rw [hnew z, h]
    · rw [hlent (by rw [z]; exact fun z => nomatch z), h]
  have H0of : ∀ {a}, H a = none → C.H0 a = none := fun {a} h => by
    cases q : C.H0 a with
    | none => rfl
    | some o => exact absurd h (S0.dom a (by rw [q]; exact fun z => nomatch z))
  have hle0 := S0.len
  have S1 : St1 C G' own σ H' env' := by
    refine ⟨by rw [b1]; exact S0.len, S0.lx, fun j => ?_, fun a j e => ?_, S0.g0.trans X.g, X.gh, fun b o e => ?_, fun b o e n => ?_, fun b n => X.dom b (S0.dom b n), fun q hq => ?_, fun q hq => ?_⟩
    · by_cases hj : j < env.length
      · rw [List.getElem?_append_left (by omega), List.getElem?_append_left (by have := S0.len; omega)]
        cases hp : slotPos rs j with
        | none =>
          rw [b2 j hp]
          have q := S0.sl j
          rw [List.getElem?_append_left (by omega), List.getElem?_append_left (by have := S0.len; omega)] at q
          refine q.stay X.g fun a z => ?_
          have z : ow a = some j := z
          have hn : H a ≠ none := (S0.ow a j z).1
          have hle : lentTo rs env ow a = none := by
            unfold lentTo
            rw [z]
            simp only
            rw [if_pos hj, hp]
          refine ⟨by show own a = some j; rw [hold hn hle]; exact z, ?_⟩
          cases ho : H a with
          | none => exact absurd ho hn
          | some o => exact X.fr a o ho hle
        | some k =>
          obtain ⟨m, h0, m', h, e1, e2, e3⟩ := b3 j k hp
          rw [e3]
          obtain ⟨m2, h5, e4, e5, e6, e7⟩ := h3 k j (slotPos_get hp)
          have q := X.sl k
          rw [e2] at q
          obtain ⟨x, ex, q⟩ := q
          obtain ⟨w, ew, ok⟩ := paired_get' p (slotPos_get hp)
          have ok : σ[j]? = some (some w) := ok
          rw [List.getElem?_map, ew] at ex
          cases ex
          have hk : k < vs.length := (List.getElem?_eq_some_iff.mp ew).1
          refine ⟨x, ok, q.stay Sub.refl fun a z => ⟨⟨?_, fun hm => ?_⟩, rfl⟩⟩
          · have z1 : ow' a = some k := z.1
            show own a = some j
            rw [both z1, if_neg (by omega), slotPos_get hp]
          · have z1 : ow' a = some k := z.1
            rcases (X.ow a k z1).2.2 with y | y
            · exact H0of y
            · obtain ⟨i, y1, y2⟩ := lentTo_some y
              have e8 : i = j := by
                have := slotPos_get y2
                rw [slotPos_get hp] at this
                exact (Rv.slot.inj (Option.some.inj this)).symm
              subst e8
              refine (S0.ow a i y1).2.2.free fun q hq hz => ?_
              obtain ⟨_, m3, h6, e9, e10⟩ := S0.pin q hq
              rw [hz, e1] at e9
              cases e9
              rw [hm] at e10; cases e10
      · rw [List.getElem?_append_right (by omega), List.getElem?_append_right (by have := S0.len; omega), b1]
        have q := S0.sl j
        rw [List.getElem?_append_right (by omega), List.getElem?_append_right (by have := S0.len; omega)] at q
        refine q.stay X.g fun a z => ?_
        have z : ow a = some j := z
        have hn : H a ≠ none := (S0.ow a j z).1
        have hle : lentTo rs env ow a = none := by
          unfold lentTo
          rw [z]
          simp only
          rw [if_neg hj]
        refine ⟨by show own a = some j; rw [hold hn hle]; exact z, ?_⟩
        cases ho : H a with
        | none => exact absurd ho hn
        | some o => exact X.fr a o ho hle
    · have e : own a = some j := e
      by_cases hn : H a = none ∨ lentTo rs env ow a ≠ none
      · have e2 : (match ow' a with
          | some k => if k = vs.length then some top else match rs[k]? with
            | some (.slot i) => some i
            | _ => none
          | none => none) = some j := by rw [← e]; exact (if_pos hn).symm
        split at e2
        · rename_i k hk
          obtain ⟨x1, x2, x3⟩ := X.ow a k hk
          refine ⟨x1, x2, ?_⟩
          split at e2
          · rename_i hkl
            rcases x3 with y | y
            · exact .inl (H0of y)
            · obtain ⟨i, y1, y2⟩ := lentTo_some y
              have := (List.getElem?_eq_some_iff.mp (slotPos_get y2)).1
              omega
          · split at e2
            · rename_i i hi
              cases e2
              rcases x3 with y | y
              · exact .inl (H0of y)
              · obtain ⟨i', y1, y2⟩ := lentTo_some y
                have e8 : i' = j := by
                  have := slotPos_get y2
                  rw [hi] at this
                  exact (Rv.slot.inj (Option.some.inj this)).symm
                subst e8
                exact (S0.ow a _ y1).2.2
            · cases e2
        · cases e2
      · have hn1 : H a ≠ none := fun z => hn (.inl z)
        have hn2 : lentTo rs env ow a = none := by
          cases q : lentTo rs env ow a with
          | none => rfl
          | some k => exact absurd (.inr (by rw [q]; exact fun z => nomatch z)) hn
        rw [hold hn1 hn2] at e
        obtain ⟨q1, q2, q3⟩ := S0.ow a j e
        refine ⟨X.dom a q1, ?_, q3⟩
        cases q : G' a with
        | none => rfl
        | some o =>
          rcases X.new a o q with z | z
          · rw [q2] at z; cases z
          · exact absurd z q1
    · rcases X.new b o e with z | z
      · exact S0.new b o z
      · exact .inr (H0of z)
    · have hb := S0.fr b o e n
      refine X.fr b o hb ?_
      cases q : lentTo rs env ow b with
      | none => rfl
      | some k =>
        obtain ⟨i, y1, y2⟩ := lentTo_some q
        rcases (S0.ow b i y1).2.2 with z | z
        · rw [z] at e; cases e
        · rw [n] at z; cases z.1
    · obtain ⟨e1, m, h, e2, e3⟩ := S0.pin q hq
      refine ⟨e1, ?_⟩
      cases hp : slotPos rs q.1 with
      | none => exact ⟨m, h, by rw [b2 _ hp]; exact e2, e3⟩
      | some k =>
        obtain ⟨m2, h0, m', h', e4, e5, e6⟩ := b3 q.1 k hp
        rw [e2] at e4
        cases e4
        exact ⟨m, h', e6, e3⟩
    · obtain ⟨e1, m, e2, e3⟩ := S0.lock q hq
      refine ⟨e1, m, ?_, e3⟩
      cases hp : slotPos rs q.1 with
      | none => rw [b2 _ hp]; exact e2
      | some k =>
        obtain ⟨m2, h5, e4, e5, _⟩ := h3 k q.1 (slotPos_get hp)
        rw [e2] at e4
        cases e4
        rw [e3] at e5; cases e5
  refine ⟨G', own, S1.push ?_⟩
  have q := X.res
  cases t with
  | un => trivial
  | val d =>
    obtain ⟨x, e1, r⟩ := q
    exact ⟨x, e1, r⟩
  | hot m h =>
    obtain ⟨x, e1, r⟩ := q
    refine ⟨x, e1, r.stay Sub.refl fun a z => ⟨⟨?_, fun hm => H0of (z.2 hm)⟩, rfl⟩⟩
    have z1 : ow' a = some vs.length := z.1
    show own a = some top
    rw [both z1, if_pos rfl]
end
section
variable {X : Cx} {k : Nat} {f : Addr} {fd : FuncData} {ps : List Str} {x : Str} {p pos : Pos} {e : Expr} {es : List Expr} {F : FnS} {g : ExL}
theorem rd_call {E : XK} {σ : L2.St} {H : Hp} {Q : VK} : rd X.K (callE F g) σ H Q → tCall (spQ X.K F) [] E (rdA X.K g) σ H Q := by
  rintro ⟨C, env, r, env', hK, S, ef, kk⟩
  obtain ⟨rs, e1, q, ef⟩ := Res.bind_ok ef
  split at ef
  · cases ef
  rename_i args ha
  refine ⟨C, env, rs, e1, hK, S, q, fun vs H1 ⟨G, ow, S1⟩ ok => ?_⟩
  show spQ X.K F (vs ++ []) H1 Q E
  rw [List.append_nil, ← hK]
  split at ef
  · rename_i d as hF
    split at ef
    · rename_i e' hb
      cases ef
      exact ⟨G, _, args, _, as, ent_of S1 ok ha, hF, fun v G' ow' H' Ex => kk v H' (exi_to S1 ok ha Ex hb fun m h z => by cases z) trivial⟩
    · cases ef
  · rename_i h as hF
    split at ef
    · rename_i e' hb
      cases ef
      exact ⟨G, _, args, _, as, ent_of S1 ok ha, hF, fun v G' ow' H' Ex => kk v H' (exi_to S1 ok ha Ex hb fun m h z => by cases z; rfl) trivial⟩
    · cases ef
  · cases ef
theorem qe_call (Fk : FnOk X.prog X.w X.K X.mg X.base CX0 k f fd ps (spQ X.K F)) (hr : Room k X.A) (hg : Gl X x) (hm : X.mg x = some (.ref f)) (hk : PySem.W.keepIn X.K (.ref f) = true) (hb : Binds X.K fd ps [])
    (ha : QA X (e :: es) g) (hdb : (x == ("__debug__" : Str)) = false := by decide) (he : starEach (e :: es) X.env = (false, eval e X.env) :: starEach es X.env := by rfl) (hpl : (backTo pos (starEach es X.env)).any (·.1) = false := by rfl) :
    QE X (.Call (.Name x p) (e :: es) [] pos) (callE F g) := (pe_call Fk hr hg hm hk hb .nil pass0 ha hdb he hpl).imp fun _ _ _ => rd_call
end
end Q
set_option Elab.async false
set_option linter.all false
set_option maxRecDepth 100000
set_option maxHeartbeats 1000000
/-! methods, stores into objects -/
namespace Q
open PySem PySem.Spec PyProof.Rows L2

/-! ### the call of a builtin's method -/
def tyQ (K : PySem.W.Frag) (T : String) (x : V) (H : Hp) : Prop :=
  (T = "list" ∧ ∃ a vs, x = .ref a ∧ Rd H a (.lst vs)) ∨ (T = "tuple" ∧ ∃ a vs, x = .ref a ∧ Tp K H a vs) ∨ (T = "dict" ∧ ∃ a kvs, x = .ref a ∧ Rd H a (.dK kvs)) ∨ (T = "str" ∧ ∃ z, x = .str z)
section
variable {X : Cx}
/-- an object of the type T that has no dict -/
def Bare (st : Shared) (T : String) (v : Value) : Prop := st.TypeIs v T ∧ ∀ a, v = .ref a → ∃ ob, st.heap.get? a = some ob ∧ ob.dict = none
theorem Bare.of {st : Shared} {T : String} {a : Addr} {ob : Obj} (at_ : st.heap.get? a = some ob) (cls : ob.cls = .type T) (bare : ob.dict = none) : Bare st T (.ref a) :=
  ⟨⟨ob, at_, cls⟩, fun b e => by cases e; exact ⟨ob, at_, bare⟩⟩
theorem tyQ_is {ps : List (Addr × Obj)} {sg : L2.St} {Hh : Hp} {st : Shared} {T : String} {x : V} {v : Value} (Iv : L2.Inv X ps sg Hh st) (rel : L2.RelV x v) (ty : tyQ X.K T x Hh) : Bare st T v := by
  rcases ty with ⟨rfl, a, vs, rfl, rd⟩ | ⟨rfl, a, vs, rfl, tp⟩ | ⟨rfl, a, ks, rfl, rd⟩ | ⟨rfl, z, rfl⟩
  · cases rel
    obtain ⟨-, us, n, -, at_⟩ := lst_obj Iv rd
    exact Bare.of at_ rfl rfl
  · cases rel
    obtain ⟨o, at_, cls, bare⟩ := tp.obj Iv
    exact Bare.of at_ cls bare
  · cases rel
    obtain ⟨ty, bare, -⟩ := isD_at Iv (.inl ⟨ks, rd⟩)
    exact ⟨ty, bare⟩
  · obtain ⟨t, rfl⟩ := rel
    exact ⟨typeIs_str st z t, nofun⟩
def isTy (T : String) (r : Rv) (env : Sto) : Bool := match viewC r env with
  | some (.list _) => T == "list"
  | some (.tuple _) => T == "tuple"
  | some (.dict _) => T == "dict"
  | some (.str _) => T == "str"
  | _ => false
theorem St1.isTy {C : Ctx} {G H : Hp} {ow : Addr → Option Nat} {σ : L2.St} {env : Sto} {v : V} {r : Rv} {T : String} (S : St1 (pend C v r) G ow σ H env) (ok : RvOk σ v r) (e : isTy T r env = true) : tyQ C.K T v H := by
  unfold Q.isTy at e
  split at e
  · rename_i ds hd
    obtain ⟨a, vs, rfl, r1, _⟩ := S.viewC ok hd
    exact .inl ⟨eq_of_beq e, a, vs, rfl, r1⟩
  · rename_i ds hd
    cases (S.viewC ok hd) with
    | tup r1 q =>
      have z := Tp.sub S.gh r1
      exact .inr (.inl ⟨eq_of_beq e, _, _, rfl, z⟩)
  · rename_i ds hd
    obtain ⟨a, vs, rfl, r1, _⟩ := S.viewC ok hd
    exact .inr (.inr (.inl ⟨eq_of_beq e, a, vs, rfl, r1⟩))
  · rename_i z hd
    cases (S.viewC ok hd)
    exact .inr (.inr (.inr ⟨eq_of_beq e, z, rfl⟩))
  · cases e
abbrev RM := V → List V → Hp → VK → Prop
def tBQ0 (K : PySem.W.Frag) (T : String) (r : RM) (to : TE) : TE := fun σ H Q => to σ H fun x H1 => tyQ K T x H1 ∧ r x [] H1 Q
def tBQ (K : PySem.W.Frag) (T : String) (r : RM) (to : TE) (t : TA) : TE := fun σ H Q => to σ H fun x H1 => tyQ K T x H1 ∧ t σ H1 fun xs H2 => r x xs H2 Q
variable {o e : Expr} {es : List Expr} {to : TE} {t : TA} {name : Str} {apos cpos : Pos} {T id : String} {r : RM}
/-- the method `name` of the builtin type T is the builtin id -/
structure Meth (T : String) (name : Str) (id : String) : Prop where
  attrs : PlainAttrs T
  slot : Slot T name id
  desc : typeOf (.builtin id) = pure (.type "method_descriptor")
/-- what must be seen of the text o.name(es) -/
structure MText (X : Cx) (o : Expr) (name : Str) (apos : Pos) (es : List Expr) (cpos : Pos) : Prop where
  base : eval o X.env = attributeBase o name X.env (eval o X.env)
  line : true = (apos.endLine == cpos.line)
  form : ((backTo cpos (starEach es X.env)).all (fun z => !z.1) && (backToKw cpos (keywordEach [] X.env)).all (·.1.isSome) && decide (es.length + ([] : List Keyword).length + (if ([] : List Keyword).isEmpty then 0 else 1) < 30)) = true
theorem pe_bq0 (M : Meth T name id) (hm : MtR X id r) (ho : PE X o to) (tx : MText X o name apos [] cpos) : PE X (.Call (.Attribute o name apos) [] [] cpos) (tBQ0 X.K T r to) where
  run ps st sg Hh Q Iv h := by
    apply wpAny_Call_method0_late tx.base.symm tx.line.symm
    apply thn (ho.run ps st sg Hh _ Iv h)
    rintro v st1 ⟨x, H1, Iv1, rel, ty, q⟩
    have bare := tyQ_is Iv1 rel ty
    have runs := hm ps st1 sg H1 x [] v [] Q Iv1 rel .nil q
    exact ⟨T, id, M.attrs, M.slot, M.desc, bare.1, bare.2, Calls.callWith_builtin rfl (PySem.evalArgs_none runs)⟩
/-- arguments without a star -/
def NoStar (X : Cx) (e : Expr) (es : List Expr) (cpos : Pos) : Prop := starEach (e :: es) X.env = (false, eval e X.env) :: starEach es X.env ∧ (backTo cpos (starEach es X.env)).any (·.1) = false
theorem pe_bq (M : Meth T name id) (hm : MtR X id r) (ho : PE X o to) (ha : PA X (e :: es) t) (tx : MText X o name apos (e :: es) cpos) (ns : NoStar X e es cpos) : PE X (.Call (.Attribute o name apos) (e :: es) [] cpos) (tBQ X.K T r to t) where
  run ps st sg Hh Q Iv h := by
    apply wpAny_Call_method_late tx.base.symm tx.form tx.line.symm rfl
    apply thn (ho.run ps st sg Hh _ Iv h)
    rintro v st1 ⟨x, H1, Iv1, rel, ty, q⟩
    have bare := tyQ_is Iv1 rel ty
    have args := thn (ha.run cpos ps st1 sg H1 _ Iv1 q) fun us st2 ⟨vs, H2, Iv2, rels, q2⟩ => hm ps st2 sg H2 x vs v us Q Iv2 rel rels q2
    refine ⟨T, id, M.attrs, M.slot, M.desc, bare.1, bare.2, ?_⟩
    rw [ns.1] at args ⊢
    exact Calls.callWith_builtin (show (false || (backTo cpos (starEach es X.env)).any (·.1)) = false from ns.2) (Calls.evalArgs_plain args)
end
abbrev Mt := Rv → List Rv → Sto → Res Rv
/-- what a method does, on the reading of the state -/
def MtS (X : Cx) (r : RM) (m : Mt) : Prop := ∀ (C : Ctx) (σ : L2.St) (H : Hp) (env : Sto) (v : V) (vs : List V) (ra : Rv) (rs : List Rv) (r' : Rv) (env' : Sto) (Q : VK), C.K = X.K → Stt (pendA (pend C v ra) vs rs) σ H env → RvOk σ v ra → Paired (RvOk σ) vs rs →
  m ra rs env = .ok r' env' → (∀ x H', Stt (pend C x r') σ H' env' → RvOk σ x r' → Q x H') → r v vs H Q
def eMt0 (T : String) (m : Mt) (fo : Ex) : Ex := fun env => (fo env).bind fun ra e1 => if isTy T ra e1 = true then m ra [] e1 else .no
def eMt (T : String) (m : Mt) (fo : Ex) (ga : ExL) : Ex := fun env => (fo env).bind fun ra e1 => if isTy T ra e1 = true then (ga e1).bind fun rs e2 => m ra rs e2 else .no
section
variable {X : Cx} {o e : Expr} {es : List Expr} {name : Str} {apos cpos : Pos} {T id : String} {r : RM} {m : Mt} {fo : Ex} {ga : ExL}
theorem qe_mt0 (M : Meth T name id) (hm : MtR X id r) (hs : MtS X r m) (ho : QE X o fo) (tx : MText X o name apos [] cpos) : QE X (.Call (.Attribute o name apos) [] [] cpos) (eMt0 T m fo) :=
  (pe_bq0 M hm ho tx).imp fun σ H Q ⟨C, env, r', env', hK, S, ef, k⟩ => by
    obtain ⟨ra, e1, q, ef⟩ := Res.bind_ok ef
    split at ef
    · rename_i ht
      refine ⟨C, env, ra, e1, hK, S, q, fun v H1 S1 ok1 => ⟨?_, hs C σ H1 e1 v [] ra [] r' env' Q hK S1 ok1 .nil ef k⟩⟩
      obtain ⟨G, ow, S2⟩ := S1
      rw [← hK]
      exact S2.isTy ok1 ht
    · cases ef
theorem qe_mt (M : Meth T name id) (hm : MtR X id r) (hs : MtS X r m) (ho : QE X o fo) (ha : QA X (e :: es) ga) (tx : MText X o name apos (e :: es) cpos) (ns : NoStar X e es cpos) : QE X (.Call (.Attribute o name apos) (e :: es) [] cpos) (eMt T m fo ga) :=
  (pe_bq M hm ho ha tx ns).imp fun σ H Q ⟨C, env, r', env', hK, S, ef, k⟩ => by
    obtain ⟨ra, e1, q, ef⟩ := Res.bind_ok ef
    split at ef
    · rename_i ht
      obtain ⟨rs, e2, q2, ef⟩ := Res.bind_ok ef
      refine ⟨C, env, ra, e1, hK, S, q, fun v H1 S1 ok1 => ⟨?_, _, e1, rs, e2, by rw [pend_K]; exact hK, S1, q2, fun vs H2 S2 ok2 => hs C σ H2 e2 v vs ra rs r' env' Q hK S2 ok1 ok2 ef k⟩⟩
      obtain ⟨G, ow, S2⟩ := S1
      rw [← hK]
      exact S2.isTy ok1 ht
    · cases ef
end

/-! ### changes to a slot's list -/
/-- the slot's list, and what it becomes -/
def onL (g : List D → List D → Option (D × List D)) : Mt := fun ra rs env => match ra with
  | .slot i => match env[i]? with
    | some (.hot m (.lst xs)) => if m.lk = false then (match (colds rs).bind fun ds => g xs ds with
        | some (d, xs') => .ok (.cold d) (env.set i (.hot m (.lst xs')))
        | none => .no) else .no
    | _ => .no
  | _ => .no
theorem onL_ok {X : Cx} {r : RM} {g : List D → List D → Option (D × List D)}
    (h : ∀ (K : PySem.W.Frag) (G H : Hp) (a : Addr) (vs us : List V) (xs ds xs' : List D) (d : D) (Q : VK), H a = some (.lst vs) → RpAll K G vs xs → RpAll K G us ds → g xs ds = some (d, xs') → (∀ x vs', Rp K G x d → RpAll K G vs' xs' → Q x (upd H a (.lst vs'))) → r (.ref a) us H Q) : MtS X r (onL g) := by
  intro C σ H env v vs ra rs r' env' Q hK ⟨G, ow, S⟩ ok1 ok2 e k
  unfold onL at e
  split at e
  · rename_i i
    split at e
    · rename_i m xs hs
      split at e
      · rename_i hl
        split at e
        · rename_i d xs' hg
          cases e
          simp only [Option.bind_eq_some_iff] at hg
          obtain ⟨ds, hc, hg⟩ := hg
          obtain ⟨S1, r1⟩ := pendA_colds S ok2 hc
          have S1 : St1 C G ow σ H env := S1
          have r1 : RpAll C.K G vs ds := by rw [pend_K] at r1; exact r1
          obtain ⟨a, us, e1, ha, r2⟩ := S1.lstAt hs
          have ok1 : σ[i]? = some (some v) := ok1
          rw [e1] at ok1
          cases ok1
          exact h C.K G H a us vs xs ds xs' d Q ha r2 r1 hg fun x vs' hx hv => k x _ ⟨G, ow, (S1.mutL hs hl e1 hv).pushVal hx⟩ trivial
        · cases e
      · cases e
    · cases e
  · cases e
def mAppend : Mt := onL fun xs ds => match ds with
  | [d] => if xs.length < sizeLine then some (.none, xs ++ [d]) else none
  | _ => none
theorem ms_append {X : Cx} : MtS X rAppend mAppend := onL_ok fun K G H a vs us xs ds xs' d Q ha r1 r2 e k => by
  split at e
  · split at e
    · rename_i hz
      cases e
      cases r2 with
      | cons r3 r4 =>
        cases r4
        exact ⟨a, vs, _, rfl, rfl, ha, by rw [r1.length]; exact hz, k _ _ .non (r1.append (.cons r3 .nil))⟩
    · cases e
  · cases e
def mPop : Mt := onL fun xs ds => match ds with
  | [] => (xs[xs.length - 1]?).map fun d => (d, xs.dropLast)
  | _ => none
theorem ms_pop {X : Cx} : MtS X rPop mPop := onL_ok fun K G H a vs us xs ds xs' d Q ha r1 r2 e k => by
  split at e
  · cases r2
    simp only [Option.map_eq_some_iff] at e
    obtain ⟨d', e, e2⟩ := e
    cases e2
    obtain ⟨y, e3, hy⟩ := r1.get e
    exact ⟨a, vs, y, rfl, rfl, ha, by rw [r1.length]; exact e3, k _ _ hy r1.dropLast⟩
  · cases e
def mPopAt : Mt := onL fun xs ds => match ds with
  | [.int i] => if -(2 ^ 63) ≤ i ∧ i < 2 ^ 63 then (seqIndex? i xs.length).bind fun k => (xs[k]?).map fun d => (d, xs.eraseIdx k) else none
  | _ => none
theorem ms_popAt {X : Cx} : MtS X rPopAt mPopAt := onL_ok fun K G H a vs us xs ds xs' d Q ha r1 r2 e k => by
  split at e
  · rename_i i
    split at e
    · rename_i hz
      simp only [Option.bind_eq_some_iff, Option.map_eq_some_iff] at e
      obtain ⟨j, e1, d', e2, e3⟩ := e
      cases e3
      cases r2 with
      | cons r3 r4 =>
        cases r4
        cases r3
        obtain ⟨y, e3, hy⟩ := r1.get e2
        exact ⟨a, vs, i, j, y, rfl, rfl, ha, hz.1, hz.2, by rw [r1.length]; exact e1, e3, k _ _ hy (r1.eraseIdx j)⟩
    · cases e
  · cases e
def mReverse : Mt := onL fun xs ds => match ds with
  | [] => some (.none, xs.reverse)
  | _ => none
/-! ### count and index over data, dict.get -/
def rDat (K : PySem.W.Frag) (g : D → D → Option D) : RM := fun x xs H Q => ∃ y d c b, xs = [y] ∧ Dp K H x d ∧ Dp K H y c ∧ SeqAt.shaped d = true ∧ SeqAt.shaped c = true ∧ g d c = some b ∧ ∀ z, (∀ G, Rp K G z b) → Q z H
def gCnt : D → D → Option D
  | .list ds, c => some (.int (ds.countP fun z => PyData.eqv z c))
  | _, _ => none
def gCntT : D → D → Option D
  | .tuple ds, c => some (.int (ds.countP fun z => PyData.eqv z c))
  | _, _ => none
def gIdx : D → D → Option D
  | .list ds, c => (ds.findIdx? fun z => PyData.eqv z c).map fun (j : Nat) => PyData.int (j : Nat)
  | _, _ => none
def gIdxT : D → D → Option D
  | .tuple ds, c => (ds.findIdx? fun z => PyData.eqv z c).map fun (j : Nat) => PyData.int (j : Nat)
  | _, _ => none
section
variable {X : Cx}
theorem readsAll_count {h : Heap} {its : List Value} {ds : List D} {as : List Addr} (rs : ReadsAll h its ds as) (hxs : PyData.canLayAll0 ds = true) (c : D) : its.countP (fun y => PyData.eqv (SeqAt.readOf h y) c) = ds.countP fun y => PyData.eqv y c := by
  rw [← SeqAt.readsAll_map ds its as hxs rs, List.countP_map]
  rfl
/-- the items of a row that reads as data, each held against one datum -/
theorem hits {A : Around} {st : Shared} {us : List Value} {u : Value} {ds : List D} {c : D} {as bs : List Addr} (rows : ReadsAll st.heap us ds as) (one : Reads st.heap u c bs) (sd : PyData.canLayAll0 ds = true) (sc : SeqAt.shaped c = true) (hu : A.units + 65 < cLine) :
    ∀ y, y ∈ us.toArray → SeqAt.EqAt A.in1 st y u (PyData.eqv (SeqAt.readOf st.heap y) c) := SeqAt.items_eqAt (vs := us.toArray) rows one sd (shaped_lay sc) (room_in_shaped sc hu)
theorem mt_lcntD (hu : X.A.units + 65 < cLine) : MtR X "list.count" (rDat X.K gCnt) := by
  rintro ps st sg Hh _ _ _ _ Q Iv rx rxs ⟨y, d, c, b, rfl, hl, hy, sl, sd, hg, q⟩
  obtain ⟨uy, rfl, ry⟩ := rxs.one
  obtain ⟨_, r1⟩ := Dp.reads Iv c y uy hy ry
  cases hl with
  | lst hs ha =>
    rename_i l _ _
    cases hg; cases rx
    have lay : PyData.canLayAll0 _ = true := shaped_lay sl
    obtain ⟨us, rv, ⟨⟨_, dd, _, sls⟩, n, at_, ⟨⟩, -, ⟨⟩⟩, -⟩ := Iv.list hs
    obtain ⟨_, rows⟩ := Dp.readsAll Iv _ _ us ha rv
    have counted := SeqAt.list_countAt l us.toArray n dd sls uy fun u => PyData.eqv (SeqAt.readOf st.heap u) c
    refine call_meets F.slot_list_count ⟨_, at_, rfl⟩ F.entry_list_count (F.args_list_count_2 _ _) counted ⟨at_, hits rows r1 lay sd hu, ?_⟩
    rw [List.toList_toArray, readsAll_count rows lay]
    exact ⟨.int _, Hh, Iv.tok _, ⟨_, rfl⟩, q _ fun _ => .int _⟩
  | _ => cases hg
theorem mt_tcntD (hu : X.A.units + 65 < cLine) : MtR X "tuple.count" (rDat X.K gCntT) := by
  rintro ps st sg Hh _ _ _ _ Q Iv rx rxs ⟨y, d, c, b, rfl, hl, hy, sl, sd, hg, q⟩
  obtain ⟨uy, rfl, ry⟩ := rxs.one
  obtain ⟨_, r1⟩ := Dp.reads Iv c y uy hy ry
  cases hl with
  | tup hs ha =>
    rename_i l _ _
    cases hg; cases rx
    have lay : PyData.canLayAll0 _ = true := shaped_lay sl
    obtain ⟨us, rv, ⟨⟨_, dd, _, sls⟩, at_, ⟨⟩, n, ⟨⟩⟩, -⟩ := Iv.tuple hs
    obtain ⟨_, rows⟩ := Dp.readsAll Iv _ _ us ha rv
    have counted := SeqAt.tuple_countAt l us.toArray n dd sls uy fun u => PyData.eqv (SeqAt.readOf st.heap u) c
    refine call_meets F.slot_tuple_count ⟨_, at_, rfl⟩ F.entry_tuple_count (F.args_tuple_count_2 _ _) counted ⟨at_, hits rows r1 lay sd hu, ?_⟩
    rw [List.toList_toArray, readsAll_count rows lay]
    exact ⟨.int _, Hh, Iv.tok _, ⟨_, rfl⟩, q _ fun _ => .int _⟩
  | _ => cases hg
theorem mt_lidxD (hu : X.A.units + 65 < cLine) : MtR X "list.index" (rDat X.K gIdx) := by
  rintro ps s σ H x xs v us Q I rx rxs ⟨y, d, c, b, rfl, hl, hy, sl, sd, hg, q⟩
  cases d with
  | list ds =>
    simp only [gIdx, Option.map_eq_some_iff] at hg
    obtain ⟨j, hj, rfl⟩ := hg
    obtain ⟨h1, h2, h3⟩ := List.findIdx?_eq_some_iff_getElem.mp hj
    cases hl with
    | lst hs ha =>
      refine mt_indexD hu ps s σ H _ _ v us Q I rx rxs ⟨_, y, c, ds, j, _, rfl, rfl, .lst hs ha, hy, sl, sd, List.getElem?_eq_getElem h1, h2, fun m z hm hz => ?_, q _ fun _ => .int _⟩
      obtain ⟨hml, rfl⟩ := List.getElem?_eq_some_iff.mp hz
      simpa using h3 m hm
  | _ => cases hg
def mDat (g : D → D → Option D) : Mt := fun ra rs env => match rs with
  | [r] => fin1 ((view ra env).bind fun d => (view r env).bind fun c => if SeqAt.shaped d = true ∧ SeqAt.shaped c = true then (g d c).map .cold else none) env
  | _ => .no
theorem ms_dat {g : D → D → Option D} : MtS X (rDat X.K g) (mDat g) := by
  intro C σ H env v vs ra rs r' env' Q hK S ok1 ok2 e k
  unfold mDat at e
  split at e
  · rename_i r
    cases ok2 with
    | cons p1 p2 =>
      cases p2
      rename_i y
      obtain ⟨e, e0⟩ := fin1_ok e
      subst e0
      simp only [Option.bind_eq_some_iff] at e
      obtain ⟨d, hd, c, hc, e⟩ := e
      split at e
      · rename_i hz
        simp only [Option.map_eq_some_iff] at e
        obtain ⟨b, hb, rfl⟩ := e
        have S : Stt (pend (pend C v ra) y r) σ H _ := S
        have h1 := Stt.view (C := C) S.unpend ok1 hd
        have h2 := Stt.view S p1 hc
        rw [pend_K] at h2
        rw [hK] at h1 h2
        exact ⟨y, d, c, b, rfl, h1.dp (shaped_lay hz.1), h2.dp (shaped_lay hz.2), hz.1, hz.2, hb, fun z hz => k z H (Stt.scal (C := C) S.unpend.unpend fun G => by rw [hK]; exact hz G) trivial⟩
      · cases e
  · cases e
def rDGet1 : RM := fun x xs H Q => ∃ a y o, x = .ref a ∧ xs = [y] ∧ DGet H a y o ∧ Q (o.getD .non) H
def rDGet2 : RM := fun x xs H Q => ∃ a y z o, x = .ref a ∧ xs = [y, z] ∧ DGet H a y o ∧ Q (o.getD z) H
theorem mt_dget1 (hu : X.A.units + 1 < cLine) : MtR X "dict.get" rDGet1 := by
  rintro ps s σ H _ _ _ us Q I rx rxs ⟨a, y, o, rfl, rfl, g, q⟩
  cases rx
  obtain ⟨_, rfl, ru⟩ := rxs.one
  exact d_get1 hu I g ru fun w s' I' r' => ⟨_, H, I', r', q⟩
theorem mt_dget2 (hu : X.A.units + 1 < cLine) : MtR X "dict.get" rDGet2 := by
  rintro ps s σ H _ _ _ us Q I rx rxs ⟨a, y, z, o, rfl, rfl, g, q⟩
  cases rx
  obtain ⟨u, u2, rfl, ru, ru2⟩ := rxs.two
  exact d_get2 hu I g ru ru2 fun w s' I' r' => ⟨_, H, I', r', q⟩
def mDGet1 : Mt := fun ra rs env => match viewC ra env, colds rs with
  | some (.dict kvs), some [k] => fin1 ((keyOf k).map fun k => .cold ((dget kvs k).getD .none)) env
  | _, _ => .no
def mDGet2 : Mt := fun ra rs env => match viewC ra env, colds rs with
  | some (.dict kvs), some [k, z] => fin1 ((keyOf k).map fun k => .cold ((dget kvs k).getD z)) env
  | _, _ => .no
theorem ms_dget1 : MtS X rDGet1 mDGet1 := by
  intro C σ H env v vs ra rs r' env' Q hK ⟨G, ow, S⟩ ok1 ok2 e k
  unfold mDGet1 at e
  split at e
  · rename_i kvs kk hv hc
    obtain ⟨S1, r1⟩ := pendA_colds S ok2 hc
    obtain ⟨e2, e0⟩ := fin1_ok e
    subst e0
    obtain ⟨key, hk, e1⟩ := Option.map_eq_some_iff.mp e2
    subst e1
    rw [pend_K] at r1
    cases r1 with
    | cons r3 r4 =>
      cases r4
      obtain ⟨a, ks, rfl, r, q⟩ := S1.viewC ok1 hv
      have h3 := r3.key hk
      subst h3
      refine ⟨a, _, valV ks key, rfl, rfl, .inl ⟨ks, key, r, rfl, rfl⟩, ?_⟩
      rcases q.get key with ⟨z1, z2⟩ | ⟨w, d', z1, z2, hw⟩
      · rw [z1]
        rw [z2] at k
        exact k .non H ⟨G, ow, S1.unpend.pushVal .non⟩ trivial
      · rw [z1]
        rw [z2] at k
        exact k w H ⟨G, ow, S1.unpend.pushVal hw⟩ trivial
  · cases e
theorem ms_dget2 : MtS X rDGet2 mDGet2 := by
  intro C σ H env v vs ra rs r' env' Q hK ⟨G, ow, S⟩ ok1 ok2 e k
  unfold mDGet2 at e
  split at e
  · rename_i kvs kk zz hv hc
    obtain ⟨S1, r1⟩ := pendA_colds S ok2 hc
    obtain ⟨e2, e0⟩ := fin1_ok e
    subst e0
    obtain ⟨key, hk, e1⟩ := Option.map_eq_some_iff.mp e2
    subst e1
    rw [pend_K] at r1
    cases r1 with
    | cons r3 r4 =>
      cases r4 with
      | cons r4 r5 =>
        cases r5
        obtain ⟨a, ks, rfl, r, q⟩ := S1.viewC ok1 hv
        have h3 := r3.key hk
        subst h3
        refine ⟨a, _, _, valV ks key, rfl, rfl, .inl ⟨ks, key, r, rfl, rfl⟩, ?_⟩
        rcases q.get key with ⟨z1, z2⟩ | ⟨w, d', z1, z2, hw⟩
        · rw [z1]
          rw [z2] at k
          exact k _ H ⟨G, ow, S1.unpend.pushVal r4⟩ trivial
        · rw [z1]
          rw [z2] at k
          exact k w H ⟨G, ow, S1.unpend.pushVal hw⟩ trivial
  · cases e
end

/-! ### stores into objects -/
/-- o[i] = v for a slot's list or dict; the value was cooled before -/
def dput (kvs : List (D × D)) (k : Key) (v : D) : List (D × D) := if (kvs.any fun p => decide (keyOf p.1 = some k)) = true then kvs.map (fun p => if keyOf p.1 = some k then (p.1, v) else p) else kvs ++ [(keyD k, v)]
theorem RpKv.length {K : PySem.W.Frag} {G : Hp} : ∀ {ks : List (Key × V)} {kvs : List (D × D)}, RpKv K G ks kvs → ks.length = kvs.length
  | _, _, .nil => rfl
  | _, _, .cons _ t => by rw [List.length_cons, List.length_cons, RpKv.length t]
theorem RpKv.any {K : PySem.W.Frag} {G : Hp} (k : Key) : ∀ {ks : List (Key × V)} {kvs : List (D × D)}, RpKv K G ks kvs → (ks.any fun p => decide (p.1 = k)) = kvs.any fun p => decide (keyOf p.1 = some k)
  | _, _, .nil => rfl
  | _, _, .cons _ t => by
    rw [List.any_cons, List.any_cons, RpKv.any k t, keyOf_keyD]
    simp
theorem RpKv.app {K : PySem.W.Frag} {G : Hp} {k : Key} {v : V} {d : D} (h : Rp K G v d) : ∀ {ks : List (Key × V)} {kvs : List (D × D)}, RpKv K G ks kvs → RpKv K G (ks ++ [(k, v)]) (kvs ++ [(keyD k, d)])
  | _, _, .nil => .cons h .nil
  | _, _, .cons q t => .cons q (RpKv.app h t)
theorem RpKv.mp {K : PySem.W.Frag} {G : Hp} {k : Key} {v : V} {d : D} (h : Rp K G v d) : ∀ {ks : List (Key × V)} {kvs : List (D × D)}, RpKv K G ks kvs → RpKv K G (ks.map fun p => if p.1 = k then (p.1, v) else p) (kvs.map fun p => if keyOf p.1 = some k then (p.1, d) else p)
  | _, _, .nil => .nil
  | _, _, .cons (k := j) q t => by
    simp only [List.map_cons, keyOf_keyD, Option.some.injEq]
    by_cases e : j = k
    · rw [if_pos e, if_pos e]
      exact .cons h (RpKv.mp h t)
    · rw [if_neg e, if_neg e]
      exact .cons q (RpKv.mp h t)
theorem RpKv.put {K : PySem.W.Frag} {G : Hp} {k : Key} {v : V} {d : D} {ks : List (Key × V)} {kvs : List (D × D)} (q : RpKv K G ks kvs) (h : Rp K G v d) : RpKv K G (putK ks k v) (dput kvs k d) := by
  unfold putK dput
  rw [RpKv.any k q]
  split
  · exact q.mp h
  · exact q.app h
def stI (ro : Rv) (ki : D) (d : D) (env : Sto) : Option Sto := match ro with
  | .slot i => match env[i]? with
    | some (.hot m (.lst xs)) => if m.lk = false then (match ki with
        | .int k => (ixN xs.length k).map fun j => env.set i (.hot m (.lst (xs.set j d)))
        | _ => none) else none
    | some (.hot m (.dic kvs)) => if m.lk = false ∧ kvs.length < sizeLine then (keyOf ki).map fun k => env.set i (.hot m (.dic (dput kvs k d))) else none
    | _ => none
  | _ => none
def rSetQ : TSet := fun o i v H Q => rSetL o i v H Q ∨ rSetD o i v H Q
section
variable {X : Cx}
theorem set_q (hu : X.A.units + 1 < cLine) : PSet X rSetQ := by
  rintro ps s σ H o i v ov iv u Q I ro ri rv (h | h)
  · exact set_list ps s σ H o i v ov iv u Q I ro ri rv h
  · exact set_dict hu ps s σ H o i v ov iv u Q I ro ri rv h
theorem stI_ok {C : Ctx} {G H : Hp} {ow : Addr → Option Nat} {σ : L2.St} {env env' : Sto} {v x y : V} {ro : Rv} {ki d : D} {Q : Hp → Prop} (S : St1 C G ow σ H env) (ok : RvOk σ v ro) (hi : Rp C.K G x ki) (hv : Rp C.K G y d) (e : stI ro ki d env = some env')
    (k : ∀ H', Stt C σ H' env' → Q H') : rSetQ v x y H Q := by
  unfold stI at e
  split at e
  · rename_i i
    have ok : σ[i]? = some (some v) := ok
    split at e
    · rename_i m xs hs
      split at e
      · rename_i hl
        split at e
        · rename_i n
          simp only [Option.map_eq_some_iff] at e
          obtain ⟨j, hj, rfl⟩ := e
          cases hi
          obtain ⟨a, us, e1, ha, r2⟩ := S.lstAt hs
          rw [e1] at ok
          cases ok
          exact .inl ⟨a, us, n, j, rfl, rfl, ha, by rw [r2.length]; exact hj, k _ ⟨G, ow, S.mutL hs hl e1 (r2.set j hv)⟩⟩
        · cases e
      · cases e
    · rename_i m kvs hs
      split at e
      · rename_i hl
        simp only [Option.map_eq_some_iff] at e
        obtain ⟨key, hk, rfl⟩ := e
        have h3 := hi.key hk
        subst h3
        obtain ⟨a, us, e1, ha, r2⟩ := S.dicAt hs
        rw [e1] at ok
        cases ok
        exact .inr ⟨a, _, rfl, .inl ⟨us, key, ha, rfl, by rw [r2.length]; exact hl.2, rfl⟩, k _ ⟨G, ow, S.mutD hs hl.1 e1 (r2.put hv)⟩⟩
      · cases e
    · cases e
  · cases e
/-- o[i] = e: the value first -/
def sSub (f fo fi : Ex) : Sm := fun env => (cold f env).bind fun r e1 => (fo e1).bind fun ro e2 => (cold fi e2).bind fun ri e3 => match r, ri with
  | .cold d, .cold ki => match stI ro ki d e3 with
    | some e4 => .ok .nx e4
    | none => .no
  | _, _ => .no
/-- o[i] op= e -/
def sAugS (op : Rv → Rv → Sto → Res Rv) (fo fi fe : Ex) : Sm := fun env => (fo env).bind fun ro e1 => (cold fi e1).bind fun ri e2 => (dat2 hIx ro ri e2).bind fun r e3 => (cold fe e3).bind fun re e4 => (op r re e4).bind fun rn e5 => match ri, rn with
  | .cold ki, .cold d => match stI ro ki d e5 with
    | some e6 => .ok .nx e6
    | none => .no
  | _, _ => .no
/-- x op= e -/
def sAug (op : Rv → Rv → Sto → Res Rv) (i : Nat) (fe : Ex) : Sm := fun env => match env[i]? with
  | some (.val d) => (cold fe env).bind fun re e1 => (op (.slot i) re e1).bind fun rn e2 => putS i rn e2
  | _ => .no
variable {o i e : Expr} {pos spos : Pos} {fo fi fe : Ex}
theorem qs_sub (hu : X.A.units + 1 < cLine) (he : QE X e fe) (ho : QE X o fo) (hi : QE X i fi) (h1 : swapsWithSole [.Subscript o i spos] e pos.line X.env = pure false := by rfl) (h2 : swappedStores [.Subscript o i spos] e X.env = pure none := by rfl)
    (h3 : List.map (fun x => x.snd) (assignEach [.Subscript o i spos] X.env) = [assign (.Subscript o i spos) X.env] := by rfl)
    (h4 : ∀ (v : Value), assign (.Subscript o i spos) X.env v = (do
        let p ← holding [v] (eval o X.env); let j ← holding [v, p] (eval i X.env)
        standAt spos; holding [v, p, j] (setItem p j v); release [v, p, j] []) := by intros; rfl) : QS X (.Assign [.Subscript o i spos] e pos) (sSub fe fo fi) :=
  (ps_asg (QE.cold he) (pg_sub ho (QE.cold hi) (set_q hu) h4) h1 h2 h3).imp fun D σ H ⟨C, env, oo, env', hK, S, ef, k⟩ => by
    obtain ⟨r, e1, q1, ef⟩ := Res.bind_ok ef
    obtain ⟨ro, e2, q2, ef⟩ := Res.bind_ok ef
    obtain ⟨ri, e3, q3, ef⟩ := Res.bind_ok ef
    split at ef
    · rename_i d ki
      split at ef
      · rename_i e4 hs
        cases ef
        refine ⟨C, env, _, e1, hK, S, q1, fun v H1 S1 ok1 => ?_⟩
        refine ⟨_, e1, ro, e2, by rw [pend_K]; exact hK, S1, q2, fun w H2 S2 ok2 => ?_⟩
        refine ⟨_, e2, _, e3, by rw [pend_K, pend_K]; exact hK, S2, q3, fun x H3 ⟨G, ow, S3⟩ ok3 => ?_⟩
        obtain ⟨z1, z2, z3⟩ := S3.top
        cases z2
        have S4 := S3.drop
        have S5 := S4.unpend
        obtain ⟨y1, y2, y3⟩ := S5.top
        cases y2
        have S6 := S5.drop
        rw [pend_K] at z3
        exact stI_ok S6 ok2 z3 y3 hs fun H' S' => k σ H' S'
      · cases ef
    · cases ef
end
end Q
set_option Elab.async false
set_option linter.all false
set_option maxRecDepth 100000
set_option maxHeartbeats 1000000
/-! op=, stores to several targets -/
namespace Q
open PySem PySem.Spec PyProof.Rows L2

/-! ### op= -/
theorem stI_key {ro : Rv} {ki d : D} {env env' : Sto} (e : stI ro ki d env = some env') : ∃ k, keyOf ki = some k := by
  unfold stI at e
  split at e
  · split at e
    · split at e
      · split at e
        · exact ⟨_, rfl⟩
        · cases e
      · cases e
    · split at e
      · simp only [Option.map_eq_some_iff] at e
        obtain ⟨k, hk, _⟩ := e
        exact ⟨k, hk⟩
      · cases e
    · cases e
  · cases e
theorem Rp.ofKey {K : PySem.W.Frag} {G : Hp} {v : V} {d : D} {k : Key} (h : Rp K G v d) (e : keyOf d = some k) (G' : Hp) : Rp K G' v d := by
  cases d with
  | int i => cases h; exact .int i
  | str x => cases h; exact .str x
  | _ => cases e
/-- a op= b, by values -/
def IpS (X : Cx) (r : TIp) (g : Rv → Rv → Sto → Res Rv) : Prop := OpS X r g
def ipInt (f : Int → Int → Int) : Rv → Rv → Sto → Res Rv := dat2 (hI fun i j => some (.int (f i j)))
theorem ip_int {X : Cx} {f : Int → Int → Int} : OpS X (ipI f) (ipInt f) := Op2.s (by
  intro C G ow σ H env v u a b rr Q hK S h1 h2 e F
  cases a with
  | int i =>
    cases b with
    | int j =>
      cases h1
      cases h2
      cases e
      exact ⟨i, j, rfl, rfl, F.val S (.int _)⟩
    | _ => cases e
  | _ => cases e)
section
variable {X : Cx} {o i e : Expr} {pos tpos pos' : Pos} {fo fi fe : Ex} {op : Operator} {tip : TIp} {g : Rv → Rv → Sto → Res Rv}
theorem qs_aug {k : Nat} {x : Str} (hN : X.N.Nodup) (hi : X.N[k]? = some x) (hx : Loc X.env.scope x) (he : QE X e fe) (ho : PIp X op tip) (hs : OpS X tip g)
    (hf : X.fn x = true ∨ X.env.scope.names.lookup x = some .local := by first | exact .inl rfl | exact .inr rfl | assumption) : QS X (.AugAssign (.Name x pos') op e pos) (sAug g k fe) :=
  (ps_aug hN hi hx (QE.cold he) ho hf).imp fun D σ H ⟨C, env, oo, env', hK, S, ef, kk⟩ => by
    unfold sAug at ef
    split at ef
    · rename_i d hs0
      obtain ⟨re, e1, q1, ef⟩ := Res.bind_ok ef
      obtain ⟨rn, e2, q2, ef⟩ := Res.bind_ok ef
      obtain ⟨eo, eg⟩ := putS_ok ef
      subst eo
      obtain ⟨G, ow, S1⟩ := id S
      obtain ⟨v, ev, _⟩ := S1.slot hs0
      refine ⟨v, ev, C, env, re, e1, hK, S, q1, fun u H1 S2 ok2 => hs C σ H1 e1 v u (.slot k) re rn e2 _ hK S2 ev ok2 q2 fun z H2 S3 ok3 => ?_⟩
      exact kk _ H2 (S3.put eg)
    · cases ef
def rGetQ (K : PySem.W.Frag) : V → V → Hp → VK → Prop := fun x y H Q => rIxL K x y H Q ∨ rIxT K x y H Q ∨ rIxDc x y H Q
/-- where an index leads, as the rules of lists and tuples want it told -/
theorem place {α : Type} {xs : List α} {i : Int} {z : α} (h : atI xs i = some z) (fit : xs.length ≤ sizeLine) : ∃ j, seqIndex? i xs.length = some j ∧ xs[j]? = some z ∧ -(2 ^ 63) ≤ i ∧ i < 2 ^ 63 := by
  obtain ⟨j, h1, h2, -, h4, h5⟩ := atI_get h
  have := line63
  exact ⟨j, h1, h2, by omega, by omega⟩
theorem get_q (hu : X.A.units + 1 < cLine) : PGet X (rGetQ X.K) := by
  rintro ps st sg Hh _ _ _ _ Q Iv e1 ry (⟨p, xs, i, z, rfl, rfl, sq, at_, q⟩ | ⟨p, xs, i, z, rfl, rfl, sq, at_, q⟩ | ⟨p, z, rfl, g, q⟩)
  · cases e1
    obtain ⟨t, rfl⟩ := ry
    obtain ⟨us, rv, plain, fit⟩ := Iv.list sq
    have len : us.toArray.size = xs.length := by simp [rv.length]
    obtain ⟨j, s1, s2, s3, s4⟩ := place at_ fit
    obtain ⟨u, hu', rel⟩ := rv.get s2
    obtain ⟨-, -, -, -, low, high⟩ := atI_get at_
    have done : EP X ps sg Q u st := ⟨z, Hh, Iv, rel, q⟩
    rcases Int.lt_or_le i 0 with neg | pos
    · have ej : (i + (us.toArray.size : Int)).toNat = j := by rw [len]; exact Option.some.inj ((seqIndex_neg neg low).symm.trans s1)
      exact wpAny_getItem_list_neg plain.isList neg (by rw [len]; omega) (by omega) (by rw [ej]; simpa using hu') done
    · have ej : i.toNat = j := Option.some.inj ((seqIndex_of pos high).symm.trans s1)
      exact wpAny_getItem_list plain.isList pos s4 (by rw [ej]; simpa using hu') done
  · cases e1
    obtain ⟨t, rfl⟩ := ry
    obtain ⟨us, rv, plain, fit⟩ := Iv.tuple sq
    obtain ⟨j, s1, s2, s3, s4⟩ := place at_ fit
    obtain ⟨u, hu', rel⟩ := rv.get s2
    exact PyProof.Rows.getItem_tuple plain s3 s4 (by rw [List.size_toArray, ← rv.length]; exact s1) (by simpa using hu') ⟨z, Hh, Iv, rel, q⟩
  · cases e1
    exact d_getItem hu Iv g ry fun _ _ Iv' rel => ⟨z, Hh, Iv', rel, q⟩
theorem qs_augS (hu : X.A.units + 64 < cLine) (ho : QE X o fo) (hi : QE X i fi) (he : QE X e fe) (hp : PIp X op tip) (hs : OpS X tip g)
    (ha : ∀ ov iv new, augStore i ov iv new = (do holding [new, ov, iv] (setItem ov iv new); release [new, ov, iv] []; pure .next) := by intros; rfl) : QS X (.AugAssign (.Subscript o i tpos) op e pos) (sAugS g fo fi fe) :=
  (ps_augS ho (QE.cold hi) (get_q (by omega)) (QE.cold he) hp (set_q (by omega)) ha).imp fun D σ H ⟨C, env, oo, env', hK, S, ef, kk⟩ => by
    obtain ⟨ro, e1, q1, ef⟩ := Res.bind_ok ef
    obtain ⟨ri, e2, q2, ef⟩ := Res.bind_ok ef
    obtain ⟨r, e3, q3, ef⟩ := Res.bind_ok ef
    obtain ⟨re, e4, q4, ef⟩ := Res.bind_ok ef
    obtain ⟨rn, e5, q5, ef⟩ := Res.bind_ok ef
    cases ri with
    | slot _ => cases ef
    | hot _ => cases ef
    | cold ki =>
      cases rn with
      | slot _ => cases ef
      | hot _ => cases ef
      | cold d =>
        simp only at ef
        split at ef
        · rename_i e6 hst
          cases ef
          cases ro with
          | cold _ => cases hst
          | hot _ => cases hst
          | slot k =>
            obtain ⟨key, hk⟩ := stI_key hst
            refine ⟨C, env, _, e1, hK, S, q1, fun v H1 S1 ok1 => ?_⟩
            refine ⟨C, e1, _, e2, hK, S1, q2, fun x H2 S2 ok2 => ?_⟩
            have hx : ∀ G, Rp C.K G x ki := by
              obtain ⟨G, ow, S3⟩ := id S2
              obtain ⟨x', e', h'⟩ := St1.top (C := C) S3
              cases e'
              exact Rp.ofKey h' hk
            refine o_ix.s C σ H2 e2 v x (.slot k) (.cold ki) r e3 _ hK S2 ok1 trivial q3 fun y H3 S3 ok3 => ?_
            refine ⟨_, e3, re, e4, by rw [pend_K]; exact hK, S3, q4, fun z H4 S4 ok4 => ?_⟩
            refine hs C σ H4 e4 y z r re _ e5 _ hK S4 ok3 ok4 q5 fun w H5 ⟨G, ow, S5⟩ ok5 => ?_
            obtain ⟨w', e', h'⟩ := St1.top (C := C) S5
            cases e'
            exact stI_ok (St1.drop S5) ok1 (hx G) h' hst fun H' S' => kk σ H' S'
        · cases ef
end

/-! ### several names at once -/
def putAll : List Nat → List Rv → Sto → Option Sto
  | [], [], e => some e
  | i :: is, r :: rs, e => (putAll is rs e).bind (put i r)
  | _, _, _ => none
def setAll : List Nat → List V → L2.St → L2.St
  | i :: is, v :: vs, σ => (setAll is vs σ).set i (some v)
  | _, _, σ => σ
theorem Stt.putAll {H : Hp} {σ : L2.St} : ∀ {is : List Nat} {rs : List Rv} {vs : List V} {C : Ctx} {env env' : Sto}, Stt (pendA C vs rs) σ H env → Paired (RvOk σ) vs rs → Q.putAll is rs env = some env' → Stt C (setAll is vs σ) H env'
  | [], [], vs, C, env, env', S, p, e => by
    cases p
    cases e
    exact S
  | i :: is, r :: rs, vs, C, env, env', S, p, e => by
    cases p with
    | cons p1 p2 =>
      rename_i v vs
      simp only [Q.putAll, Option.bind_eq_some_iff] at e
      obtain ⟨e1, h1, h2⟩ := e
      exact Stt.put (C := C) (Stt.putAll (C := pend C v r) S p2 h1) h2
  | [], _ :: _, _, _, _, _, _, _, e => by cases e
  | _ :: _, [], _, _, _, _, _, _, e => by cases e
def sPar (is : List Nat) (ga : ExL) : Sm := fun env => (ga env).bind fun rs e => match putAll is rs e with
  | some e' => .ok .nx e'
  | none => .no
theorem setAll_set {i : Nat} {x : Option V} : ∀ {is : List Nat} {vs : List V} {σ : L2.St}, i ∉ is → setAll is vs (σ.set i x) = (setAll is vs σ).set i x
  | [], _, _, _ => rfl
  | _ :: _, [], _, _ => rfl
  | j :: is, v :: vs, σ, h => by
    show (setAll is vs (σ.set i x)).set j (some v) = ((setAll is vs σ).set j (some v)).set i x
    rw [setAll_set (fun z => h (List.mem_cons_of_mem _ z)), List.set_comm]
    exact fun z => h (z ▸ List.mem_cons_self)
def nmsG (K : PySem.W.Frag) : List Nat → TGs
  | [] => gNil
  | i :: is => gCons (gName i) (nmsG K is)
theorem nms_ok {K : PySem.W.Frag} {H : Hp} {k : L2.St → Hp → Prop} : ∀ {is : List Nat} {vs : List V} {σ : L2.St}, is.Nodup → is.length = vs.length → k (setAll is vs σ) H → nmsG K is vs σ H k
  | [], [], σ, _, _, h => ⟨rfl, h⟩
  | i :: is, v :: vs, σ, n, l, h => by
    refine ⟨v, vs, rfl, ?_⟩
    refine nms_ok (List.nodup_cons.mp n).2 (by simpa using l) ?_
    rw [setAll_set (List.nodup_cons.mp n).1]
    exact h
  | [], _ :: _, _, _, l, _ => by simp at l
  | _ :: _, [], _, _, l, _ => by simp at l
def aOwn (f : Ex) (g : ExL) : ExL := aCons (own f) g
section
variable {X : Cx} {es as : List Expr} {is : List Nat} {ga : ExL} {kt k2 : Nat} {pt pt2 pos : Pos}
theorem qs_parT {n : Nat} (hl : is.length = n) (hz : n ≤ 1000) (hn : is.Nodup) (ha : QA X as ga) (hg : PG X (.Tuple es kt pt) (gTup X.K n (nmsG X.K is)))
    (hs : swapsWithSole [.Tuple es kt pt] (.Tuple as k2 pt2) pos.line X.env = pure false := by rfl) (hw : swappedStores [.Tuple es kt pt] (.Tuple as k2 pt2) X.env = pure none := by rfl)
    (h1 : (assignEach [.Tuple es kt pt] X.env).map (·.2) = [assign (.Tuple es kt pt) X.env] := by rfl) : QS X (.Assign [.Tuple es kt pt] (.Tuple as k2 pt2) pos) (sPar is ga) :=
  (ps_asg (pe_tupF ha) hg hs hw h1).imp fun D σ H ⟨C, env, oo, env', hK, S, ef, kk⟩ => by
    obtain ⟨rs, e1, q1, ef⟩ := Res.bind_ok ef
    split at ef
    · rename_i e2 hp
      cases ef
      have hlen : ∀ {is : List Nat} {rs : List Rv} {e e' : Sto}, Q.putAll is rs e = some e' → rs.length = is.length := by
        intro is
        induction is with
        | nil => intro rs e e' h; cases rs with
          | nil => rfl
          | cons _ _ => cases h
        | cons i is ih => intro rs e e' h; cases rs with
          | nil => cases h
          | cons r rs =>
            simp only [Q.putAll, Option.bind_eq_some_iff] at h
            obtain ⟨e1, h1, _⟩ := h
            rw [List.length_cons, List.length_cons, ih h1]
      refine ⟨C, env, rs, e1, hK, S, q1, fun vs H1 S1 ok => ?_⟩
      have hv : vs.length = n := by rw [ok.length, hlen hp, hl]
      refine ⟨by rw [hv, sizeLine_eq]; omega, fun p o hp1 h2 h3 => ⟨p, vs, rfl, .inl (.inr ⟨o, upd_same⟩), hv, ?_⟩⟩
      refine nms_ok hn (by rw [hl, hv]) ?_
      obtain ⟨G, ow, S2⟩ := S1
      exact kk _ _ (Stt.putAll ⟨_, _, S2.alloc hp1⟩ ok hp)
    · cases ef
theorem qs_par3 {i j l : Nat} {x y z : Str} {a b c : Expr} {px py pz : Pos} (hc : X.calm = true) (hN : X.N.Nodup) (hi : X.N[i]? = some x) (hj : X.N[j]? = some y) (hl : X.N[l]? = some z) (h1 : i ≠ j) (h2 : i ≠ l) (h3 : j ≠ l)
    (hx : X.env.scope.names.lookup x = some .local) (hy : X.env.scope.names.lookup y = some .local) (hz : X.env.scope.names.lookup z = some .local) (ha : QA X [a, b, c] ga)
    (three : swappedStores [.Tuple [.Name x px, .Name y py, .Name z pz] kt pt] (.Tuple [a, b, c] k2 pt2) X.env = pure (some [x, y, z]))
    (sole : swapsWithSole [.Tuple [.Name x px, .Name y py, .Name z pz] kt pt] (.Tuple [a, b, c] k2 pt2) pos.line X.env = pure false := by rfl) :
    QS X (.Assign [.Tuple [.Name x px, .Name y py, .Name z pz] kt pt] (.Tuple [a, b, c] k2 pt2) pos) (sPar [i, j, l] ga) :=
  (ps_par3 hc hN hi hj hl h1 h2 h3 hx hy hz ha three sole).imp fun D σ H ⟨C, env, oo, env', hK, S, ef, kk⟩ => by
    obtain ⟨rs, e1, q1, ef⟩ := Res.bind_ok ef
    split at ef
    · rename_i e2 hp
      cases ef
      refine ⟨C, env, rs, e1, hK, S, q1, fun vs H1 S1 ok => ?_⟩
      obtain ⟨u, v, w, rfl⟩ : ∃ u v w, vs = [u, v, w] := by
        have hlen : rs.length = 3 := by
          match rs, hp with
          | [_, _, _], _ => rfl
          | [], hp => cases hp
          | [_], hp => simp [Q.putAll] at hp
          | [_, _], hp => simp [Q.putAll] at hp
          | _ :: _ :: _ :: _ :: _, hp => simp [Q.putAll] at hp
        have := ok.length
        match vs, this with
        | [u, v, w], _ => exact ⟨u, v, w, rfl⟩
        | [], h => rw [hlen] at h; cases h
        | [_], h => rw [hlen] at h; cases h
        | [_, _], h => rw [hlen] at h; cases h
        | _ :: _ :: _ :: _ :: _, h => rw [hlen] at h; simp at h
      refine ⟨u, v, w, rfl, ?_⟩
      have e0 : ((σ.set i (some u)).set j (some v)).set l (some w) = setAll [i, j, l] [u, v, w] σ := by
        show _ = ((σ.set l (some w)).set j (some v)).set i (some u)
        rw [List.set_comm _ _ h1, List.set_comm _ _ h2, List.set_comm _ _ h3]
      rw [e0]
      exact kk _ _ (Stt.putAll S1 ok hp)
    · cases ef
theorem qs_par2v {i j : Nat} {x y : Str} {a b : Expr} {px py : Pos} (hc : X.calm = true) (hN : X.N.Nodup) (hi : X.N[i]? = some x) (hj : X.N[j]? = some y) (h1 : i ≠ j)
    (hx : X.env.scope.names.lookup x = some .local) (hy : X.env.scope.names.lookup y = some .local) (ha : QA X [a, b] ga)
    (two : swappedStores [.Tuple [.Name x px, .Name y py] kt pt] (.Tuple [a, b] k2 pt2) X.env = pure (some [x, y]))
    (sole : swapsWithSole [.Tuple [.Name x px, .Name y py] kt pt] (.Tuple [a, b] k2 pt2) pos.line X.env = pure false := by rfl) :
    QS X (.Assign [.Tuple [.Name x px, .Name y py] kt pt] (.Tuple [a, b] k2 pt2) pos) (sPar [i, j] ga) :=
  (ps_par hc hN hi hj h1 hx hy ha two sole).imp fun D σ H ⟨C, env, oo, env', hK, S, ef, kk⟩ => by
    obtain ⟨rs, e1, q1, ef⟩ := Res.bind_ok ef
    split at ef
    · rename_i e2 hp
      cases ef
      refine ⟨C, env, rs, e1, hK, S, q1, fun vs H1 S1 ok => ?_⟩
      obtain ⟨u, v, rfl⟩ : ∃ u v, vs = [u, v] := by
        have hlen : rs.length = 2 := by
          match rs, hp with
          | [_, _], _ => rfl
          | [], hp => cases hp
          | [_], hp => simp [Q.putAll] at hp
          | _ :: _ :: _ :: _, hp => simp [Q.putAll] at hp
        have := ok.length
        match vs, this with
        | [u, v], _ => exact ⟨u, v, rfl⟩
        | [], h => rw [hlen] at h; cases h
        | [_], h => rw [hlen] at h; cases h
        | _ :: _ :: _ :: _, h => rw [hlen] at h; simp at h
      refine ⟨u, v, rfl, ?_⟩
      have e0 : (σ.set i (some u)).set j (some v) = setAll [i, j] [u, v] σ := by
        show _ = (σ.set j (some v)).set i (some u)
        rw [List.set_comm _ _ h1]
      rw [e0]
      exact kk _ _ (Stt.putAll S1 ok hp)
    · cases ef
/-- a target of names and tuples: the value is data -/
def sTg (T : Tg) (f : Ex) : Sm := fun env => (cold f env).bind fun r e => match r with
  | .cold d => match T.asg d e with
    | some e' => .ok .nx e'
    | none => .no
  | _ => .no
theorem qs_tg {tg e : Expr} {T : Tg} {f : Ex} (he : QE X e f) (hg : PG X tg (T.g X.K)) (hs : swapsWithSole [tg] e pos.line X.env = pure false := by rfl) (hw : swappedStores [tg] e X.env = pure none := by rfl)
    (h1 : (assignEach [tg] X.env).map (·.2) = [assign tg X.env] := by rfl) : QS X (.Assign [tg] e pos) (sTg T f) :=
  (ps_asg (QE.cold he) hg hs hw h1).imp fun D σ H ⟨C, env, oo, env', hK, S, ef, kk⟩ => by
    obtain ⟨r, e1, q1, ef⟩ := Res.bind_ok ef
    split at ef
    · rename_i d
      split at ef
      · rename_i e2 hp
        cases ef
        refine ⟨C, env, _, e1, hK, S, q1, fun v H1 S1 ok => ?_⟩
        have z := Tg.ok (k := D.nx) S1 hp fun σ' S' _ => kk σ' H1 S'
        rw [hK] at z
        exact z
      · cases ef
    · cases ef
end
end Q
set_option Elab.async false
set_option linter.all false
set_option maxRecDepth 100000
set_option maxHeartbeats 1000000
/-! calls of builtins -/
namespace Q
open PySem PySem.Spec PyProof.Rows L2

def viewsC : List Rv → Sto → Option (List D)
  | [], _ => some []
  | r :: rs, e => (viewC r e).bind fun d => (viewsC rs e).map (d :: ·)
theorem pendA_views {G H : Hp} {ow : Addr → Option Nat} {σ : L2.St} {env : Sto} : ∀ {rs : List Rv} {C : Ctx} {vs : List V} {ds : List D}, St1 (pendA C vs rs) G ow σ H env → Paired (RvOk σ) vs rs → viewsC rs env = some ds → St1 C G ow σ H env ∧ Paired (Dh C.K G H) vs ds
  | [], C, vs, ds, S, p, e => by
    cases p; cases e
    exact ⟨S, .nil⟩
  | r :: rs, C, vs, ds, S, p, e => by
    cases p with
    | cons p1 p2 =>
      simp only [viewsC, Option.bind_eq_some_iff, Option.map_eq_some_iff] at e
      obtain ⟨d, hd, ds', hds, rfl⟩ := e
      obtain ⟨S1, q⟩ := pendA_views (C := pend C _ r) S p2 hds
      rw [pend_K] at q
      exact ⟨S1.unpend, .cons (S1.viewC p1 hd) q⟩
abbrev RC := List V → Hp → VK → Prop
/-- what a builtin does with data -/
def CallOp (X : Cx) (r : RC) (h : List D → Option Rv) : Prop := ∀ (C : Ctx) (G : Hp) (ow : Addr → Option Nat) (σ : L2.St) (H : Hp) (env : Sto) (vs : List V) (ds : List D) (rr : Rv) (Q : VK), C.K = X.K → St1 C G ow σ H env → Paired (Dh C.K G H) vs ds → h ds = some rr → Fin C σ env rr Q → r vs H Q
def eB (h : List D → Option Rv) (g : ExL) : Ex := fun env => (g env).bind fun rs e => fin1 ((viewsC rs e).bind h) e
section
variable {X : Cx} {r : RC} {h : List D → Option Rv} {g : ExL}
theorem rd_cb (ho : CallOp X r h) {σ : L2.St} {H : Hp} {Q : VK} : rd X.K (eB h g) σ H Q → tCB r (rdA X.K g) σ H Q := by
  rintro ⟨C, env, r', env', hK, S, ef, k⟩
  obtain ⟨rs, e1, q, ef⟩ := Res.bind_ok ef
  obtain ⟨eg, rfl⟩ := fin1_ok ef
  simp only [Option.bind_eq_some_iff] at eg
  obtain ⟨ds, hds, eg⟩ := eg
  refine ⟨C, env, rs, _, hK, S, q, fun vs H1 ⟨G, ow, S1⟩ ok => ?_⟩
  obtain ⟨S2, p⟩ := pendA_views S1 ok hds
  exact ho C G ow σ H1 _ vs ds r' Q hK S2 p eg k
variable {x : Str} {p pos : Pos} {e : Expr} {es : List Expr} {id T : String}
/-- a builtin function by its name -/
structure BName (X : Cx) (x : Str) (u : Value) : Prop where
  gl : Gl X x
  own : X.mg x = none
  boot : bootBuiltins x = some u
  nn : x ≠ "__name__"
  nd : (x == ("__debug__" : Str)) = false
theorem qe_callB (hc : CallR X (.builtin id) r) (ho : CallOp X r h) (nm : BName X x (.builtin id)) (ha : QA X (e :: es) g) (ns : NoStar X e es pos) : QE X (.Call (.Name x p) (e :: es) [] pos) (eB h g) :=
  (pe_callB hc nm.gl nm.own nm.boot ha nm.nn nm.nd ns.1 ns.2).imp fun _ _ _ => rd_cb ho
theorem qe_callTy (hc : CallR X (.type T) r) (ho : CallOp X r h) (nm : BName X x (.type T)) (ha : QA X (e :: es) g) (ns : NoStar X e es pos) : QE X (.Call (.Name x p) (e :: es) [] pos) (eB h g) :=
  (pe_callTy hc nm.gl nm.own nm.boot ha nm.nn nm.nd ns.1 ns.2).imp fun _ _ _ => rd_cb ho
end
theorem one_of {α β : Type} {R : α → β → Prop} {vs : List α} {b : β} (p : Paired R vs [b]) : ∃ v, vs = [v] ∧ R v b := by
  cases p with
  | cons a t => cases t; exact ⟨_, rfl, a⟩
theorem two_ofP {α β : Type} {R : α → β → Prop} {vs : List α} {b c : β} (p : Paired R vs [b, c]) : ∃ v w, vs = [v, w] ∧ R v b ∧ R w c := by
  cases p with
  | cons a t => obtain ⟨w, rfl, q⟩ := one_of t; exact ⟨_, w, rfl, a, q⟩
/-! ### len, list, tuple -/
def hLen : List D → Option Rv
  | [.list ds] => some (.cold (.int ds.length))
  | [.tuple ds] => some (.cold (.int ds.length))
  | [.str z] => if cap z.length then some (.cold (.int z.length)) else none
  | _ => none
def hListOf : List D → Option Rv
  | [.list ds] => some (.hot (.lst ds))
  | [.tuple ds] => some (.hot (.lst ds))
  | _ => none
def hTupOf : List D → Option Rv
  | [.list ds] => some (.cold (.tuple ds))
  | [.tuple ds] => some (.cold (.tuple ds))
  | _ => none
section
variable {X : Cx}
theorem co_len : CallOp X (fun xs H Q => ∃ x n, xs = [x] ∧ LenV X.K x H n ∧ Q (.int (n : Nat)) H) hLen := by
  intro C G ow σ H env vs ds rr Q hK S p e F
  unfold hLen at e
  split at e
  · obtain ⟨v, rfl, a, ws, rfl, rd, all⟩ := one_of p
    cases e
    exact ⟨_, _, rfl, .inl ⟨ws, .inl rd, rfl⟩, all.length ▸ F.val S (.int _)⟩
  · obtain ⟨v, rfl, q⟩ := one_of p
    cases q with
    | tup r q =>
      cases e
      exact ⟨_, _, rfl, .inr ⟨_, by rw [← hK]; exact SqT.sub S.gh r.sq, rfl⟩, q.length ▸ F.val S (.int _)⟩
  · obtain ⟨v, rfl, q⟩ := one_of p
    cases q
    split at e
    · rename_i hz
      cases e
      exact ⟨_, _, rfl, ⟨hz, rfl⟩, F.val S (.int _)⟩
    · cases e
  · cases e
theorem co_list : CallOp X (fun xs H Q => ∃ p ys, xs = [.ref p] ∧ (SqL X.K H p ys ∨ SqT X.K H p ys) ∧ ∀ l, H l = none → Q (.ref l) (upd H l (.lst ys))) hListOf := by
  intro C G ow σ H env vs ds rr Q hK S p e F
  unfold hListOf at e
  split at e
  · obtain ⟨v, rfl, a, ws, rfl, rd, all⟩ := one_of p
    cases e
    exact ⟨a, ws, rfl, .inl (.inl rd), fun l hl => F.lst S all hl⟩
  · obtain ⟨v, rfl, q⟩ := one_of p
    cases q with
    | tup r q =>
      cases e
      exact ⟨_, _, rfl, .inr (by rw [← hK]; exact SqT.sub S.gh r.sq), fun l hl => F.lst S q hl⟩
  · cases e
theorem co_tuple : CallOp X (fun xs H Q => ∃ p ys, xs = [.ref p] ∧ ((SqL X.K H p ys ∧ NewT H Q ys) ∨ (SqT X.K H p ys ∧ Q (.ref p) H))) hTupOf := by
  intro C G ow σ H env vs ds rr Q hK S p e F
  unfold hTupOf at e
  split at e
  · obtain ⟨v, rfl, a, ws, rfl, rd, all⟩ := one_of p
    cases e
    exact ⟨a, ws, rfl, .inl ⟨.inl rd, F.tup S all⟩⟩
  · obtain ⟨v, rfl, q⟩ := one_of p
    cases q with
    | tup r q =>
      cases e
      exact ⟨_, _, rfl, .inr ⟨by rw [← hK]; exact SqT.sub S.gh r.sq, F.val S (.tup r q)⟩⟩
  · cases e
/-! ### numbers -/
def hAbs : List D → Option Rv
  | [.int i] => some (.cold (.int (if i < 0 then -i else i)))
  | _ => none
def hIntOf : List D → Option Rv
  | [.int i] => some (.cold (.int i))
  | [.bool b] => some (.cold (.int (if b = true then 1 else 0)))
  | _ => none
def hMin2 : List D → Option Rv
  | [.int i, .int j] => some (.cold (.int (if j < i then j else i)))
  | _ => none
def hMax2 : List D → Option Rv
  | [.int i, .int j] => some (.cold (.int (if j > i then j else i)))
  | _ => none
theorem co_abs : CallOp X (fun xs H Q => ∃ i, xs = [.int i] ∧ Q (.int (if i < 0 then -i else i)) H) hAbs := by
  intro C G ow σ H env vs ds rr Q hK S p e F
  unfold hAbs at e
  split at e
  · obtain ⟨v, rfl, q⟩ := one_of p
    cases q; cases e
    exact ⟨_, rfl, F.val S (.int _)⟩
  · cases e
theorem co_int : CallOp X (fun xs H Q => (∃ i, xs = [.int i] ∧ Q (.int i) H) ∨ ∃ k, xs = [.bl k] ∧ Q (.int (if k = true then 1 else 0)) H) hIntOf := by
  intro C G ow σ H env vs ds rr Q hK S p e F
  unfold hIntOf at e
  split at e
  · obtain ⟨v, rfl, q⟩ := one_of p
    cases q; cases e
    exact .inl ⟨_, rfl, F.val S (.int _)⟩
  · obtain ⟨v, rfl, q⟩ := one_of p
    cases q; cases e
    exact .inr ⟨_, rfl, F.val S (.int _)⟩
  · cases e
theorem co_min2 : CallOp X (fun xs H Q => ∃ i j, xs = [.int i, .int j] ∧ Q (.int (if j < i then j else i)) H) hMin2 := by
  intro C G ow σ H env vs ds rr Q hK S p e F
  unfold hMin2 at e
  split at e
  · obtain ⟨v, w, rfl, q1, q2⟩ := two_ofP p
    cases q1; cases q2; cases e
    exact ⟨_, _, rfl, F.val S (.int _)⟩
  · cases e
theorem co_max2 : CallOp X (fun xs H Q => ∃ i j, xs = [.int i, .int j] ∧ Q (.int (if j > i then j else i)) H) hMax2 := by
  intro C G ow σ H env vs ds rr Q hK S p e F
  unfold hMax2 at e
  split at e
  · obtain ⟨v, w, rfl, q1, q2⟩ := two_ofP p
    cases q1; cases q2; cases e
    exact ⟨_, _, rfl, F.val S (.int _)⟩
  · cases e
/-! ### a list of numbers, of truth values -/
def asInts : List D → Option (List Int)
  | [] => some []
  | .int i :: r => (asInts r).map (i :: ·)
  | _ :: _ => none
theorem asInts_eq : ∀ {ds : List D} {ns : List Int}, asInts ds = some ns → ds = ns.map .int
  | [], ns, h => by cases h; rfl
  | d :: ds, ns, h => by
    cases d with
    | int i =>
      obtain ⟨ms, hm, rfl⟩ := Option.map_eq_some_iff.mp (show (asInts ds).map (i :: ·) = some ns from h)
      rw [asInts_eq hm]; rfl
    | _ => cases h
def asBls : List D → Option (List Bool)
  | [] => some []
  | .bool i :: r => (asBls r).map (i :: ·)
  | _ :: _ => none
theorem asBls_eq : ∀ {ds : List D} {ns : List Bool}, asBls ds = some ns → ds = ns.map .bool
  | [], ns, h => by cases h; rfl
  | d :: ds, ns, h => by
    cases d with
    | bool i =>
      obtain ⟨ms, hm, rfl⟩ := Option.map_eq_some_iff.mp (show (asBls ds).map (i :: ·) = some ns from h)
      rw [asBls_eq hm]; rfl
    | _ => cases h
/-- a builtin over a list of numbers -/
def hNums (f : List Int → Option Rv) : List D → Option Rv
  | [.list ds] => (asInts ds).bind f
  | _ => none
def hBls (f : List Bool → Bool) : List D → Option Rv
  | [.list ds] => (asBls ds).map fun bs => .cold (.bool (f bs))
  | _ => none
theorem co_nums {r : RC} {f : List Int → Option Rv} (h : ∀ (C : Ctx) (G : Hp) (ow : Addr → Option Nat) (σ : L2.St) (H : Hp) (env : Sto) (a : Addr) (ns : List Int) (rr : Rv) (Q : VK), St1 C G ow σ H env → SqL X.K H a (ns.map V.int) → f ns = some rr → Fin C σ env rr Q → r [.ref a] H Q) : CallOp X r (hNums f) := by
  intro C G ow σ H env vs ds rr Q hK S p e F
  unfold hNums at e
  split at e
  · obtain ⟨v, rfl, a, ws, rfl, rd, all⟩ := one_of p
    obtain ⟨ns, hn, e⟩ := Option.bind_eq_some_iff.mp e
    rw [asInts_eq hn] at all
    rw [all.ints] at rd
    exact h C G ow σ H env a ns rr Q S (.inl rd) e F
  · cases e
theorem co_bls {f : List Bool → Bool} : CallOp X (fun vs H Q => ∃ (a : Addr) (bs : List Bool), vs = [V.ref a] ∧ SqL X.K H a (bs.map V.bl) ∧ Q (.bl (f bs)) H) (hBls f) := by
  intro C G ow σ H env vs ds rr Q hK S p e F
  unfold hBls at e
  split at e
  · obtain ⟨v, rfl, a, ws, rfl, rd, all⟩ := one_of p
    obtain ⟨ns, hn, e⟩ := Option.map_eq_some_iff.mp e
    cases e
    rw [asBls_eq hn] at all
    rw [all.bools] at rd
    exact ⟨a, ns, rfl, .inl rd, F.val S (.bl _)⟩
  · cases e
theorem co_all : CallOp X (rAll X.K) (hBls fun bs => bs.all id) := co_bls
theorem co_any : CallOp X (rAny X.K) (hBls fun bs => bs.any id) := co_bls
def hSum : List D → Option Rv := hNums fun ns => some (.cold (.int ns.sum))
theorem co_sum : CallOp X (rSum X.K) hSum := co_nums fun C G ow σ H env a ns rr Q S sq e F => by
  cases e
  exact ⟨a, ns, rfl, sq, F.val S (.int _)⟩
def leastI : List Int → Option Int
  | [] => none
  | n :: r => some (r.foldl min n)
def mostI : List Int → Option Int
  | [] => none
  | n :: r => some (r.foldl max n)
theorem foldl_min : ∀ (r : List Int) (n : Int), (r.foldl min n = n ∨ r.foldl min n ∈ r) ∧ r.foldl min n ≤ n ∧ ∀ y ∈ r, r.foldl min n ≤ y
  | [], n => ⟨.inl rfl, Int.le_refl _, by simp⟩
  | m :: r, n => by
    obtain ⟨h1, h2, h3⟩ := foldl_min r (min n m)
    rw [List.foldl_cons]
    refine ⟨?_, by omega, fun y hy => ?_⟩
    · rcases h1 with h1 | h1
      · rw [h1]
        rcases Int.le_total n m with q | q
        · exact .inl (by omega)
        · exact .inr (by rw [Int.min_eq_right q]; simp)
      · exact .inr (List.mem_cons_of_mem _ h1)
    · rcases List.mem_cons.mp hy with q | q
      · omega
      · exact h3 y q
theorem foldl_max : ∀ (r : List Int) (n : Int), (r.foldl max n = n ∨ r.foldl max n ∈ r) ∧ n ≤ r.foldl max n ∧ ∀ y ∈ r, y ≤ r.foldl max n
  | [], n => ⟨.inl rfl, Int.le_refl _, by simp⟩
  | m :: r, n => by
    obtain ⟨h1, h2, h3⟩ := foldl_max r (max n m)
    rw [List.foldl_cons]
    refine ⟨?_, by omega, fun y hy => ?_⟩
    · rcases h1 with h1 | h1
      · rw [h1]
        rcases Int.le_total m n with q | q
        · exact .inl (by omega)
        · exact .inr (by rw [Int.max_eq_right q]; simp)
      · exact .inr (List.mem_cons_of_mem _ h1)
    · rcases List.mem_cons.mp hy with q | q
      · omega
      · exact h3 y q
theorem leastI_is {ns : List Int} {m : Int} (h : leastI ns = some m) : m ∈ ns ∧ ∀ y ∈ ns, m ≤ y := by
  cases ns with
  | nil => cases h
  | cons n r =>
    cases h
    obtain ⟨h1, h2, h3⟩ := foldl_min r n
    refine ⟨?_, fun y hy => ?_⟩
    · rcases h1 with h1 | h1
      · rw [h1]; simp
      · exact List.mem_cons_of_mem _ h1
    · rcases List.mem_cons.mp hy with q | q
      · rw [q]; exact h2
      · exact h3 y q
theorem mostI_is {ns : List Int} {m : Int} (h : mostI ns = some m) : m ∈ ns ∧ ∀ y ∈ ns, y ≤ m := by
  cases ns with
  | nil => cases h
  | cons n r =>
    cases h
    obtain ⟨h1, h2, h3⟩ := foldl_max r n
    refine ⟨?_, fun y hy => ?_⟩
    · rcases h1 with h1 | h1
      · rw [h1]; simp
      · exact List.mem_cons_of_mem _ h1
    · rcases List.mem_cons.mp hy with q | q
      · rw [q]; exact h2
      · exact h3 y q
def hMin1 : List D → Option Rv := hNums fun ns => (leastI ns).map fun m => .cold (.int m)
def hMax1 : List D → Option Rv := hNums fun ns => (mostI ns).map fun m => .cold (.int m)
theorem co_min1 : CallOp X (rMin X.K) hMin1 := co_nums fun C G ow σ H env a ns rr Q S sq e F => by
  obtain ⟨m, hm, rfl⟩ := Option.map_eq_some_iff.mp e
  obtain ⟨h1, h2⟩ := leastI_is hm
  refine ⟨a, ns, rfl, sq, List.length_pos_of_mem h1, fun y hy hl => ?_⟩
  have : y = m := Int.le_antisymm (hl m h1) (h2 y hy)
  subst this
  exact F.val S (.int _)
theorem co_max1 : CallOp X (rMax X.K) hMax1 := co_nums fun C G ow σ H env a ns rr Q S sq e F => by
  obtain ⟨m, hm, rfl⟩ := Option.map_eq_some_iff.mp e
  obtain ⟨h1, h2⟩ := mostI_is hm
  refine ⟨a, ns, rfl, sq, List.length_pos_of_mem h1, fun y hy hl => ?_⟩
  have : y = m := Int.le_antisymm (h2 y hy) (hl m h1)
  subst this
  exact F.val S (.int _)
/-- sorted numbers -/
def sortI (ns : List Int) : List Int := ns.mergeSort fun a b => decide (a ≤ b)
theorem sortI_perm (ns : List Int) : (sortI ns).Perm ns := List.mergeSort_perm ..
theorem sortI_le (ns : List Int) : (sortI ns).Pairwise (· ≤ ·) := by
  have := List.pairwise_mergeSort (le := fun a b : Int => decide (a ≤ b)) (fun a b c h1 h2 => by simp at *; omega) (fun a b => by simp; omega) ns
  exact this.imp fun h => by simpa using h
theorem sorted_one {as bs : List Int} (p : as.Perm bs) (ha : as.Pairwise (· ≤ ·)) (hb : bs.Pairwise (· ≤ ·)) : as = bs := p.eq_of_pairwise (fun a b _ _ h1 h2 => Int.le_antisymm h1 h2) ha hb
def hSort : List D → Option Rv := hNums fun ns => some (.hot (.lst ((sortI ns).map .int)))
theorem co_sort : CallOp X (rSortedI X.K) hSort := co_nums fun C G ow σ H env a ns rr Q S sq e F => by
  cases e
  refine ⟨a, ns, rfl, sq, fun ns' p hp hle hn => ?_⟩
  have : ns' = sortI ns := sorted_one (hp.trans (sortI_perm ns).symm) hle (sortI_le ns)
  subst this
  exact F.lst S (RpAll.of_ints _) hn
end
/-! ### the script: its length, its items -/
def eLenScr (f : Ex) : Ex := fun env => (f env).bind fun r e => match scrOf r e with
  | some ds => .ok (.cold (.int ds.length)) e
  | none => .no
def eIxScr (f g : Ex) : Ex := fun env => (f env).bind fun r e => (g e).bind fun r2 e2 => match scrOf r e2, viewC r2 e2 with
  | some ds, some (.int i) => fin1 ((atI ds i).map .cold) e2
  | _, _ => .no
section
variable {X : Cx} {a b : Expr} {f g : Ex} {x : Str} {p pos : Pos}
theorem qe_lenScr (nm : BName X x (.builtin "len")) (ha : QE X a f) (ns : NoStar X a [] pos) : QE X (.Call (.Name x p) [a] [] pos) (eLenScr f) :=
  (pe_callB call_len nm.gl nm.own nm.boot (pa_cons ha pa_nil ns.1) nm.nn nm.nd ns.1 ns.2).imp fun σ H Q ⟨C, env, r', env', hK, S, ef, k⟩ => by
    obtain ⟨r, e1, q, ef⟩ := Res.bind_ok ef
    split at ef
    · rename_i ds hd
      cases ef
      refine ⟨C, env, r, _, hK, S, q, fun v H1 S1 ok => ?_⟩
      obtain ⟨G, ow, S2⟩ := id S1
      obtain ⟨l, vs, rfl, sq, all⟩ := S2.scrOf ok hd
      rw [hK] at sq
      exact ⟨_, _, rfl, .inl ⟨vs, sq, rfl⟩, all.length ▸ k _ H1 (S1.unpend.scal fun _ => .int _) trivial⟩
    · cases ef
theorem qe_ixScr (ha : QE X a f) (hb : QE X b g) (hs : PlainIx b := by exact fun _ _ => rfl) : QE X (.Subscript a b pos) (eIxScr f g) :=
  (pe_ix ix_list ha hb hs).imp fun σ H Q ⟨C, env, r', env', hK, S, ef, k⟩ => by
    obtain ⟨r, e1, q, ef⟩ := Res.bind_ok ef
    obtain ⟨r2, e2, q2, ef⟩ := Res.bind_ok ef
    split at ef
    · rename_i ds i hd hi
      obtain ⟨eg, rfl⟩ := fin1_ok ef
      obtain ⟨d, at_, rfl⟩ := Option.map_eq_some_iff.mp eg
      refine ⟨C, env, r, e1, hK, S, q, fun v H1 S1 ok => ⟨_, e1, r2, _, by rw [pend_K]; exact hK, S1, q2, fun u H2 S2 ok2 => ?_⟩⟩
      obtain ⟨G, ow, S3⟩ := id S2
      have h2 := S3.viewC ok2 hi
      cases h2
      obtain ⟨l, vs, rfl, sq, all⟩ := St1.scrOf (C := C) S3.unpend ok hd
      rw [hK] at sq
      obtain ⟨w, e3, hw⟩ := all.atI at_
      exact ⟨l, vs, i, w, rfl, rfl, sq, e3, Fin.val k S3.unpend.unpend hw⟩
    · cases ef
end
end Q
set_option Elab.async false
set_option linter.all false
set_option maxRecDepth 100000
set_option maxHeartbeats 2000000
/-! a set comprehension, whatever the set's kind; of numbers: sorted -/
namespace Q
open PySem PySem.Spec PyProof.Rows L2

/-- a new set's object -/
def set0 (w : World) : Obj := { cls := .type "set", dict := none, data := .set #[] 0 (.fresh 0 0 (!w.params.followText "set-order")) }
/-- a kind of set: how it starts, how it takes one member more -/
structure SetKind (P : Program) (w : World) (o0 : Addr → HO) (R : StepR) : Prop where
  start : ∀ (H : Hp) (h : Heap), ObjOk P w (upd H h.objs.size (o0 h.objs.size)) (h.push (set0 w)) h.objs.size (o0 h.objs.size)
  add : ∀ (X : Cx) (ps : List (Addr × Obj)) (st : Shared) (sg : L2.St) (Hh : Hp) (E : Value → Shared → Prop) (Dd : Addr) (y : V) (u : Value) (Nx : Hp → Prop), X.prog = P → X.w = w → L2.Inv X ps sg Hh st → L2.RelV y u → R Dd y Hh Nx →
    wpAny (model P w) X.A (call (.builtin "set.add") [.ref Dd, u]) (fun _ st' => ∃ H', L2.Inv X ps sg H' st' ∧ Nx H') E st
section
variable {X : Cx} {elt tg iter : Expr} {ifs : List Expr} {scope : Scope} {own : List (Str × Nat)} {pos : Pos} {wi : TI} {g : TG} {tt : TT} {te : TE} {o0 : Addr → HO} {R : StepR}
/-- the block's env, made behind st -/
def blkEnv (X : Cx) (scope : Scope) (st : Shared) : Env := compEnvC scope (cellsFrom (st.heap.objs.size + 1) scope.names (cloFrom X.env.cells scope.names [])) st.heap.objs.size X.env
/-- what holds at the head of each turn -/
def Head (X : Cx) (vs : List Nat) (sg : L2.St) (fp : List Addr) (tn : Nat → Heap → Prop) (W : Nat → Nat → Hp → Prop) (n : Nat) (st : Shared) : Prop :=
  ∃ i H, L2.Inv X [] (wipe sg vs) H st ∧ tn i st.heap ∧ (∀ b ∈ fp, H b = none) ∧ W i n H
/-- the cells of what is walked are free within the block -/
theorem free_in {st : Shared} {Hh H' : Hp} {fp : List Addr} {ce : Env} {sg : L2.St} {st' : Shared} (Iv : L2.Inv (X.blk st Hh scope ce fp) [] sg H' st') (none_ : ∀ b ∈ fp, H' b = none) : ∀ b ∈ fp, FpOk (X.blk st Hh scope ce fp) [] H' b := fun b hb =>
  have out := Iv.ok.exf b hb
  ⟨none_ b hb, out.1, Iv.ok.exfs b hb, .inl hb, out.2, fun p hp => absurd (show p ∈ ([] : List (Addr × Obj)) from hp) List.not_mem_nil⟩
/-- a turn's end: the pins are given up, the own slots forgotten -/
theorem to_head {st st1 st' : Shared} {Hh H' : Hp} {fp : List Addr} {ce : Env} {sg sg' : L2.St} {vs : List Nat} {J : It} {it : Addr} {tn : Nat → Heap → Prop} {W : Nat → Nat → Hp → Prop} {i n : Nat} {Nx : Hp → Prop}
    (T : Turn X.prog X.w X.K tg J fp it tn) (at1 : tn (i + 1) st1.heap) (less : ∀ H', Nx H' → ∃ m, m < n ∧ W (i + 1) m H') (same : wipe sg' vs = wipe sg vs)
    (Iv : L2.Inv (X.blk st Hh scope ce fp) ([] ++ pinsAt fp st1.heap) sg' H' st') (nx : Nx H') : ∃ m, m < n ∧ Head (X.blk st Hh scope ce fp) vs sg fp tn W m st' := by
  obtain ⟨m, lt, w⟩ := less H' nx
  have held : ∀ b ∈ fp, ∀ o, st1.heap.get? b = some o → st'.heap.get? b = some o ∧ H' b = none := fun b hb o e =>
    have := Iv.pin (b, o) (List.mem_append_right _ (by simpa using mem_pinsAt hb e))
    ⟨this.1, this.2.1⟩
  refine ⟨m, lt, i + 1, H', ?_, T.keep _ _ _ at1 fun b hb o e => (held b hb o e).1, fun b hb => ?_, w⟩
  · have Iv0 := Iv.unpinned (pins := [])
    rw [← same]
    exact Iv0.weak (wipe_length _ _) fun j v e => (wipe_some e).1
  · obtain ⟨o, e, -⟩ := T.obj _ _ at1 b hb
    exact (held b hb o e).2
theorem pe_setComp (kind : SetKind X.prog X.w o0 R) (hc : X.calm = true) (hN : X.N.Nodup) (hi : PI X tg iter wi) (ok : BlkOk X.N X.env.scope scope own)
    (hg : ∀ st H (cl : List (Str × Addr)) C fp, PG (X.blk st H scope (compEnvC scope cl C X.env) fp) tg g) (ht : ∀ st H (cl : List (Str × Addr)) C fp, PTs (X.blk st H scope (compEnvC scope cl C X.env) fp) ifs tt)
    (he : ∀ st H (cl : List (Str × Addr)) C fp, PE (X.blk st H scope (compEnvC scope cl C X.env) fp) elt te) (hf : ∀ x, foldedSetIterable iter X.env x = pure x) :
    PE X (.SetComp elt [⟨tg, iter, ifs, 0⟩] scope pos) (tLcG o0 R wi g tt te (own.map (·.2))) where
  run ps st sg Hh Q Iv h := by
    rw [PpSet.eval_SetComp]
    refine wpAny_comprehension_free (use := none) rfl hf (closure_ok fun y hy e => Iv.ok.has _ (ok.free y hy e)) ok.kind (fun y hy e => e ▸ ok.uniq y hy) ?_
    refine thn (hi.run ps st sg Hh _ Iv h) fun _ st1 walk => thn walk ?_
    rintro _ st2 ⟨it, fp, tn, J, H2, rfl, Iv2, T, at2, fp2, go⟩
    refine PpSet.newSet_ok (newEnv_comp ?_)
    obtain ⟨W, ⟨m0, w0⟩, turn⟩ := go st2.heap.objs.size (Iv2.hok.fresh (Nat.le_refl _))
    have Iv3 := Iv2.laid (t' := st2.toks) (fun _ _ => Heap.get?_push_of_some _) (Nat.le_refl _) (kind.start H2 st2.heap)
    have low : ∀ b ∈ fp, b < st2.heap.objs.size := fun b hb =>
      have ⟨_, e, _⟩ := T.obj _ _ at2 b hb
      Heap.lt_size e
    have none3 : ∀ b ∈ fp, upd H2 st2.heap.objs.size (o0 st2.heap.objs.size) b = none := fun b hb => (upd_ne (Nat.ne_of_lt (low b hb))).trans (fp2 b hb).1
    generalize upd H2 st2.heap.objs.size (o0 st2.heap.objs.size) = H3 at Iv3 none3 w0
    generalize st2.heap.objs.size = Dd at *
    have at3 : tn 0 (st2.heap.push (set0 X.w)) := T.keep _ _ _ at2 fun b _ o e => Heap.get?_push_of_some _ e
    have low3 : ∀ b ∈ fp, b < (st2.heap.push (set0 X.w)).objs.size := fun b hb =>
      have ⟨_, e, _⟩ := T.obj _ _ at3 b hb
      Heap.lt_size e
    have Iv4 := block_start (fp := fp) Iv3 ok hN fun b hb => ⟨⟨none3 b hb, (fp2 b hb).2⟩, low3 b hb⟩
    have at4 : tn 0 (pushCells ((st2.heap.push (set0 X.w)).push { cls := .type "dict", data := .dict #[] }) scope.names) := T.keep _ _ _ at3 fun b _ o e => pushCells_keeps _ _ _ _ (Heap.get?_push_of_some _ e)
    obtain ⟨st3, h3, o3⟩ : ∃ st3 : Shared, st3 = { st2 with heap := st2.heap.push (set0 X.w) } ∧ True := ⟨_, rfl, trivial⟩
    have loop : codeAny (model X.prog X.w) X.A (.compLoop (.SetComp elt [⟨tg, iter, ifs, 0⟩] scope pos) 0 (.ref it) (.ref Dd) (blkEnv X scope st3)) (compPost (model X.prog X.w) X.A X.xe none (EP X ps sg Q) (.ref Dd) st3.heap.objs.size) { st3 with heap := pushCells (st3.heap.push { cls := .type "dict", data := .dict #[] }) scope.names } := by
      subst h3
      refine PpSet.compLoopS_any (Head (X.blk _ H3 scope _ fp) (own.map (·.2)) sg fp tn W) ?_ m0 ⟨0, H3, Iv4, at4, none3, w0⟩
      rintro n st5 ⟨i, H5, Iv5, at5, none5, w5⟩
      have fp5 := free_in Iv5 none5
      rcases turn i n H5 w5 with ⟨stop, qq⟩ | ⟨going, Nx, less, step⟩
      · refine thnF (T.done (X.blk _ H3 scope _ fp) rfl rfl rfl hc i [] st5 _ H5 (fun _ _ => False) Iv5 fp5 at5 stop) ?_
        rintro _ st6 ⟨rfl, Iv6⟩
        have Iv7 : L2.Inv X ps sg H5 st6 := Iv3.call' (ch := fp) Iv6.os Iv6.base Iv6.hok Iv6.bare fun b hb => ⟨(fp2 b hb).2.2.2.1, (fp2 b hb).2.1, (fp2 b hb).2.2.2.2.1, (fp2 b hb).2.2.2.2.2⟩
        obtain ⟨m, names, -⟩ := Iv6.loc
        obtain ⟨g0, g1, g2, g3, g4, g5⟩ := Iv3.fpOk (Nat.le_refl _) Iv6.free
        refine ⟨m, names, fun h' same => ⟨.ref Dd, H5, Iv7.turned (t' := st6.toks) (fun b o nb e => (same.2 b nb).trans e) g0 g1 g3 g4 g5, rfl, qq⟩⟩
      · refine thnF (T.item (X.blk _ H3 scope _ fp) rfl rfl rfl hc i [] st5 _ H5 (fun _ _ => False) Iv5 fp5 at5 going) ?_
        rintro _ st6 ⟨u, rfl, more⟩
        refine thnF more ?_
        rintro _ st7 ⟨x, H7, Iv7, rel, y7, at7, none7⟩
        refine thnF ((hg _ _ _ _ _).run _ st7 _ H7 x u _ (Iv7.pinned (free_in Iv7 none7) (T.obj _ _ at7)) rel (step x H7 y7)) ?_
        rintro _ st8 ⟨sg8, H8, Iv8, same8, q8⟩
        refine thnF ((ht _ _ _ _ _).run _ st8 sg8 H8 _ Iv8 q8) ?_
        rintro b st9 ⟨H9, Iv9, q9⟩
        cases b with
        | false => exact to_head T at7 less same8 Iv9 (by simpa using q9)
        | true =>
          refine thnF ((he _ _ _ _ _).run _ st9 sg8 H9 _ Iv9 (by simpa using q9)) ?_
          rintro z st10 ⟨yv, H10, Iv10, r10, q10⟩
          exact thn (kind.add (X.blk _ H3 scope _ fp) _ st10 sg8 H10 _ Dd yv z Nx rfl rfl Iv10 r10 q10) fun _ st11 ⟨H11, Iv11, nx⟩ => to_head T at7 less same8 Iv11 nx
    subst h3
    exact PpSet.codeAny_compStart_set loop (T.self X.A 0 _ _ _ at4 loop)
end
end Q
set_option Elab.async false
set_option linter.all false
set_option maxRecDepth 100000
set_option maxHeartbeats 2000000
/-! isinstance; list(range(..)), xs[::-1]; sets of numbers: len(set(t)), sorted({..}) -/
namespace Q
open PySem PySem.Spec PyProof.Rows L2

/-! ### isinstance -/
def tyN : D → String
  | .none => "NoneType"
  | .bool _ => "bool"
  | .int _ => "int"
  | .str _ => "str"
  | .list _ => "list"
  | .tuple _ => "tuple"
  | .dict _ => "dict"
def isT (n T : String) : Bool := n == T || (n == "bool" && T == "int")
def tyNames : List String := ["bool", "int", "str", "list", "tuple", "dict"]
theorem kit_names : ∀ n ∈ "NoneType" :: tyNames, ∀ T ∈ tyNames, kitB n T = some (isT n T) := by decide +kernel
theorem tyN_mem (d : D) : tyN d ∈ "NoneType" :: tyNames := by cases d <;> simp [tyN, tyNames]
theorem kit_data {K : PySem.W.Frag} (d : D) {T : String} (h : T ∈ tyNames) : PySem.W.kitOne K (.type (tyN d)) (.type T) = some (isT (tyN d) T) := kit_ty (kit_names _ (tyN_mem d) T h)
theorem kit_any {K : PySem.W.Frag} (d : D) : ∀ {Ts : List String}, (∀ T ∈ Ts, T ∈ tyNames) → PySem.W.kitAny K (.type (tyN d)) (Ts.map Value.type) = some (Ts.any (isT (tyN d)))
  | [], _ => rfl
  | T :: Ts, h => kitAny_cons (kit_data d (h T (by simp))) (fun e => by rw [List.any_cons, e, Bool.false_or]; exact kit_any d fun T' hT => h T' (by simp [hT])) fun e => by rw [List.any_cons, e, Bool.true_or]
theorem Dh.ty {K : PySem.W.Frag} {G H : Hp} {v : V} {d : D} (s : Sub G H) (h : Dh K G H v d) : TyX K H v (.type (tyN d)) := by
  cases d with
  | list ds =>
    obtain ⟨a, vs, rfl, rd, -⟩ := h
    rcases rd with rd | ⟨o, rd⟩
    · exact .base (.lst rd)
    · exact .base (.frz rd)
  | dict kvs =>
    obtain ⟨a, ks, rfl, rd, -⟩ := h
    rcases rd with rd | ⟨o, rd⟩
    · exact .base (.dK rd)
    · exact .fDict rd
  | tuple ds =>
    cases h with
    | tup r q =>
      rcases r with ⟨o, -, -, e⟩ | ⟨o, its, n, e, c, -⟩
      · exact .fTuple (s _ _ e)
      · exact .kTuple e c
  | none => cases h; exact .base .non
  | bool b => cases h; exact .base (.bl b)
  | int i => cases h; exact .base (.int i)
  | str x => cases h; exact .base (.str x)
def eIsi (Ts : List String) (f : Ex) : Ex := fun env => (f env).bind fun r e => fin1 ((viewC r e).map fun d => .cold (.bool (Ts.any (isT (tyN d))))) e
section
variable {X : Cx} {a : Expr} {f : Ex} {p pos p1 p2 p3 : Pos} {es : List Expr}
/-- the names of builtin types, as arguments -/
inductive TyArgs (X : Cx) : List Expr → List String → Prop
  | nil : TyArgs X [] []
  | cons {x : Str} {T : String} {q : Pos} {es : List Expr} {Ts : List String} : BName X x (.type T) → T ∈ tyNames → starEach (.Name x q :: es) X.env = (false, eval (.Name x q) X.env) :: starEach es X.env → TyArgs X es Ts → TyArgs X (.Name x q :: es) (T :: Ts)
def tTys : List String → TA
  | [] => tNil
  | T :: Ts => tCons (tC (.ty T)) (tTys Ts)
theorem TyArgs.pa : ∀ {es : List Expr} {Ts : List String}, TyArgs X es Ts → PA X es (tTys Ts)
  | _, _, .nil => pa_nil
  | _, _, .cons nm _ st t => pa_cons (pe_bltn nm.gl nm.own nm.boot rfl nm.nn nm.nd) t.pa st
theorem TyArgs.names : ∀ {es : List Expr} {Ts : List String}, TyArgs X es Ts → ∀ T ∈ Ts, T ∈ tyNames
  | _, _, .cons _ h _ t, T, hT => by
    rcases List.mem_cons.mp hT with e | e
    · rw [e]; exact h
    · exact t.names T e
theorem tTys_run : ∀ {Ts : List String} {σ : L2.St} {H : Hp} {Q : List V → Hp → Prop}, Q (Ts.map V.ty) H → tTys Ts σ H Q
  | [], _, _, _, q => q
  | T :: Ts, _, _, Q, q => tTys_run (Q := fun xs H2 => Q (V.ty T :: xs) H2) q
theorem clsAll : ∀ Ts : List String, Paired ClsV (Ts.map V.ty) (Ts.map Value.type)
  | [] => .nil
  | T :: Ts => .cons (.ty T) (clsAll Ts)
theorem qe_isi1 {T : String} {x : Str} {q : Pos} (nm : BName X x (.builtin "isinstance")) (ha : QE X a f) (ty : TyArgs X [.Name x0 q] [T]) (ns : NoStar X a [.Name x0 q] pos) : QE X (.Call (.Name x p) [a, .Name x0 q] [] pos) (eIsi [T] f) :=
  (pe_callB call_isi nm.gl nm.own nm.boot (pa_cons ha ty.pa ns.1) nm.nn nm.nd ns.1 ns.2).imp fun σ H Q ⟨C, env, r', env', hK, S, ef, k⟩ => by
    obtain ⟨r, e1, q1, ef⟩ := Res.bind_ok ef
    obtain ⟨eg, rfl⟩ := fin1_ok ef
    obtain ⟨d, hd, rfl⟩ := Option.map_eq_some_iff.mp eg
    refine ⟨C, env, r, _, hK, S, q1, fun v H1 S1 ok => ?_⟩
    obtain ⟨G, ow, S2⟩ := id S1
    have tyd := Dh.ty S2.unpend.gh (S2.viewC ok hd)
    rw [hK] at tyd
    refine ⟨v, .ty T, _, _, _, rfl, .ty T, tyd, kit_data d (ty.names T (by simp)), ?_⟩
    have e2 : [T].any (isT (tyN d)) = isT (tyN d) T := by simp
    rw [e2] at k
    exact k _ H1 (Stt.scal S1.unpend fun _ => .bl _) trivial
theorem qe_isiN {Ts : List String} {x : Str} {kt : Nat} {pt : Pos} (nm : BName X x (.builtin "isinstance")) (ha : QE X a f) (ty : TyArgs X es Ts) (hl : Ts.length ≤ 100) (ns : NoStar X a [.Tuple es kt pt] pos) (one : starEach [.Tuple es kt pt] X.env = (false, eval (.Tuple es kt pt) X.env) :: starEach [] X.env := by rfl) :
    QE X (.Call (.Name x p) [a, .Tuple es kt pt] [] pos) (eIsi Ts f) :=
  (pe_callB call_isiT nm.gl nm.own nm.boot (pa_cons ha (pa_cons (pe_tup ty.pa) pa_nil one) ns.1) nm.nn nm.nd ns.1 ns.2).imp fun σ H Q ⟨C, env, r', env', hK, S, ef, k⟩ => by
    obtain ⟨r, e1, q1, ef⟩ := Res.bind_ok ef
    obtain ⟨eg, rfl⟩ := fin1_ok ef
    obtain ⟨d, hd, rfl⟩ := Option.map_eq_some_iff.mp eg
    refine ⟨C, env, r, _, hK, S, q1, fun v H1 S1 ok => tTys_run ⟨by rw [List.length_map, sizeLine_eq]; omega, fun p hp => ?_⟩⟩
    obtain ⟨G, ow, S2⟩ := id S1
    have S3 := St1.alloc (o := .tup (Ts.map V.ty)) S2 hp
    have tyd := Dh.ty S3.gh (S3.viewC ok hd)
    rw [hK] at tyd
    exact ⟨v, p, _, _, _, _, rfl, upd_same, clsAll Ts, tyd, kit_any d ty.names, k _ _ (Stt.scal (Stt.unpend ⟨_, _, S3⟩) fun _ => .bl _) trivial⟩
/-! ### list(range(..)), xs[::-1] -/
theorem rg_all {K : PySem.W.Frag} {G : Hp} (i : Int) : ∀ l : List Nat, RpAll K G (l.map fun k => V.int (i + (k : Nat))) (l.map fun k => PyData.int (i + (k : Nat)))
  | [] => .nil
  | _ :: l => .cons (.int _) (rg_all i l)
def lrgOk (i j : Int) : Prop := -100000 ≤ i ∧ i ≤ 100000 ∧ -100000 ≤ j ∧ j ≤ 100000
instance (i j : Int) : Decidable (lrgOk i j) := by unfold lrgOk; infer_instance
theorem lrgOk.rg {i j : Int} (h : lrgOk i j) : RgOk i j := by
  obtain ⟨h1, h2, h3, h4⟩ := h
  exact ⟨by omega, by omega, by omega, by omega, by omega⟩
def eLRg1 (f : Ex) : Ex := fun env => (f env).bind fun r e => match intOf r e with
  | some n => if lrgOk 0 n then .ok (.hot (.lst (rngD 0 (n - 0).toNat))) e else .no
  | none => .no
def eLRg2 (f g : Ex) : Ex := fun env => (f env).bind fun r e => (g e).bind fun r2 e2 => match intOf r e2, intOf r2 e2 with
  | some i, some j => if lrgOk i j then .ok (.hot (.lst (rngD i (j - i).toNat))) e2 else .no
  | _, _ => .no
variable {b : Expr} {g : Ex}
theorem qe_lrg1 (hc : X.calm = true) (hg : Gl X "list") (hm : X.mg "list" = none) (hg2 : Gl X "range") (hm2 : X.mg "range" = none) (ha : QE X a f) (n1 : starEach [a] X.env = (false, eval a X.env) :: starEach [] X.env := by rfl)
    (n2 : starEach [.Call (.Name "range" p1) [a] [] p2] X.env = (false, eval (.Call (.Name "range" p1) [a] [] p2) X.env) :: starEach [] X.env := by rfl) : QE X (.Call (.Name "list" p) [.Call (.Name "range" p1) [a] [] p2] [] pos) (eLRg1 f) :=
  (pe_listRg hc hg hm (prg_1 hg2 hm2 ha n1) n2).imp fun σ H Q ⟨C, env, r', env', hK, S, ef, k⟩ => by
    obtain ⟨r, e1, q, ef⟩ := Res.bind_ok ef
    refine ⟨C, env, r, e1, hK, S, q, fun v H1 S1 ok1 => ?_⟩
    split at ef
    · rename_i n hn
      split at ef
      · rename_i hr
        cases ef
        have e := intOf_ok S1 ok1 hn
        subst e
        obtain ⟨G, ow, S2⟩ := id S1
        exact ⟨n, rfl, hr.rg, fun q hq => Fin.lst k S2.unpend (rg_all 0 _) hq⟩
      · cases ef
    · cases ef
theorem qe_lrg2 (hc : X.calm = true) (hg : Gl X "list") (hm : X.mg "list" = none) (hg2 : Gl X "range") (hm2 : X.mg "range" = none) (ha : QE X a f) (hb : QE X b g) (n1 : starEach [a, b] X.env = (false, eval a X.env) :: starEach [b] X.env := by rfl) (n3 : starEach [b] X.env = (false, eval b X.env) :: starEach [] X.env := by rfl)
    (n4 : (backTo p2 (starEach [b] X.env)).any (·.1) = false := by rfl)
    (n2 : starEach [.Call (.Name "range" p1) [a, b] [] p2] X.env = (false, eval (.Call (.Name "range" p1) [a, b] [] p2) X.env) :: starEach [] X.env := by rfl) : QE X (.Call (.Name "list" p) [.Call (.Name "range" p1) [a, b] [] p2] [] pos) (eLRg2 f g) :=
  (pe_listRg hc hg hm (prg_2 hg2 hm2 ha hb n1 n3 n4) n2).imp fun σ H Q ⟨C, env, r', env', hK, S, ef, k⟩ => by
    obtain ⟨r, e1, q, ef⟩ := Res.bind_ok ef
    obtain ⟨r2, e2, q2, ef⟩ := Res.bind_ok ef
    refine ⟨C, env, r, e1, hK, S, q, fun v H1 S1 ok1 => ⟨_, e1, r2, e2, by rw [pend_K]; exact hK, S1, q2, fun u H2 S2 ok2 => ?_⟩⟩
    split at ef
    · rename_i i j hi hj
      split at ef
      · rename_i hr
        cases ef
        have e := intOf_ok S2.unpend ok1 hi
        have e' := intOf_ok S2 ok2 hj
        subst e e'
        obtain ⟨G, ow, S3⟩ := id S2
        exact ⟨i, j, rfl, rfl, hr.rg, fun q hq => Fin.lst k S3.unpend.unpend (rg_all i _) hq⟩
      · cases ef
    · cases ef
def hRevL : D → Option Rv
  | .list ds => some (.hot (.lst ds.reverse))
  | _ => none
theorem qe_revL {n : Nat} (ha : QE X a f) : QE X (.Subscript a (.Slice none none (some (.UnaryOp .USub (.Constant (.int 1) n p1) p2)) p3) pos) (una (dat1 hRevL) f) :=
  (pe_revL ha).imp fun σ H Q q => rd_un (r := fun x H1 Q => ∃ a xs, x = .ref a ∧ SqL X.K H1 a xs ∧ ∀ p, H1 p = none → Q (.ref p) (upd H1 p (.lst xs.reverse))) (Op1.s (by
    intro C G ow σ H env v d rr Q hK S h e F
    cases d with
    | list ds =>
      cases e
      obtain ⟨a, vs, rfl, rd, all⟩ := h
      exact ⟨a, vs, rfl, .inl rd, fun p hp => F.lst S all.reverse hp⟩
    | _ => cases e)) q
end

/-! ### sets of numbers -/
def dedupI : List Int → List Int
  | [] => []
  | n :: r => if n ∈ dedupI r then dedupI r else n :: dedupI r
theorem mem_dedupI (k : Int) : ∀ ns : List Int, k ∈ dedupI ns ↔ k ∈ ns
  | [] => Iff.rfl
  | n :: r => by
    have ih := mem_dedupI k r
    unfold dedupI
    split
    · rename_i h
      rw [ih, List.mem_cons]
      exact ⟨.inr, fun z => z.elim (fun e => e ▸ (mem_dedupI n r).mp h) id⟩
    · rw [List.mem_cons, List.mem_cons, ih]
theorem nodup_dedupI : ∀ ns : List Int, (dedupI ns).Nodup
  | [] => .nil
  | n :: r => by
    unfold dedupI
    split
    · exact nodup_dedupI r
    · rename_i h
      exact List.nodup_cons.mpr ⟨h, nodup_dedupI r⟩
theorem same_count {as bs : List Int} (ha : as.Nodup) (hb : bs.Nodup) (h : ∀ k, k ∈ as ↔ k ∈ bs) : as.Perm bs := (List.perm_ext_iff_of_nodup ha hb).mpr h
/-- how many members a set of numbers has -/
theorem setR_size {w : World} {h : Heap} {a : Addr} {ns : List Int} {n : Nat} (R : SetR w h a (fun j => decide (j ∈ ns)) n) : n = (dedupI ns).length := by
  obtain ⟨o, es, ep, t, -, -, -, -, nd, mem, -, -, rfl, -⟩ := R
  have := (same_count nd (nodup_dedupI ns) fun k => by rw [← mem k, mem_dedupI]; simp).length_eq
  simpa using this
section
variable {X : Cx}
def rSetT (K : PySem.W.Frag) (w : World) : RC := fun xs H Q => ∃ p ns, xs = [.ref p] ∧ SqT K H p (ns.map V.int) ∧ ns.length + 1 < scanBound ∧ ∀ a, H a = none → Q (.ref a) (upd H a (SetO w a (fun j => decide (j ∈ ns)) (dedupI ns).length))
theorem cr_setT (hc : X.calm = true) : CallR X (.type "set") (rSetT X.K X.w) := by
  rintro ps st sg Hh _ _ Q Iv rv ⟨p, ns, rfl, sq, few, q⟩
  obtain ⟨_, rfl, e1⟩ := vals1 rv
  cases e1
  obtain ⟨us, ru, plain, -⟩ := Iv.tuple sq
  refine call_set_tupI ns (Iv.ok.hd hc) plain (by simpa using ru.ints) few fun h' tk c R _ kept => ?_
  have e := setR_size R
  subst e
  refine ⟨.ref _, _, Iv.laid (t' := tk) kept (Nat.le_refl _) (setO_new R), rfl, q _ (Iv.hok.fresh (Nat.le_refl _))⟩
def rLenSet (w : World) : RC := fun xs H Q => ∃ a S n, xs = [.ref a] ∧ H a = some (SetO w a S n) ∧ Q (.int (n : Nat)) H
theorem cr_lenSet : CallR X (.builtin "len") (rLenSet X.w) := by
  rintro ps st sg Hh _ _ Q Iv rv ⟨a, S, n, rfl, ha, q⟩
  obtain ⟨_, rfl, e1⟩ := vals1 rv
  cases e1
  obtain ⟨o, es, ep, t, ho, ex, hd, -, -, -, small, fits, rfl, -⟩ := setO_get Iv ha
  exact call_len_set ho ex hd fits (by unfold scanBound at small; omega) ⟨.int _, Hh, Iv.tok _, ⟨_, rfl⟩, q⟩
def eLenSet (f : Ex) : Ex := fun env => (f env).bind fun r e => match viewC r e with
  | some (.tuple ds) => match asInts ds with
    | some ns => if ns.length < 4000 then .ok (.cold (.int (dedupI ns).length)) e else .no
    | none => .no
  | _ => .no
variable {a : Expr} {f : Ex} {x y : Str} {p pos p2 q2 : Pos}
theorem qe_lenSet (hc : X.calm = true) (n1 : BName X x (.builtin "len")) (n2 : BName X y (.type "set")) (ha : QE X a f) (s1 : NoStar X (.Call (.Name y p2) [a] [] q2) [] pos) (s2 : NoStar X a [] q2) :
    QE X (.Call (.Name x p) [.Call (.Name y p2) [a] [] q2] [] pos) (eLenSet f) :=
  (pe_callB cr_lenSet n1.gl n1.own n1.boot (pa_cons (pe_callTy (cr_setT hc) n2.gl n2.own n2.boot (pa_cons ha pa_nil s2.1) n2.nn n2.nd s2.1 s2.2) pa_nil s1.1) n1.nn n1.nd s1.1 s1.2).imp fun σ H Q ⟨C, env, r', env', hK, S, ef, k⟩ => by
    obtain ⟨r, e1, q, ef⟩ := Res.bind_ok ef
    split at ef
    · rename_i ds hd
      split at ef
      · rename_i ns hn
        split at ef
        · rename_i few
          cases ef
          refine ⟨C, env, r, _, hK, S, q, fun v H1 ⟨G, ow, S1⟩ ok => ?_⟩
          have tp := S1.viewC ok hd
          cases tp with
          | tup r all =>
            rw [asInts_eq hn] at all
            rw [all.ints] at r
            refine ⟨_, ns, rfl, by rw [← hK]; exact SqT.sub S1.gh r.sq, by unfold scanBound; omega, fun l hl => ⟨l, _, _, rfl, upd_same, ?_⟩⟩
            exact k _ _ (Stt.scal ⟨_, _, S1.unpend.alloc hl⟩ fun _ => .int _) trivial
        · cases ef
      · cases ef
    · cases ef
end
/-! sorted of a set comprehension -/
def hotI (w : World) (acc : List D) : Hot := match asInts acc with
  | some ns => .raw fun a => SetO w a (fun j => decide (j ∈ ns)) (dedupI ns).length
  | none => .raw fun a => SetO w a (fun _ => false) 0
def roomI (acc : List D) (v : D) : Bool := match v with
  | .int _ => decide (acc.length < 60) && (asInts acc).isSome
  | _ => false
def stepI (w : World) : StepR := fun Dd y H Nx => ∃ (c : Int) (S : Int → Bool) (n : Nat), y = .int c ∧ H Dd = some (SetO w Dd S n) ∧ n + 1 < scanBound ∧ Nx (upd H Dd (SetO w Dd (fun j => S j || decide (j = c)) (if S c = true then n else n + 1)))
theorem setsI (P : Program) (w : World) : SetKind P w (fun a => SetO w a (fun _ => false) 0) (stepI w) where
  start H h := setO_new (setR_fresh w)
  add X ps st sg Hh E Dd y u Nx hP hw Iv rel := by
    subst hP hw
    rintro ⟨c, S, n, rfl, hD, room, nx⟩
    obtain ⟨tk, rfl⟩ := rel
    refine setR_add (setO_get Iv hD) room fun h' same new => ?_
    obtain ⟨o, _, _, _, ho, _⟩ := id new
    exact ⟨_, Iv.write (e := Dd) (t' := st.toks + 1) (by rw [hD]; trivial) (.inl rfl) (fun b u nb hu => (same.2 b nb).trans hu) ⟨o, ho⟩ (setO_new new), nx⟩
theorem asInts_app : ∀ {ds : List D} {ns : List Int} (c : Int), asInts ds = some ns → asInts (ds ++ [.int c]) = some (ns ++ [c])
  | [], ns, c, h => by cases h; rfl
  | d :: ds, ns, c, h => by
    cases d with
    | int i =>
      obtain ⟨ms, hm, rfl⟩ := Option.map_eq_some_iff.mp (show (asInts ds).map (i :: ·) = some ns from h)
      show (asInts (ds ++ [.int c])).map (i :: ·) = _
      rw [asInts_app c hm]; rfl
    | _ => cases h
theorem dedupI_app (ns : List Int) (c : Int) : (dedupI (ns ++ [c])).length = if c ∈ ns then (dedupI ns).length else (dedupI ns).length + 1 := by
  split
  · rename_i h
    exact (same_count (nodup_dedupI _) (nodup_dedupI _) fun k => by simp only [mem_dedupI, List.mem_append, List.mem_singleton]; exact ⟨fun z => z.elim id fun e => e ▸ h, .inl⟩).length_eq
  · rename_i h
    have : (c :: dedupI ns).Nodup := List.nodup_cons.mpr ⟨fun z => h ((mem_dedupI c ns).mp z), nodup_dedupI ns⟩
    exact (same_count (nodup_dedupI _) this fun k => by simp only [mem_dedupI, List.mem_append, List.mem_cons, List.not_mem_nil, or_false]; exact Or.comm).length_eq
theorem dedupI_le : ∀ ns : List Int, (dedupI ns).length ≤ ns.length
  | [] => Nat.le_refl _
  | n :: r => by
    have := dedupI_le r
    unfold dedupI
    split <;> simp <;> omega
theorem asInts_len : ∀ {ds : List D} {ns : List Int}, asInts ds = some ns → ns.length = ds.length := fun h => by rw [asInts_eq h, List.length_map]
theorem built_set (w : World) : Built roomI (hotI w) (fun a => SetO w a (fun _ => false) 0) (stepI w) where
  init K G H own p o h := ⟨p, rfl, o, by
    have e : (fun j : Int => decide (j ∈ ([] : List Int))) = fun _ => false := by funext j; simp
    rw [h]
    show _ = some (SetO w p (fun j => decide (j ∈ ([] : List Int))) 0)
    rw [e]⟩
  step C G ow σ H env Dd acc v y Nx S ry room k := by
    cases v with
    | int c =>
      cases ry
      simp only [roomI, Bool.and_eq_true, decide_eq_true_eq] at room
      obtain ⟨ns, hn⟩ := Option.isSome_iff_exists.mp room.2
      have e1 : hotI w acc = .raw fun a => SetO w a (fun j => decide (j ∈ ns)) (dedupI ns).length := by unfold hotI; rw [hn]
      have e2 : hotI w (acc ++ [.int c]) = .raw fun a => SetO w a (fun j => decide (j ∈ ns ++ [c])) (dedupI (ns ++ [c])).length := by unfold hotI; rw [asInts_app c hn]
      rw [e1] at S
      rw [e2] at k
      obtain ⟨x, ex, b, eb, ob, hb⟩ := S.top
      cases ex; cases eb
      have fewer := dedupI_le ns
      have hl := asInts_len hn
      refine ⟨c, _, _, rfl, hb, by unfold scanBound; omega, ?_⟩
      have S2 := S.mutTopR (f' := fun a => SetO w a (fun j => decide (j ∈ ns ++ [c])) (dedupI (ns ++ [c])).length)
      have q := k _ S2
      have e3 : (fun j : Int => decide (j ∈ ns ++ [c])) = fun j => decide (j ∈ ns) || decide (j = c) := by funext j; simp
      rw [dedupI_app, e3] at q
      simpa using q
    | _ => cases room
def usort (ns : List Int) : List Int := sortI (dedupI ns)
theorem usort_lt (ns : List Int) : (usort ns).Pairwise (· < ·) := by
  have h1 := sortI_le (dedupI ns)
  have h2 : (usort ns).Nodup := (sortI_perm _).nodup_iff.mpr (nodup_dedupI ns)
  exact List.Pairwise.imp₂ (fun a b h n => by omega) h1 h2
theorem mem_usort (ns : List Int) (k : Int) : k ∈ usort ns ↔ k ∈ ns := ((sortI_perm _).mem_iff).trans (mem_dedupI k ns)
theorem usort_is {ns ms : List Int} (h : ms.Pairwise (· < ·)) (m : ∀ k, k ∈ ms ↔ k ∈ ns) : ms = usort ns :=
  sorted_one (same_count (h.imp fun h => by omega) ((usort_lt ns).imp fun h => by omega) fun k => (m k).trans (mem_usort ns k).symm) (h.imp Int.le_of_lt) ((usort_lt ns).imp Int.le_of_lt)
def eSortSc (s : ExS) (T : Tg) (t : ExB) (f : Ex) (own : List Nat) : Ex := fun env => (s env).bind fun src e =>
  if ownOk own e = true ∧ T.slots.all (fun i => own.contains i) = true then (lcL roomI T t f own src.items [] (wipeE own e)).bind fun acc e1 => if ownOk own e1 = true then (match asInts acc with
    | some ns => if ns.length < 64 then .ok (.hot (.lst ((usort ns).map .int))) (unlk src.un (backE own e e1)) else .no
    | none => .no) else .no else .no
section
variable {X : Cx} {elt tg iter : Expr} {ifs : List Expr} {scope : Scope} {own : List (Str × Nat)} {pos p q : Pos} {s : ExS} {T : Tg} {t : ExB} {f : Ex} {x : Str}
theorem qe_sortSc (nm : BName X x (.builtin "sorted")) (hc : X.calm = true) (hN : X.N.Nodup) (hi : QI X tg iter s) (ok : BlkOk X.N X.env.scope scope own)
    (hg : ∀ (s : Shared) (H : Hp) (cl : List (Str × Addr)) (C : Addr) (fp : List Addr), PG (X.blk s H scope (compEnvC scope cl C X.env) fp) tg (T.g X.K)) (ht : ∀ (s : Shared) (H : Hp) (cl : List (Str × Addr)) (C : Addr) (fp : List Addr), QTs (X.blk s H scope (compEnvC scope cl C X.env) fp) ifs t)
    (he : ∀ (s : Shared) (H : Hp) (cl : List (Str × Addr)) (C : Addr) (fp : List Addr), QE (X.blk s H scope (compEnvC scope cl C X.env) fp) elt f) (hf : ∀ x, foldedSetIterable iter X.env x = pure x) (ns : NoStar X (.SetComp elt [⟨tg, iter, ifs, 0⟩] scope pos) [] q) :
    QE X (.Call (.Name x p) [.SetComp elt [⟨tg, iter, ifs, 0⟩] scope pos] [] q) (eSortSc s T t f (own.map (·.2))) :=
  (pe_callB (cr_sortedSet hc) nm.gl nm.own nm.boot (pa_cons (pe_setComp (tt := rdB X.K t) (te := rd X.K (cold f)) (setsI X.prog X.w) hc hN hi ok hg ht (fun s H cl C fp => QE.cold (he s H cl C fp)) hf) pa_nil ns.1) nm.nn nm.nd ns.1 ns.2).imp fun σ H Q ⟨C, env, r', env', hK, S, ef, k⟩ => by
    obtain ⟨src, e, q1, ef⟩ := Res.bind_ok ef
    split at ef
    case isFalse => cases ef
    rename_i hok
    obtain ⟨acc, e1, q2, ef⟩ := Res.bind_ok ef
    split at ef
    case isFalse => cases ef
    rename_i hok1
    split at ef
    case h_2 => cases ef
    rename_i zs hn
    split at ef
    case isFalse => cases ef
    rename_i few
    cases ef
    show tLcG _ _ (rdI X.K s) (T.g X.K) (rdB X.K t) (rd X.K (cold f)) (own.map (·.2)) σ H (fun x H1 => rSortedSet X.w [x] H1 Q)
    refine rd_lcG (built_set X.w) ⟨C, env, .hot (hotI X.w acc), unlk src.un (backE (own.map (·.2)) e e1), hK, S, ?_, fun v H1 S1 _ => ?_⟩
    · unfold eLcG
      rw [q1]
      simp only [Res.bind]
      rw [if_pos hok, q2]
      simp only
      rw [if_pos hok1]
    · have e1 : hotI X.w acc = .raw fun a => SetO X.w a (fun j => decide (j ∈ zs)) (dedupI zs).length := by unfold hotI; rw [hn]
      rw [e1] at S1
      obtain ⟨G, ow, S2⟩ := S1
      obtain ⟨y, ey, b, eb, ob, hb⟩ := St1.top (C := C) S2
      cases ey; cases eb
      have fewer := dedupI_le zs
      refine ⟨b, _, _, rfl, hb, by omega, fun ms p hlt hm _ hp => ?_⟩
      have e2 : ms = usort zs := usort_is hlt fun k => by rw [hm k]; simp
      subst e2
      exact Fin.lst k (St1.drop (C := C) S2) (RpAll.of_ints _) hp
end
end Q
set_option Elab.async false
set_option linter.all false
set_option maxRecDepth 100000
set_option maxHeartbeats 1000000
/-! what the printed derivations lean on -/
namespace Q
open PySem PySem.Spec PyProof.Rows L2

/-- a name as an argument: its own object, or its data -/
def eArg (i : Nat) : Ex := fun env => match env[i]? with
  | some (.val d) => .ok (.cold d) env
  | some (.hot _ _) => .ok (.slot i) env
  | _ => .no
section
variable {X : Cx} {pos p : Pos}
theorem qe_arg (i : Nat) {x : Str} (hN : X.N[i]? = some x := by rfl) (hv : Vis X.env.scope x := by first | exact Or.inl rfl | exact Or.inr (Or.inl rfl) | exact Or.inr (Or.inr rfl)) (hd : (x == ("__debug__" : Str)) = false := by decide)
    (hcd : (x == ("__classdict__" : Str)) = false := by decide) : QE X (.Name x pos) (eArg i) := (qe_var i hN hv hd hcd).imp fun σ H Q ⟨C, env, r, env', hK, S, ef, k⟩ => by
  simp only [eArg] at ef
  split at ef
  · rename_i d hs
    cases ef
    refine ⟨C, env, .slot i, env, hK, S, by simp only [eVar, hs], fun v H' S' ok => ?_⟩
    obtain ⟨G, ow, S1⟩ := id S'
    exact k v H' ⟨G, ow, St1.pushVal (C := C) S1 (RvOk.top (C := C) S1 ok hs)⟩ trivial
  · rename_i m h hs
    cases ef
    exact ⟨C, env, .slot i, env, hK, S, by simp only [eVar, hs], k⟩
  · cases ef
/-- a def that is to be called -/
structure Cal (P : Program) (w : World) (K : PySem.W.Frag) (mg : Str → Option Value) (base : Heap) (x : Str) (lev : Nat) (F : FnS) : Prop where
  ex : ∃ (f : Addr) (fd : FuncData) (ps : List Str), FnOk P w K mg base CX0 lev f fd ps (spQ K F) ∧ mg x = some (.ref f) ∧ PySem.W.keepIn K (.ref f) = true ∧ Binds K fd ps []
theorem qe_callF {x : Str} {e : Expr} {es : List Expr} {lev k : Nat} {F : FnS} {g : ExL} (c : Cal X.prog X.w X.K X.mg X.base x lev F) (hr : Room k X.A) (hl : lev ≤ k) (hg : Gl X x) (ha : QA X (e :: es) g) (hdb : (x == ("__debug__" : Str)) = false) (ns : NoStar X e es pos) :
    QE X (.Call (.Name x p) (e :: es) [] pos) (callE F g) := by
  obtain ⟨f, fd, ps, h1, h2, h3, h4⟩ := c.ex
  exact qe_call h1 (hr.mono hl) hg h2 h3 h4 ha hdb ns.1 ns.2
end
theorem Room.u65 {k : Nat} {A : Around} (r : Room k A) : A.units + 65 < cLine := by have := r.un; omega
theorem Room.u64 {k : Nat} {A : Around} (r : Room k A) : A.units + 64 < cLine := by have := r.un; omega
theorem Room.u1 {k : Nat} {A : Around} (r : Room k A) : A.units + 1 < cLine := by have := r.un; omega
/-- the law's promise from its pure function -/
theorem law_sp {K : PySem.W.Frag} {F : FnS} {H : Hp} {a : Addr} {ns : List Int} {E : XK} (hS : SqL K H a (ns.map V.int)) (h : ∃ as, F [.val (.dict [(.none, .list (ns.map .int))])] = some (.val (.bool true), as)) : spQ K F [.ref a] H (fun v _ => v = .bl true) E := by
  obtain ⟨as, h⟩ := h
  refine ⟨H, fun _ => none, _, _, as, ⟨rfl, fun i => ?_, nofun, Sub.refl, fun i m q hq => ?_⟩, h, fun v G' ow' H' X => ?_⟩
  · cases i with
    | zero => exact ⟨_, rfl, .scr hS (RpAll.of_ints ns)⟩
    | succ i => simp [SlR]
  · cases i with
    | zero => cases hq
    | succ i => simp at hq
  · obtain ⟨x, e, r⟩ := X.res
    cases e
    cases r
    rfl
theorem m_append : Meth "list" "append" "list.append" := ⟨PySem.F.plainAttrs_list, PySem.F.slot_list_append, PySem.F.type_list_append⟩
theorem m_pop : Meth "list" "pop" "list.pop" := ⟨PySem.F.plainAttrs_list, PySem.F.slot_list_pop, PySem.F.type_list_pop⟩
theorem m_index : Meth "list" "index" "list.index" := ⟨PySem.F.plainAttrs_list, PySem.F.slot_list_index, PySem.F.type_list_index⟩
theorem m_lcount : Meth "list" "count" "list.count" := ⟨PySem.F.plainAttrs_list, PySem.F.slot_list_count, PySem.F.type_list_count⟩
theorem m_tcount : Meth "tuple" "count" "tuple.count" := ⟨PySem.F.plainAttrs_tuple, PySem.F.slot_tuple_count, PySem.F.type_tuple_count⟩
theorem m_get : Meth "dict" "get" "dict.get" := ⟨PySem.F.plainAttrs_dict, PySem.F.slot_dict_get, PySem.F.type_dict_get⟩
end Q
set_option Elab.async false
set_option linter.all false
set_option maxRecDepth 100000
set_option maxHeartbeats 1000000
/-! pure functions read: loops, comprehensions, numbers -/
namespace Q
open PySem

/-- a loop that never leaves: an invariant carried through -/
theorem forL_inv {T : Tg} {body : Sm} (Inv : Nat → Sto → Prop) : ∀ {items : List D} {k : Nat} {e : Sto}, Inv k e →
    (∀ i d e, items[i]? = some d → Inv (k + i) e → ∃ e1 o e2, T.asg d e = some e1 ∧ body e1 = .ok o e2 ∧ (o = .nx ∨ o = .ct) ∧ Inv (k + i + 1) e2) → ∃ e', forL T body items e = .ok .nx e' ∧ Inv (k + items.length) e'
  | [], k, e, h, _ => ⟨e, rfl, h⟩
  | d :: ds, k, e, h, st => by
    obtain ⟨e1, o, e2, h1, h2, ho, h3⟩ := st 0 d e rfl h
    obtain ⟨e', q1, q2⟩ := forL_inv Inv (items := ds) (k := k + 1) (e := e2) (by simpa using h3) fun i d e hd hi => by
      have := st (i + 1) d e (by simpa using hd) (by rw [show k + (i + 1) = k + 1 + i by omega]; exact hi)
      rw [show k + (i + 1) + 1 = k + 1 + i + 1 by omega] at this
      exact this
    refine ⟨e', ?_, by rw [List.length_cons, show k + (ds.length + 1) = k + 1 + ds.length by omega]; exact q2⟩
    simp only [forL, h1, h2, Res.bind]
    rcases ho with rfl | rfl <;> exact q1
/-- a comprehension whose parts change nothing -/
theorem lcL_pure {room : List D → D → Bool} {T : Tg} {t : ExB} {f : Ex} {own : List Nat} {e0 : Sto} (c : D → Bool) (v : D → D) : ∀ {items acc : List D},
    (∀ d ∈ items, ∃ e1 e2, T.asg d e0 = some e1 ∧ t e1 = .ok (c d) e2 ∧ if c d = true then ∃ e3, cold f e2 = .ok (.cold (v d)) e3 ∧ ownOk own e3 = true ∧ wipeE own e3 = e0 else ownOk own e2 = true ∧ wipeE own e2 = e0) →
    (∀ a d, d ∈ items → a.length < acc.length + items.length → (∃ m, a = acc ++ m.map v ∧ m ⊆ items) → room a (v d) = true) → lcL room T t f own items acc e0 = .ok (acc ++ (items.filter c).map v) e0
  | [], acc, _, _ => by simp [lcL]
  | d :: ds, acc, h, hr => by
    obtain ⟨e1, e2, h1, h2, h3⟩ := h d (by simp)
    have hds := fun d hd => h d (List.mem_cons_of_mem _ hd)
    simp only [lcL, h1, h2, Res.bind]
    cases hc : c d with
    | false =>
      simp only [hc, Bool.false_eq_true, if_false] at h3 ⊢
      rw [if_pos h3.1, h3.2, lcL_pure c v hds (fun a x hx hl ⟨m, e, hm⟩ => hr a x (List.mem_cons_of_mem _ hx) (by simp; omega) ⟨m, e, fun y hy => List.mem_cons_of_mem _ (hm hy)⟩)]
      simp [hc]
    | true =>
      simp only [hc, if_true] at h3 ⊢
      obtain ⟨e3, h4, h5, h6⟩ := h3
      simp only [h4, Res.bind]
      rw [if_pos (hr acc d (by simp) (by simp) ⟨[], by simp, by simp⟩), if_pos h5, h6, lcL_pure c v hds (fun a x hx hl ⟨m, e, hm⟩ => hr a x (List.mem_cons_of_mem _ hx) (by simp at hl ⊢; omega) ⟨d :: m, by simp [e], fun y hy => by
        rcases List.mem_cons.mp hy with z | z
        · rw [z]; simp
        · exact List.mem_cons_of_mem _ (hm z)⟩)]
      simp [hc]
theorem roomL_ok {a : List D} {d : D} (h : a.length < 100000) : roomL a d = true := decide_eq_true (by rw [sizeLine_eq]; omega)
theorem enumD_at (ds : List D) (i : Nat) : (enumD ds)[i]? = (ds[i]?).map fun d => .tuple [.int (i : Nat), d] := by
  unfold enumD
  rw [List.getElem?_map, List.getElem?_zipIdx]
  cases ds[i]? <;> simp
theorem rngD_at (lo : Int) (n i : Nat) : (rngD lo n)[i]? = if i < n then some (.int (lo + (i : Nat))) else none := by
  unfold rngD
  rw [List.getElem?_map]
  by_cases h : i < n
  · rw [if_pos h, List.getElem?_range h]; rfl
  · rw [List.getElem?_eq_none (by simpa using h), if_neg h]; rfl
theorem rngD_len (lo : Int) (n : Nat) : (rngD lo n).length = n := by simp [rngD]
theorem shaped_int (i : Int) : SeqAt.shaped (.int i) = true := rfl
theorem lay_ints : ∀ xs : List Int, PyData.canLayAll0 (xs.map .int) = true
  | [] => rfl
  | x :: xs => by rw [List.map_cons, PyData.canLayAll0, lay_ints xs]; rfl
theorem depth_ints : ∀ ns : List Int, PyData.depthAll (ns.map .int) = 0
  | [] => rfl
  | x :: xs => by rw [List.map_cons, PyData.depthAll, depth_ints xs]; rfl
theorem shaped_list (xs : List Int) : SeqAt.shaped (.list (xs.map .int)) = true := by
  unfold SeqAt.shaped
  rw [PyData.canLay0, lay_ints, PyData.depth, depth_ints]; rfl
theorem shaped_tuple (xs : List Int) : SeqAt.shaped (.tuple (xs.map .int)) = true := by
  unfold SeqAt.shaped
  rw [PyData.canLay0, lay_ints, PyData.depth, depth_ints]; rfl
theorem asInts_map : ∀ xs : List Int, asInts (xs.map .int) = some xs
  | [] => rfl
  | x :: xs => by rw [List.map_cons, asInts, asInts_map xs]; rfl
theorem asBls_map : ∀ xs : List Bool, asBls (xs.map .bool) = some xs
  | [] => rfl
  | x :: xs => by rw [List.map_cons, asBls, asBls_map xs]; rfl
theorem eqv_int (i j : Int) : PyData.eqv (.int i) (.int j) = decide (i = j) := by
  simp only [PyData.eqv]
  by_cases h : i = j <;> simp [h]
theorem any_eq (xs : List Int) (x : Int) : (xs.map PyData.int).any (fun z => PyData.eqv z (.int x)) = decide (x ∈ xs) := by
  induction xs with
  | nil => rfl
  | cons y ys ih =>
    rw [List.map_cons, List.any_cons, ih, eqv_int]
    by_cases h : y = x
    · simp [h]
    · have : ¬ x = y := fun e => h e.symm
      simp [h, this]
theorem eqv_list (xs ys : List Int) : PyData.eqv (.list (xs.map .int)) (.list (ys.map .int)) = decide (xs = ys) := by
  have go : ∀ xs ys : List Int, PyData.eqvAll (xs.map .int) (ys.map .int) = decide (xs = ys) := by
    intro xs
    induction xs with
    | nil => intro ys; cases ys <;> simp [PyData.eqvAll]
    | cons x xs ih => intro ys; cases ys with
      | nil => simp [PyData.eqvAll]
      | cons y ys => simp [PyData.eqvAll, eqv_int, ih]
  simp [PyData.eqv, go]
theorem atI_ints (xs : List Int) (i : Nat) (h : i < xs.length) : L2.atI (xs.map PyData.int) (i : Int) = some (.int xs[i]) := by
  unfold L2.atI L2.ixN
  simp [h]
end Q
namespace Q
theorem seq_nx {f g : Sm} {env e : Sto} (h : f env = .ok .nx e) : sSeq f g env = g e := by simp [sSeq, h, Res.bind]
theorem seq_rt {f g : Sm} {env e : Sto} {r : Rv} (h : f env = .ok (.rt r) e) : sSeq f g env = .ok (.rt r) e := by simp [sSeq, h, Res.bind]
theorem for_nx {f : ExS} {T : Tg} {body : Sm} {env e e' : Sto} {src : Src} (h : f env = .ok src e) (k : forL T body src.items e = .ok .nx e') : sFor f T body env = .ok .nx (unlk src.un e') := by simp [sFor, h, k, Res.bind]
theorem def_rt {n N : Nat} {g : Sm} {args : List Sl} {r : Rv} {e : Sto} {s : Sl} (hn : args.length = n ∧ n ≤ N) (h : g (args ++ List.replicate (N - n) .un) = .ok (.rt r) e) (hl : n ≤ e.length) (hs : r.sl = some s) : defF n N g args = some (s, finA args e) := by
  simp [defF, hn.1, hn.2, h, hl, resS, hs]
theorem lc_ok {room : List D → D → Bool} {hot : List D → Hot} {s : ExS} {T : Tg} {t : ExB} {f : Ex} {own : List Nat} {env e e1 : Sto} {src : Src} {acc : List D} (h : s env = .ok src e) (h1 : ownOk own e = true) (h2 : T.slots.all (fun i => own.contains i) = true)
    (h3 : lcL room T t f own src.items [] (wipeE own e) = .ok acc e1) (h4 : ownOk own e1 = true) : eLcG room hot s T t f own env = .ok (.hot (hot acc)) (unlk src.un (backE own e e1)) := by
  simp only [eLcG, h, Res.bind]
  rw [if_pos ⟨h1, h2⟩, h3]
  simp only
  rw [if_pos h4]
end Q
namespace Q
open PySem
theorem filter_all (l : List D) : l.filter (fun _ => true) = l := List.filter_eq_self.mpr (by simp)
theorem lc_map {s : ExS} {T : Tg} {f : Ex} {own : List Nat} {env e e' : Sto} {items : List D} {un : Option (Nat × Bool)} (v : D → D) (h : s env = .ok ⟨items, un⟩ e) (h1 : ownOk own e = true) (h2 : T.slots.all (fun i => own.contains i) = true) (hl : items.length ≤ 1000)
    (he : unlk un (backE own e (wipeE own e)) = e') (hw : ownOk own (wipeE own e) = true)
    (step : ∀ d ∈ items, ∃ e1 e3, T.asg d (wipeE own e) = some e1 ∧ cold f e1 = .ok (.cold (v d)) e3 ∧ ownOk own e3 = true ∧ wipeE own e3 = wipeE own e) : eLc s T tTrue f own env = .ok (.hot (.lst (items.map v))) e' := by
  have := lc_ok (room := roomL) (hot := .lst) (t := tTrue) (f := f) h h1 h2 (lcL_pure (acc := []) (fun _ => true) v (fun d hd => by
    obtain ⟨e1, e3, q1, q2, q3, q4⟩ := step d hd
    exact ⟨e1, e1, q1, rfl, by rw [if_pos rfl]; exact ⟨e3, q2, q3, q4⟩⟩) fun a d hd ha _ => roomL_ok (by simp at ha; omega)) hw
  rw [he] at this
  simpa [filter_all] using this
theorem lc_filter {s : ExS} {T : Tg} {t : ExB} {f : Ex} {own : List Nat} {env e e' : Sto} {items : List D} {un : Option (Nat × Bool)} (c : D → Bool) (v : D → D) (h : s env = .ok ⟨items, un⟩ e) (h1 : ownOk own e = true) (h2 : T.slots.all (fun i => own.contains i) = true) (hl : items.length ≤ 1000)
    (he : unlk un (backE own e (wipeE own e)) = e') (hw : ownOk own (wipeE own e) = true)
    (step : ∀ d ∈ items, ∃ e1 e2 e3, T.asg d (wipeE own e) = some e1 ∧ t e1 = .ok (c d) e2 ∧ (c d = true → cold f e2 = .ok (.cold (v d)) e3) ∧ (c d = false → e3 = e2) ∧ ownOk own e3 = true ∧ wipeE own e3 = wipeE own e) : eLc s T t f own env = .ok (.hot (.lst ((items.filter c).map v))) e' := by
  have := lc_ok (room := roomL) (hot := .lst) (t := t) (f := f) h h1 h2 (lcL_pure (acc := []) c v (fun d hd => by
    obtain ⟨e1, e2, e3, q1, q2, q3, q4, q5, q6⟩ := step d hd
    refine ⟨e1, e2, q1, q2, ?_⟩
    cases hc : c d with
    | true => simp only [if_true]; exact ⟨e3, q3 hc, q5, q6⟩
    | false =>
      have := q4 hc
      subst this
      simp only [Bool.false_eq_true, if_false]; exact ⟨q5, q6⟩) fun a d hd ha _ => roomL_ok (by simp at ha; omega)) hw
  rw [he] at this
  simpa using this
theorem eB1 {h : List D → Option Rv} {f : Ex} {env e : Sto} {r r' : Rv} {d : D} (hf : f env = .ok r e) (hv : viewC r e = some d) (hh : h [d] = some r') : eB h (aCons f aNil) env = .ok r' e := by
  simp [eB, aCons, aNil, hf, Res.bind, viewsC, hv, hh, fin1]
theorem ret_of {f : Ex} {env e e' : Sto} {r r' : Rv} (hf : f env = .ok r e) (hr : toRet r e = .ok r' e') : sRet f env = .ok (.rt r') e' := by
  simp [sRet, hf, Res.bind, hr]
theorem set_of {f : Ex} {i : Nat} {env e e1 e' : Sto} {r r1 : Rv} (hf : f env = .ok r e) (ho : toOwn r e = .ok r1 e1) (hp : put i r1 e1 = some e') : sSet i f env = .ok .nx e' := by
  simp [sSet, own, hf, Res.bind, ho, putS, hp]
end Q
namespace Q
open PySem
/-- by the number -/
def onI (g : Int → D) : D → D
  | .int i => g i
  | d => d
theorem map_onI (g : Int → D) (xs : List Int) : (xs.map PyData.int).map (onI g) = xs.map g := by
  rw [List.map_map]; rfl
theorem rngD0 (n : Nat) : rngD 0 n = ((List.range n).map fun k => ((k : Nat) : Int)).map .int := by
  simp [rngD]
end Q
namespace Q
open PySem
theorem cap_le {n : Nat} (h : n ≤ 10000) : cap n := by
  show n ≤ sizeLine
  rw [sizeLine_eq]
  exact Nat.le_trans h (by decide)
theorem mul_list {xs : List D} {n : Nat} (h : xs.length * n ≤ 10000) (hn : n ≤ 10000) : hMul (.list xs) (.int (n : Nat)) = some (.hot (.lst (List.replicate n xs).flatten)) := by
  have c : -(2 ^ 63) ≤ (n : Int) ∧ (n : Int) < 2 ^ 63 ∧ cap (xs.length * (n : Int).toNat) := ⟨by omega, by omega, cap_le (by rw [Int.toNat_natCast]; exact h)⟩
  show hRepL (.list xs) (.int (n : Nat)) = _
  simp only [hRepL]
  rw [if_pos c, Int.toNat_natCast]
end Q
namespace Q
theorem bin_ok {g : Rv → Rv → Sto → Res Rv} {fa fb : Ex} {env e1 e2 e3 : Sto} {ra rb r : Rv} (ha : fa env = .ok ra e1) (hb : fb e1 = .ok rb e2) (hg : g ra rb e2 = .ok r e3) : bin g fa fb env = .ok r e3 := by
  unfold bin
  rw [ha]
  show (fb e1).bind _ = _
  rw [hb]
  exact hg
theorem dat2_ok {h : D → D → Option Rv} {ra rb r : Rv} {e : Sto} {a b : D} (ha : viewC ra e = some a) (hb : viewC rb e = some b) (hh : h a b = some r) : dat2 h ra rb e = .ok r e := by
  unfold dat2
  rw [ha, hb]
  show fin1 (h a b) e = _
  rw [hh]; rfl
theorem par3_ok {f g h : Ex} {i j k : Nat} {env e1 e2 e3 e4 : Sto} {r1 r2 r3 : Rv} (h1 : own f env = .ok r1 e1) (h2 : own g e1 = .ok r2 e2) (h3 : own h e2 = .ok r3 e3) (hp : putAll [i, j, k] [r1, r2, r3] e3 = some e4) : sPar [i, j, k] (aCons (own f) (aCons (own g) (aCons (own h) aNil))) env = .ok .nx e4 := by
  simp only [sPar, aCons, aNil, h1, h2, h3, Res.bind, hp]
theorem own_hot {f : Ex} {env e : Sto} {h : Hot} (hf : f env = .ok (.hot h) e) : own f env = .ok (.hot h) e := by
  simp only [own, hf, Res.bind, toOwn]
theorem own_cold {f : Ex} {env e : Sto} {d : D} (hf : f env = .ok (.cold d) e) : own f env = .ok (.cold d) e := by
  simp only [own, hf, Res.bind, toOwn]
end Q
namespace Q
theorem add_list {xs ys : List D} (h : xs.length + ys.length ≤ 10000) : hAdd (.list xs) (.list ys) = some (.hot (.lst (xs ++ ys))) := by
  have c : cap (xs.length + ys.length) := cap_le h
  show (if cap (xs.length + ys.length) then some (Rv.hot (.lst (xs ++ ys))) else none) = _
  rw [if_pos c]
theorem lst1 {f : Ex} {env e : Sto} {d : D} (hf : cold f env = .ok (.cold d) e) : eLst (aCons (cold f) aNil) env = .ok (.hot (.lst [d])) e := by
  have c1 : cap [d].length := cap_le (by simp)
  simp only [eLst, aCons, aNil, hf, Res.bind, colds, Option.map, Option.bind]
  rw [if_pos c1]
  rfl
end Q
namespace Q
theorem rng2_ok {env e e' : Sto} {f g : Ex} {ra rb : Rv} {i j : Int} (a1 : f env = .ok ra e) (a2 : g e = .ok rb e') (v1 : viewC ra e' = some (.int i)) (v2 : viewC rb e' = some (.int j)) (r1 : rngOk i) (r2 : rngOk j) : iRng2 f g env = .ok ⟨rngD i (j - i).toNat, none⟩ e' := by
  simp only [iRng2, a1, a2, Res.bind, intOf, v1, v2]
  rw [if_pos ⟨r1, r2⟩]
theorem rng1_ok {env e : Sto} {f : Ex} {ra : Rv} {j : Int} (a1 : f env = .ok ra e) (v1 : viewC ra e = some (.int j)) (r1 : rngOk j) : iRng1 f env = .ok ⟨rngD 0 j.toNat, none⟩ e := by
  simp only [iRng1, a1, Res.bind, intOf, v1]
  rw [if_pos r1]
end Q
set_option Elab.async false
set_option linter.all false
set_option maxRecDepth 100000
set_option maxHeartbeats 1000000
/-! pure functions read backwards: what must hold so that a run ends well -/
namespace Q
open PySem
def wp {α : Type} (x : Res α) (Q : α → Sto → Prop) : Prop := ∃ a e, x = .ok a e ∧ Q a e
def wo {α : Type} (o : Option α) (Q : α → Prop) : Prop := ∃ a, o = some a ∧ Q a
def wset (e : Sto) (i : Nat) (s : Sl) (k : Sto → Prop) : Prop := k (e.set i s)
section
variable {α β : Type} {x y : Res α} {o : Option α} {Q : α → Sto → Prop} {P : α → Prop}
theorem wp_congr {x' : Res α} (h : x = x') : wp x Q = wp x' Q := by rw [h]
theorem wo_congr {o' : Option α} (h : o = o') : wo o P = wo o' P := by rw [h]
theorem wp_ok {a : α} {e : Sto} : wp (.ok a e) Q ↔ Q a e := ⟨fun ⟨_, _, h, q⟩ => (by cases h; exact q), fun q => ⟨_, _, rfl, q⟩⟩
theorem wp_no : wp .no Q ↔ False := ⟨fun ⟨_, _, h, _⟩ => (by cases h), False.elim⟩
theorem wp_bind {f : β → Sto → Res α} {z : Res β} : wp (z.bind f) Q ↔ wp z fun b e => wp (f b e) Q := by
  cases z with
  | ok b e => exact ⟨fun h => ⟨b, e, rfl, h⟩, fun ⟨_, _, h, q⟩ => (by cases h; exact q)⟩
  | no => exact ⟨fun ⟨_, _, h, _⟩ => (by cases h), fun ⟨_, _, h, _⟩ => (by cases h)⟩
theorem wp_ite {c : Prop} [Decidable c] : wp (if c then x else y) Q ↔ (c → wp x Q) ∧ (¬ c → wp y Q) := by
  by_cases h : c
  · rw [if_pos h]; exact ⟨fun q => ⟨fun _ => q, fun n => absurd h n⟩, fun q => q.1 h⟩
  · rw [if_neg h]; exact ⟨fun q => ⟨fun n => absurd n h, fun _ => q⟩, fun q => q.2 h⟩
theorem wp_imp {Q' : α → Sto → Prop} (h : wp x Q) (i : ∀ a e, Q a e → Q' a e) : wp x Q' := h.imp fun a h => h.imp fun e h => ⟨h.1, i _ _ h.2⟩
theorem wo_some {a : α} : wo (some a) P ↔ P a := ⟨fun ⟨_, h, q⟩ => (by cases h; exact q), fun q => ⟨_, rfl, q⟩⟩
theorem wo_none : wo none P ↔ False := ⟨fun ⟨_, h, _⟩ => (by cases h), False.elim⟩
theorem wo_imp {P' : α → Prop} (h : wo o P) (i : ∀ a, P a → P' a) : wo o P' := h.imp fun a h => ⟨h.1, i _ h.2⟩
theorem wo_of {a : α} (h : o = some a) (q : P a) : wo o P := ⟨a, h, q⟩
theorem wo_bind {p : Option β} {f : β → Option α} : wo (p.bind f) P ↔ wo p fun b => wo (f b) P := by
  cases p with
  | some b => exact ⟨fun h => ⟨b, rfl, h⟩, fun ⟨_, h, q⟩ => (by cases h; exact q)⟩
  | none => exact ⟨fun ⟨_, h, _⟩ => (by cases h), fun ⟨_, h, _⟩ => (by cases h)⟩
theorem wo_map {p : Option β} {f : β → α} : wo (p.map f) P ↔ wo p fun b => P (f b) := by
  cases p with
  | some b => exact ⟨fun ⟨_, h, q⟩ => ⟨b, rfl, (by cases h; exact q)⟩, fun ⟨_, h, q⟩ => (by cases h; exact ⟨_, rfl, q⟩)⟩
  | none => exact ⟨fun ⟨_, h, _⟩ => (by cases h), fun ⟨_, h, _⟩ => (by cases h)⟩
theorem wo_if {c : Prop} [Decidable c] : wo (if c then o else none) P ↔ c ∧ wo o P := by
  by_cases h : c
  · rw [if_pos h]; exact ⟨fun q => ⟨h, q⟩, fun q => q.2⟩
  · rw [if_neg h]; exact ⟨fun ⟨_, h, _⟩ => (by cases h), fun q => absurd q.1 h⟩
theorem wo_at0 {s : Sl} {l : Sto} {K : Sl → Prop} : wo (s :: l)[0]? K ↔ K s := wo_some
theorem wo_atS {s : Sl} {l : Sto} {n : Nat} {K : Sl → Prop} : wo (s :: l)[n + 1]? K ↔ wo l[n]? K := by rw [List.getElem?_cons_succ]
theorem wset_0 {a s : Sl} {l : Sto} {k : Sto → Prop} : wset (a :: l) 0 s k ↔ k (s :: l) := Iff.rfl
theorem wset_S {a s : Sl} {l : Sto} {n : Nat} {k : Sto → Prop} : wset (a :: l) (n + 1) s k ↔ wset l n s fun l' => k (a :: l') := Iff.rfl
end
section
variable {Q : Rv → Sto → Prop} {QL : List Rv → Sto → Prop} {QB : Bool → Sto → Prop} {QO : Out → Sto → Prop} {QS : Src → Sto → Prop} {QI : Option Int → Sto → Prop} {K : D → Prop} {R : Rv → Prop} {env e : Sto} {i : Nat} {f g : Ex} {gl : ExL} {t t2 : ExB} {s s2 : Sm} {d : D} {h : Hot}
theorem wp_fin1 {o : Option Rv} : wp (fin1 o e) Q ↔ wo o fun r => Q r e := by cases o <;> simp [fin1, wp_ok, wp_no, wo_some, wo_none]
def bnd : Sl → Prop
  | .un => False
  | _ => True
theorem bnd_val : bnd (.val d) ↔ True := Iff.rfl
theorem bnd_hot {m : Md} : bnd (.hot m h) ↔ True := Iff.rfl
theorem wp_eVar : wp (eVar i env) Q ↔ wo env[i]? fun s => bnd s ∧ Q (.slot i) env := by
  unfold eVar
  cases h : env[i]? with
  | none => simp [wp_no, wo_none]
  | some s => cases s <;> simp [wp_no, wp_ok, wo_some, bnd]
/-- what a slot gives as an argument -/
def asArg (i : Nat) : Sl → Option Rv
  | .val d => some (.cold d)
  | .hot _ _ => some (.slot i)
  | .un => none
theorem asArg_val : wo (asArg i (.val d)) R ↔ R (.cold d) := wo_some
theorem asArg_hot {m : Md} : wo (asArg i (.hot m h)) R ↔ R (.slot i) := wo_some
theorem wp_eArg : wp (eArg i env) Q ↔ wo env[i]? fun s => wo (asArg i s) fun r => Q r env := by
  unfold eArg
  cases h : env[i]? with
  | none => simp [wp_no, wo_none]
  | some s => cases s <;> simp [wp_no, wp_ok, wo_some, asArg, wo_none]
theorem wp_eC : wp (eC d env) Q ↔ Q (.cold d) env := wp_ok
theorem wp_cold : wp (cold f env) Q ↔ wp (f env) fun r e => wp (toCold r e) Q := wp_bind
theorem wp_toCold_c : wp (toCold (.cold d) e) Q ↔ Q (.cold d) e := wp_ok
theorem wp_toCold_h : wp (toCold (.hot h) e) Q ↔ wo h.data fun d => Q (.cold d) e := by
  unfold toCold
  simp only
  generalize h.data = o
  cases o <;> simp [wp_ok, wp_no, wo_some, wo_none]
/-- a slot's content given to all -/
def chill (e : Sto) (i : Nat) (Q : Rv → Sto → Prop) : Sl → Prop
  | .val d => Q (.cold d) e
  | .hot m h => m.pin = false ∧ m.lk = false ∧ wo h.data fun d => wset e i (.val d) fun e' => Q (.cold d) e'
  | .un => False
theorem chill_val : chill e i Q (.val d) ↔ Q (.cold d) e := Iff.rfl
theorem chill_hot {m : Md} : chill e i Q (.hot m h) ↔ m.pin = false ∧ m.lk = false ∧ wo h.data fun d => wset e i (.val d) fun e' => Q (.cold d) e' := Iff.rfl
theorem wp_toCold_s : wp (toCold (.slot i) e) Q ↔ wo e[i]? fun s => chill e i Q s := by
  simp only [toCold]
  cases hs : e[i]? with
  | none => simp [wp_no, wo_none]
  | some s =>
    cases s with
    | un => simp [wp_no, wo_some, chill]
    | val d => simp [wp_ok, wo_some, chill]
    | hot m h' =>
      rw [wo_some]
      obtain ⟨p, l⟩ := m
      cases p <;> cases l <;> cases hd : Hot.data h' <;> simp [wp_no, wp_ok, chill, hd, wo_some, wo_none, wset]
theorem wp_own : wp (own f env) Q ↔ wp (f env) fun r e => wp (toOwn r e) Q := wp_bind
theorem wp_toOwn_c : wp (toOwn (.cold d) e) Q ↔ Q (.cold d) e := wp_ok
theorem wp_toOwn_h : wp (toOwn (.hot h) e) Q ↔ Q (.hot h) e := wp_ok
theorem wp_toOwn_s : wp (toOwn (.slot i) e) Q ↔ wp (toCold (.slot i) e) Q := Iff.rfl
def giveBack (e : Sto) (i : Nat) (Q : Rv → Sto → Prop) : Sl → Prop
  | .val d => Q (.cold d) e
  | .hot m h => (Sl.hot m h).settable = true ∧ wset e i .un fun e' => Q (.hot h) e'
  | .un => False
theorem giveBack_val : giveBack e i Q (.val d) ↔ Q (.cold d) e := Iff.rfl
theorem giveBack_hot {m : Md} : giveBack e i Q (.hot m h) ↔ (Sl.hot m h).settable = true ∧ wset e i .un fun e' => Q (.hot h) e' := Iff.rfl
theorem wp_toRet_c : wp (toRet (.cold d) e) Q ↔ Q (.cold d) e := wp_ok
theorem wp_toRet_h : wp (toRet (.hot h) e) Q ↔ Q (.hot h) e := wp_ok
theorem wp_toRet_s : wp (toRet (.slot i) e) Q ↔ wo e[i]? fun s => giveBack e i Q s := by
  simp only [toRet]
  cases hs : e[i]? with
  | none => simp [wp_no, wo_none]
  | some s =>
    cases s with
    | un => simp [wp_no, wo_some, giveBack]
    | val d => simp [wp_ok, wo_some, giveBack]
    | hot m h =>
      rw [wo_some]
      by_cases z : (Sl.hot m h).settable = true
      · simp [z, wp_ok, giveBack, wset]
      · simp [z, wp_no, giveBack]
theorem wp_aNil : wp (aNil env) QL ↔ QL [] env := wp_ok
theorem wp_aCons : wp (aCons f gl env) QL ↔ wp (f env) fun r e1 => wp (gl e1) fun rs e2 => QL (r :: rs) e2 := by
  unfold aCons
  rw [wp_bind]
  refine ⟨fun h => wp_imp h fun _ _ h => ?_, fun h => wp_imp h fun _ _ h => ?_⟩
  · exact wp_imp (wp_bind.mp h) fun _ _ h => wp_ok.mp h
  · exact wp_bind.mpr (wp_imp h fun _ _ h => wp_ok.mpr h)
theorem wp_bin {b : Rv → Rv → Sto → Res Rv} : wp (bin b f g env) Q ↔ wp (f env) fun ra e1 => wp (g e1) fun rb e2 => wp (b ra rb e2) Q := by
  unfold bin
  rw [wp_bind]
  exact ⟨fun h => wp_imp h fun _ _ h => wp_bind.mp h, fun h => wp_imp h fun _ _ h => wp_bind.mpr h⟩
theorem wp_una {b : Rv → Sto → Res Rv} : wp (una b f env) Q ↔ wp (f env) fun ra e1 => wp (b ra e1) Q := wp_bind
theorem wp_dat1 {b : D → Option Rv} {r : Rv} : wp (dat1 b r e) Q ↔ wo (viewC r e) fun d => wo (b d) fun r => Q r e := by
  unfold dat1
  rw [wp_fin1, wo_bind]
theorem wp_dat2 {b : D → D → Option Rv} {r r2 : Rv} : wp (dat2 b r r2 e) Q ↔ wo (viewC r e) fun d => wo (viewC r2 e) fun d2 => wo (b d d2) fun r => Q r e := by
  unfold dat2
  rw [wp_fin1, wo_bind]
  exact ⟨fun h => wo_imp h fun _ h => wo_bind.mp h, fun h => wo_imp h fun _ h => wo_bind.mpr h⟩
theorem wp_whole2 {b : D → D → Option D} {r r2 : Rv} : wp (whole2 b r r2 e) Q ↔ wo (view r e) fun d => wo (view r2 e) fun d2 => wo (b d d2) fun d => Q (.cold d) e := by
  unfold whole2
  rw [wp_fin1, wo_bind]
  exact ⟨fun h => wo_imp h fun _ h => wo_imp (wo_bind.mp h) fun _ h => wo_map.mp h, fun h => wo_imp h fun _ h => wo_bind.mpr (wo_imp h fun _ h => wo_map.mpr h)⟩
/-! views -/
theorem view_c : wo (view (.cold d) e) K ↔ K d := wo_some
theorem view_h : wo (view (.hot h) e) K ↔ wo h.data K := Iff.rfl
theorem view_s : wo (view (.slot i) e) K ↔ wo e[i]? fun s => wo s.view K := wo_bind
theorem sview_v : wo (Sl.view (.val d)) K ↔ K d := wo_some
theorem sview_h {m : Md} : wo (Sl.view (.hot m h)) K ↔ wo h.data K := Iff.rfl
theorem data_l {xs : List D} : wo (Hot.data (.lst xs)) K ↔ K (.list xs) := wo_some
theorem data_d {xs : List (D × D)} : wo (Hot.data (.dic xs)) K ↔ K (.dict xs) := wo_some
theorem viewC_c : wo (viewC (.cold d) e) K ↔ wo (plainD d) K := Iff.rfl
theorem viewC_h : wo (viewC (.hot h) e) K ↔ wo h.viewC K := Iff.rfl
theorem viewC_s : wo (viewC (.slot i) e) K ↔ wo e[i]? fun s => wo s.viewC K := wo_bind
theorem sviewC_v : wo (Sl.viewC (.val d)) K ↔ wo (plainD d) K := Iff.rfl
theorem sviewC_h {m : Md} : wo (Sl.viewC (.hot m h)) K ↔ wo h.viewC K := Iff.rfl
theorem dataC_l {xs : List D} : wo (Hot.viewC (.lst xs)) K ↔ K (.list xs) := wo_some
theorem dataC_d {xs : List (D × D)} : wo (Hot.viewC (.dic xs)) K ↔ K (.dict xs) := wo_some
theorem plain_n : wo (plainD .none) K ↔ K .none := wo_some
theorem plain_b {b : Bool} : wo (plainD (.bool b)) K ↔ K (.bool b) := wo_some
theorem plain_i {b : Int} : wo (plainD (.int b)) K ↔ K (.int b) := wo_some
theorem plain_s {b : Str} : wo (plainD (.str b)) K ↔ K (.str b) := wo_some
theorem plain_l {b : List D} : wo (plainD (.list b)) K ↔ K (.list b) := wo_some
theorem plain_t {b : List D} : wo (plainD (.tuple b)) K ↔ K (.tuple b) := wo_some
/-! truth -/
def boolD : D → Option Bool
  | .bool b => some b
  | _ => none
def boolR (r : Rv) (e : Sto) : Option Bool := match r with
  | .cold d => boolD d
  | .slot i => (e[i]?).bind fun s => match s with
    | .val d => boolD d
    | _ => none
  | _ => none
theorem wp_asB : wp (asB f env) QB ↔ wp (f env) fun r e => wo (boolR r e) fun b => QB b e := by
  unfold asB
  rw [wp_bind]
  have go : ∀ r e, wp (match r with
      | .cold (.bool b) => (.ok b e : Res Bool)
      | .slot i => match e[i]? with
        | some (.val (.bool b)) => .ok b e
        | _ => .no
      | _ => .no) QB ↔ wo (boolR r e) fun b => QB b e := by
    intro r e
    cases r with
    | cold d => cases d <;> simp [boolR, boolD, wp_ok, wp_no, wo_some, wo_none]
    | hot h => simp [boolR, wp_no, wo_none]
    | slot i =>
      simp only [boolR]
      cases h : e[i]? with
      | none => simp [wp_no, wo_none]
      | some s =>
        cases s with
        | un => simp [wp_no, wo_none]
        | hot m h => simp [wp_no, wo_none]
        | val d => cases d <;> simp [boolD, wp_ok, wp_no, wo_some, wo_none]
  exact ⟨fun h => wp_imp h fun r e h => (go r e).mp h, fun h => wp_imp h fun r e h => (go r e).mpr h⟩
theorem boolR_c {b : Bool} {k : Bool → Prop} : wo (boolR (.cold (.bool b)) e) k ↔ k b := wo_some
def boolS (k : Bool → Prop) : Sl → Prop
  | .val (.bool b) => k b
  | _ => False
theorem boolS_v {b : Bool} {k : Bool → Prop} : boolS k (.val (.bool b)) ↔ k b := Iff.rfl
theorem boolR_s {k : Bool → Prop} : wo (boolR (.slot i) e) k ↔ wo e[i]? fun s => boolS k s := by
  simp only [boolR]
  rw [wo_bind]
  have go : ∀ s : Sl, (wo (match s with
    | .val d => boolD d
    | _ => none) k) ↔ boolS k s := by
    intro s
    cases s with
    | val d => cases d <;> simp [boolD, boolS, wo_some, wo_none]
    | un => simp [boolS, wo_none]
    | hot m h => simp [boolS, wo_none]
  exact ⟨fun h => wo_imp h fun s h => (go s).mp h, fun h => wo_imp h fun s h => (go s).mpr h⟩
theorem ifB {p q : Prop} {b : Bool} : (if b = true then p else q) ↔ (b = true → p) ∧ (b = false → q) := by cases b <;> simp
theorem wp_ifB {α : Type} {x y : Res α} {Q : α → Sto → Prop} {b : Bool} : wp (if b = true then x else y) Q ↔ (b = true → wp x Q) ∧ (b = false → wp y Q) := by cases b <;> simp
theorem wp_bAnd : wp (bAnd t t2 env) QB ↔ wp (t env) fun b e => (b = true → wp (t2 e) QB) ∧ (b = false → QB false e) := by
  unfold bAnd
  rw [wp_bind]
  refine ⟨fun h => wp_imp h fun b e h => ?_, fun h => wp_imp h fun b e h => ?_⟩ <;> cases b <;> simpa [wp_ok] using h
theorem wp_bOr : wp (bOr t t2 env) QB ↔ wp (t env) fun b e => (b = true → QB true e) ∧ (b = false → wp (t2 e) QB) := by
  unfold bOr
  rw [wp_bind]
  refine ⟨fun h => wp_imp h fun b e h => ?_, fun h => wp_imp h fun b e h => ?_⟩ <;> cases b <;> simpa [wp_ok] using h
theorem wp_bNot : wp (bNot t env) QB ↔ wp (t env) fun b e => QB (!b) e := by
  unfold bNot
  rw [wp_bind]
  exact ⟨fun h => wp_imp h fun b e h => wp_ok.mp h, fun h => wp_imp h fun b e h => wp_ok.mpr h⟩
theorem wp_eAnd : wp (eAnd f g env) Q ↔ wp (asB f env) fun b e => (b = true → wp (g e) Q) ∧ (b = false → Q (.cold (.bool false)) e) := by
  unfold eAnd
  rw [wp_bind]
  refine ⟨fun h => wp_imp h fun b e h => ?_, fun h => wp_imp h fun b e h => ?_⟩ <;> cases b <;> simpa [wp_ok] using h
theorem wp_eOr : wp (eOr f g env) Q ↔ wp (asB f env) fun b e => (b = true → Q (.cold (.bool true)) e) ∧ (b = false → wp (g e) Q) := by
  unfold eOr
  rw [wp_bind]
  refine ⟨fun h => wp_imp h fun b e h => ?_, fun h => wp_imp h fun b e h => ?_⟩ <;> cases b <;> simpa [wp_ok] using h
theorem wp_eNot : wp (eNot f env) Q ↔ wp (asB f env) fun b e => Q (.cold (.bool (!b))) e := by
  unfold eNot
  rw [wp_bind]
  exact ⟨fun h => wp_imp h fun b e h => wp_ok.mp h, fun h => wp_imp h fun b e h => wp_ok.mpr h⟩
theorem wp_eIf : wp (eIf t f g env) Q ↔ wp (t env) fun b e => (b = true → wp (f e) Q) ∧ (b = false → wp (g e) Q) := by
  unfold eIf
  rw [wp_bind]
  refine ⟨fun h => wp_imp h fun b e h => ?_, fun h => wp_imp h fun b e h => ?_⟩ <;> cases b <;> simpa using h
theorem wp_tTrue : wp (tTrue env) QB ↔ QB true env := wp_ok
/-! statements -/
theorem wp_sNx : wp (sNx env) QO ↔ QO .nx env := wp_ok
theorem wp_never : wp ((fun _ => Res.no : Sm) env) QO ↔ False := wp_no
def seqK (s2 : Sm) (QO : Out → Sto → Prop) : Out → Sto → Prop
  | .nx, e => wp (s2 e) QO
  | o, e => QO o e
theorem seqK_nx : seqK s2 QO .nx e ↔ wp (s2 e) QO := Iff.rfl
theorem seqK_rt {r : Rv} : seqK s2 QO (.rt r) e ↔ QO (.rt r) e := Iff.rfl
theorem seqK_bk : seqK s2 QO .bk e ↔ QO .bk e := Iff.rfl
theorem seqK_ct : seqK s2 QO .ct e ↔ QO .ct e := Iff.rfl
theorem wp_sSeq : wp (sSeq s s2 env) QO ↔ wp (s env) (seqK s2 QO) := by
  unfold sSeq
  rw [wp_bind]
  refine ⟨fun h => wp_imp h fun o e h => ?_, fun h => wp_imp h fun o e h => ?_⟩ <;> cases o <;> simpa [wp_ok, seqK] using h
theorem wp_sExpr : wp (sExpr f env) QO ↔ wp (f env) fun _ e => QO .nx e := by
  unfold sExpr
  rw [wp_bind]
  exact ⟨fun h => wp_imp h fun b e h => wp_ok.mp h, fun h => wp_imp h fun b e h => wp_ok.mpr h⟩
theorem wp_sRet : wp (sRet f env) QO ↔ wp (f env) fun r e => wp (toRet r e) fun r e => QO (.rt r) e := by
  unfold sRet
  rw [wp_bind, wp_bind]
  exact ⟨fun h => wp_imp h fun b e h => wp_imp h fun _ _ h => wp_ok.mp h, fun h => wp_imp h fun b e h => wp_imp h fun _ _ h => wp_ok.mpr h⟩
theorem wp_sIf : wp (sIf t s s2 env) QO ↔ wp (t env) fun b e => (b = true → wp (s e) QO) ∧ (b = false → wp (s2 e) QO) := by
  unfold sIf
  rw [wp_bind]
  refine ⟨fun h => wp_imp h fun b e h => ?_, fun h => wp_imp h fun b e h => ?_⟩ <;> cases b <;> simpa using h
/-- a slot is set -/
def wput (e : Sto) (i : Nat) (r : Rv) (k : Sto → Prop) : Prop := wo e[i]? fun s => s.settable = true ∧ wo r.sl fun t => wset e i t k
theorem wo_put {r : Rv} {k : Sto → Prop} : wo (put i r e) k ↔ wput e i r k := by
  unfold put wput
  cases h : e[i]? with
  | none => simp [wo_none]
  | some s =>
    rw [wo_some]
    by_cases z : s.settable = true
    · simp only [z, if_true, true_and]
      exact wo_map
    · simp [z, wo_none]
theorem wp_putS {r : Rv} : wp (putS i r e) QO ↔ wput e i r fun e' => QO .nx e' := by
  rw [← wo_put]
  unfold putS
  cases put i r e <;> simp [wp_ok, wp_no, wo_some, wo_none]
theorem wp_sSet : wp (sSet i f env) QO ↔ wp (own f env) fun r e => wput e i r fun e' => QO .nx e' := by
  unfold sSet
  rw [wp_bind]
  exact ⟨fun h => wp_imp h fun b e h => wp_putS.mp h, fun h => wp_imp h fun b e h => wp_putS.mpr h⟩
theorem set_val : (Sl.val d).settable = true ↔ True := by simp [Sl.settable]
theorem set_un : Sl.un.settable = true ↔ True := by simp [Sl.settable]
theorem set_hot {m : Md} : (Sl.hot m h).settable = true ↔ m.pin = false ∧ m.lk = false := by simp [Sl.settable]
theorem sl_cold {k : Sl → Prop} : wo (Rv.sl (.cold d)) k ↔ k (.val d) := wo_some
theorem sl_hot {k : Sl → Prop} : wo (Rv.sl (.hot h)) k ↔ k (.hot Md.free h) := wo_some
theorem wp_sTg {T : Tg} : wp (sTg T f env) QO ↔ wp (cold f env) fun r e => ∃ d, r = .cold d ∧ wo (T.asg d e) fun e' => QO .nx e' := by
  unfold sTg
  rw [wp_bind]
  refine ⟨fun h => wp_imp h fun r e h => ?_, fun h => wp_imp h fun r e h => ?_⟩
  · cases r with
    | cold d =>
      refine ⟨d, rfl, ?_⟩
      cases hd : T.asg d e with
      | none => simp [hd, wp_no] at h
      | some e' => simpa [hd, wp_ok, wo_some] using h
    | _ => simp [wp_no] at h
  · obtain ⟨d, rfl, h⟩ := h
    obtain ⟨e', h, q⟩ := h
    simpa [h, wp_ok] using q
theorem ex_cold {d' : D} {P : D → Prop} : (∃ d, Rv.cold d' = .cold d ∧ P d) ↔ P d' := ⟨fun ⟨_, h, q⟩ => (by cases h; exact q), fun q => ⟨_, rfl, q⟩⟩
theorem asg_nm {k : Sto → Prop} : wo (Tg.asg (.nm i) d e) k ↔ wput e i (.cold d) k := wo_put
theorem asg_tp {k : Sto → Prop} {ts : Tgs} {ds : List D} : wo (Tg.asg (.tp ts) (.tuple ds) e) k ↔ wo (ts.asg ds e) k := Iff.rfl
theorem asgs_nil {k : Sto → Prop} : wo (Tgs.asg .nil [] e) k ↔ k e := wo_some
theorem asgs_cons {k : Sto → Prop} {T : Tg} {ts : Tgs} {ds : List D} : wo (Tgs.asg (.cons T ts) (d :: ds) e) k ↔ wo (T.asg d e) fun e1 => wo (ts.asg ds e1) k := wo_bind
def wputs : List Nat → List Rv → Sto → (Sto → Prop) → Prop
  | [], [], e, k => k e
  | i :: is, r :: rs, e, k => wputs is rs e fun e1 => wput e1 i r k
  | _, _, _, _ => False
theorem wputs_nil {k : Sto → Prop} : wputs [] [] e k ↔ k e := Iff.rfl
theorem wputs_cons {k : Sto → Prop} {is : List Nat} {r : Rv} {rs : List Rv} : wputs (i :: is) (r :: rs) e k ↔ wputs is rs e fun e1 => wput e1 i r k := Iff.rfl
theorem wo_putAll : ∀ {is : List Nat} {rs : List Rv} {e : Sto} {k : Sto → Prop}, wo (putAll is rs e) k ↔ wputs is rs e k
  | [], [], _, _ => wo_some
  | i :: is, r :: rs, e, k => by
    rw [wputs_cons, ← wo_putAll]
    show wo ((putAll is rs e).bind (put i r)) k ↔ _
    rw [wo_bind]
    exact ⟨fun h => wo_imp h fun _ h => wo_put.mp h, fun h => wo_imp h fun _ h => wo_put.mpr h⟩
  | [], _ :: _, _, _ => wo_none
  | _ :: _, [], _, _ => wo_none
theorem wp_sPar {is : List Nat} : wp (sPar is gl env) QO ↔ wp (gl env) fun rs e => wputs is rs e fun e' => QO .nx e' := by
  unfold sPar
  rw [wp_bind]
  have go : ∀ rs e, wp (match putAll is rs e with
    | some e' => (.ok .nx e' : Res Out)
    | none => .no) QO ↔ wputs is rs e fun e' => QO .nx e' := by
    intro rs e
    rw [← wo_putAll]
    cases putAll is rs e <;> simp [wp_ok, wp_no, wo_some, wo_none]
  exact ⟨fun h => wp_imp h fun b e h => (go b e).mp h, fun h => wp_imp h fun b e h => (go b e).mpr h⟩
end
end Q
set_option Elab.async false
set_option linter.all false
set_option maxRecDepth 100000
set_option maxHeartbeats 1000000
namespace Q
open PySem
section
variable {Q : Rv → Sto → Prop} {QL : List Rv → Sto → Prop} {QB : Bool → Sto → Prop} {QO : Out → Sto → Prop} {QS : Src → Sto → Prop} {QI : Option Int → Sto → Prop} {K : D → Prop} {R : Rv → Prop} {env e : Sto} {i : Nat} {f g : Ex} {gl : ExL} {t t2 : ExB} {s s2 : Sm} {d : D} {h : Hot}
/-! parts of an expression -/
theorem colds_nil {k : List D → Prop} : wo (colds []) k ↔ k [] := wo_some
theorem colds_c {k : List D → Prop} {rs : List Rv} : wo (colds (.cold d :: rs)) k ↔ wo (colds rs) fun ds => k (d :: ds) := wo_map
theorem wp_eTup : wp (eTup gl env) Q ↔ wp (gl env) fun rs e => wo (colds rs) fun ds => cap ds.length ∧ Q (.cold (.tuple ds)) e := by
  unfold eTup
  rw [wp_bind]
  have go : ∀ rs e, wp (fin1 ((colds rs).bind fun ds => if cap ds.length then some (.cold (.tuple ds)) else none) e) Q ↔ wo (colds rs) fun ds => cap ds.length ∧ Q (.cold (.tuple ds)) e := by
    intro rs e
    rw [wp_fin1, wo_bind]
    exact ⟨fun h => wo_imp h fun _ h => ⟨(wo_if.mp h).1, (wo_some (P := fun r => Q r e)).mp (wo_if.mp h).2⟩, fun h => wo_imp h fun _ h => wo_if.mpr ⟨h.1, (wo_some (P := fun r => Q r e)).mpr h.2⟩⟩
  exact ⟨fun h => wp_imp h fun b e h => (go b e).mp h, fun h => wp_imp h fun b e h => (go b e).mpr h⟩
theorem wp_eLst : wp (eLst gl env) Q ↔ wp (gl env) fun rs e => wo (colds rs) fun ds => cap ds.length ∧ Q (.hot (.lst ds)) e := by
  unfold eLst
  rw [wp_bind]
  have go : ∀ rs e, wp (fin1 ((colds rs).bind fun ds => if cap ds.length then some (.hot (.lst ds)) else none) e) Q ↔ wo (colds rs) fun ds => cap ds.length ∧ Q (.hot (.lst ds)) e := by
    intro rs e
    rw [wp_fin1, wo_bind]
    exact ⟨fun h => wo_imp h fun _ h => ⟨(wo_if.mp h).1, (wo_some (P := fun r => Q r e)).mp (wo_if.mp h).2⟩, fun h => wo_imp h fun _ h => wo_if.mpr ⟨h.1, (wo_some (P := fun r => Q r e)).mpr h.2⟩⟩
  exact ⟨fun h => wp_imp h fun b e h => (go b e).mp h, fun h => wp_imp h fun b e h => (go b e).mpr h⟩
theorem wp_eDic0 : wp (eDic0 env) Q ↔ Q (.hot (.dic [])) env := wp_ok
theorem viewsC_nil {k : List D → Prop} : wo (viewsC [] e) k ↔ k [] := wo_some
theorem viewsC_c {k : List D → Prop} {r : Rv} {rs : List Rv} : wo (viewsC (r :: rs) e) k ↔ wo (viewC r e) fun d => wo (viewsC rs e) fun ds => k (d :: ds) := by
  show wo ((viewC r e).bind fun d => (viewsC rs e).map (d :: ·)) k ↔ _
  rw [wo_bind]
  exact ⟨fun h => wo_imp h fun _ h => wo_map.mp h, fun h => wo_imp h fun _ h => wo_map.mpr h⟩
theorem wp_eB {b : List D → Option Rv} : wp (eB b gl env) Q ↔ wp (gl env) fun rs e => wo (viewsC rs e) fun ds => wo (b ds) fun r => Q r e := by
  unfold eB
  rw [wp_bind]
  exact ⟨fun h => wp_imp h fun _ _ h => wo_bind.mp (wp_fin1.mp h), fun h => wp_imp h fun _ _ h => wp_fin1.mpr (wo_bind.mpr h)⟩
/-! calls -/
theorem toArgs_nil {k : List Sl → Prop} : wo (toArgs [] e) k ↔ k [] := wo_some
theorem toArgs_c {k : List Sl → Prop} {rs : List Rv} : wo (toArgs (.cold d :: rs) e) k ↔ wo (toArgs rs e) fun as => k (.val d :: as) := wo_map
def lend (k : Hot → Prop) : Sl → Prop
  | .hot m h => m.lk = false ∧ k h
  | _ => False
theorem lend_hot {m : Md} {k : Hot → Prop} : lend k (.hot m h) ↔ m.lk = false ∧ k h := Iff.rfl
theorem toArgs_s {k : List Sl → Prop} {rs : List Rv} : wo (toArgs (.slot i :: rs) e) k ↔ wo e[i]? (lend fun h => slotPos rs i = none ∧ wo (toArgs rs e) fun as => k (.hot Md.lent h :: as)) := by
  simp only [toArgs]
  cases hs : e[i]? with
  | none => simp [wo_none]
  | some s =>
    rw [wo_some]
    cases s with
    | un => simp [wo_none, lend]
    | val d => simp [wo_none, lend]
    | hot m h' =>
      by_cases z : m.lk = false ∧ slotPos rs i = none
      · simp only [z, and_self, if_true, lend, true_and]
        exact wo_map
      · simp only [z, if_false, lend, wo_none, false_iff]
        exact fun q => z ⟨q.1, q.2.1⟩
theorem slotPos_nil {o : Option Nat} : slotPos [] i = o ↔ none = o := by simp [slotPos]
theorem slotPos_c {rs : List Rv} : slotPos (.cold d :: rs) i = none ↔ slotPos rs i = none := by simp [slotPos]
theorem backA_nil {k : Sto → Prop} : wo (backA [] [] e) k ↔ k e := wo_some
theorem backA_c {k : Sto → Prop} {a : Sl} {rs : List Rv} {as : List Sl} : wo (backA (.cold d :: rs) (a :: as) e) k ↔ wo (backA rs as e) k := by
  cases a <;> simp [backA]
def takeBack (i : Nat) (h : Hot) (e : Sto) (k : Sto → Prop) : Sl → Prop
  | .hot m _ => wset e i (.hot m h) k
  | _ => False
theorem takeBack_hot {m : Md} {h' : Hot} {k : Sto → Prop} : takeBack i h e k (.hot m h') ↔ wset e i (.hot m h) k := Iff.rfl
theorem backA_s {k : Sto → Prop} {m : Md} {rs : List Rv} {as : List Sl} : wo (backA (.slot i :: rs) (.hot m h :: as) e) k ↔ wo e[i]? (takeBack i h e fun e' => wo (backA rs as e') k) := by
  simp only [backA]
  cases hs : e[i]? with
  | none => simp [wo_none]
  | some s => cases s <;> simp [wo_none, wo_some, takeBack, wset]
def resR : Sl → Option Rv
  | .val d => some (.cold d)
  | .hot ⟨false, false⟩ h => some (.hot h)
  | _ => none
theorem resR_v : wo (resR (.val d)) R ↔ R (.cold d) := wo_some
theorem resR_h : wo (resR (.hot Md.free h)) R ↔ R (.hot h) := wo_some
theorem wp_callE {F : FnS} : wp (callE F gl env) Q ↔ wp (gl env) fun rs e => wo (toArgs rs e) fun as => wo (F as) fun p => wo (resR p.1) fun r => wo (backA rs p.2 e) fun e' => Q r e' := by
  unfold callE
  rw [wp_bind]
  have go : ∀ rs e, wp (match toArgs rs e with
    | none => (.no : Res Rv)
    | some args => match F args with
      | some (.val d, as) => match backA rs as e with
        | some e' => .ok (.cold d) e'
        | none => .no
      | some (.hot ⟨false, false⟩ h, as) => match backA rs as e with
        | some e' => .ok (.hot h) e'
        | none => .no
      | _ => .no) Q ↔ wo (toArgs rs e) fun as => wo (F as) fun p => wo (resR p.1) fun r => wo (backA rs p.2 e) fun e' => Q r e' := by
    intro rs e
    cases h1 : toArgs rs e with
    | none => simp [wp_no, wo_none]
    | some as =>
      rw [wo_some]
      simp only
      cases h2 : F as with
      | none => simp [wp_no, wo_none]
      | some p =>
        rw [wo_some]
        obtain ⟨s, as'⟩ := p
        cases s with
        | un => simp [wp_no, wo_none, resR]
        | val d =>
          simp only [resR, wo_some]
          cases backA rs as' e <;> simp [wp_no, wp_ok, wo_none, wo_some]
        | hot m h' =>
          obtain ⟨p, l⟩ := m
          cases p <;> cases l <;> simp only [resR, wo_some, wo_none, wp_no]
          cases backA rs as' e <;> simp [wp_no, wp_ok, wo_none, wo_some]
  exact ⟨fun h => wp_imp h fun b e h => (go b e).mp h, fun h => wp_imp h fun b e h => (go b e).mpr h⟩
/-- a def's answer -/
theorem def_wo {n N : Nat} {gs : Sm} {args : List Sl} {P : Sl × List Sl → Prop} (hn : args.length = n ∧ n ≤ N) (h : wp (gs (args ++ List.replicate (N - n) .un)) fun o e => n ≤ e.length ∧ wo (resS o) fun s => P (s, finA args e)) : wo (defF n N gs args) P := by
  obtain ⟨o, e, h1, h2, s, h3, h4⟩ := h
  exact ⟨_, by rw [defF, if_pos hn, h1]; simp only; rw [if_pos h2, h3]; rfl, h4⟩
theorem resS_c {k : Sl → Prop} : wo (resS (.rt (.cold d))) k ↔ k (.val d) := wo_some
theorem resS_h {k : Sl → Prop} : wo (resS (.rt (.hot h))) k ↔ k (.hot Md.free h) := wo_some
theorem resS_n {k : Sl → Prop} : wo (resS .nx) k ↔ k (.val .none) := wo_some
/-! methods -/
theorem wp_eMt {T : String} {m : Mt} : wp (eMt T m f gl env) Q ↔ wp (f env) fun r e1 => isTy T r e1 = true ∧ wp (gl e1) fun rs e2 => wp (m r rs e2) Q := by
  unfold eMt
  rw [wp_bind]
  have go : ∀ r e1, wp (if isTy T r e1 = true then (gl e1).bind fun rs e2 => m r rs e2 else .no) Q ↔ isTy T r e1 = true ∧ wp (gl e1) fun rs e2 => wp (m r rs e2) Q := by
    intro r e1
    by_cases z : isTy T r e1 = true
    · rw [if_pos z, wp_bind]; exact ⟨fun q => ⟨z, q⟩, fun q => q.2⟩
    · rw [if_neg z]; exact ⟨fun q => (wp_no.mp q).elim, fun q => absurd q.1 z⟩
  exact ⟨fun h => wp_imp h fun b e h => (go b e).mp h, fun h => wp_imp h fun b e h => (go b e).mpr h⟩
theorem wp_eMt0 {T : String} {m : Mt} : wp (eMt0 T m f env) Q ↔ wp (f env) fun r e1 => isTy T r e1 = true ∧ wp (m r [] e1) Q := by
  unfold eMt0
  rw [wp_bind]
  have go : ∀ r e1, wp (if isTy T r e1 = true then m r [] e1 else .no) Q ↔ isTy T r e1 = true ∧ wp (m r [] e1) Q := by
    intro r e1
    by_cases z : isTy T r e1 = true
    · rw [if_pos z]; exact ⟨fun q => ⟨z, q⟩, fun q => q.2⟩
    · rw [if_neg z]; exact ⟨fun q => (wp_no.mp q).elim, fun q => absurd q.1 z⟩
  exact ⟨fun h => wp_imp h fun b e h => (go b e).mp h, fun h => wp_imp h fun b e h => (go b e).mpr h⟩
/-- a slot's list is changed -/
def chg (e : Sto) (i : Nat) (rs : List Rv) (b : List D → List D → Option (D × List D)) (Q : Rv → Sto → Prop) : Sl → Prop
  | .hot m (.lst xs) => m.lk = false ∧ wo (colds rs) fun ds => wo (b xs ds) fun p => wset e i (.hot m (.lst p.2)) fun e' => Q (.cold p.1) e'
  | _ => False
theorem chg_lst {m : Md} {xs : List D} {rs : List Rv} {b : List D → List D → Option (D × List D)} : chg e i rs b Q (.hot m (.lst xs)) ↔ m.lk = false ∧ wo (colds rs) fun ds => wo (b xs ds) fun p => wset e i (.hot m (.lst p.2)) fun e' => Q (.cold p.1) e' := Iff.rfl
theorem wp_onL {b : List D → List D → Option (D × List D)} {rs : List Rv} : wp (onL b (.slot i) rs e) Q ↔ wo e[i]? (chg e i rs b Q) := by
  simp only [onL]
  cases hs : e[i]? with
  | none => simp [wo_none, wp_no]
  | some s =>
    rw [wo_some]
    cases s with
    | un => simp [wp_no, chg]
    | val d => simp [wp_no, chg]
    | hot m h' =>
      cases h' with
      | lst xs =>
        by_cases z : m.lk = false
        · simp only [z, if_true, chg, true_and]
          rw [← wo_bind]
          cases (colds rs).bind fun ds => b xs ds <;> simp [wp_no, wp_ok, wo_none, wo_some, wset]
        · simp [z, chg, wp_no]
      | _ => simp [wp_no, chg]
theorem wp_mAppend {rs : List Rv} : wp (mAppend (.slot i) rs e) Q ↔ wo e[i]? (chg e i rs (fun xs ds => match ds with
  | [d] => if xs.length < sizeLine then some (.none, xs ++ [d]) else none
  | _ => none) Q) := wp_onL
theorem wp_mPopAt {rs : List Rv} : wp (mPopAt (.slot i) rs e) Q ↔ wo e[i]? (chg e i rs (fun xs ds => match ds with
  | [.int i] => if -(2 ^ 63) ≤ i ∧ i < 2 ^ 63 then (seqIndex? i xs.length).bind fun k => (xs[k]?).map fun d => (d, xs.eraseIdx k) else none
  | _ => none) Q) := wp_onL
theorem wp_mPop {rs : List Rv} : wp (mPop (.slot i) rs e) Q ↔ wo e[i]? (chg e i rs (fun xs ds => match ds with
  | [] => (xs[xs.length - 1]?).map fun d => (d, xs.dropLast)
  | _ => none) Q) := wp_onL
theorem wp_mDat {b : D → D → Option D} {ra r : Rv} : wp (mDat b ra [r] e) Q ↔ wo (view ra e) fun d => wo (view r e) fun c => (SeqAt.shaped d = true ∧ SeqAt.shaped c = true) ∧ wo (b d c) fun d => Q (.cold d) e := by
  simp only [mDat]
  rw [wp_fin1, wo_bind]
  have go : ∀ d, (wo ((view r e).bind fun c => if SeqAt.shaped d = true ∧ SeqAt.shaped c = true then (b d c).map Rv.cold else none) fun r => Q r e) ↔ wo (view r e) fun c => (SeqAt.shaped d = true ∧ SeqAt.shaped c = true) ∧ wo (b d c) fun d => Q (.cold d) e := by
    intro d
    rw [wo_bind]
    exact ⟨fun h => wo_imp h fun _ h => (wo_if.mp h).imp id wo_map.mp, fun h => wo_imp h fun _ h => wo_if.mpr (h.imp id wo_map.mpr)⟩
  exact ⟨fun h => wo_imp h fun b h => (go b).mp h, fun h => wo_imp h fun b h => (go b).mpr h⟩
def isTyD (T : String) : D → Bool
  | .list _ => T == "list"
  | .tuple _ => T == "tuple"
  | .dict _ => T == "dict"
  | .str _ => T == "str"
  | _ => false
theorem tyD_l {xs : List D} : isTyD "list" (.list xs) = true ↔ True := by simp [isTyD]
theorem tyD_t {xs : List D} : isTyD "tuple" (.tuple xs) = true ↔ True := by simp [isTyD]
theorem tyD_d {xs : List (D × D)} : isTyD "dict" (.dict xs) = true ↔ True := by simp [isTyD]
theorem isTy_o {T : String} {r : Rv} : isTy T r e = true ↔ wo (viewC r e) fun d => isTyD T d = true := by
  unfold isTy
  cases viewC r e with
  | none => simp [wo_none]
  | some d => rw [wo_some]; cases d <;> simp [isTyD]
/-! slices, the script -/
theorem wp_oNone : wp (oNone env) QI ↔ QI none env := wp_ok
def intD : D → Option Int
  | .int i => some i
  | _ => none
theorem intD_i {j : Int} {k : Int → Prop} : wo (intD (.int j)) k ↔ k j := wo_some
theorem wp_oSome : wp (oSome f env) QI ↔ wp (f env) fun r e => wo (viewC r e) fun d => wo (intD d) fun j => QI (some j) e := by
  unfold oSome
  rw [wp_bind]
  refine ⟨fun h => wp_imp h fun r e h => ?_, fun h => wp_imp h fun r e h => ?_⟩
  · cases hv : viewC r e with
    | none => simp [hv, wp_no] at h
    | some d =>
      rw [wo_some]
      cases d <;> simp only [hv, wp_no, wp_ok] at h
      exact wo_some.mpr h
  · obtain ⟨d, hv, j, hj, q⟩ := h
    cases d <;> cases hj
    simp only [hv, wp_ok]
    exact q
theorem wp_eCut {l hh : ExO} : wp (eCut f l hh env) Q ↔ wp (f env) fun r e1 => wp (l e1) fun lo e2 => wp (hh e2) fun hi e3 => wp (dat1 (hCut lo hi) r e3) Q := by
  unfold eCut
  rw [wp_bind]
  exact ⟨fun h => wp_imp h fun _ _ h => wp_imp (wp_bind.mp h) fun _ _ h => wp_bind.mp h, fun h => wp_imp h fun _ _ h => wp_bind.mpr (wp_imp h fun _ _ h => wp_bind.mpr h)⟩
theorem cut_l {ds : List D} {lo hi : Option Int} : wo (hCut lo hi (.list ds)) R ↔ R (.hot (.lst (cutD ds lo hi))) := wo_some
theorem cut_t {ds : List D} {lo hi : Option Int} : wo (hCut lo hi (.tuple ds)) R ↔ R (.cold (.tuple (cutD ds lo hi))) := wo_some
theorem wp_eIsi {Ts : List String} : wp (eIsi Ts f env) Q ↔ wp (f env) fun r e => wo (viewC r e) fun d => Q (.cold (.bool (Ts.any (isT (tyN d))))) e := by
  unfold eIsi
  rw [wp_bind]
  exact ⟨fun h => wp_imp h fun _ _ h => wo_map.mp (wp_fin1.mp h), fun h => wp_imp h fun _ _ h => wp_fin1.mpr (wo_map.mpr h)⟩
theorem intOf_is {r : Rv} {k : Int → Prop} : wo (intOf r e) k ↔ wo (viewC r e) fun d => wo (intD d) k := by
  unfold intOf
  cases viewC r e with
  | none => simp [wo_none]
  | some d => cases d <;> simp [wo_none, wo_some, intD]
theorem wp_intOf {α : Type} {r : Rv} {F : Int → Res α} {Q : α → Sto → Prop} : wp (match intOf r e with
    | some n => F n
    | none => .no) Q ↔ wo (viewC r e) fun d => wo (intD d) fun n => wp (F n) Q := by
  rw [← intOf_is]
  cases intOf r e <;> simp [wp_no, wo_none, wo_some]
theorem wp_elseNo {α : Type} {c : Prop} [Decidable c] {x : Res α} {Q : α → Sto → Prop} : wp (if c then x else .no) Q ↔ c ∧ wp x Q := by
  by_cases z : c
  · rw [if_pos z]; exact ⟨fun q => ⟨z, q⟩, fun q => q.2⟩
  · rw [if_neg z]; exact ⟨fun q => (wp_no.mp q).elim, fun q => absurd q.1 z⟩
theorem wp_eLRg1 : wp (eLRg1 f env) Q ↔ wp (f env) fun r e => wo (viewC r e) fun d => wo (intD d) fun n => lrgOk 0 n ∧ Q (.hot (.lst (rngD 0 (n - 0).toNat))) e := by
  unfold eLRg1
  rw [wp_bind]
  exact ⟨fun h => wp_imp h fun _ _ h => wo_imp (wp_intOf.mp h) fun _ h => wo_imp h fun _ h => (wp_elseNo.mp h).imp id wp_ok.mp, fun h => wp_imp h fun _ _ h => wp_intOf.mpr (wo_imp h fun _ h => wo_imp h fun _ h => wp_elseNo.mpr (h.imp id wp_ok.mpr))⟩
theorem wp_iRng1 : wp (iRng1 f env) QS ↔ wp (f env) fun r e => wo (viewC r e) fun d => wo (intD d) fun n => rngOk n ∧ QS ⟨rngD 0 n.toNat, none⟩ e := by
  unfold iRng1
  rw [wp_bind]
  exact ⟨fun h => wp_imp h fun _ _ h => wo_imp (wp_intOf.mp h) fun _ h => wo_imp h fun _ h => (wp_elseNo.mp h).imp id wp_ok.mp, fun h => wp_imp h fun _ _ h => wp_intOf.mpr (wo_imp h fun _ h => wo_imp h fun _ h => wp_elseNo.mpr (h.imp id wp_ok.mpr))⟩
theorem wp_iRng2 : wp (iRng2 f g env) QS ↔ wp (f env) fun r e => wp (g e) fun r2 e2 => wo (viewC r e2) fun d => wo (intD d) fun i => wo (viewC r2 e2) fun d2 => wo (intD d2) fun j => (rngOk i ∧ rngOk j) ∧ QS ⟨rngD i (j - i).toNat, none⟩ e2 := by
  unfold iRng2
  rw [wp_bind]
  have go : ∀ r r2 e2, wp (match intOf r e2, intOf r2 e2 with
    | some i, some j => if rngOk i ∧ rngOk j then (.ok ⟨rngD i (j - i).toNat, none⟩ e2 : Res Src) else .no
    | _, _ => .no) QS ↔ wo (viewC r e2) fun d => wo (intD d) fun i => wo (viewC r2 e2) fun d2 => wo (intD d2) fun j => (rngOk i ∧ rngOk j) ∧ QS ⟨rngD i (j - i).toNat, none⟩ e2 := by
    intro r r2 e2
    have : (wo (viewC r e2) fun d => wo (intD d) fun i => wo (viewC r2 e2) fun d2 => wo (intD d2) fun j => (rngOk i ∧ rngOk j) ∧ QS ⟨rngD i (j - i).toNat, none⟩ e2) ↔ wo (intOf r e2) fun i => wo (intOf r2 e2) fun j => (rngOk i ∧ rngOk j) ∧ QS ⟨rngD i (j - i).toNat, none⟩ e2 := by
      rw [intOf_is]
      exact ⟨fun h => wo_imp h fun _ h => wo_imp h fun _ h => intOf_is.mpr h, fun h => wo_imp h fun _ h => wo_imp h fun _ h => intOf_is.mp h⟩
    rw [this]
    cases intOf r e2 <;> cases intOf r2 e2 <;> simp only [wp_no, wo_none, wo_some, wp_elseNo, wp_ok]
  exact ⟨fun h => wp_imp h fun _ _ h => wp_imp (wp_bind.mp h) fun _ _ h => (go _ _ _).mp h, fun h => wp_imp h fun _ _ h => wp_bind.mpr (wp_imp h fun _ _ h => (go _ _ _).mpr h)⟩
theorem seq_l {ds : List D} {k : List D → Prop} : wo (seqD (.list ds)) k ↔ k ds := wo_some
theorem seq_t {ds : List D} {k : List D → Prop} : wo (seqD (.tuple ds)) k ↔ k ds := wo_some
theorem wp_iCold : wp (iCold f env) QS ↔ wp (cold f env) fun r e => ∃ d, r = .cold d ∧ wo (seqD d) fun ds => QS ⟨ds, none⟩ e := by
  unfold iCold
  rw [wp_bind]
  refine ⟨fun h => wp_imp h fun r e h => ?_, fun h => wp_imp h fun r e h => ?_⟩
  · cases r with
    | cold d =>
      refine ⟨d, rfl, ?_⟩
      cases hd : seqD d with
      | none => simp [hd, wp_no] at h
      | some e' => simpa [hd, wp_ok, wo_some] using h
    | _ => simp [wp_no] at h
  · obtain ⟨d, rfl, h⟩ := h
    obtain ⟨e', h, q⟩ := h
    simpa [h, wp_ok] using q
theorem wp_iEnumC : wp (iEnumC f env) QS ↔ wp (cold f env) fun r e => ∃ d, r = .cold d ∧ wo (seqD d) fun ds => QS ⟨enumD ds, none⟩ e := by
  unfold iEnumC
  rw [wp_bind]
  refine ⟨fun h => wp_imp h fun r e h => ?_, fun h => wp_imp h fun r e h => ?_⟩
  · cases r with
    | cold d =>
      refine ⟨d, rfl, ?_⟩
      cases hd : seqD d with
      | none => simp [hd, wp_no] at h
      | some e' => simpa [hd, wp_ok, wo_some] using h
    | _ => simp [wp_no] at h
  · obtain ⟨d, rfl, h⟩ := h
    obtain ⟨e', h, q⟩ := h
    simpa [h, wp_ok] using q
def walked (e : Sto) (i : Nat) (QS : Src → Sto → Prop) : Sl → Prop
  | .val d => wo (seqD d) fun ds => QS ⟨ds, none⟩ e
  | .hot m (.lst xs) => wset e i (.hot { m with lk := true } (.lst xs)) fun e' => QS ⟨xs, some (i, m.lk)⟩ e'
  | _ => False
theorem walked_v : walked e i QS (.val d) ↔ wo (seqD d) fun ds => QS ⟨ds, none⟩ e := Iff.rfl
theorem walked_h {m : Md} {xs : List D} : walked e i QS (.hot m (.lst xs)) ↔ wset e i (.hot { m with lk := true } (.lst xs)) fun e' => QS ⟨xs, some (i, m.lk)⟩ e' := Iff.rfl
theorem wp_iSlot : wp (iSlot i e) QS ↔ wo e[i]? (walked e i QS) := by
  unfold iSlot
  cases hs : e[i]? with
  | none => simp [wo_none, wp_no]
  | some s =>
    rw [wo_some]
    cases s with
    | un => simp [wp_no, walked]
    | val d =>
      simp only [walked]
      cases seqD d <;> simp [wp_no, wp_ok, wo_none, wo_some]
    | hot m h' => cases h' <;> simp [wp_no, wp_ok, walked, wset]
theorem unlk_none : unlk none e = e := rfl
theorem wp_sFor {fs : ExS} {T : Tg} {body : Sm} : wp (sFor fs T body env) QO ↔ wp (fs env) fun src e => wp (forL T body src.items e) fun o e2 => QO o (unlk src.un e2) := by
  unfold sFor
  rw [wp_bind]
  exact ⟨fun h => wp_imp h fun _ _ h => wp_imp (wp_bind.mp h) fun _ _ h => wp_ok.mp h, fun h => wp_imp h fun _ _ h => wp_bind.mpr (wp_imp h fun _ _ h => wp_ok.mpr h)⟩
theorem wp_forL_nil {T : Tg} {body : Sm} : wp (forL T body [] e) QO ↔ QO .nx e := wp_ok
def turnK (T : Tg) (body : Sm) (ds : List D) (QO : Out → Sto → Prop) : Out → Sto → Prop
  | .nx, e => wp (forL T body ds e) QO
  | .ct, e => wp (forL T body ds e) QO
  | .bk, e => QO .nx e
  | .rt r, e => QO (.rt r) e
theorem turnK_nx {T : Tg} {body : Sm} {ds : List D} : turnK T body ds QO .nx e ↔ wp (forL T body ds e) QO := Iff.rfl
theorem turnK_ct {T : Tg} {body : Sm} {ds : List D} : turnK T body ds QO .ct e ↔ wp (forL T body ds e) QO := Iff.rfl
theorem turnK_bk {T : Tg} {body : Sm} {ds : List D} : turnK T body ds QO .bk e ↔ QO .nx e := Iff.rfl
theorem turnK_rt {T : Tg} {body : Sm} {ds : List D} {r : Rv} : turnK T body ds QO (.rt r) e ↔ QO (.rt r) e := Iff.rfl
theorem wp_forL_cons {T : Tg} {body : Sm} {ds : List D} : wp (forL T body (d :: ds) e) QO ↔ wo (T.asg d e) fun e1 => wp (body e1) (turnK T body ds QO) := by
  simp only [forL]
  cases hd : T.asg d e with
  | none => simp [wp_no, wo_none]
  | some e1 =>
    rw [wo_some]
    simp only
    rw [wp_bind]
    refine ⟨fun h => wp_imp h fun o e h => ?_, fun h => wp_imp h fun o e h => ?_⟩ <;> cases o <;> simpa [turnK, wp_ok] using h
/-- a loop by an invariant, that never leaves -/
theorem wp_forL {T : Tg} {body : Sm} (Inv : Nat → Sto → Prop) : ∀ {items : List D} {k : Nat} {e : Sto}, Inv k e → (∀ i d e, items[i]? = some d → Inv (k + i) e → wo (T.asg d e) fun e1 => wp (body e1) fun o e2 => (o = .nx ∨ o = .ct) ∧ Inv (k + i + 1) e2) →
    (∀ e, Inv (k + items.length) e → QO .nx e) → wp (forL T body items e) QO := fun {items k e} h0 st q => by
  obtain ⟨e', h1, h2⟩ := forL_inv Inv h0 fun i d e hd hi => by
    obtain ⟨e1, a1, o, e2, a2, a3, a4⟩ := st i d e hd hi
    exact ⟨e1, o, e2, a1, a2, a3, a4⟩
  exact ⟨_, _, h1, q e' h2⟩
/-- .. or leaves with an answer -/
theorem wp_forR {T : Tg} {body : Sm} (Inv : Nat → Sto → Prop) (Lv : Rv → Sto → Prop) : ∀ {items : List D} {k : Nat} {e : Sto}, Inv k e → (∀ i d e, items[i]? = some d → Inv (k + i) e → wo (T.asg d e) fun e1 => wp (body e1) fun o e2 => ((o = .nx ∨ o = .ct) ∧ Inv (k + i + 1) e2) ∨ ∃ r, o = .rt r ∧ Lv r e2) →
    (∀ e, Inv (k + items.length) e → QO .nx e) → (∀ r e, Lv r e → QO (.rt r) e) → wp (forL T body items e) QO
  | [], k, e, h, _, q, _ => wp_forL_nil.mpr (q e h)
  | d :: ds, k, e, h, st, q, l => by
    rw [wp_forL_cons]
    refine wo_imp (st 0 d e rfl h) fun e1 h1 => wp_imp h1 fun o e2 h2 => ?_
    have next : Inv (k + 0 + 1) e2 → wp (forL T body ds e2) QO := fun h3 => wp_forR Inv Lv (items := ds) (k := k + 1) h3 (fun i d e hd hi => by
      have := st (i + 1) d e (by simpa using hd) (by rw [show k + (i + 1) = k + 1 + i by omega]; exact hi)
      rw [show k + (i + 1) + 1 = k + 1 + i + 1 by omega] at this
      exact this) (fun e he => q e (by rw [List.length_cons, show k + (ds.length + 1) = k + 1 + ds.length by omega]; exact he)) l
    rcases h2 with ⟨ho, h3⟩ | ⟨r, rfl, h3⟩
    · rcases ho with rfl | rfl
      · exact turnK_nx.mpr (next h3)
      · exact turnK_ct.mpr (next h3)
    · exact turnK_rt.mpr (l r e2 h3)
/-- a comprehension whose parts change nothing -/
theorem wp_eLc {fs : ExS} {T : Tg} {own : List Nat} (c : D → Bool) (v : D → D) (h1 : T.slots.all (fun i => own.contains i) = true)
    (h : wp (fs env) fun src e => ownOk own e = true ∧ src.items.length ≤ 10000 ∧ ownOk own (wipeE own e) = true ∧ (∀ d ∈ src.items, wo (T.asg d (wipeE own e)) fun e1 => wp (t e1) fun b e2 => b = c d ∧ (c d = true → wp (cold f e2) fun r e3 => r = .cold (v d) ∧ ownOk own e3 = true ∧ wipeE own e3 = wipeE own e) ∧ (c d = false → ownOk own e2 = true ∧ wipeE own e2 = wipeE own e)) ∧
      Q (.hot (.lst ((src.items.filter c).map v))) (unlk src.un (backE own e (wipeE own e)))) : wp (eLc fs T t f own env) Q := by
  obtain ⟨src, e, hs, o1, ln, o2, st, q⟩ := h
  refine ⟨_, _, lc_ok hs o1 h1 (lcL_pure (room := roomL) (acc := []) c v (fun d hd => ?_) fun a d hd ha _ => roomL_ok (by simp at ha; omega)) o2, q⟩
  obtain ⟨e1, a1, b, e2, a2, a3, a4, a5⟩ := st d hd
  refine ⟨e1, e2, a1, by rw [a2, a3], ?_⟩
  cases hc : c d with
  | true =>
    rw [if_pos rfl]
    obtain ⟨r, e3, b1, b2, b3, b4⟩ := a4 hc
    exact ⟨e3, by rw [b1, b2], b3, b4⟩
  | false =>
    rw [if_neg (by simp)]
    exact a5 hc
end
end Q
set_option Elab.async false
set_option linter.all false
set_option maxRecDepth 100000
set_option maxHeartbeats 1000000
namespace Q
open PySem
section
variable {Q : Rv → Sto → Prop} {QO : Out → Sto → Prop} {K : D → Prop} {R : Rv → Prop} {env e : Sto} {f g : Ex} {d x y : D} {i j : Int} {xs ys : List D} {kvs : List (D × D)}
theorem add_ii : wo (hAdd (.int i) (.int j)) R ↔ R (.cold (.int (i + j))) := wo_some
theorem add_ll : wo (hAdd (.list xs) (.list ys)) R ↔ cap (xs.length + ys.length) ∧ R (.hot (.lst (xs ++ ys))) := wo_if.trans (and_congr Iff.rfl wo_some)
theorem add_tt : wo (hAdd (.tuple xs) (.tuple ys)) R ↔ cap (xs.length + ys.length) ∧ R (.cold (.tuple (xs ++ ys))) := wo_if.trans (and_congr Iff.rfl wo_some)
theorem sub_ii : wo (hSub (.int i) (.int j)) R ↔ R (.cold (.int (i - j))) := wo_some
theorem mul_ii : wo (hMul (.int i) (.int j)) R ↔ mulOk i j ∧ R (.cold (.int (i * j))) := wo_if.trans (and_congr Iff.rfl wo_some)
theorem mul_li : wo (hMul (.list xs) (.int i)) R ↔ (-(2 ^ 63) ≤ i ∧ i < 2 ^ 63 ∧ cap (xs.length * i.toNat)) ∧ R (.hot (.lst (List.replicate i.toNat xs).flatten)) := wo_if.trans (and_congr Iff.rfl wo_some)
theorem mul_ti : wo (hMul (.tuple xs) (.int i)) R ↔ (xs ≠ [] ∧ 1 ≤ i ∧ i ≤ 1000 ∧ xs.length ≤ 1000) ∧ R (.cold (.tuple (List.replicate i.toNat xs).flatten)) := wo_if.trans (and_congr Iff.rfl wo_some)
theorem div_ii : wo (hDiv (.int i) (.int j)) R ↔ divOk j ∧ R (.cold (.int (i / j))) := by
  show wo ((if divOk j then some (PyData.int (i / j)) else none).map Rv.cold) R ↔ _
  rw [wo_map, wo_if, wo_some]
theorem mod_ii : wo (hMod (.int i) (.int j)) R ↔ 0 < j ∧ R (.cold (.int (i % j))) := by
  show wo ((if 0 < j then some (PyData.int (i % j)) else none).map Rv.cold) R ↔ _
  rw [wo_map, wo_if, wo_some]
theorem pow_ii : wo (hPow (.int i) (.int j)) R ↔ powOk i j ∧ R (.cold (.int (i ^ j.toNat))) := by
  show wo ((if powOk i j then some (PyData.int (i ^ j.toNat)) else none).map Rv.cold) R ↔ _
  rw [wo_map, wo_if, wo_some]
theorem neg_i : wo (hNeg (.int i)) R ↔ R (.cold (.int (-i))) := wo_some
theorem rev_l : wo (hRevL (.list xs)) R ↔ R (.hot (.lst xs.reverse)) := wo_some
theorem ix_l : wo (hIx (.list xs) (.int i)) R ↔ wo (L2.atI xs i) fun d => R (.cold d) := wo_map
theorem ix_t : wo (hIx (.tuple xs) (.int i)) R ↔ wo (L2.atI xs i) fun d => R (.cold d) := wo_map
theorem ix_d : wo (hIx (.dict kvs) x) R ↔ wo (keyOf x) fun k => wo (dget kvs k) fun d => R (.cold d) := by
  show wo ((keyOf x).bind fun k => (dget kvs k).map .cold) R ↔ _
  rw [wo_bind]
  exact ⟨fun h => wo_imp h fun _ h => wo_map.mp h, fun h => wo_imp h fun _ h => wo_map.mpr h⟩
theorem eq_xy : wo (wEq x y) K ↔ (SeqAt.shaped x = true ∧ SeqAt.shaped y = true) ∧ K (.bool (PyData.eqv x y)) := wo_if.trans (and_congr Iff.rfl wo_some)
theorem ne_xy : wo (wNe x y) K ↔ (SeqAt.shaped x = true ∧ SeqAt.shaped y = true) ∧ K (.bool (!PyData.eqv x y)) := wo_if.trans (and_congr Iff.rfl wo_some)
theorem ord_ii {gi : Int → Int → Bool} {gd : D → D → Bool} : wo (wOrd gi gd (.int i) (.int j)) K ↔ K (.bool (gi i j)) := wo_some
theorem in_w : wo (wIn x y) K ↔ wo (isIn x y) fun b => K (.bool b) := wo_map
theorem notin_w : wo (wNotIn x y) K ↔ wo (isIn x y) fun b => K (.bool (!b)) := wo_map
theorem in_l {k : Bool → Prop} : wo (isIn x (.list xs)) k ↔ (SeqAt.shaped x = true ∧ SeqAt.shaped (.list xs) = true) ∧ k (xs.any fun z => PyData.eqv z x) := wo_if.trans (and_congr Iff.rfl wo_some)
theorem in_t {k : Bool → Prop} : wo (isIn x (.tuple xs)) k ↔ (SeqAt.shaped x = true ∧ SeqAt.shaped (.tuple xs) = true) ∧ k (xs.any fun z => PyData.eqv z x) := wo_if.trans (and_congr Iff.rfl wo_some)
theorem is_w : wo (wIs x y) K ↔ wo (isQ x y) fun b => K (.bool b) := wo_map
theorem isnot_w : wo (wIsNot x y) K ↔ wo (isQ x y) fun b => K (.bool (!b)) := wo_map
theorem isq_n {k : Bool → Prop} : wo (isQ x .none) k ↔ k (isNone x) := wo_some
theorem isNone_n : isNone .none = true := rfl
theorem isNone_i : isNone (.int i) = false := rfl
theorem isNone_t : isNone (.tuple xs) = false := rfl
theorem isNone_l : isNone (.list xs) = false := rfl
theorem len_l : wo (hLen [.list xs]) R ↔ R (.cold (.int xs.length)) := wo_some
theorem len_t : wo (hLen [.tuple xs]) R ↔ R (.cold (.int xs.length)) := wo_some
theorem list_l : wo (hListOf [.list xs]) R ↔ R (.hot (.lst xs)) := wo_some
theorem list_t : wo (hListOf [.tuple xs]) R ↔ R (.hot (.lst xs)) := wo_some
theorem tup_l : wo (hTupOf [.list xs]) R ↔ R (.cold (.tuple xs)) := wo_some
theorem tup_t : wo (hTupOf [.tuple xs]) R ↔ R (.cold (.tuple xs)) := wo_some
theorem abs_i : wo (hAbs [.int i]) R ↔ R (.cold (.int (if i < 0 then -i else i))) := wo_some
theorem int_i : wo (hIntOf [.int i]) R ↔ R (.cold (.int i)) := wo_some
theorem int_b {b : Bool} : wo (hIntOf [.bool b]) R ↔ R (.cold (.int (if b = true then 1 else 0))) := wo_some
theorem min_ii : wo (hMin2 [.int i, .int j]) R ↔ R (.cold (.int (if j < i then j else i))) := wo_some
theorem max_ii : wo (hMax2 [.int i, .int j]) R ↔ R (.cold (.int (if j > i then j else i))) := wo_some
theorem nums_l {f : List Int → Option Rv} : wo (hNums f [.list xs]) R ↔ wo (asInts xs) fun ns => wo (f ns) R := wo_bind
theorem min_l : wo (hMin1 [.list xs]) R ↔ wo (asInts xs) fun ns => wo (leastI ns) fun m => R (.cold (.int m)) := by
  unfold hMin1
  rw [nums_l]
  exact ⟨fun h => wo_imp h fun _ h => wo_map.mp h, fun h => wo_imp h fun _ h => wo_map.mpr h⟩
theorem max_l : wo (hMax1 [.list xs]) R ↔ wo (asInts xs) fun ns => wo (mostI ns) fun m => R (.cold (.int m)) := by
  unfold hMax1
  rw [nums_l]
  exact ⟨fun h => wo_imp h fun _ h => wo_map.mp h, fun h => wo_imp h fun _ h => wo_map.mpr h⟩
theorem sum_l : wo (hSum [.list xs]) R ↔ wo (asInts xs) fun ns => R (.cold (.int ns.sum)) := by
  unfold hSum
  rw [nums_l]
  exact ⟨fun h => wo_imp h fun _ h => wo_some.mp h, fun h => wo_imp h fun _ h => wo_some.mpr h⟩
theorem sort_l : wo (hSort [.list xs]) R ↔ wo (asInts xs) fun ns => R (.hot (.lst ((sortI ns).map .int))) := by
  unfold hSort
  rw [nums_l]
  exact ⟨fun h => wo_imp h fun _ h => wo_some.mp h, fun h => wo_imp h fun _ h => wo_some.mpr h⟩
theorem wo_asInts {ns : List Int} {k : List Int → Prop} : wo (asInts (ns.map .int)) k ↔ k ns := by rw [asInts_map]; exact wo_some
theorem wo_asInts0 {k : List Int → Prop} : wo (asInts []) k ↔ k [] := wo_some
theorem wo_asIntsC {k : List Int → Prop} : wo (asInts (.int i :: xs)) k ↔ wo (asInts xs) fun ns => k (i :: ns) := wo_map
theorem key_i {k : L2.Key → Prop} : wo (keyOf (.int i)) k ↔ k (.inl i) := wo_some
theorem key_s {s : Str} {k : L2.Key → Prop} : wo (keyOf (.str s)) k ↔ k (.inr s) := wo_some
theorem wp_eLenSet : wp (eLenSet f env) Q ↔ wp (f env) fun r e => wo (viewC r e) fun d => ∃ ds ns, d = .tuple ds ∧ asInts ds = some ns ∧ ns.length < 4000 ∧ Q (.cold (.int (dedupI ns).length)) e := by
  unfold eLenSet
  rw [wp_bind]
  refine ⟨fun h => wp_imp h fun r e h => ?_, fun h => wp_imp h fun r e h => ?_⟩
  · cases hv : viewC r e with
    | none => simp [hv, wp_no] at h
    | some d =>
      rw [wo_some]
      cases d <;> simp only [hv, wp_no] at h
      rename_i ds
      cases ha : asInts ds with
      | none => simp [ha, wp_no] at h
      | some ns =>
        simp only [ha, wp_elseNo, wp_ok] at h
        exact ⟨ds, ns, rfl, ha, h.1, h.2⟩
  · obtain ⟨d, hv, ds, ns, rfl, ha, hl, q⟩ := h
    simp only [hv, ha, wp_elseNo, wp_ok]
    exact ⟨hl, q⟩
theorem lenSet_t {ns : List Int} {P : List Int → Prop} : (∃ ds ms, PyData.tuple (ns.map .int) = .tuple ds ∧ asInts ds = some ms ∧ P ms) ↔ P ns :=
  ⟨fun ⟨ds, ms, h1, h2, q⟩ => by cases h1; rw [asInts_map] at h2; cases h2; exact q, fun q => ⟨_, _, rfl, asInts_map ns, q⟩⟩
theorem wp_eChain {p p' : Int → Int → Bool} {h : Ex} : wp (eChain p p' f g h env) Q ↔ wp (f env) fun ra e1 => wp (g e1) fun rb e2 => wo (viewC ra e2) fun a => wo (intD a) fun i => wo (viewC rb e2) fun b => wo (intD b) fun j => (p i j = true → wp (h e2) fun rc e3 => wo (viewC rc e3) fun c => wo (intD c) fun k => Q (.cold (.bool (p' j k))) e3) ∧ (p i j = false → Q (.cold (.bool false)) e2) := by
  have last : ∀ (j : Int) (e2 : Sto), wp ((h e2).bind fun rc e3 => match viewC rc e3 with
      | some (.int k) => .ok (.cold (.bool (p' j k))) e3
      | _ => .no) Q ↔ wp (h e2) fun rc e3 => wo (viewC rc e3) fun c => wo (intD c) fun k => Q (.cold (.bool (p' j k))) e3 := by
    intro j e2
    rw [wp_bind]
    refine ⟨fun z => wp_imp z fun rc e3 z => ?_, fun z => wp_imp z fun rc e3 z => ?_⟩
    · cases hv : viewC rc e3 with
      | none => simp [hv, wp_no] at z
      | some d =>
        rw [wo_some]
        cases d <;> simp only [hv, wp_no, wp_ok] at z
        exact wo_some.mpr z
    · obtain ⟨d, hv, j, hj, q⟩ := z
      cases d <;> cases hj
      simp only [hv, wp_ok]
      exact q
  unfold eChain
  rw [wp_bind]
  have mid : ∀ ra rb e2, wp (match viewC ra e2, viewC rb e2 with
      | some (.int i), some (.int j) => if p i j = true then (h e2).bind fun rc e3 => match viewC rc e3 with
          | some (.int k) => .ok (.cold (.bool (p' j k))) e3
          | _ => .no
        else .ok (.cold (.bool false)) e2
      | _, _ => .no) Q ↔ wo (viewC ra e2) fun a => wo (intD a) fun i => wo (viewC rb e2) fun b => wo (intD b) fun j => (p i j = true → wp (h e2) fun rc e3 => wo (viewC rc e3) fun c => wo (intD c) fun k => Q (.cold (.bool (p' j k))) e3) ∧ (p i j = false → Q (.cold (.bool false)) e2) := by
    intro ra rb e2
    cases viewC ra e2 with
    | none => simp [wp_no, wo_none]
    | some a =>
      rw [wo_some]
      cases a with
      | int i =>
        rw [intD_i]
        cases viewC rb e2 with
        | none => simp [wp_no, wo_none]
        | some b =>
          rw [wo_some]
          cases b with
          | int j =>
            rw [intD_i]
            simp only [wp_ifB, wp_ok, last]
          | _ => simp [wp_no, wo_none, intD]
      | _ => simp [wp_no, wo_none, intD]
  exact ⟨fun z => wp_imp z fun _ _ z => wp_imp (wp_bind.mp z) fun _ _ z => (mid _ _ _).mp z, fun z => wp_imp z fun _ _ z => wp_bind.mpr (wp_imp z fun _ _ z => (mid _ _ _).mpr z)⟩
/-! stores in a list or dict -/
def store (e : Sto) (n : Nat) (ki d : D) (k : Sto → Prop) : Sl → Prop
  | .hot m (.lst xs) => m.lk = false ∧ wo (intD ki) fun j => wo (L2.ixN xs.length j) fun j => wset e n (.hot m (.lst (xs.set j d))) k
  | .hot m (.dic kvs) => (m.lk = false ∧ kvs.length < sizeLine) ∧ wo (keyOf ki) fun q => wset e n (.hot m (.dic (dput kvs q d))) k
  | _ => False
theorem store_l {n : Nat} {ki : D} {k : Sto → Prop} {m : Md} : store e n ki d k (.hot m (.lst xs)) ↔ m.lk = false ∧ wo (intD ki) fun j => wo (L2.ixN xs.length j) fun j => wset e n (.hot m (.lst (xs.set j d))) k := Iff.rfl
theorem store_d {n : Nat} {ki : D} {k : Sto → Prop} {m : Md} : store e n ki d k (.hot m (.dic kvs)) ↔ (m.lk = false ∧ kvs.length < sizeLine) ∧ wo (keyOf ki) fun q => wset e n (.hot m (.dic (dput kvs q d))) k := Iff.rfl
theorem wo_stI {n : Nat} {ki : D} {k : Sto → Prop} : wo (stI (.slot n) ki d e) k ↔ wo e[n]? (store e n ki d k) := by
  simp only [stI]
  cases hs : e[n]? with
  | none => simp [wo_none]
  | some s =>
    rw [wo_some]
    cases s with
    | un => simp [wo_none, store]
    | val d => simp [wo_none, store]
    | hot m h' =>
      cases h' with
      | lst xs =>
        by_cases z : m.lk = false
        · simp only [z, if_true, store, true_and]
          cases ki <;> simp only [intD, wo_none, wo_some, wo_map, wset]
        · simp [z, store, wo_none]
      | dic kvs =>
        simp only [store]
        rw [wo_if, wo_map]
        rfl
      | _ => simp [wo_none, store]
theorem wp_stI {α : Type} {ro : Rv} {ki : D} {a : α} {Q : α → Sto → Prop} : wp (match stI ro ki d e with
    | some e6 => (.ok a e6 : Res α)
    | none => .no) Q ↔ wo (stI ro ki d e) fun e6 => Q a e6 := by
  cases stI ro ki d e <;> simp [wp_ok, wp_no, wo_none, wo_some]
theorem wp_sSub {fo fi : Ex} : wp (sSub f fo fi env) QO ↔ wp (cold f env) fun r e1 => wp (fo e1) fun ro e2 => wp (cold fi e2) fun ri e3 => ∃ d, r = .cold d ∧ ∃ ki, ri = .cold ki ∧ wo (stI ro ki d e3) fun e4 => QO .nx e4 := by
  unfold sSub
  rw [wp_bind]
  refine ⟨fun z => wp_imp z fun r e1 z => wp_imp (wp_bind.mp z) fun ro e2 z => wp_imp (wp_bind.mp z) fun ri e3 z => ?_, fun z => wp_imp z fun r e1 z => wp_bind.mpr (wp_imp z fun ro e2 z => wp_bind.mpr (wp_imp z fun ri e3 z => ?_))⟩
  · cases r with
    | cold d =>
      cases ri with
      | cold ki => exact ⟨d, rfl, ki, rfl, wp_stI.mp z⟩
      | _ => exact (wp_no.mp z).elim
    | _ => exact (wp_no.mp z).elim
  · obtain ⟨d, rfl, ki, rfl, z⟩ := z
    exact wp_stI.mpr z
theorem wp_sAugS {op : Rv → Rv → Sto → Res Rv} {fo fi fe : Ex} : wp (sAugS op fo fi fe env) QO ↔ wp (fo env) fun ro e1 => wp (cold fi e1) fun ri e2 => wp (dat2 hIx ro ri e2) fun r e3 => wp (cold fe e3) fun re e4 => wp (op r re e4) fun rn e5 => ∃ ki, ri = .cold ki ∧ ∃ d, rn = .cold d ∧ wo (stI ro ki d e5) fun e6 => QO .nx e6 := by
  unfold sAugS
  rw [wp_bind]
  refine ⟨fun z => wp_imp z fun ro e1 z => wp_imp (wp_bind.mp z) fun ri e2 z => wp_imp (wp_bind.mp z) fun r e3 z => wp_imp (wp_bind.mp z) fun re e4 z => wp_imp (wp_bind.mp z) fun rn e5 z => ?_,
    fun z => wp_imp z fun ro e1 z => wp_bind.mpr (wp_imp z fun ri e2 z => wp_bind.mpr (wp_imp z fun r e3 z => wp_bind.mpr (wp_imp z fun re e4 z => wp_bind.mpr (wp_imp z fun rn e5 z => ?_))))⟩
  · cases ri with
    | cold ki =>
      cases rn with
      | cold d => exact ⟨ki, rfl, d, rfl, wp_stI.mp z⟩
      | _ => exact (wp_no.mp z).elim
    | _ => exact (wp_no.mp z).elim
  · obtain ⟨ki, rfl, d, rfl, z⟩ := z
    exact wp_stI.mpr z
def aug (op : Rv → Rv → Sto → Res Rv) (i : Nat) (fe : Ex) (env : Sto) (QO : Out → Sto → Prop) : Sl → Prop
  | .val d => wp (cold fe env) fun re e1 => wp (op (.slot i) re e1) fun rn e2 => wput e2 i rn fun e3 => QO .nx e3
  | _ => False
theorem aug_v {op : Rv → Rv → Sto → Res Rv} {n : Nat} {fe : Ex} : aug op n fe env QO (.val d) ↔ wp (cold fe env) fun re e1 => wp (op (.slot n) re e1) fun rn e2 => wput e2 n rn fun e3 => QO .nx e3 := Iff.rfl
theorem wp_sAug {op : Rv → Rv → Sto → Res Rv} {n : Nat} {fe : Ex} : wp (sAug op n fe env) QO ↔ wo env[n]? (aug op n fe env QO) := by
  unfold sAug
  cases hs : env[n]? with
  | none => simp [wo_none, wp_no]
  | some s =>
    rw [wo_some]
    cases s with
    | un => simp [wp_no, aug]
    | hot m h => simp [wp_no, aug]
    | val d =>
      simp only [aug]
      rw [wp_bind]
      exact ⟨fun z => wp_imp z fun _ _ z => wp_imp (wp_bind.mp z) fun _ _ z => wp_putS.mp z, fun z => wp_imp z fun _ _ z => wp_bind.mpr (wp_imp z fun _ _ z => wp_putS.mpr z)⟩
theorem ip_ii {op : Int → Int → Int} {r r2 : Rv} : wp (ipInt op r r2 e) Q ↔ wo (viewC r e) fun a => wo (viewC r2 e) fun b => wo (hI (fun i j => some (.int (op i j))) a b) fun r => Q r e := wp_dat2
theorem hI_ii {gg : Int → Int → Option D} : wo (hI gg (.int i) (.int j)) R ↔ wo (gg i j) fun d => R (.cold d) := wo_map
/-! the script -/
theorem wp_eLenScr {n : Nat} : wp (eLenScr (eVar n) env) Q ↔ wo env[n]? fun s => ∃ ds, s = .val (.dict [(.none, .list ds)]) ∧ Q (.cold (.int ds.length)) env := by
  unfold eLenScr
  rw [wp_bind, wp_eVar]
  refine ⟨fun z => (?_ : _), fun z => (?_ : _)⟩
  · obtain ⟨s, hs, b, z⟩ := z
    refine ⟨s, hs, ?_⟩
    cases s with
    | val d =>
      simp only [scrOf, hs] at z
      unfold scrD at z
      split at z
      · rename_i ds h
        split at h
        · cases h; exact ⟨_, rfl, wp_ok.mp z⟩
        · cases h
      · exact (wp_no.mp z).elim
    | un => exact b.elim
    | hot m h => simp [scrOf, hs, wp_no] at z
  · obtain ⟨s, hs, ds, rfl, z⟩ := z
    exact ⟨_, hs, trivial, by simp only [scrOf, hs, scrD]; exact wp_ok.mpr z⟩
theorem wp_eIxScr {n : Nat} : wp (eIxScr (eVar n) g env) Q ↔ wo env[n]? fun s => bnd s ∧ wp (g env) fun r e => wo e[n]? fun s => ∃ ds, s = .val (.dict [(.none, .list ds)]) ∧ wo (viewC r e) fun d => wo (intD d) fun i => wo (L2.atI ds i) fun d => Q (.cold d) e := by
  unfold eIxScr
  rw [wp_bind, wp_eVar]
  have go : ∀ r2 e2, wp (match scrOf (.slot n) e2, viewC r2 e2 with
      | some ds, some (.int i) => fin1 ((L2.atI ds i).map .cold) e2
      | _, _ => .no) Q ↔ wo e2[n]? fun s => ∃ ds, s = .val (.dict [(.none, .list ds)]) ∧ wo (viewC r2 e2) fun d => wo (intD d) fun i => wo (L2.atI ds i) fun d => Q (.cold d) e2 := by
    intro r2 e2
    refine ⟨fun z => (?_ : _), fun z => (?_ : _)⟩
    · cases hs : e2[n]? with
      | none => simp [scrOf, hs, wp_no] at z
      | some s =>
        rw [wo_some]
        cases s with
        | un => simp [scrOf, hs, wp_no] at z
        | hot m h => simp [scrOf, hs, wp_no] at z
        | val d =>
          simp only [scrOf, hs] at z
          unfold scrD at z
          split at z
          · rename_i ds i h h2
            split at h
            · cases h
              exact ⟨_, rfl, by rw [h2, wo_some, intD_i]; exact wo_map.mp (wp_fin1.mp z)⟩
            · cases h
          · exact (wp_no.mp z).elim
    · obtain ⟨s, hs, ds, rfl, d, hv, i, hd, z⟩ := z
      cases d <;> cases hd
      simp only [scrOf, hs, scrD, hv]
      exact wp_fin1.mpr (wo_map.mpr z)
  exact ⟨fun z => wo_imp z fun s z => ⟨z.1, wp_imp (wp_bind.mp z.2) fun _ _ z => (go _ _).mp z⟩, fun z => wo_imp z fun s z => ⟨z.1, wp_bind.mpr (wp_imp z.2 fun _ _ z => (go _ _).mpr z)⟩⟩
theorem scr_is {ds : List D} {P : List D → Prop} : (∃ ds', Sl.val (.dict [(.none, .list ds)]) = .val (.dict [(.none, .list ds')]) ∧ P ds') ↔ P ds := ⟨fun ⟨_, h, q⟩ => by cases h; exact q, fun q => ⟨_, rfl, q⟩⟩
end
end Q
set_option Elab.async false
set_option linter.all false
set_option maxRecDepth 100000
set_option maxHeartbeats 1000000
namespace Q
open PySem
theorem cap_iff {n : Nat} : cap n ↔ n ≤ 16777216 := by
  show n ≤ sizeLine ↔ _
  rw [sizeLine_eq]
theorem rng_iff {i : Int} : rngOk i ↔ -4611686018427387904 ≤ i ∧ i < 4611686018427387904 := Iff.rfl
theorem lrg_iff {i j : Int} : lrgOk i j ↔ -100000 ≤ i ∧ i ≤ 100000 ∧ -100000 ≤ j ∧ j ≤ 100000 := Iff.rfl
theorem div_iff {j : Int} : divOk j ↔ 0 < j ∧ j < 1073741824 := Iff.rfl
theorem mul_iff {i j : Int} : mulOk i j ↔ (-18446744073709551616 < i ∧ i < 18446744073709551616) ∨ (-18446744073709551616 < j ∧ j < 18446744073709551616) := Iff.rfl
theorem pow_iff {i j : Int} : powOk i j ↔ 0 ≤ j ∧ j ≤ 1000000 ∧ i.natAbs < 18446744073709551616 := Iff.rfl
theorem size_lt {n : Nat} : n < sizeLine ↔ n < 16777216 := by rw [sizeLine_eq]
theorem free_pin : Md.free.pin = false := rfl
theorem free_lk : Md.free.lk = false := rfl
theorem lent_lk : Md.lent.lk = false := rfl
theorem ff {p : Prop} : (true = false → p) ↔ True := by simp
theorem ft {p : Prop} : (false = true → p) ↔ True := by simp
theorem tt {p : Prop} : (true = true → p) ↔ p := by simp
theorem ffp {p : Prop} : (false = false → p) ↔ p := by simp
theorem dt {p : Prop} [Decidable p] {q : Prop} : (decide p = true → q) ↔ (p → q) := by simp
theorem df {p : Prop} [Decidable p] {q : Prop} : (decide p = false → q) ↔ (¬ p → q) := by simp
theorem ndt {p : Prop} [Decidable p] {q : Prop} : ((!decide p) = true → q) ↔ (¬ p → q) := by simp
theorem ndf {p : Prop} [Decidable p] {q : Prop} : ((!decide p) = false → q) ↔ (p → q) := by simp
theorem append_append1 {p : Option (D × List D)} : p = p := rfl
theorem app_is {i : Nat} {e : Sto} {d : D} {Q : Rv → Sto → Prop} {m : Md} {xs : List D} : wp (mAppend (.slot i) [.cold d] e) Q ↔ wo e[i]? (chg e i [.cold d] (fun xs ds => match ds with
  | [d] => if xs.length < sizeLine then some (.none, xs ++ [d]) else none
  | _ => none) Q) := wp_onL
theorem wo_ret {α : Type} {c : Prop} [Decidable c] {a : α} {P : α → Prop} : wo (if c then some a else none) P ↔ c ∧ P a := wo_if.trans (and_congr Iff.rfl wo_some)
theorem fin_hot {m : Md} {h : Hot} {as : List Sl} {s : Sl} {e : Sto} : finA (.hot m h :: as) (s :: e) = s :: finA as e := rfl
theorem fin_val {d : D} {as : List Sl} {s : Sl} {e : Sto} : finA (.val d :: as) (s :: e) = .val d :: finA as e := rfl
theorem fin_nil {e : Sto} : finA [] e = [] := by cases e <;> rfl
theorem ownOk_nil {e : Sto} : ownOk [] e = true ↔ True := by simp [ownOk]
theorem ownOk_cons {i : Nat} {is : List Nat} {e : Sto} : ownOk (i :: is) e = true ↔ (wo e[i]? fun s => s.isHot = false) ∧ ownOk is e = true := by
  unfold ownOk
  rw [List.all_cons, Bool.and_eq_true]
  refine and_congr ?_ Iff.rfl
  cases e[i]? <;> simp [wo_some, wo_none]
theorem hot_v {d : D} : Sl.isHot (.val d) = false ↔ True := by simp [Sl.isHot]
theorem hot_u : Sl.isHot .un = false ↔ True := by simp [Sl.isHot]
theorem wipe_0 {e : Sto} : wipeE [] e = e := rfl
theorem wipe_1 {e : Sto} {i : Nat} {is : List Nat} : wipeE (i :: is) e = wipeE is (e.set i .un) := rfl
theorem back_0 {e e0 : Sto} : backE [] e0 e = e := rfl
theorem back_1 {e e0 : Sto} {i : Nat} {is : List Nat} : backE (i :: is) e0 e = backE is e0 (match e0[i]? with
    | some s => e.set i s
    | none => e) := rfl
theorem wput_is {e : Sto} {i : Nat} {r : Rv} {k : Sto → Prop} : wput e i r k ↔ wo e[i]? fun s => s.settable = true ∧ wo r.sl fun t => wset e i t k := Iff.rfl
theorem true_imp {p : Prop} : (True → p) ↔ p := by simp
theorem range_rngD (n : Nat) {g : Int → D} : (rngD 0 n).map (onI g) = (List.range n).map fun (k : Nat) => g (k : Nat) := by
  rw [rngD0, map_onI, List.map_map]; rfl
end Q
set_option Elab.async false
set_option linter.all false
set_option maxRecDepth 100000
set_option maxHeartbeats 1000000
/-! the program in Lean and its pure functions, printed by gen.py -/
namespace K79
open PySem PySem.Spec PyProof.Rows L2 Q
def topS (i : Nat) : Stmt := PySem.Challenge.pw_slowshelves_k79_whole_more_rooms_than_ei.main.body.getD i (.Pass ⟨0, 0, 0, 0⟩)
/-! ### is_integer -/
abbrev s_is_integer : Stmt := topS 5
abbrev n_is_integer : List Str := ["value"]
theorem sc_is_integer : FnScope n_is_integer ["value"] (defScope s_is_integer) := ⟨rfl, rfl, rfl, by decide +kernel, rfl, by decide +kernel, by decide +kernel⟩
def g_is_integer : Sm :=
  sRet (eAnd (eIsi ["int"] (eVar 0)) (eNot (eIsi ["bool"] (eVar 0))))
def f_is_integer : FnS := defF 1 1 g_is_integer
/-! ### is_number -/
abbrev s_is_number : Stmt := topS 6
abbrev n_is_number : List Str := ["value"]
theorem sc_is_number : FnScope n_is_number ["value"] (defScope s_is_number) := ⟨rfl, rfl, rfl, by decide +kernel, rfl, by decide +kernel, by decide +kernel⟩
def g_is_number : Sm :=
  sRet (eAnd (callE f_is_integer (aCons (eArg 0) (aNil))) (bin (whole2 wGe) (eVar 0) (eC (.int 0))))
def f_is_number : FnS := defF 1 1 g_is_number
/-! ### is_below -/
abbrev s_is_below : Stmt := topS 7
abbrev n_is_below : List Str := ["value", "many"]
theorem sc_is_below : FnScope n_is_below ["value", "many"] (defScope s_is_below) := ⟨rfl, rfl, rfl, by decide +kernel, rfl, by decide +kernel, by decide +kernel⟩
def g_is_below : Sm :=
  sRet (eAnd (callE f_is_number (aCons (eArg 0) (aNil))) (bin (whole2 wLt) (eVar 0) (eVar 1)))
def f_is_below : FnS := defF 2 2 g_is_below
/-! ### is_sequence -/
abbrev s_is_sequence : Stmt := topS 8
abbrev n_is_sequence : List Str := ["value"]
theorem sc_is_sequence : FnScope n_is_sequence ["value"] (defScope s_is_sequence) := ⟨rfl, rfl, rfl, by decide +kernel, rfl, by decide +kernel, by decide +kernel⟩
def g_is_sequence : Sm :=
  sRet (eIsi ["list", "tuple"] (eVar 0))
def f_is_sequence : FnS := defF 1 1 g_is_sequence
/-! ### need_touches -/
abbrev s_need_touches : Stmt := topS 13
abbrev n_need_touches : List Str := ["value", "at", "block"]
theorem sc_need_touches : FnScope n_need_touches ["value"] (defScope s_need_touches) := ⟨rfl, rfl, rfl, by decide +kernel, rfl, by decide +kernel, by decide +kernel⟩
def g_need_touches : Sm :=
  sSeq (sIf (bOr (bNot (asB (callE f_is_sequence (aCons (eArg 0) (aNil))))) (bNot (asB (eChain (fun i j => decide (i ≤ j)) (fun i j => decide (i ≤ j)) (eC (.int 1)) (eB hLen (aCons (eVar 0) (aNil))) (eC (.int 400)))))) ((fun _ => .no)) (sNx))
  (sSeq (sFor (iEnumC (eVar 0)) (.tp (.cons (.nm 1) (.cons (.nm 2) (.nil)))) (sIf (bOr (bNot (asB (callE f_is_below (aCons (eArg 2) (aCons (cold (eC (.int 40))) (aNil)))))) (bAnd (asB (bin (whole2 wGt) (eVar 1) (eC (.int 0)))) (asB (bin (whole2 wEq) (eVar 2) (bin (dat2 hIx) (eVar 0) (bin (dat2 hSub) (eVar 1) (eC (.int 1)))))))) ((fun _ => .no)) (sNx)))
  (sRet (eB hTupOf (aCons (eVar 0) (aNil)))))
def f_need_touches : FnS := defF 1 3 g_need_touches
/-! ### is_rooms -/
abbrev s_is_rooms : Stmt := topS 15
abbrev n_is_rooms : List Str := ["value"]
theorem sc_is_rooms : FnScope n_is_rooms ["value"] (defScope s_is_rooms) := ⟨rfl, rfl, rfl, by decide +kernel, rfl, by decide +kernel, by decide +kernel⟩
def g_is_rooms : Sm :=
  sRet (eAnd (callE f_is_number (aCons (eArg 0) (aNil))) (eChain (fun i j => decide (i ≤ j)) (fun i j => decide (i ≤ j)) (eC (.int 1)) (eVar 0) (eC (.int 5))))
def f_is_rooms : FnS := defF 1 1 g_is_rooms
/-! ### rooms_row -/
abbrev s_rooms_row : Stmt := topS 16
abbrev n_rooms_row : List Str := ["touches", "rooms", "at", "here"]
theorem sc_rooms_row : FnScope n_rooms_row ["touches", "rooms"] (defScope s_rooms_row) := ⟨rfl, rfl, rfl, by decide +kernel, rfl, by decide +kernel, by decide +kernel⟩
def g_rooms_row : Sm :=
  sSeq (sIf (asB (callE f_is_rooms (aCons (eArg 1) (aNil)))) (sRet (bin (dat2 hMul) (eTup (aCons (cold (eVar 1)) (aNil))) (eB hLen (aCons (eVar 0) (aNil))))) (sNx))
  (sSeq (sIf (bOr (bNot (asB (callE f_is_sequence (aCons (eArg 1) (aNil))))) (asB (bin (whole2 wNe) (eB hLen (aCons (eVar 1) (aNil))) (eB hLen (aCons (eVar 0) (aNil)))))) ((fun _ => .no)) (sNx))
  (sSeq (sFor (iEnumC (eVar 1)) (.tp (.cons (.nm 2) (.cons (.nm 3) (.nil)))) (sIf (bNot (asB (callE f_is_rooms (aCons (eArg 3) (aNil))))) ((fun _ => .no)) (sNx)))
  (sRet (eB hTupOf (aCons (eVar 1) (aNil))))))
def f_rooms_row : FnS := defF 2 4 g_rooms_row
/-! ### need_lived -/
abbrev s_need_lived : Stmt := topS 17
abbrev n_need_lived : List Str := ["touches", "rooms"]
theorem sc_need_lived : FnScope n_need_lived ["touches", "rooms"] (defScope s_need_lived) := ⟨rfl, rfl, rfl, by decide +kernel, rfl, by decide +kernel, by decide +kernel⟩
def g_need_lived : Sm :=
  sSeq (sSet 0 (callE f_need_touches (aCons (eArg 0) (aNil))))
  (sRet (eTup (aCons (cold (eVar 0)) (aCons (cold (callE f_rooms_row (aCons (eArg 0) (aCons (eArg 1) (aNil))))) (aNil)))))
def f_need_lived : FnS := defF 2 2 g_need_lived
/-! ### unlike_blocks -/
abbrev s_unlike_blocks : Stmt := topS 18
abbrev n_unlike_blocks : List Str := ["touches", "block"]
theorem sc_unlike_blocks : FnScope n_unlike_blocks ["touches"] (defScope s_unlike_blocks) := ⟨rfl, rfl, rfl, by decide +kernel, rfl, by decide +kernel, by decide +kernel⟩
def g_unlike_blocks : Sm :=
  sRet (eB hTupOf (aCons (eSortSc (iSlot 0) (.nm 1) (tTrue) (eVar 1) [1]) (aNil)))
def f_unlike_blocks : FnS := defF 1 2 g_unlike_blocks
/-! ### room_limits -/
abbrev s_room_limits : Stmt := topS 20
abbrev n_room_limits : List Str := ["row", "rooms"]
theorem sc_room_limits : FnScope n_room_limits ["row"] (defScope s_room_limits) := ⟨rfl, rfl, rfl, by decide +kernel, rfl, by decide +kernel, by decide +kernel⟩
def g_room_limits : Sm :=
  sRet (eB hTupOf (aCons (eLc (iSlot 0) (.nm 1) (tTrue) (bin (dat2 hSub) (eVar 1) (eC (.int 1))) [1]) (aNil)))
def f_room_limits : FnS := defF 1 2 g_room_limits
/-! ### end_marks -/
abbrev s_end_marks : Stmt := topS 21
abbrev n_end_marks : List Str := ["touches", "limits", "loads", "last", "marks", "moment", "block", "under", "one", "free"]
theorem sc_end_marks : FnScope n_end_marks ["touches", "limits"] (defScope s_end_marks) := ⟨rfl, rfl, rfl, by decide +kernel, rfl, by decide +kernel, by decide +kernel⟩
def g_end_marks : Sm :=
  sSeq (sPar [2, 3, 4] (aCons (own (bin (dat2 hMul) (eLst (aCons (cold (eC (.int 0))) (aNil))) (eB hLen (aCons (eVar 0) (aNil))))) (aCons (own (eDic0)) (aCons (own (eLst (aNil))) (aNil)))))
  (sSeq (sFor (iEnumC (eVar 0)) (.tp (.cons (.nm 5) (.cons (.nm 6) (.nil)))) (sSeq (sSet 7 (eLRg2 (bin (dat2 hAdd) (eMt "dict" mDGet2 (eVar 3) (aCons (cold (eVar 6)) (aCons (cold (bin (dat2 hSub) (eVar 5) (eC (.int 1)))) (aNil)))) (eC (.int 1))) (eVar 5)))
  (sSeq (sSet 9 (eAnd (bin (whole2 wIn) (eVar 6) (eVar 3)) (eB (hBls fun bs => bs.all id) (aCons (eLc (iSlot 7) (.nm 8) (tTrue) (bin (whole2 wLt) (bin (dat2 hIx) (eVar 2) (eVar 8)) (bin (dat2 hIx) (eVar 1) (eVar 8))) [8]) (aNil)))))
  (sSeq (sIf (asB (eVar 9)) (sFor (iSlot 7) (.nm 8) (sAugS (ipInt (fun i j => i + j)) (eVar 2) (eVar 8) (eC (.int 1)))) (sNx))
  (sSeq (sSub (eVar 5) (eVar 3) (eVar 6))
  (sExpr (eMt "list" mAppend (eVar 4) (aCons (cold (eVar 9)) (aNil)))))))))
  (sRet (eB hTupOf (aCons (eVar 4) (aNil)))))
def f_end_marks : FnS := defF 2 10 g_end_marks
/-! ### beginning_moves -/
abbrev s_beginning_moves : Stmt := topS 22
abbrev n_beginning_moves : List Str := ["touches", "rooms", "row", "moves", "found", "free"]
theorem sc_beginning_moves : FnScope n_beginning_moves ["touches", "rooms"] (defScope s_beginning_moves) := ⟨rfl, rfl, rfl, by decide +kernel, rfl, by decide +kernel, by decide +kernel⟩
def g_beginning_moves : Sm :=
  sSeq (sTg (.tp (.cons (.nm 0) (.cons (.nm 2) (.nil)))) (callE f_need_lived (aCons (eArg 0) (aCons (eArg 1) (aNil)))))
  (sSeq (sPar [3, 4] (aCons (own (eC (.int 0))) (aCons (own (eLst (aNil))) (aNil))))
  (sSeq (sFor (iCold (callE f_end_marks (aCons (eArg 0) (aCons (cold (callE f_room_limits (aCons (eArg 2) (aNil)))) (aNil))))) (.nm 5) (sSeq (sAug (ipInt (fun i j => i + j)) 3 (eIf (asB (eVar 5)) (eC (.int 0)) (eC (.int 1))))
  (sExpr (eMt "list" mAppend (eVar 4) (aCons (cold (eVar 3)) (aNil))))))
  (sRet (eB hTupOf (aCons (eVar 4) (aNil))))))
def f_beginning_moves : FnS := defF 2 6 g_beginning_moves
/-! ### all_marks -/
abbrev s_all_marks : Stmt := topS 23
abbrev n_all_marks : List Str := ["touches", "limit"]
theorem sc_all_marks : FnScope n_all_marks ["touches"] (defScope s_all_marks) := ⟨rfl, rfl, rfl, by decide +kernel, rfl, by decide +kernel, by decide +kernel⟩
def g_all_marks : Sm :=
  sRet (eLc (iRng1 (eB hLen (aCons (callE f_unlike_blocks (aCons (eArg 0) (aNil))) (aNil)))) (.nm 1) (tTrue) (callE f_end_marks (aCons (eArg 0) (aCons (cold (bin (dat2 hMul) (eTup (aCons (cold (eVar 1)) (aNil))) (eB hLen (aCons (eVar 0) (aNil))))) (aNil)))) [1])
def f_all_marks : FnS := defF 1 2 g_all_marks
/-! ### touch_depths -/
abbrev s_touch_depths : Stmt := topS 24
abbrev n_touch_depths : List Str := ["touches", "rows", "depths", "moment", "free", "at", "marks"]
theorem sc_touch_depths : FnScope n_touch_depths ["touches"] (defScope s_touch_depths) := ⟨rfl, rfl, rfl, by decide +kernel, rfl, by decide +kernel, by decide +kernel⟩
def g_touch_depths : Sm :=
  sSeq (sSet 0 (callE f_need_touches (aCons (eArg 0) (aNil))))
  (sSeq (sPar [1, 2] (aCons (own (callE f_all_marks (aCons (eArg 0) (aNil)))) (aCons (own (eLst (aNil))) (aNil))))
  (sSeq (sFor (iRng1 (eB hLen (aCons (eVar 0) (aNil)))) (.nm 3) (sSeq (sSet 4 (eLc (iEnumC (eVar 1)) (.tp (.cons (.nm 5) (.cons (.nm 6) (.nil)))) (asB (bin (dat2 hIx) (eVar 6) (eVar 3))) (bin (dat2 hAdd) (eVar 5) (eC (.int 1))) [5, 6]))
  (sExpr (eMt "list" mAppend (eVar 2) (aCons (cold (eIf (asB (bin (whole2 wGt) (eB hLen (aCons (eVar 4) (aNil))) (eC (.int 0)))) (bin (dat2 hIx) (eVar 4) (eC (.int 0))) (eC .none))) (aNil))))))
  (sRet (eB hTupOf (aCons (eVar 2) (aNil))))))
def f_touch_depths : FnS := defF 1 7 g_touch_depths
/-! ### rooms_moves -/
abbrev s_rooms_moves : Stmt := topS 25
abbrev n_rooms_moves : List Str := ["touches", "marks"]
theorem sc_rooms_moves : FnScope n_rooms_moves ["touches"] (defScope s_rooms_moves) := ⟨rfl, rfl, rfl, by decide +kernel, rfl, by decide +kernel, by decide +kernel⟩
def g_rooms_moves : Sm :=
  sRet (eB hTupOf (aCons (eLc (iCold (callE f_all_marks (aCons (cold (callE f_need_touches (aCons (eArg 0) (aNil)))) (aNil)))) (.nm 1) (tTrue) (eMt "tuple" (mDat gCntT) (eVar 1) (aCons (eC (.bool false)) (aNil))) [1]) (aNil)))
def f_rooms_moves : FnS := defF 1 2 g_rooms_moves
/-! ### _law_box -/
abbrev s__law_box : Stmt := topS 27
abbrev n__law_box : List Str := ["script", "k", "cell"]
theorem sc__law_box : FnScope n__law_box ["script", "k"] (defScope s__law_box) := ⟨rfl, rfl, rfl, by decide +kernel, rfl, by decide +kernel, by decide +kernel⟩
def g__law_box : Sm :=
  sSeq (sSet 2 (bin (dat2 hAdd) (bin (dat2 hMul) (eC (.int 5099)) (eVar 1)) (eC (.int 1061))))
  (sSeq (sIf (asB (bin (whole2 wLt) (eVar 1) (eLenScr (eVar 0)))) (sSet 2 (eB hAbs (aCons (eIxScr (eVar 0) (eVar 1)) (aNil)))) (sIf (asB (bin (whole2 wGt) (eLenScr (eVar 0)) (eC (.int 0)))) (sSet 2 (bin (dat2 hAdd) (eVar 2) (bin (dat2 hMul) (bin (dat2 hMod) (eB hIntOf (aCons (eB hAbs (aCons (eIxScr (eVar 0) (bin (dat2 hMod) (eB hIntOf (aCons (eVar 1) (aNil))) (eLenScr (eVar 0)))) (aNil))) (aNil))) (eC (.int 2147483629))) (eC (.int 70793))))) (sNx)))
  (sRet (eLst (aCons (cold (bin (dat2 hIx) (eLst (aCons (cold (eC (.int 0))) (aCons (cold (eVar 2)) (aNil)))) (eB hIntOf (aCons (bin (whole2 wGe) (eVar 2) (bin (dat2 hPow) (eC (.int 10)) (eC (.int 18)))) (aNil))))) (aCons (cold (bin (dat2 hAdd) (bin (dat2 hMod) (eB hIntOf (aCons (bin (dat2 hAdd) (bin (dat2 hMul) (bin (dat2 hMod) (eB hIntOf (aCons (eVar 2) (aNil))) (eC (.int 2147483629))) (eC (.int 39397))) (bin (dat2 hMul) (eC (.int 5171)) (eVar 1))) (aNil))) (eC (.int 2147483629))) (eC (.int 1)))) (aCons (cold (eC (.int 0))) (aNil)))))))
def f__law_box : FnS := defF 2 3 g__law_box
/-! ### _law_take -/
abbrev s__law_take : Stmt := topS 28
abbrev n__law_take : List Str := ["box", "many", "digit", "raw"]
theorem sc__law_take : FnScope n__law_take ["box", "many"] (defScope s__law_take) := ⟨rfl, rfl, rfl, by decide +kernel, rfl, by decide +kernel, by decide +kernel⟩
def g__law_take : Sm :=
  sSeq (sIf (asB (bin (whole2 wGt) (bin (dat2 hIx) (eVar 0) (eC (.int 0))) (eC (.int 0)))) (sSeq (sSet 2 (bin (dat2 hMod) (eB hIntOf (aCons (bin (dat2 hIx) (eVar 0) (eC (.int 0))) (aNil))) (eVar 1)))
  (sSeq (sSub (bin (dat2 hDiv) (bin (dat2 hIx) (eVar 0) (eC (.int 0))) (eVar 1)) (eVar 0) (eC (.int 0)))
  (sRet (eVar 2)))) (sNx))
  (sSeq (sSub (bin (dat2 hAdd) (bin (dat2 hIx) (eVar 0) (eC (.int 2))) (eC (.int 1))) (eVar 0) (eC (.int 2)))
  (sSeq (sSet 3 (bin (dat2 hMod) (eB hIntOf (aCons (bin (dat2 hAdd) (bin (dat2 hMul) (bin (dat2 hAdd) (bin (dat2 hIx) (eVar 0) (eC (.int 1))) (bin (dat2 hMul) (eC (.int 90011)) (bin (dat2 hIx) (eVar 0) (eC (.int 2))))) (eC (.int 58229))) (eC (.int 47))) (aNil))) (eC (.int 2147483563))))
  (sSeq (sSub (bin (dat2 hAdd) (bin (dat2 hMod) (eB hIntOf (aCons (bin (dat2 hAdd) (bin (dat2 hMul) (eVar 3) (eC (.int 40283))) (eC (.int 27367))) (aNil))) (eC (.int 2147483629))) (eC (.int 1))) (eVar 0) (eC (.int 1)))
  (sRet (bin (dat2 hMod) (eB hIntOf (aCons (bin (dat2 hDiv) (bin (dat2 hAdd) (bin (dat2 hMul) (eVar 3) (eC (.int 2147483647))) (bin (dat2 hIx) (eVar 0) (eC (.int 1)))) (eC (.int 8191))) (aNil))) (eVar 1))))))
def f__law_take : FnS := defF 2 4 g__law_take
/-! ### _law_pick -/
abbrev s__law_pick : Stmt := topS 29
abbrev n__law_pick : List Str := ["box", "some"]
theorem sc__law_pick : FnScope n__law_pick ["box", "some"] (defScope s__law_pick) := ⟨rfl, rfl, rfl, by decide +kernel, rfl, by decide +kernel, by decide +kernel⟩
def g__law_pick : Sm :=
  sRet (bin (dat2 hIx) (eVar 1) (callE f__law_take (aCons (eArg 0) (aCons (cold (eB hLen (aCons (eVar 1) (aNil)))) (aNil)))))
def f__law_pick : FnS := defF 2 2 g__law_pick
/-! ### _law_mixed -/
abbrev s__law_mixed : Stmt := topS 30
abbrev n__law_mixed : List Str := ["box", "row", "left", "found", "turn"]
theorem sc__law_mixed : FnScope n__law_mixed ["box", "row"] (defScope s__law_mixed) := ⟨rfl, rfl, rfl, by decide +kernel, rfl, by decide +kernel, by decide +kernel⟩
def g__law_mixed : Sm :=
  sSeq (sPar [2, 3] (aCons (own (eB hListOf (aCons (eVar 1) (aNil)))) (aCons (own (eLst (aNil))) (aNil))))
  (sSeq (sFor (iRng1 (eB hLen (aCons (eVar 1) (aNil)))) (.nm 4) (sExpr (eMt "list" mAppend (eVar 3) (aCons (cold (eMt "list" mPopAt (eVar 2) (aCons (cold (callE f__law_take (aCons (eArg 0) (aCons (cold (eB hLen (aCons (eVar 2) (aNil)))) (aNil))))) (aNil)))) (aNil)))))
  (sRet (eVar 3)))
def f__law_mixed : FnS := defF 2 5 g__law_mixed
/-! ### _law_is_int -/
abbrev s__law_is_int : Stmt := topS 31
abbrev n__law_is_int : List Str := ["value"]
theorem sc__law_is_int : FnScope n__law_is_int ["value"] (defScope s__law_is_int) := ⟨rfl, rfl, rfl, by decide +kernel, rfl, by decide +kernel, by decide +kernel⟩
def g__law_is_int : Sm :=
  sRet (eAnd (eIsi ["int"] (eVar 0)) (eNot (eIsi ["bool"] (eVar 0))))
def f__law_is_int : FnS := defF 1 1 g__law_is_int
/-! ### _law_is_row -/
abbrev s__law_is_row : Stmt := topS 32
abbrev n__law_is_row : List Str := ["value", "many", "one"]
theorem sc__law_is_row : FnScope n__law_is_row ["value", "many"] (defScope s__law_is_row) := ⟨rfl, rfl, rfl, by decide +kernel, rfl, by decide +kernel, by decide +kernel⟩
def g__law_is_row : Sm :=
  sRet (eAnd (eIsi ["tuple"] (eVar 0)) (eAnd (bin (whole2 wEq) (eB hLen (aCons (eVar 0) (aNil))) (eVar 1)) (bin (whole2 wEq) (eLc (iSlot 0) (.nm 2) (bNot (asB (callE f__law_is_int (aCons (eArg 2) (aNil))))) (eVar 2) [2]) (eLst (aNil)))))
def f__law_is_row : FnS := defF 2 3 g__law_is_row
/-! ### _law_far -/
abbrev s__law_far : Stmt := topS 33
abbrev n__law_far : List Str := ["touches", "at", "block", "later", "moment"]
theorem sc__law_far : FnScope n__law_far ["touches", "at", "block"] (defScope s__law_far) := ⟨rfl, rfl, rfl, by decide +kernel, rfl, by decide +kernel, by decide +kernel⟩
def g__law_far : Sm :=
  sSeq (sSet 3 (eLc (iRng2 (bin (dat2 hAdd) (eVar 1) (eC (.int 1))) (eB hLen (aCons (eVar 0) (aNil)))) (.nm 4) (asB (bin (whole2 wEq) (bin (dat2 hIx) (eVar 0) (eVar 4)) (eVar 2))) (eVar 4) [4]))
  (sRet (eB hMin1 (aCons (bin (dat2 hAdd) (eVar 3) (eLst (aCons (cold (eB hLen (aCons (eVar 0) (aNil)))) (aNil)))) (aNil))))
def f__law_far : FnS := defF 3 5 g__law_far
/-! ### _law_least -/
abbrev s__law_least : Stmt := topS 34
abbrev n__law_least : List Str := ["touches", "rooms", "memory", "moves", "at", "far", "block"]
theorem sc__law_least : FnScope n__law_least ["touches", "rooms"] (defScope s__law_least) := ⟨rfl, rfl, rfl, by decide +kernel, rfl, by decide +kernel, by decide +kernel⟩
def g__law_least : Sm :=
  sSeq (sPar [2, 3] (aCons (own (eLst (aNil))) (aCons (own (eC (.int 0))) (aNil))))
  (sSeq (sFor (iRng1 (eB hLen (aCons (eVar 0) (aNil)))) (.nm 4) (sIf (asB (bin (whole2 wNotIn) (bin (dat2 hIx) (eVar 0) (eVar 4)) (eVar 2))) (sSeq (sSet 3 (bin (dat2 hAdd) (eVar 3) (eC (.int 1))))
  (sSeq (sIf (asB (bin (whole2 wEq) (eB hLen (aCons (eVar 2) (aNil))) (eVar 1))) (sSeq (sSet 5 (eLc (iSlot 2) (.nm 6) (tTrue) (callE f__law_far (aCons (eArg 0) (aCons (eArg 4) (aCons (eArg 6) (aNil))))) [6]))
  (sExpr (eMt "list" mPopAt (eVar 2) (aCons (cold (eMt "list" (mDat gIdx) (eVar 5) (aCons (eB hMax1 (aCons (eVar 5) (aNil))) (aNil)))) (aNil))))) (sNx))
  (sExpr (eMt "list" mAppend (eVar 2) (aCons (cold (bin (dat2 hIx) (eVar 0) (eVar 4))) (aNil)))))) (sNx)))
  (sRet (eVar 3)))
def f__law_least : FnS := defF 2 7 g__law_least
/-! ### _law_touches -/
abbrev s__law_touches : Stmt := topS 35
abbrev n__law_touches : List Str := ["box", "kind", "many", "names", "row", "turn", "at", "name"]
theorem sc__law_touches : FnScope n__law_touches ["box"] (defScope s__law_touches) := ⟨rfl, rfl, rfl, by decide +kernel, rfl, by decide +kernel, by decide +kernel⟩
def g__law_touches : Sm :=
  sSeq (sPar [1, 2] (aCons (own (callE f__law_take (aCons (eArg 0) (aCons (cold (eC (.int 4))) (aNil))))) (aCons (own (callE f__law_pick (aCons (eArg 0) (aCons (cold (eLst (aCons (cold (eC (.int 3))) (aCons (cold (eC (.int 6))) (aCons (cold (eC (.int 9))) (aCons (cold (eC (.int 10))) (aCons (cold (eC (.int 10))) (aCons (cold (eC (.int 10))) (aCons (cold (eC (.int 20))) (aNil)))))))))) (aNil))))) (aNil))))
  (sSeq (sSet 3 (eCut (callE f__law_mixed (aCons (eArg 0) (aCons (cold (eLRg1 (eC (.int 40)))) (aNil)))) (oNone) (oSome (eVar 2))))
  (sSeq (sIf (asB (bin (whole2 wEq) (eVar 1) (eC (.int 0)))) (sSet 4 (bin (dat2 hAdd) (eVar 3) (eVar 3))) (sIf (asB (bin (whole2 wEq) (eVar 1) (eC (.int 1)))) (sSet 4 (bin (dat2 hAdd) (bin (dat2 hAdd) (eVar 3) (eCut (una (dat1 hRevL) (eVar 3)) (oSome (eC (.int 1))) (oNone))) (eVar 3))) (sSeq (sSet 4 (eLst (aNil)))
  (sFor (iRng1 (bin (dat2 hAdd) (eC (.int 1)) (callE f__law_take (aCons (eArg 0) (aCons (cold (eC (.int 20))) (aNil)))))) (.nm 5) (sSet 4 (bin (dat2 hAdd) (eVar 4) (eLc (iCold (eLst (aCons (cold (callE f__law_pick (aCons (eArg 0) (aCons (eArg 3) (aNil))))) (aNil)))) (.nm 7) (bOr (asB (bin (whole2 wEq) (eVar 4) (eLst (aNil)))) (asB (bin (whole2 wNe) (bin (dat2 hIx) (eVar 4) (una (dat1 hNeg) (eC (.int 1)))) (eVar 7)))) (eVar 7) [7])))))))
  (sSeq (sSet 4 (eLc (iRng1 (eB hLen (aCons (eVar 4) (aNil)))) (.nm 6) (bOr (asB (bin (whole2 wEq) (eVar 6) (eC (.int 0)))) (asB (bin (whole2 wNe) (bin (dat2 hIx) (eVar 4) (eVar 6)) (bin (dat2 hIx) (eVar 4) (bin (dat2 hSub) (eVar 6) (eC (.int 1))))))) (bin (dat2 hIx) (eVar 4) (eVar 6)) [6]))
  (sRet (eB hTupOf (aCons (eCut (eVar 4) (oNone) (oSome (eC (.int 20)))) (aNil)))))))
def f__law_touches : FnS := defF 1 8 g__law_touches
/-! ### _law_depth -/
abbrev s__law_depth : Stmt := topS 36
abbrev n__law_depth : List Str := ["touches", "at", "unlike", "fits", "rooms"]
theorem sc__law_depth : FnScope n__law_depth ["touches", "at"] (defScope s__law_depth) := ⟨rfl, rfl, rfl, by decide +kernel, rfl, by decide +kernel, by decide +kernel⟩
def g__law_depth : Sm :=
  sSeq (sIf (asB (bin (whole2 wNotIn) (bin (dat2 hIx) (eVar 0) (eVar 1)) (eCut (eVar 0) (oNone) (oSome (eVar 1))))) (sRet (eC .none)) (sNx))
  (sSeq (sSet 2 (eLenSet (eCut (eVar 0) (oNone) (oSome (eVar 1)))))
  (sSeq (sSet 3 (eLc (iRng2 (eC (.int 1)) (bin (dat2 hAdd) (eVar 2) (eC (.int 1)))) (.nm 4) (asB (bin (whole2 wEq) (callE f__law_least (aCons (cold (eCut (eVar 0) (oNone) (oSome (eVar 1)))) (aCons (eArg 4) (aNil)))) (callE f__law_least (aCons (cold (eCut (eVar 0) (oNone) (oSome (bin (dat2 hAdd) (eVar 1) (eC (.int 1)))))) (aCons (eArg 4) (aNil)))))) (eVar 4) [4]))
  (sRet (eB hMin1 (aCons (eVar 3) (aNil))))))
def f__law_depth : FnS := defF 2 5 g__law_depth
/-! ### law -/
abbrev s_law : Stmt := topS 37
abbrev n_law : List Str := ["script", "k", "box", "touches", "unlike", "told", "rooms", "counts", "turn", "at", "due"]
theorem sc_law : FnScope n_law ["script"] (defScope s_law) := ⟨rfl, rfl, rfl, by decide +kernel, rfl, by decide +kernel, by decide +kernel⟩
def g_law : Sm :=
  sSeq (sFor (iRng1 (eC (.int 2))) (.nm 1) (sSeq (sSet 2 (callE f__law_box (aCons (eArg 0) (aCons (eArg 1) (aNil)))))
  (sSeq (sSet 3 (callE f__law_touches (aCons (eArg 2) (aNil))))
  (sSeq (sSet 4 (eLenSet (eVar 3)))
  (sSeq (sSet 5 (callE f_rooms_moves (aCons (cold (eB hListOf (aCons (eVar 3) (aNil)))) (aNil))))
  (sSeq (sIf (bOr (bNot (asB (callE f__law_is_row (aCons (eArg 5) (aCons (eArg 4) (aNil)))))) (asB (bin (whole2 wNe) (eB hListOf (aCons (eVar 5) (aNil))) (eLc (iRng2 (eC (.int 1)) (bin (dat2 hAdd) (eVar 4) (eC (.int 1)))) (.nm 6) (tTrue) (callE f__law_least (aCons (eArg 3) (aCons (eArg 6) (aNil)))) [6])))) (sRet (eC (.bool false))) (sNx))
  (sSeq (sPar [5, 6] (aCons (own (callE f_touch_depths (aCons (eArg 3) (aNil)))) (aCons (own (bin (dat2 hAdd) (eC (.int 1)) (callE f__law_take (aCons (eArg 2) (aCons (cold (eC (.int 5))) (aNil)))))) (aNil))))
  (sSeq (sSet 7 (callE f_beginning_moves (aCons (eArg 3) (aCons (eArg 6) (aNil)))))
  (sSeq (sIf (bOr (bNot (asB (eIsi ["tuple"] (eVar 5)))) (bOr (asB (bin (whole2 wNe) (eB hLen (aCons (eVar 5) (aNil))) (eB hLen (aCons (eVar 3) (aNil))))) (bNot (asB (callE f__law_is_row (aCons (eArg 7) (aCons (cold (eB hLen (aCons (eVar 3) (aNil)))) (aNil)))))))) (sRet (eC (.bool false))) (sNx))
  (sFor (iRng1 (eC (.int 3))) (.nm 8) (sSeq (sSet 9 (bin (dat2 hSub) (bin (dat2 hSub) (eB hLen (aCons (eVar 3) (aNil))) (eC (.int 1))) (callE f__law_take (aCons (eArg 2) (aCons (cold (callE f__law_pick (aCons (eArg 2) (aCons (cold (eLst (aCons (cold (eB hLen (aCons (eVar 3) (aNil)))) (aCons (cold (eB hMin2 (aCons (eB hLen (aCons (eVar 3) (aNil))) (aCons (eC (.int 6)) (aNil))))) (aNil))))) (aNil))))) (aNil))))))
  (sSeq (sSet 10 (callE f__law_depth (aCons (eArg 3) (aCons (eArg 9) (aNil)))))
  (sSeq (sIf (bOr (bAnd (asB (bin (whole2 wIs) (eVar 10) (eC .none))) (asB (bin (whole2 wIsNot) (bin (dat2 hIx) (eVar 5) (eVar 9)) (eC .none)))) (bAnd (asB (bin (whole2 wIsNot) (eVar 10) (eC .none))) (bOr (bNot (asB (callE f__law_is_int (aCons (cold (bin (dat2 hIx) (eVar 5) (eVar 9))) (aNil))))) (asB (bin (whole2 wNe) (bin (dat2 hIx) (eVar 5) (eVar 9)) (eVar 10)))))) (sRet (eC (.bool false))) (sNx))
  (sIf (asB (bin (whole2 wNe) (bin (dat2 hIx) (eVar 7) (eVar 9)) (callE f__law_least (aCons (cold (eCut (eVar 3) (oNone) (oSome (bin (dat2 hAdd) (eVar 9) (eC (.int 1)))))) (aCons (eArg 6) (aNil)))))) (sRet (eC (.bool false))) (sNx)))))))))))))))
  (sRet (eC (.bool true)))
def f_law : FnS := defF 1 11 g_law
section
variable {base : Heap} {P : Program} {w : World} {K : PySem.W.Frag} {mg : Str → Option Value}
theorem l_is_integer {f : Addr} {fd : FuncData} (F : Fun K "is_integer" "is_integer" s_is_integer f fd) (m : mg "is_integer" = some (.ref f)) (z_bool : mg "bool" = none) (z_int : mg "int" = none) (z_isinstance : mg "isinstance" = none) : Cal P w K mg base "is_integer" 3 f_is_integer :=
  have nd : n_is_integer.Nodup := sc_is_integer.nd
  ⟨f, fd, ["value"], ok_def (k := 2) F sc_is_integer fun cdv A outer s H E hr =>
    have hu5 := Room.u65 hr; have hu4 := Room.u64 hr; have hu1 := Room.u1 hr
    qss_one (qs_ret (qe_and (qe_isi1 ⟨by rfl, z_isinstance, by decide +kernel, by decide, by decide⟩ (qe_var 0) (.cons ⟨by rfl, z_int, by decide +kernel, by decide, by decide⟩ (by decide) (by rfl) (.nil)) ⟨by rfl, by rfl⟩) (qe_one (qe_not (qe_isi1 ⟨by rfl, z_isinstance, by decide +kernel, by decide, by decide⟩ (qe_var 0) (.cons ⟨by rfl, z_bool, by decide +kernel, by decide, by decide⟩ (by decide) (by rfl) (.nil)) ⟨by rfl, by rfl⟩))))), m, F.kp, F.binds fun _ _ _ _ _ _ us hl => match us, hl with | [_], _ => rfl⟩
theorem l_is_number {f : Addr} {fd : FuncData} (F : Fun K "is_number" "is_number" s_is_number f fd) (m : mg "is_number" = some (.ref f)) (l_is_integer : Cal P w K mg base "is_integer" 3 f_is_integer) : Cal P w K mg base "is_number" 4 f_is_number :=
  have nd : n_is_number.Nodup := sc_is_number.nd
  ⟨f, fd, ["value"], ok_def (k := 3) F sc_is_number fun cdv A outer s H E hr =>
    have hu5 := Room.u65 hr; have hu4 := Room.u64 hr; have hu1 := Room.u1 hr
    qss_one (qs_ret (qe_and (qe_callF l_is_integer hr (by decide) (by rfl) (qa_cons (qe_arg 0) (qa_nil)) (by decide) ⟨by rfl, by rfl⟩) (qe_one (qe_ge hu4 (qe_var 0) (qe_int))))), m, F.kp, F.binds fun _ _ _ _ _ _ us hl => match us, hl with | [_], _ => rfl⟩
theorem l_is_below {f : Addr} {fd : FuncData} (F : Fun K "is_below" "is_below" s_is_below f fd) (m : mg "is_below" = some (.ref f)) (l_is_number : Cal P w K mg base "is_number" 4 f_is_number) : Cal P w K mg base "is_below" 5 f_is_below :=
  have nd : n_is_below.Nodup := sc_is_below.nd
  ⟨f, fd, ["value", "many"], ok_def (k := 4) F sc_is_below fun cdv A outer s H E hr =>
    have hu5 := Room.u65 hr; have hu4 := Room.u64 hr; have hu1 := Room.u1 hr
    qss_one (qs_ret (qe_and (qe_callF l_is_number hr (by decide) (by rfl) (qa_cons (qe_arg 0) (qa_nil)) (by decide) ⟨by rfl, by rfl⟩) (qe_one (qe_lt hu4 (qe_var 0) (qe_var 1))))), m, F.kp, F.binds fun _ _ _ _ _ _ us hl => match us, hl with | [_, _], _ => rfl⟩
theorem l_is_sequence {f : Addr} {fd : FuncData} (F : Fun K "is_sequence" "is_sequence" s_is_sequence f fd) (m : mg "is_sequence" = some (.ref f)) (z_isinstance : mg "isinstance" = none) (z_list : mg "list" = none) (z_tuple : mg "tuple" = none) : Cal P w K mg base "is_sequence" 3 f_is_sequence :=
  have nd : n_is_sequence.Nodup := sc_is_sequence.nd
  ⟨f, fd, ["value"], ok_def (k := 2) F sc_is_sequence fun cdv A outer s H E hr =>
    have hu5 := Room.u65 hr; have hu4 := Room.u64 hr; have hu1 := Room.u1 hr
    qss_one (qs_ret (qe_isiN ⟨by rfl, z_isinstance, by decide +kernel, by decide, by decide⟩ (qe_var 0) (.cons ⟨by rfl, z_list, by decide +kernel, by decide, by decide⟩ (by decide) (by rfl) (.cons ⟨by rfl, z_tuple, by decide +kernel, by decide, by decide⟩ (by decide) (by rfl) (.nil))) (by decide) ⟨by rfl, by rfl⟩)), m, F.kp, F.binds fun _ _ _ _ _ _ us hl => match us, hl with | [_], _ => rfl⟩
theorem l_need_touches {f : Addr} {fd : FuncData} (F : Fun K "need_touches" "need_touches" s_need_touches f fd) (m : mg "need_touches" = some (.ref f)) (z_enumerate : mg "enumerate" = none) (z_len : mg "len" = none) (z_tuple : mg "tuple" = none) {t_MOST_BLOCKS : Tok} (c_MOST_BLOCKS : mg "MOST_BLOCKS" = some (.int 40 t_MOST_BLOCKS)) {t_MOST_TOUCHES : Tok} (c_MOST_TOUCHES : mg "MOST_TOUCHES" = some (.int 400 t_MOST_TOUCHES)) (l_is_below : Cal P w K mg base "is_below" 5 f_is_below) (l_is_sequence : Cal P w K mg base "is_sequence" 3 f_is_sequence) : Cal P w K mg base "need_touches" 6 f_need_touches :=
  have nd : n_need_touches.Nodup := sc_need_touches.nd
  ⟨f, fd, ["value"], ok_def (k := 5) F sc_need_touches fun cdv A outer s H E hr =>
    have hu5 := Room.u65 hr; have hu4 := Room.u64 hr; have hu1 := Room.u1 hr
    qss_cons (qs_if (qt_bool (qw_or (qt_not (qt_val (qe_callF l_is_sequence hr (by decide) (by rfl) (qa_cons (qe_arg 0) (qa_nil)) (by decide) ⟨by rfl, by rfl⟩))) (qw_or1 (qt_not (qt_chain op_le op_le (qe_int) (qe_callB call_len co_len ⟨by rfl, z_len, by decide +kernel, by decide, by decide⟩ (qa_cons (qe_var 0) (qa_nil)) ⟨by rfl, by rfl⟩) (qe_globI (by rfl) c_MOST_TOUCHES)))))) (qss_one (qs_never)) (qss_nil))
    (qss_cons (qs_for .never rfl (qi_enum (by rfl) z_enumerate (qe_var 0)) (pg_tup rfl (pgs_cons (pg_name (i := 1) nd rfl (.inl rfl)) (pgs_cons (pg_name (i := 2) nd rfl (.inl rfl)) (pgs_nil)))) (qss_one (qs_if (qt_bool (qw_or (qt_not (qt_val (qe_callF l_is_below hr (by decide) (by rfl) (qa_cons (qe_arg 2) (qa_cons (QE.cold (qe_globI (by rfl) c_MOST_BLOCKS)) (qa_nil))) (by decide) ⟨by rfl, by rfl⟩))) (qw_or1 (qt_bool (qw_and (qt_gt hu4 (qe_var 1) (qe_int)) (qw_and1 (qt_eq hu4 (qe_var 2) (qe_ix hu4 (qe_var 0) (qe_sub (qe_var 1) (qe_int)))))))))) (qss_one (qs_never)) (qss_nil))))
    (qss_one (qs_ret (qe_callTy call_tupleF co_tuple ⟨by rfl, z_tuple, by decide +kernel, by decide, by decide⟩ (qa_cons (qe_var 0) (qa_nil)) ⟨by rfl, by rfl⟩)))), m, F.kp, F.binds fun _ _ _ _ _ _ us hl => match us, hl with | [_], _ => rfl⟩
theorem l_is_rooms {f : Addr} {fd : FuncData} (F : Fun K "is_rooms" "is_rooms" s_is_rooms f fd) (m : mg "is_rooms" = some (.ref f)) {t_MOST_ROOMS : Tok} (c_MOST_ROOMS : mg "MOST_ROOMS" = some (.int 5 t_MOST_ROOMS)) (l_is_number : Cal P w K mg base "is_number" 4 f_is_number) : Cal P w K mg base "is_rooms" 5 f_is_rooms :=
  have nd : n_is_rooms.Nodup := sc_is_rooms.nd
  ⟨f, fd, ["value"], ok_def (k := 4) F sc_is_rooms fun cdv A outer s H E hr =>
    have hu5 := Room.u65 hr; have hu4 := Room.u64 hr; have hu1 := Room.u1 hr
    qss_one (qs_ret (qe_and (qe_callF l_is_number hr (by decide) (by rfl) (qa_cons (qe_arg 0) (qa_nil)) (by decide) ⟨by rfl, by rfl⟩) (qe_one (qe_chain op_le op_le (qe_int) (qe_var 0) (qe_globI (by rfl) c_MOST_ROOMS))))), m, F.kp, F.binds fun _ _ _ _ _ _ us hl => match us, hl with | [_], _ => rfl⟩
theorem l_rooms_row {f : Addr} {fd : FuncData} (F : Fun K "rooms_row" "rooms_row" s_rooms_row f fd) (m : mg "rooms_row" = some (.ref f)) (z_enumerate : mg "enumerate" = none) (z_len : mg "len" = none) (z_tuple : mg "tuple" = none) (l_is_rooms : Cal P w K mg base "is_rooms" 5 f_is_rooms) (l_is_sequence : Cal P w K mg base "is_sequence" 3 f_is_sequence) : Cal P w K mg base "rooms_row" 6 f_rooms_row :=
  have nd : n_rooms_row.Nodup := sc_rooms_row.nd
  ⟨f, fd, ["touches", "rooms"], ok_def (k := 5) F sc_rooms_row fun cdv A outer s H E hr =>
    have hu5 := Room.u65 hr; have hu4 := Room.u64 hr; have hu1 := Room.u1 hr
    qss_cons (qs_if (qt_val (qe_callF l_is_rooms hr (by decide) (by rfl) (qa_cons (qe_arg 1) (qa_nil)) (by decide) ⟨by rfl, by rfl⟩)) (qss_one (qs_ret (qe_mul (qe_tup (qa_cons (QE.cold (qe_var 1)) (qa_nil))) (qe_callB call_len co_len ⟨by rfl, z_len, by decide +kernel, by decide, by decide⟩ (qa_cons (qe_var 0) (qa_nil)) ⟨by rfl, by rfl⟩)))) (qss_nil))
    (qss_cons (qs_if (qt_bool (qw_or (qt_not (qt_val (qe_callF l_is_sequence hr (by decide) (by rfl) (qa_cons (qe_arg 1) (qa_nil)) (by decide) ⟨by rfl, by rfl⟩))) (qw_or1 (qt_ne hu4 (qe_callB call_len co_len ⟨by rfl, z_len, by decide +kernel, by decide, by decide⟩ (qa_cons (qe_var 1) (qa_nil)) ⟨by rfl, by rfl⟩) (qe_callB call_len co_len ⟨by rfl, z_len, by decide +kernel, by decide, by decide⟩ (qa_cons (qe_var 0) (qa_nil)) ⟨by rfl, by rfl⟩))))) (qss_one (qs_never)) (qss_nil))
    (qss_cons (qs_for .never rfl (qi_enum (by rfl) z_enumerate (qe_var 1)) (pg_tup rfl (pgs_cons (pg_name (i := 2) nd rfl (.inl rfl)) (pgs_cons (pg_name (i := 3) nd rfl (.inl rfl)) (pgs_nil)))) (qss_one (qs_if (qt_not (qt_val (qe_callF l_is_rooms hr (by decide) (by rfl) (qa_cons (qe_arg 3) (qa_nil)) (by decide) ⟨by rfl, by rfl⟩))) (qss_one (qs_never)) (qss_nil))))
    (qss_one (qs_ret (qe_callTy call_tupleF co_tuple ⟨by rfl, z_tuple, by decide +kernel, by decide, by decide⟩ (qa_cons (qe_var 1) (qa_nil)) ⟨by rfl, by rfl⟩))))), m, F.kp, F.binds fun _ _ _ _ _ _ us hl => match us, hl with | [_, _], _ => rfl⟩
theorem l_need_lived {f : Addr} {fd : FuncData} (F : Fun K "need_lived" "need_lived" s_need_lived f fd) (m : mg "need_lived" = some (.ref f)) (l_need_touches : Cal P w K mg base "need_touches" 6 f_need_touches) (l_rooms_row : Cal P w K mg base "rooms_row" 6 f_rooms_row) : Cal P w K mg base "need_lived" 7 f_need_lived :=
  have nd : n_need_lived.Nodup := sc_need_lived.nd
  ⟨f, fd, ["touches", "rooms"], ok_def (k := 6) F sc_need_lived fun cdv A outer s H E hr =>
    have hu5 := Room.u65 hr; have hu4 := Room.u64 hr; have hu1 := Room.u1 hr
    qss_cons (qs_set nd rfl (.inl rfl) (qe_callF l_need_touches hr (by decide) (by rfl) (qa_cons (qe_arg 0) (qa_nil)) (by decide) ⟨by rfl, by rfl⟩))
    (qss_one (qs_ret (qe_tup (qa_cons (QE.cold (qe_var 0)) (qa_cons (QE.cold (qe_callF l_rooms_row hr (by decide) (by rfl) (qa_cons (qe_arg 0) (qa_cons (qe_arg 1) (qa_nil))) (by decide) ⟨by rfl, by rfl⟩)) (qa_nil)))))), m, F.kp, F.binds fun _ _ _ _ _ _ us hl => match us, hl with | [_, _], _ => rfl⟩
theorem l_unlike_blocks {f : Addr} {fd : FuncData} (F : Fun K "unlike_blocks" "unlike_blocks" s_unlike_blocks f fd) (m : mg "unlike_blocks" = some (.ref f)) (z_sorted : mg "sorted" = none) (z_tuple : mg "tuple" = none) : Cal P w K mg base "unlike_blocks" 3 f_unlike_blocks :=
  have nd : n_unlike_blocks.Nodup := sc_unlike_blocks.nd
  ⟨f, fd, ["touches"], ok_def (k := 2) F sc_unlike_blocks fun cdv A outer s H E hr =>
    have hu5 := Room.u65 hr; have hu4 := Room.u64 hr; have hu1 := Room.u1 hr
    qss_one (qs_ret (qe_callTy call_tupleF co_tuple ⟨by rfl, z_tuple, by decide +kernel, by decide, by decide⟩ (qa_cons (qe_sortSc (own := [("block", 1)]) ⟨by rfl, z_sorted, by decide +kernel, by decide, by decide⟩ rfl nd (qi_slot 0) (blkOk_by (own := [("block", 1)]) (N := n_unlike_blocks) (sc := defScope s_unlike_blocks) (by decide +kernel)) (fun _ _ _ _ _ => pg_name (i := 1) nd rfl (Or.inl rfl)) (fun _ _ _ _ _ => qts_nil) (fun _ _ _ _ _ => qe_var 1) (by intro _; rfl) ⟨by rfl, by rfl⟩) (qa_nil)) ⟨by rfl, by rfl⟩)), m, F.kp, F.binds fun _ _ _ _ _ _ us hl => match us, hl with | [_], _ => rfl⟩
theorem l_room_limits {f : Addr} {fd : FuncData} (F : Fun K "room_limits" "room_limits" s_room_limits f fd) (m : mg "room_limits" = some (.ref f)) (z_tuple : mg "tuple" = none) : Cal P w K mg base "room_limits" 3 f_room_limits :=
  have nd : n_room_limits.Nodup := sc_room_limits.nd
  ⟨f, fd, ["row"], ok_def (k := 2) F sc_room_limits fun cdv A outer s H E hr =>
    have hu5 := Room.u65 hr; have hu4 := Room.u64 hr; have hu1 := Room.u1 hr
    qss_one (qs_ret (qe_callTy call_tupleF co_tuple ⟨by rfl, z_tuple, by decide +kernel, by decide, by decide⟩ (qa_cons (qe_lc (own := [("rooms", 1)]) rfl nd (qi_slot 0) (blkOk_by (own := [("rooms", 1)]) (N := n_room_limits) (sc := defScope s_room_limits) (by decide +kernel)) (fun _ _ _ _ _ => pg_name (i := 1) nd rfl (Or.inl rfl)) (fun _ _ _ _ _ => qts_nil) (fun _ _ _ _ _ => qe_sub (qe_var 1) (qe_int))) (qa_nil)) ⟨by rfl, by rfl⟩)), m, F.kp, F.binds fun _ _ _ _ _ _ us hl => match us, hl with | [_], _ => rfl⟩
theorem l_end_marks {f : Addr} {fd : FuncData} (F : Fun K "end_marks" "end_marks" s_end_marks f fd) (m : mg "end_marks" = some (.ref f)) (z_all : mg "all" = none) (z_enumerate : mg "enumerate" = none) (z_len : mg "len" = none) (z_list : mg "list" = none) (z_range : mg "range" = none) (z_tuple : mg "tuple" = none) : Cal P w K mg base "end_marks" 3 f_end_marks :=
  have nd : n_end_marks.Nodup := sc_end_marks.nd
  ⟨f, fd, ["touches", "limits"], ok_def (k := 2) F sc_end_marks fun cdv A outer s H E hr =>
    have hu5 := Room.u65 hr; have hu4 := Room.u64 hr; have hu1 := Room.u1 hr
    qss_cons (qs_parT rfl (by decide) (by decide) (qa_cons (QE.own (qe_mul (qe_lst (qa_cons (QE.cold (qe_int)) (qa_nil))) (qe_callB call_len co_len ⟨by rfl, z_len, by decide +kernel, by decide, by decide⟩ (qa_cons (qe_var 0) (qa_nil)) ⟨by rfl, by rfl⟩))) (qa_cons (QE.own (qe_dic0)) (qa_cons (QE.own (qe_lst (qa_nil))) (qa_nil)))) (pg_tup rfl (pgs_cons (pg_name (i := 2) nd rfl (.inr rfl)) (pgs_cons (pg_name (i := 3) nd rfl (.inl rfl)) (pgs_cons (pg_name (i := 4) nd rfl (.inl rfl)) (pgs_nil))))))
    (qss_cons (qs_for .never rfl (qi_enum (by rfl) z_enumerate (qe_var 0)) (pg_tup rfl (pgs_cons (pg_name (i := 5) nd rfl (.inl rfl)) (pgs_cons (pg_name (i := 6) nd rfl (.inl rfl)) (pgs_nil)))) (qss_cons (qs_set nd rfl (.inl rfl) (qe_lrg2 rfl (by rfl) z_list (by rfl) z_range (qe_add (qe_mt m_get (mt_dget2 hu1) ms_dget2 (qe_var 3) (qa_cons (QE.cold (qe_var 6)) (qa_cons (QE.cold (qe_sub (qe_var 5) (qe_int))) (qa_nil))) ⟨by rfl, by rfl, by rfl⟩ ⟨by rfl, by rfl⟩) (qe_int)) (qe_var 5)))
    (qss_cons (qs_set nd rfl (.inl rfl) (qe_and (qe_in hu5 (qe_var 6) (qe_var 3)) (qe_one (qe_callB (cr_all rfl) co_all ⟨by rfl, z_all, by decide +kernel, by decide, by decide⟩ (qa_cons (qe_lc (own := [("one", 8)]) rfl nd (qi_slot 7) (blkOk_by (own := [("one", 8)]) (N := n_end_marks) (sc := defScope s_end_marks) (by decide +kernel)) (fun _ _ _ _ _ => pg_name (i := 8) nd rfl (Or.inl rfl)) (fun _ _ _ _ _ => qts_nil) (fun _ _ _ _ _ => qe_lt hu4 (qe_ix hu4 (qe_var 2) (qe_var 8)) (qe_ix hu4 (qe_var 1) (qe_var 8)))) (qa_nil)) ⟨by rfl, by rfl⟩))))
    (qss_cons (qs_if (qt_val (qe_var 9)) (qss_one (qs_for .never rfl (qi_slot 7) (pg_name (i := 8) nd rfl (.inl rfl)) (qss_one (qs_augS hu4 (qe_var 2) (qe_var 8) (qe_int) ip_add ip_int)))) (qss_nil))
    (qss_cons (qs_sub hu1 (qe_var 5) (qe_var 3) (qe_var 6))
    (qss_one (qs_expr (qe_mt m_append mt_append ms_append (qe_var 4) (qa_cons (QE.cold (qe_var 9)) (qa_nil)) ⟨by rfl, by rfl, by rfl⟩ ⟨by rfl, by rfl⟩))))))))
    (qss_one (qs_ret (qe_callTy call_tupleF co_tuple ⟨by rfl, z_tuple, by decide +kernel, by decide, by decide⟩ (qa_cons (qe_var 4) (qa_nil)) ⟨by rfl, by rfl⟩)))), m, F.kp, F.binds fun _ _ _ _ _ _ us hl => match us, hl with | [_, _], _ => rfl⟩
theorem l_beginning_moves {f : Addr} {fd : FuncData} (F : Fun K "beginning_moves" "beginning_moves" s_beginning_moves f fd) (m : mg "beginning_moves" = some (.ref f)) (z_tuple : mg "tuple" = none) (l_end_marks : Cal P w K mg base "end_marks" 3 f_end_marks) (l_need_lived : Cal P w K mg base "need_lived" 7 f_need_lived) (l_room_limits : Cal P w K mg base "room_limits" 3 f_room_limits) : Cal P w K mg base "beginning_moves" 8 f_beginning_moves :=
  have nd : n_beginning_moves.Nodup := sc_beginning_moves.nd
  ⟨f, fd, ["touches", "rooms"], ok_def (k := 7) F sc_beginning_moves fun cdv A outer s H E hr =>
    have hu5 := Room.u65 hr; have hu4 := Room.u64 hr; have hu1 := Room.u1 hr
    qss_cons (qs_tg (T := .tp (.cons (.nm 0) (.cons (.nm 2) (.nil)))) (qe_callF l_need_lived hr (by decide) (by rfl) (qa_cons (qe_arg 0) (qa_cons (qe_arg 1) (qa_nil))) (by decide) ⟨by rfl, by rfl⟩) (pg_tup rfl (pgs_cons (pg_name (i := 0) nd rfl (.inl rfl)) (pgs_cons (pg_name (i := 2) nd rfl (.inl rfl)) (pgs_nil)))))
    (qss_cons (qs_par2v rfl nd rfl rfl (by decide) rfl rfl (qa_cons (QE.own (qe_int)) (qa_cons (QE.own (qe_lst (qa_nil))) (qa_nil))) (by rfl))
    (qss_cons (qs_for .never rfl (qi_cold (qe_callF l_end_marks hr (by decide) (by rfl) (qa_cons (qe_arg 0) (qa_cons (QE.cold (qe_callF l_room_limits hr (by decide) (by rfl) (qa_cons (qe_arg 2) (qa_nil)) (by decide) ⟨by rfl, by rfl⟩)) (qa_nil))) (by decide) ⟨by rfl, by rfl⟩)) (pg_name (i := 5) nd rfl (.inl rfl)) (qss_cons (qs_aug nd rfl (.inl rfl) (qe_if (qt_val (qe_var 5)) (qe_int) (qe_int)) ip_add ip_int)
    (qss_one (qs_expr (qe_mt m_append mt_append ms_append (qe_var 4) (qa_cons (QE.cold (qe_var 3)) (qa_nil)) ⟨by rfl, by rfl, by rfl⟩ ⟨by rfl, by rfl⟩)))))
    (qss_one (qs_ret (qe_callTy call_tupleF co_tuple ⟨by rfl, z_tuple, by decide +kernel, by decide, by decide⟩ (qa_cons (qe_var 4) (qa_nil)) ⟨by rfl, by rfl⟩))))), m, F.kp, F.binds fun _ _ _ _ _ _ us hl => match us, hl with | [_, _], _ => rfl⟩
theorem l_all_marks {f : Addr} {fd : FuncData} (F : Fun K "all_marks" "all_marks" s_all_marks f fd) (m : mg "all_marks" = some (.ref f)) (z_len : mg "len" = none) (z_range : mg "range" = none) (l_end_marks : Cal P w K mg base "end_marks" 3 f_end_marks) (l_unlike_blocks : Cal P w K mg base "unlike_blocks" 3 f_unlike_blocks) : Cal P w K mg base "all_marks" 4 f_all_marks :=
  have nd : n_all_marks.Nodup := sc_all_marks.nd
  ⟨f, fd, ["touches"], ok_def (k := 3) F sc_all_marks fun cdv A outer s H E hr =>
    have hu5 := Room.u65 hr; have hu4 := Room.u64 hr; have hu1 := Room.u1 hr
    qss_one (qs_ret (qe_lc (own := [("limit", 1)]) rfl nd (qi_rng1 (by rfl) z_range (qe_callB call_len co_len ⟨by rfl, z_len, by decide +kernel, by decide, by decide⟩ (qa_cons (qe_callF l_unlike_blocks hr (by decide) (by rfl) (qa_cons (qe_arg 0) (qa_nil)) (by decide) ⟨by rfl, by rfl⟩) (qa_nil)) ⟨by rfl, by rfl⟩)) (blkOk_by (own := [("limit", 1)]) (N := n_all_marks) (sc := defScope s_all_marks) (by decide +kernel)) (fun _ _ _ _ _ => pg_name (i := 1) nd rfl (Or.inl rfl)) (fun _ _ _ _ _ => qts_nil) (fun _ _ _ _ _ => qe_callF l_end_marks hr (by decide) (by rfl) (qa_cons (qe_arg 0) (qa_cons (QE.cold (qe_mul (qe_tup (qa_cons (QE.cold (qe_var 1)) (qa_nil))) (qe_callB call_len co_len ⟨by rfl, z_len, by decide +kernel, by decide, by decide⟩ (qa_cons (qe_var 0) (qa_nil)) ⟨by rfl, by rfl⟩))) (qa_nil))) (by decide) ⟨by rfl, by rfl⟩))), m, F.kp, F.binds fun _ _ _ _ _ _ us hl => match us, hl with | [_], _ => rfl⟩
theorem l_touch_depths {f : Addr} {fd : FuncData} (F : Fun K "touch_depths" "touch_depths" s_touch_depths f fd) (m : mg "touch_depths" = some (.ref f)) (z_enumerate : mg "enumerate" = none) (z_len : mg "len" = none) (z_range : mg "range" = none) (z_tuple : mg "tuple" = none) (l_all_marks : Cal P w K mg base "all_marks" 4 f_all_marks) (l_need_touches : Cal P w K mg base "need_touches" 6 f_need_touches) : Cal P w K mg base "touch_depths" 7 f_touch_depths :=
  have nd : n_touch_depths.Nodup := sc_touch_depths.nd
  ⟨f, fd, ["touches"], ok_def (k := 6) F sc_touch_depths fun cdv A outer s H E hr =>
    have hu5 := Room.u65 hr; have hu4 := Room.u64 hr; have hu1 := Room.u1 hr
    qss_cons (qs_set nd rfl (.inl rfl) (qe_callF l_need_touches hr (by decide) (by rfl) (qa_cons (qe_arg 0) (qa_nil)) (by decide) ⟨by rfl, by rfl⟩))
    (qss_cons (qs_par2v rfl nd rfl rfl (by decide) rfl rfl (qa_cons (QE.own (qe_callF l_all_marks hr (by decide) (by rfl) (qa_cons (qe_arg 0) (qa_nil)) (by decide) ⟨by rfl, by rfl⟩)) (qa_cons (QE.own (qe_lst (qa_nil))) (qa_nil))) (by rfl))
    (qss_cons (qs_for .never rfl (qi_rng1 (by rfl) z_range (qe_callB call_len co_len ⟨by rfl, z_len, by decide +kernel, by decide, by decide⟩ (qa_cons (qe_var 0) (qa_nil)) ⟨by rfl, by rfl⟩)) (pg_name (i := 3) nd rfl (.inr rfl)) (qss_cons (qs_setLc (own := [("at", 5), ("marks", 6)]) rfl nd rfl rfl (by rfl) (qi_enum (by rfl) z_enumerate (qe_var 1)) (blkOk_by (own := [("at", 5), ("marks", 6)]) (N := n_touch_depths) (sc := defScope s_touch_depths) (by decide +kernel)) (fun _ _ _ _ _ => pg_tup rfl (pgs_cons (pg_name (i := 5) nd rfl (Or.inl rfl)) (pgs_cons (pg_name (i := 6) nd rfl (Or.inl rfl)) (pgs_nil)))) (fun _ _ _ _ _ => qts_one (qt_val (qe_ix hu4 (qe_var 6) (qe_var 3)))) (fun _ _ _ _ _ => qe_add (qe_var 5) (qe_int)))
    (qss_one (qs_expr (qe_mt m_append mt_append ms_append (qe_var 2) (qa_cons (QE.cold (qe_if (qt_gt hu4 (qe_callB call_len co_len ⟨by rfl, z_len, by decide +kernel, by decide, by decide⟩ (qa_cons (qe_var 4) (qa_nil)) ⟨by rfl, by rfl⟩) (qe_int)) (qe_ix hu4 (qe_var 4) (qe_int)) (qe_non))) (qa_nil)) ⟨by rfl, by rfl, by rfl⟩ ⟨by rfl, by rfl⟩)))))
    (qss_one (qs_ret (qe_callTy call_tupleF co_tuple ⟨by rfl, z_tuple, by decide +kernel, by decide, by decide⟩ (qa_cons (qe_var 2) (qa_nil)) ⟨by rfl, by rfl⟩))))), m, F.kp, F.binds fun _ _ _ _ _ _ us hl => match us, hl with | [_], _ => rfl⟩
theorem l_rooms_moves {f : Addr} {fd : FuncData} (F : Fun K "rooms_moves" "rooms_moves" s_rooms_moves f fd) (m : mg "rooms_moves" = some (.ref f)) (z_tuple : mg "tuple" = none) (l_all_marks : Cal P w K mg base "all_marks" 4 f_all_marks) (l_need_touches : Cal P w K mg base "need_touches" 6 f_need_touches) : Cal P w K mg base "rooms_moves" 7 f_rooms_moves :=
  have nd : n_rooms_moves.Nodup := sc_rooms_moves.nd
  ⟨f, fd, ["touches"], ok_def (k := 6) F sc_rooms_moves fun cdv A outer s H E hr =>
    have hu5 := Room.u65 hr; have hu4 := Room.u64 hr; have hu1 := Room.u1 hr
    qss_one (qs_ret (qe_callTy call_tupleF co_tuple ⟨by rfl, z_tuple, by decide +kernel, by decide, by decide⟩ (qa_cons (qe_lc (own := [("marks", 1)]) rfl nd (qi_cold (qe_callF l_all_marks hr (by decide) (by rfl) (qa_cons (QE.cold (qe_callF l_need_touches hr (by decide) (by rfl) (qa_cons (qe_arg 0) (qa_nil)) (by decide) ⟨by rfl, by rfl⟩)) (qa_nil)) (by decide) ⟨by rfl, by rfl⟩)) (blkOk_by (own := [("marks", 1)]) (N := n_rooms_moves) (sc := defScope s_rooms_moves) (by decide +kernel)) (fun _ _ _ _ _ => pg_name (i := 1) nd rfl (Or.inl rfl)) (fun _ _ _ _ _ => qts_nil) (fun _ _ _ _ _ => qe_mt m_tcount (mt_tcntD hu5) ms_dat (qe_var 1) (qa_cons (qe_bl) (qa_nil)) ⟨by rfl, by rfl, by rfl⟩ ⟨by rfl, by rfl⟩)) (qa_nil)) ⟨by rfl, by rfl⟩)), m, F.kp, F.binds fun _ _ _ _ _ _ us hl => match us, hl with | [_], _ => rfl⟩
theorem l__law_box {f : Addr} {fd : FuncData} (F : Fun K "_law_box" "_law_box" s__law_box f fd) (m : mg "_law_box" = some (.ref f)) (z_abs : mg "abs" = none) (z_int : mg "int" = none) (z_len : mg "len" = none) : Cal P w K mg base "_law_box" 3 f__law_box :=
  have nd : n__law_box.Nodup := sc__law_box.nd
  ⟨f, fd, ["script", "k"], ok_def (k := 2) F sc__law_box fun cdv A outer s H E hr =>
    have hu5 := Room.u65 hr; have hu4 := Room.u64 hr; have hu1 := Room.u1 hr
    qss_cons (qs_set nd rfl (.inl rfl) (qe_add (qe_mul (qe_int) (qe_var 1)) (qe_int)))
    (qss_cons (qs_if (qt_lt hu4 (qe_var 1) (qe_lenScr ⟨by rfl, z_len, by decide +kernel, by decide, by decide⟩ (qe_var 0) ⟨by rfl, by rfl⟩)) (qss_one (qs_set nd rfl (.inl rfl) (qe_callB call_abs co_abs ⟨by rfl, z_abs, by decide +kernel, by decide, by decide⟩ (qa_cons (qe_ixScr (qe_var 0) (qe_var 1)) (qa_nil)) ⟨by rfl, by rfl⟩))) (qss_one (qs_if (qt_gt hu4 (qe_lenScr ⟨by rfl, z_len, by decide +kernel, by decide, by decide⟩ (qe_var 0) ⟨by rfl, by rfl⟩) (qe_int)) (qss_one (qs_set nd rfl (.inl rfl) (qe_add (qe_var 2) (qe_mul (qe_mod (qe_callTy call_int1 co_int ⟨by rfl, z_int, by decide +kernel, by decide, by decide⟩ (qa_cons (qe_callB call_abs co_abs ⟨by rfl, z_abs, by decide +kernel, by decide, by decide⟩ (qa_cons (qe_ixScr (qe_var 0) (qe_mod (qe_callTy call_int1 co_int ⟨by rfl, z_int, by decide +kernel, by decide, by decide⟩ (qa_cons (qe_var 1) (qa_nil)) ⟨by rfl, by rfl⟩) (qe_lenScr ⟨by rfl, z_len, by decide +kernel, by decide, by decide⟩ (qe_var 0) ⟨by rfl, by rfl⟩))) (qa_nil)) ⟨by rfl, by rfl⟩) (qa_nil)) ⟨by rfl, by rfl⟩) (qe_int)) (qe_int))))) (qss_nil))))
    (qss_one (qs_ret (qe_lst (qa_cons (QE.cold (qe_ix hu4 (qe_lst (qa_cons (QE.cold (qe_int)) (qa_cons (QE.cold (qe_var 2)) (qa_nil)))) (qe_callTy call_int1 co_int ⟨by rfl, z_int, by decide +kernel, by decide, by decide⟩ (qa_cons (qe_ge hu4 (qe_var 2) (qe_pow (qe_int) (qe_int))) (qa_nil)) ⟨by rfl, by rfl⟩))) (qa_cons (QE.cold (qe_add (qe_mod (qe_callTy call_int1 co_int ⟨by rfl, z_int, by decide +kernel, by decide, by decide⟩ (qa_cons (qe_add (qe_mul (qe_mod (qe_callTy call_int1 co_int ⟨by rfl, z_int, by decide +kernel, by decide, by decide⟩ (qa_cons (qe_var 2) (qa_nil)) ⟨by rfl, by rfl⟩) (qe_int)) (qe_int)) (qe_mul (qe_int) (qe_var 1))) (qa_nil)) ⟨by rfl, by rfl⟩) (qe_int)) (qe_int))) (qa_cons (QE.cold (qe_int)) (qa_nil)))))))), m, F.kp, F.binds fun _ _ _ _ _ _ us hl => match us, hl with | [_, _], _ => rfl⟩
theorem l__law_take {f : Addr} {fd : FuncData} (F : Fun K "_law_take" "_law_take" s__law_take f fd) (m : mg "_law_take" = some (.ref f)) (z_int : mg "int" = none) : Cal P w K mg base "_law_take" 3 f__law_take :=
  have nd : n__law_take.Nodup := sc__law_take.nd
  ⟨f, fd, ["box", "many"], ok_def (k := 2) F sc__law_take fun cdv A outer s H E hr =>
    have hu5 := Room.u65 hr; have hu4 := Room.u64 hr; have hu1 := Room.u1 hr
    qss_cons (qs_if (qt_gt hu4 (qe_ix hu4 (qe_var 0) (qe_int)) (qe_int)) (qss_cons (qs_set nd rfl (.inl rfl) (qe_mod (qe_callTy call_int1 co_int ⟨by rfl, z_int, by decide +kernel, by decide, by decide⟩ (qa_cons (qe_ix hu4 (qe_var 0) (qe_int)) (qa_nil)) ⟨by rfl, by rfl⟩) (qe_var 1)))
    (qss_cons (qs_sub hu1 (qe_div (qe_ix hu4 (qe_var 0) (qe_int)) (qe_var 1)) (qe_var 0) (qe_int))
    (qss_one (qs_ret (qe_var 2))))) (qss_nil))
    (qss_cons (qs_sub hu1 (qe_add (qe_ix hu4 (qe_var 0) (qe_int)) (qe_int)) (qe_var 0) (qe_int))
    (qss_cons (qs_set nd rfl (.inl rfl) (qe_mod (qe_callTy call_int1 co_int ⟨by rfl, z_int, by decide +kernel, by decide, by decide⟩ (qa_cons (qe_add (qe_mul (qe_add (qe_ix hu4 (qe_var 0) (qe_int)) (qe_mul (qe_int) (qe_ix hu4 (qe_var 0) (qe_int)))) (qe_int)) (qe_int)) (qa_nil)) ⟨by rfl, by rfl⟩) (qe_int)))
    (qss_cons (qs_sub hu1 (qe_add (qe_mod (qe_callTy call_int1 co_int ⟨by rfl, z_int, by decide +kernel, by decide, by decide⟩ (qa_cons (qe_add (qe_mul (qe_var 3) (qe_int)) (qe_int)) (qa_nil)) ⟨by rfl, by rfl⟩) (qe_int)) (qe_int)) (qe_var 0) (qe_int))
    (qss_one (qs_ret (qe_mod (qe_callTy call_int1 co_int ⟨by rfl, z_int, by decide +kernel, by decide, by decide⟩ (qa_cons (qe_div (qe_add (qe_mul (qe_var 3) (qe_int)) (qe_ix hu4 (qe_var 0) (qe_int))) (qe_int)) (qa_nil)) ⟨by rfl, by rfl⟩) (qe_var 1))))))), m, F.kp, F.binds fun _ _ _ _ _ _ us hl => match us, hl with | [_, _], _ => rfl⟩
theorem l__law_pick {f : Addr} {fd : FuncData} (F : Fun K "_law_pick" "_law_pick" s__law_pick f fd) (m : mg "_law_pick" = some (.ref f)) (z_len : mg "len" = none) (l__law_take : Cal P w K mg base "_law_take" 3 f__law_take) : Cal P w K mg base "_law_pick" 4 f__law_pick :=
  have nd : n__law_pick.Nodup := sc__law_pick.nd
  ⟨f, fd, ["box", "some"], ok_def (k := 3) F sc__law_pick fun cdv A outer s H E hr =>
    have hu5 := Room.u65 hr; have hu4 := Room.u64 hr; have hu1 := Room.u1 hr
    qss_one (qs_ret (qe_ix hu4 (qe_var 1) (qe_callF l__law_take hr (by decide) (by rfl) (qa_cons (qe_arg 0) (qa_cons (QE.cold (qe_callB call_len co_len ⟨by rfl, z_len, by decide +kernel, by decide, by decide⟩ (qa_cons (qe_var 1) (qa_nil)) ⟨by rfl, by rfl⟩)) (qa_nil))) (by decide) ⟨by rfl, by rfl⟩))), m, F.kp, F.binds fun _ _ _ _ _ _ us hl => match us, hl with | [_, _], _ => rfl⟩
theorem l__law_mixed {f : Addr} {fd : FuncData} (F : Fun K "_law_mixed" "_law_mixed" s__law_mixed f fd) (m : mg "_law_mixed" = some (.ref f)) (z_len : mg "len" = none) (z_list : mg "list" = none) (z_range : mg "range" = none) (l__law_take : Cal P w K mg base "_law_take" 3 f__law_take) : Cal P w K mg base "_law_mixed" 4 f__law_mixed :=
  have nd : n__law_mixed.Nodup := sc__law_mixed.nd
  ⟨f, fd, ["box", "row"], ok_def (k := 3) F sc__law_mixed fun cdv A outer s H E hr =>
    have hu5 := Room.u65 hr; have hu4 := Room.u64 hr; have hu1 := Room.u1 hr
    qss_cons (qs_par2v rfl nd rfl rfl (by decide) rfl rfl (qa_cons (QE.own (qe_callTy call_list_of co_list ⟨by rfl, z_list, by decide +kernel, by decide, by decide⟩ (qa_cons (qe_var 1) (qa_nil)) ⟨by rfl, by rfl⟩)) (qa_cons (QE.own (qe_lst (qa_nil))) (qa_nil))) (by rfl))
    (qss_cons (qs_for .never rfl (qi_rng1 (by rfl) z_range (qe_callB call_len co_len ⟨by rfl, z_len, by decide +kernel, by decide, by decide⟩ (qa_cons (qe_var 1) (qa_nil)) ⟨by rfl, by rfl⟩)) (pg_name (i := 4) nd rfl (.inl rfl)) (qss_one (qs_expr (qe_mt m_append mt_append ms_append (qe_var 3) (qa_cons (QE.cold (qe_mt m_pop mt_popAt ms_popAt (qe_var 2) (qa_cons (QE.cold (qe_callF l__law_take hr (by decide) (by rfl) (qa_cons (qe_arg 0) (qa_cons (QE.cold (qe_callB call_len co_len ⟨by rfl, z_len, by decide +kernel, by decide, by decide⟩ (qa_cons (qe_var 2) (qa_nil)) ⟨by rfl, by rfl⟩)) (qa_nil))) (by decide) ⟨by rfl, by rfl⟩)) (qa_nil)) ⟨by rfl, by rfl, by rfl⟩ ⟨by rfl, by rfl⟩)) (qa_nil)) ⟨by rfl, by rfl, by rfl⟩ ⟨by rfl, by rfl⟩))))
    (qss_one (qs_ret (qe_var 3)))), m, F.kp, F.binds fun _ _ _ _ _ _ us hl => match us, hl with | [_, _], _ => rfl⟩
theorem l__law_is_int {f : Addr} {fd : FuncData} (F : Fun K "_law_is_int" "_law_is_int" s__law_is_int f fd) (m : mg "_law_is_int" = some (.ref f)) (z_bool : mg "bool" = none) (z_int : mg "int" = none) (z_isinstance : mg "isinstance" = none) : Cal P w K mg base "_law_is_int" 3 f__law_is_int :=
  have nd : n__law_is_int.Nodup := sc__law_is_int.nd
  ⟨f, fd, ["value"], ok_def (k := 2) F sc__law_is_int fun cdv A outer s H E hr =>
    have hu5 := Room.u65 hr; have hu4 := Room.u64 hr; have hu1 := Room.u1 hr
    qss_one (qs_ret (qe_and (qe_isi1 ⟨by rfl, z_isinstance, by decide +kernel, by decide, by decide⟩ (qe_var 0) (.cons ⟨by rfl, z_int, by decide +kernel, by decide, by decide⟩ (by decide) (by rfl) (.nil)) ⟨by rfl, by rfl⟩) (qe_one (qe_not (qe_isi1 ⟨by rfl, z_isinstance, by decide +kernel, by decide, by decide⟩ (qe_var 0) (.cons ⟨by rfl, z_bool, by decide +kernel, by decide, by decide⟩ (by decide) (by rfl) (.nil)) ⟨by rfl, by rfl⟩))))), m, F.kp, F.binds fun _ _ _ _ _ _ us hl => match us, hl with | [_], _ => rfl⟩
theorem l__law_is_row {f : Addr} {fd : FuncData} (F : Fun K "_law_is_row" "_law_is_row" s__law_is_row f fd) (m : mg "_law_is_row" = some (.ref f)) (z_isinstance : mg "isinstance" = none) (z_len : mg "len" = none) (z_tuple : mg "tuple" = none) (l__law_is_int : Cal P w K mg base "_law_is_int" 3 f__law_is_int) : Cal P w K mg base "_law_is_row" 4 f__law_is_row :=
  have nd : n__law_is_row.Nodup := sc__law_is_row.nd
  ⟨f, fd, ["value", "many"], ok_def (k := 3) F sc__law_is_row fun cdv A outer s H E hr =>
    have hu5 := Room.u65 hr; have hu4 := Room.u64 hr; have hu1 := Room.u1 hr
    qss_one (qs_ret (qe_and (qe_isi1 ⟨by rfl, z_isinstance, by decide +kernel, by decide, by decide⟩ (qe_var 0) (.cons ⟨by rfl, z_tuple, by decide +kernel, by decide, by decide⟩ (by decide) (by rfl) (.nil)) ⟨by rfl, by rfl⟩) (qe_and (qe_eq hu4 (qe_callB call_len co_len ⟨by rfl, z_len, by decide +kernel, by decide, by decide⟩ (qa_cons (qe_var 0) (qa_nil)) ⟨by rfl, by rfl⟩) (qe_var 1)) (qe_one (qe_eq hu4 (qe_lc (own := [("one", 2)]) rfl nd (qi_slot 0) (blkOk_by (own := [("one", 2)]) (N := n__law_is_row) (sc := defScope s__law_is_row) (by decide +kernel)) (fun _ _ _ _ _ => pg_name (i := 2) nd rfl (Or.inl rfl)) (fun _ _ _ _ _ => qts_one (qt_not (qt_val (qe_callF l__law_is_int hr (by decide) (by rfl) (qa_cons (qe_arg 2) (qa_nil)) (by decide) ⟨by rfl, by rfl⟩)))) (fun _ _ _ _ _ => qe_var 2)) (qe_lst (qa_nil))))))), m, F.kp, F.binds fun _ _ _ _ _ _ us hl => match us, hl with | [_, _], _ => rfl⟩
theorem l__law_far {f : Addr} {fd : FuncData} (F : Fun K "_law_far" "_law_far" s__law_far f fd) (m : mg "_law_far" = some (.ref f)) (z_len : mg "len" = none) (z_min : mg "min" = none) (z_range : mg "range" = none) : Cal P w K mg base "_law_far" 3 f__law_far :=
  have nd : n__law_far.Nodup := sc__law_far.nd
  ⟨f, fd, ["touches", "at", "block"], ok_def (k := 2) F sc__law_far fun cdv A outer s H E hr =>
    have hu5 := Room.u65 hr; have hu4 := Room.u64 hr; have hu1 := Room.u1 hr
    qss_cons (qs_setLc (own := [("moment", 4)]) rfl nd rfl rfl (by rfl) (qi_rng2 (by rfl) z_range (qe_add (qe_var 1) (qe_int)) (qe_callB call_len co_len ⟨by rfl, z_len, by decide +kernel, by decide, by decide⟩ (qa_cons (qe_var 0) (qa_nil)) ⟨by rfl, by rfl⟩)) (blkOk_by (own := [("moment", 4)]) (N := n__law_far) (sc := defScope s__law_far) (by decide +kernel)) (fun _ _ _ _ _ => pg_name (i := 4) nd rfl (Or.inl rfl)) (fun _ _ _ _ _ => qts_one (qt_eq hu4 (qe_ix hu4 (qe_var 0) (qe_var 4)) (qe_var 2))) (fun _ _ _ _ _ => qe_var 4))
    (qss_one (qs_ret (qe_callB (cr_min rfl) co_min1 ⟨by rfl, z_min, by decide +kernel, by decide, by decide⟩ (qa_cons (qe_add (qe_var 3) (qe_lst (qa_cons (QE.cold (qe_callB call_len co_len ⟨by rfl, z_len, by decide +kernel, by decide, by decide⟩ (qa_cons (qe_var 0) (qa_nil)) ⟨by rfl, by rfl⟩)) (qa_nil)))) (qa_nil)) ⟨by rfl, by rfl⟩))), m, F.kp, F.binds fun _ _ _ _ _ _ us hl => match us, hl with | [_, _, _], _ => rfl⟩
theorem l__law_least {f : Addr} {fd : FuncData} (F : Fun K "_law_least" "_law_least" s__law_least f fd) (m : mg "_law_least" = some (.ref f)) (z_len : mg "len" = none) (z_max : mg "max" = none) (z_range : mg "range" = none) (l__law_far : Cal P w K mg base "_law_far" 3 f__law_far) : Cal P w K mg base "_law_least" 4 f__law_least :=
  have nd : n__law_least.Nodup := sc__law_least.nd
  ⟨f, fd, ["touches", "rooms"], ok_def (k := 3) F sc__law_least fun cdv A outer s H E hr =>
    have hu5 := Room.u65 hr; have hu4 := Room.u64 hr; have hu1 := Room.u1 hr
    qss_cons (qs_par2v rfl nd rfl rfl (by decide) rfl rfl (qa_cons (QE.own (qe_lst (qa_nil))) (qa_cons (QE.own (qe_int)) (qa_nil))) (by rfl))
    (qss_cons (qs_for .never rfl (qi_rng1 (by rfl) z_range (qe_callB call_len co_len ⟨by rfl, z_len, by decide +kernel, by decide, by decide⟩ (qa_cons (qe_var 0) (qa_nil)) ⟨by rfl, by rfl⟩)) (pg_name (i := 4) nd rfl (.inr rfl)) (qss_one (qs_if (qt_notin hu5 (qe_ix hu4 (qe_var 0) (qe_var 4)) (qe_var 2)) (qss_cons (qs_set nd rfl (.inl rfl) (qe_add (qe_var 3) (qe_int)))
    (qss_cons (qs_if (qt_eq hu4 (qe_callB call_len co_len ⟨by rfl, z_len, by decide +kernel, by decide, by decide⟩ (qa_cons (qe_var 2) (qa_nil)) ⟨by rfl, by rfl⟩) (qe_var 1)) (qss_cons (qs_setLc (own := [("block", 6)]) rfl nd rfl rfl (by rfl) (qi_slot 2) (blkOk_by (own := [("block", 6)]) (N := n__law_least) (sc := defScope s__law_least) (by decide +kernel)) (fun _ _ _ _ _ => pg_name (i := 6) nd rfl (Or.inl rfl)) (fun _ _ _ _ _ => qts_nil) (fun _ _ _ _ _ => qe_callF l__law_far hr (by decide) (by rfl) (qa_cons (qe_arg 0) (qa_cons (qe_arg 4) (qa_cons (qe_arg 6) (qa_nil)))) (by decide) ⟨by rfl, by rfl⟩))
    (qss_one (qs_expr (qe_mt m_pop mt_popAt ms_popAt (qe_var 2) (qa_cons (QE.cold (qe_mt m_index (mt_lidxD hu5) ms_dat (qe_var 5) (qa_cons (qe_callB (cr_max rfl) co_max1 ⟨by rfl, z_max, by decide +kernel, by decide, by decide⟩ (qa_cons (qe_var 5) (qa_nil)) ⟨by rfl, by rfl⟩) (qa_nil)) ⟨by rfl, by rfl, by rfl⟩ ⟨by rfl, by rfl⟩)) (qa_nil)) ⟨by rfl, by rfl, by rfl⟩ ⟨by rfl, by rfl⟩)))) (qss_nil))
    (qss_one (qs_expr (qe_mt m_append mt_append ms_append (qe_var 2) (qa_cons (QE.cold (qe_ix hu4 (qe_var 0) (qe_var 4))) (qa_nil)) ⟨by rfl, by rfl, by rfl⟩ ⟨by rfl, by rfl⟩))))) (qss_nil))))
    (qss_one (qs_ret (qe_var 3)))), m, F.kp, F.binds fun _ _ _ _ _ _ us hl => match us, hl with | [_, _], _ => rfl⟩
theorem l__law_touches {f : Addr} {fd : FuncData} (F : Fun K "_law_touches" "_law_touches" s__law_touches f fd) (m : mg "_law_touches" = some (.ref f)) (z_len : mg "len" = none) (z_list : mg "list" = none) (z_range : mg "range" = none) (z_tuple : mg "tuple" = none) (l__law_mixed : Cal P w K mg base "_law_mixed" 4 f__law_mixed) (l__law_pick : Cal P w K mg base "_law_pick" 4 f__law_pick) (l__law_take : Cal P w K mg base "_law_take" 3 f__law_take) : Cal P w K mg base "_law_touches" 5 f__law_touches :=
  have nd : n__law_touches.Nodup := sc__law_touches.nd
  ⟨f, fd, ["box"], ok_def (k := 4) F sc__law_touches fun cdv A outer s H E hr =>
    have hu5 := Room.u65 hr; have hu4 := Room.u64 hr; have hu1 := Room.u1 hr
    qss_cons (qs_par2v rfl nd rfl rfl (by decide) rfl rfl (qa_cons (QE.own (qe_callF l__law_take hr (by decide) (by rfl) (qa_cons (qe_arg 0) (qa_cons (QE.cold (qe_int)) (qa_nil))) (by decide) ⟨by rfl, by rfl⟩)) (qa_cons (QE.own (qe_callF l__law_pick hr (by decide) (by rfl) (qa_cons (qe_arg 0) (qa_cons (QE.cold (qe_lst (qa_cons (QE.cold (qe_int)) (qa_cons (QE.cold (qe_int)) (qa_cons (QE.cold (qe_int)) (qa_cons (QE.cold (qe_int)) (qa_cons (QE.cold (qe_int)) (qa_cons (QE.cold (qe_int)) (qa_cons (QE.cold (qe_int)) (qa_nil)))))))))) (qa_nil))) (by decide) ⟨by rfl, by rfl⟩)) (qa_nil))) (by rfl))
    (qss_cons (qs_set nd rfl (.inl rfl) (qe_cut (qe_callF l__law_mixed hr (by decide) (by rfl) (qa_cons (qe_arg 0) (qa_cons (QE.cold (qe_lrg1 rfl (by rfl) z_list (by rfl) z_range (qe_int))) (qa_nil))) (by decide) ⟨by rfl, by rfl⟩) (qo_none) (qo_some (qe_var 2))))
    (qss_cons (qs_if (qt_eq hu4 (qe_var 1) (qe_int)) (qss_one (qs_set nd rfl (.inr rfl) (qe_add (qe_var 3) (qe_var 3)))) (qss_one (qs_if (qt_eq hu4 (qe_var 1) (qe_int)) (qss_one (qs_set nd rfl (.inr rfl) (qe_add (qe_add (qe_var 3) (qe_cut (qe_revL (qe_var 3)) (qo_some (qe_int)) (qo_none))) (qe_var 3)))) (qss_cons (qs_set nd rfl (.inr rfl) (qe_lst (qa_nil)))
    (qss_one (qs_for .never rfl (qi_rng1 (by rfl) z_range (qe_add (qe_int) (qe_callF l__law_take hr (by decide) (by rfl) (qa_cons (qe_arg 0) (qa_cons (QE.cold (qe_int)) (qa_nil))) (by decide) ⟨by rfl, by rfl⟩))) (pg_name (i := 5) nd rfl (.inl rfl)) (qss_one (qs_set nd rfl (.inr rfl) (qe_add (qe_var 4) (qe_lc (own := [("name", 7)]) rfl nd (qi_cold (qe_lst (qa_cons (QE.cold (qe_callF l__law_pick hr (by decide) (by rfl) (qa_cons (qe_arg 0) (qa_cons (qe_arg 3) (qa_nil))) (by decide) ⟨by rfl, by rfl⟩)) (qa_nil)))) (blkOk_by (own := [("name", 7)]) (N := n__law_touches) (sc := defScope s__law_touches) (by decide +kernel)) (fun _ _ _ _ _ => pg_name (i := 7) nd rfl (Or.inl rfl)) (fun _ _ _ _ _ => qts_one (qt_bool (qw_or (qt_eq hu4 (qe_var 4) (qe_lst (qa_nil))) (qw_or1 (qt_ne hu4 (qe_ix hu4 (qe_var 4) (qe_neg (qe_int))) (qe_var 7)))))) (fun _ _ _ _ _ => qe_var 7)))))))))))
    (qss_cons (qs_set nd rfl (.inr rfl) (qe_lc (own := [("at", 6)]) rfl nd (qi_rng1 (by rfl) z_range (qe_callB call_len co_len ⟨by rfl, z_len, by decide +kernel, by decide, by decide⟩ (qa_cons (qe_var 4) (qa_nil)) ⟨by rfl, by rfl⟩)) (blkOk_by (own := [("at", 6)]) (N := n__law_touches) (sc := defScope s__law_touches) (by decide +kernel)) (fun _ _ _ _ _ => pg_name (i := 6) nd rfl (Or.inl rfl)) (fun _ _ _ _ _ => qts_one (qt_bool (qw_or (qt_eq hu4 (qe_var 6) (qe_int)) (qw_or1 (qt_ne hu4 (qe_ix hu4 (qe_var 4) (qe_var 6)) (qe_ix hu4 (qe_var 4) (qe_sub (qe_var 6) (qe_int)))))))) (fun _ _ _ _ _ => qe_ix hu4 (qe_var 4) (qe_var 6))))
    (qss_one (qs_ret (qe_callTy call_tupleF co_tuple ⟨by rfl, z_tuple, by decide +kernel, by decide, by decide⟩ (qa_cons (qe_cut (qe_var 4) (qo_none) (qo_some (qe_int))) (qa_nil)) ⟨by rfl, by rfl⟩)))))), m, F.kp, F.binds fun _ _ _ _ _ _ us hl => match us, hl with | [_], _ => rfl⟩
theorem l__law_depth {f : Addr} {fd : FuncData} (F : Fun K "_law_depth" "_law_depth" s__law_depth f fd) (m : mg "_law_depth" = some (.ref f)) (z_len : mg "len" = none) (z_min : mg "min" = none) (z_range : mg "range" = none) (z_set : mg "set" = none) (l__law_least : Cal P w K mg base "_law_least" 4 f__law_least) : Cal P w K mg base "_law_depth" 5 f__law_depth :=
  have nd : n__law_depth.Nodup := sc__law_depth.nd
  ⟨f, fd, ["touches", "at"], ok_def (k := 4) F sc__law_depth fun cdv A outer s H E hr =>
    have hu5 := Room.u65 hr; have hu4 := Room.u64 hr; have hu1 := Room.u1 hr
    qss_cons (qs_if (qt_notin hu5 (qe_ix hu4 (qe_var 0) (qe_var 1)) (qe_cut (qe_var 0) (qo_none) (qo_some (qe_var 1)))) (qss_one (qs_ret (qe_non))) (qss_nil))
    (qss_cons (qs_set nd rfl (.inl rfl) (qe_lenSet rfl ⟨by rfl, z_len, by decide +kernel, by decide, by decide⟩ ⟨by rfl, z_set, by decide +kernel, by decide, by decide⟩ (qe_cut (qe_var 0) (qo_none) (qo_some (qe_var 1))) ⟨by rfl, by rfl⟩ ⟨by rfl, by rfl⟩))
    (qss_cons (qs_setLc (own := [("rooms", 4)]) rfl nd rfl rfl (by rfl) (qi_rng2 (by rfl) z_range (qe_int) (qe_add (qe_var 2) (qe_int))) (blkOk_by (own := [("rooms", 4)]) (N := n__law_depth) (sc := defScope s__law_depth) (by decide +kernel)) (fun _ _ _ _ _ => pg_name (i := 4) nd rfl (Or.inl rfl)) (fun _ _ _ _ _ => qts_one (qt_eq hu4 (qe_callF l__law_least hr (by decide) (by rfl) (qa_cons (QE.cold (qe_cut (qe_var 0) (qo_none) (qo_some (qe_var 1)))) (qa_cons (qe_arg 4) (qa_nil))) (by decide) ⟨by rfl, by rfl⟩) (qe_callF l__law_least hr (by decide) (by rfl) (qa_cons (QE.cold (qe_cut (qe_var 0) (qo_none) (qo_some (qe_add (qe_var 1) (qe_int))))) (qa_cons (qe_arg 4) (qa_nil))) (by decide) ⟨by rfl, by rfl⟩))) (fun _ _ _ _ _ => qe_var 4))
    (qss_one (qs_ret (qe_callB (cr_min rfl) co_min1 ⟨by rfl, z_min, by decide +kernel, by decide, by decide⟩ (qa_cons (qe_var 3) (qa_nil)) ⟨by rfl, by rfl⟩))))), m, F.kp, F.binds fun _ _ _ _ _ _ us hl => match us, hl with | [_, _], _ => rfl⟩
theorem ok_law {f : Addr} {fd : FuncData} (F : Fun K "law" "law" s_law f fd) (z_isinstance : mg "isinstance" = none) (z_len : mg "len" = none) (z_list : mg "list" = none) (z_min : mg "min" = none) (z_range : mg "range" = none) (z_set : mg "set" = none) (z_tuple : mg "tuple" = none) (l__law_box : Cal P w K mg base "_law_box" 3 f__law_box) (l__law_depth : Cal P w K mg base "_law_depth" 5 f__law_depth) (l__law_is_int : Cal P w K mg base "_law_is_int" 3 f__law_is_int) (l__law_is_row : Cal P w K mg base "_law_is_row" 4 f__law_is_row) (l__law_least : Cal P w K mg base "_law_least" 4 f__law_least) (l__law_pick : Cal P w K mg base "_law_pick" 4 f__law_pick) (l__law_take : Cal P w K mg base "_law_take" 3 f__law_take) (l__law_touches : Cal P w K mg base "_law_touches" 5 f__law_touches) (l_beginning_moves : Cal P w K mg base "beginning_moves" 8 f_beginning_moves) (l_rooms_moves : Cal P w K mg base "rooms_moves" 7 f_rooms_moves) (l_touch_depths : Cal P w K mg base "touch_depths" 7 f_touch_depths) : FnOk P w K mg base CX0 9 f fd ["script"] (spQ K f_law) :=
  have nd : n_law.Nodup := sc_law.nd
  ok_def (k := 8) F sc_law fun cdv A outer s H E hr =>
    have hu5 := Room.u65 hr; have hu4 := Room.u64 hr; have hu1 := Room.u1 hr
    qss_cons (qs_for .never rfl (qi_rng1 (by rfl) z_range (qe_int)) (pg_name (i := 1) nd rfl (.inl rfl)) (qss_cons (qs_set nd rfl (.inl rfl) (qe_callF l__law_box hr (by decide) (by rfl) (qa_cons (qe_arg 0) (qa_cons (qe_arg 1) (qa_nil))) (by decide) ⟨by rfl, by rfl⟩))
    (qss_cons (qs_set nd rfl (.inr rfl) (qe_callF l__law_touches hr (by decide) (by rfl) (qa_cons (qe_arg 2) (qa_nil)) (by decide) ⟨by rfl, by rfl⟩))
    (qss_cons (qs_set nd rfl (.inl rfl) (qe_lenSet rfl ⟨by rfl, z_len, by decide +kernel, by decide, by decide⟩ ⟨by rfl, z_set, by decide +kernel, by decide, by decide⟩ (qe_var 3) ⟨by rfl, by rfl⟩ ⟨by rfl, by rfl⟩))
    (qss_cons (qs_set nd rfl (.inl rfl) (qe_callF l_rooms_moves hr (by decide) (by rfl) (qa_cons (QE.cold (qe_callTy call_list_of co_list ⟨by rfl, z_list, by decide +kernel, by decide, by decide⟩ (qa_cons (qe_var 3) (qa_nil)) ⟨by rfl, by rfl⟩)) (qa_nil)) (by decide) ⟨by rfl, by rfl⟩))
    (qss_cons (qs_if (qt_bool (qw_or (qt_not (qt_val (qe_callF l__law_is_row hr (by decide) (by rfl) (qa_cons (qe_arg 5) (qa_cons (qe_arg 4) (qa_nil))) (by decide) ⟨by rfl, by rfl⟩))) (qw_or1 (qt_ne hu4 (qe_callTy call_list_of co_list ⟨by rfl, z_list, by decide +kernel, by decide, by decide⟩ (qa_cons (qe_var 5) (qa_nil)) ⟨by rfl, by rfl⟩) (qe_lc (own := [("rooms", 6)]) rfl nd (qi_rng2 (by rfl) z_range (qe_int) (qe_add (qe_var 4) (qe_int))) (blkOk_by (own := [("rooms", 6)]) (N := n_law) (sc := defScope s_law) (by decide +kernel)) (fun _ _ _ _ _ => pg_name (i := 6) nd rfl (Or.inl rfl)) (fun _ _ _ _ _ => qts_nil) (fun _ _ _ _ _ => qe_callF l__law_least hr (by decide) (by rfl) (qa_cons (qe_arg 3) (qa_cons (qe_arg 6) (qa_nil))) (by decide) ⟨by rfl, by rfl⟩)))))) (qss_one (qs_ret (qe_bl))) (qss_nil))
    (qss_cons (qs_par2v rfl nd rfl rfl (by decide) rfl rfl (qa_cons (QE.own (qe_callF l_touch_depths hr (by decide) (by rfl) (qa_cons (qe_arg 3) (qa_nil)) (by decide) ⟨by rfl, by rfl⟩)) (qa_cons (QE.own (qe_add (qe_int) (qe_callF l__law_take hr (by decide) (by rfl) (qa_cons (qe_arg 2) (qa_cons (QE.cold (qe_int)) (qa_nil))) (by decide) ⟨by rfl, by rfl⟩))) (qa_nil))) (by rfl))
    (qss_cons (qs_set nd rfl (.inl rfl) (qe_callF l_beginning_moves hr (by decide) (by rfl) (qa_cons (qe_arg 3) (qa_cons (qe_arg 6) (qa_nil))) (by decide) ⟨by rfl, by rfl⟩))
    (qss_cons (qs_if (qt_bool (qw_or (qt_not (qt_val (qe_isi1 ⟨by rfl, z_isinstance, by decide +kernel, by decide, by decide⟩ (qe_var 5) (.cons ⟨by rfl, z_tuple, by decide +kernel, by decide, by decide⟩ (by decide) (by rfl) (.nil)) ⟨by rfl, by rfl⟩))) (qw_or (qt_ne hu4 (qe_callB call_len co_len ⟨by rfl, z_len, by decide +kernel, by decide, by decide⟩ (qa_cons (qe_var 5) (qa_nil)) ⟨by rfl, by rfl⟩) (qe_callB call_len co_len ⟨by rfl, z_len, by decide +kernel, by decide, by decide⟩ (qa_cons (qe_var 3) (qa_nil)) ⟨by rfl, by rfl⟩)) (qw_or1 (qt_not (qt_val (qe_callF l__law_is_row hr (by decide) (by rfl) (qa_cons (qe_arg 7) (qa_cons (QE.cold (qe_callB call_len co_len ⟨by rfl, z_len, by decide +kernel, by decide, by decide⟩ (qa_cons (qe_var 3) (qa_nil)) ⟨by rfl, by rfl⟩)) (qa_nil))) (by decide) ⟨by rfl, by rfl⟩))))))) (qss_one (qs_ret (qe_bl))) (qss_nil))
    (qss_one (qs_for .never rfl (qi_rng1 (by rfl) z_range (qe_int)) (pg_name (i := 8) nd rfl (.inl rfl)) (qss_cons (qs_set nd rfl (.inl rfl) (qe_sub (qe_sub (qe_callB call_len co_len ⟨by rfl, z_len, by decide +kernel, by decide, by decide⟩ (qa_cons (qe_var 3) (qa_nil)) ⟨by rfl, by rfl⟩) (qe_int)) (qe_callF l__law_take hr (by decide) (by rfl) (qa_cons (qe_arg 2) (qa_cons (QE.cold (qe_callF l__law_pick hr (by decide) (by rfl) (qa_cons (qe_arg 2) (qa_cons (QE.cold (qe_lst (qa_cons (QE.cold (qe_callB call_len co_len ⟨by rfl, z_len, by decide +kernel, by decide, by decide⟩ (qa_cons (qe_var 3) (qa_nil)) ⟨by rfl, by rfl⟩)) (qa_cons (QE.cold (qe_callB (call_min2 rfl) co_min2 ⟨by rfl, z_min, by decide +kernel, by decide, by decide⟩ (qa_cons (qe_callB call_len co_len ⟨by rfl, z_len, by decide +kernel, by decide, by decide⟩ (qa_cons (qe_var 3) (qa_nil)) ⟨by rfl, by rfl⟩) (qa_cons (qe_int) (qa_nil))) ⟨by rfl, by rfl⟩)) (qa_nil))))) (qa_nil))) (by decide) ⟨by rfl, by rfl⟩)) (qa_nil))) (by decide) ⟨by rfl, by rfl⟩)))
    (qss_cons (qs_set nd rfl (.inl rfl) (qe_callF l__law_depth hr (by decide) (by rfl) (qa_cons (qe_arg 3) (qa_cons (qe_arg 9) (qa_nil))) (by decide) ⟨by rfl, by rfl⟩))
    (qss_cons (qs_if (qt_bool (qw_or (qt_bool (qw_and (qt_is (qe_var 10) (qe_non)) (qw_and1 (qt_isnot (qe_ix hu4 (qe_var 5) (qe_var 9)) (qe_non))))) (qw_or1 (qt_bool (qw_and (qt_isnot (qe_var 10) (qe_non)) (qw_and1 (qt_bool (qw_or (qt_not (qt_val (qe_callF l__law_is_int hr (by decide) (by rfl) (qa_cons (QE.cold (qe_ix hu4 (qe_var 5) (qe_var 9))) (qa_nil)) (by decide) ⟨by rfl, by rfl⟩))) (qw_or1 (qt_ne hu4 (qe_ix hu4 (qe_var 5) (qe_var 9)) (qe_var 10))))))))))) (qss_one (qs_ret (qe_bl))) (qss_nil))
    (qss_one (qs_if (qt_ne hu4 (qe_ix hu4 (qe_var 7) (qe_var 9)) (qe_callF l__law_least hr (by decide) (by rfl) (qa_cons (QE.cold (qe_cut (qe_var 3) (qo_none) (qo_some (qe_add (qe_var 9) (qe_int))))) (qa_cons (qe_arg 6) (qa_nil))) (by decide) ⟨by rfl, by rfl⟩)) (qss_one (qs_ret (qe_bl))) (qss_nil)))))))))))))))))
    (qss_one (qs_ret (qe_bl)))
end
theorem all_mk {l : PySem.W.OpenLaw} {w : World} {K : PySem.W.Frag} {h : Heap} {mg : Str → Option Value} {fa : Addr} (X : K.In h) (G : h.Ns mainGlobals mg) (hfa : mg "law" = some (.ref fa))
    {f0 : Addr} {od0 an0 : Option Addr} {sl0 : Array (Option Value)} {oc0 kV0 dc0 pm0 cd0 ct0 : Value} (a0 : PySem.W.nsIn K mainGlobals "is_integer" = some (some (.ref f0))) (b0 : K.lookup f0 = some ⟨oc0, od0, .func (PySem.W.fnOf "is_integer" "is_integer" (defArgs s_is_integer) (defBody s_is_integer) (defScope s_is_integer) .none kV0 dc0 pm0 an0 cd0 ct0), sl0⟩) (c0 : PySem.W.codeIn K cd0 "is_integer" = true) (k0 : PySem.W.keepIn K (.ref f0) = true)
    {f1 : Addr} {od1 an1 : Option Addr} {sl1 : Array (Option Value)} {oc1 kV1 dc1 pm1 cd1 ct1 : Value} (a1 : PySem.W.nsIn K mainGlobals "is_number" = some (some (.ref f1))) (b1 : K.lookup f1 = some ⟨oc1, od1, .func (PySem.W.fnOf "is_number" "is_number" (defArgs s_is_number) (defBody s_is_number) (defScope s_is_number) .none kV1 dc1 pm1 an1 cd1 ct1), sl1⟩) (c1 : PySem.W.codeIn K cd1 "is_number" = true) (k1 : PySem.W.keepIn K (.ref f1) = true)
    {f2 : Addr} {od2 an2 : Option Addr} {sl2 : Array (Option Value)} {oc2 kV2 dc2 pm2 cd2 ct2 : Value} (a2 : PySem.W.nsIn K mainGlobals "is_below" = some (some (.ref f2))) (b2 : K.lookup f2 = some ⟨oc2, od2, .func (PySem.W.fnOf "is_below" "is_below" (defArgs s_is_below) (defBody s_is_below) (defScope s_is_below) .none kV2 dc2 pm2 an2 cd2 ct2), sl2⟩) (c2 : PySem.W.codeIn K cd2 "is_below" = true) (k2 : PySem.W.keepIn K (.ref f2) = true)
    {f3 : Addr} {od3 an3 : Option Addr} {sl3 : Array (Option Value)} {oc3 kV3 dc3 pm3 cd3 ct3 : Value} (a3 : PySem.W.nsIn K mainGlobals "is_sequence" = some (some (.ref f3))) (b3 : K.lookup f3 = some ⟨oc3, od3, .func (PySem.W.fnOf "is_sequence" "is_sequence" (defArgs s_is_sequence) (defBody s_is_sequence) (defScope s_is_sequence) .none kV3 dc3 pm3 an3 cd3 ct3), sl3⟩) (c3 : PySem.W.codeIn K cd3 "is_sequence" = true) (k3 : PySem.W.keepIn K (.ref f3) = true)
    {f4 : Addr} {od4 an4 : Option Addr} {sl4 : Array (Option Value)} {oc4 kV4 dc4 pm4 cd4 ct4 : Value} (a4 : PySem.W.nsIn K mainGlobals "need_touches" = some (some (.ref f4))) (b4 : K.lookup f4 = some ⟨oc4, od4, .func (PySem.W.fnOf "need_touches" "need_touches" (defArgs s_need_touches) (defBody s_need_touches) (defScope s_need_touches) .none kV4 dc4 pm4 an4 cd4 ct4), sl4⟩) (c4 : PySem.W.codeIn K cd4 "need_touches" = true) (k4 : PySem.W.keepIn K (.ref f4) = true)
    {f5 : Addr} {od5 an5 : Option Addr} {sl5 : Array (Option Value)} {oc5 kV5 dc5 pm5 cd5 ct5 : Value} (a5 : PySem.W.nsIn K mainGlobals "is_rooms" = some (some (.ref f5))) (b5 : K.lookup f5 = some ⟨oc5, od5, .func (PySem.W.fnOf "is_rooms" "is_rooms" (defArgs s_is_rooms) (defBody s_is_rooms) (defScope s_is_rooms) .none kV5 dc5 pm5 an5 cd5 ct5), sl5⟩) (c5 : PySem.W.codeIn K cd5 "is_rooms" = true) (k5 : PySem.W.keepIn K (.ref f5) = true)
    {f6 : Addr} {od6 an6 : Option Addr} {sl6 : Array (Option Value)} {oc6 kV6 dc6 pm6 cd6 ct6 : Value} (a6 : PySem.W.nsIn K mainGlobals "rooms_row" = some (some (.ref f6))) (b6 : K.lookup f6 = some ⟨oc6, od6, .func (PySem.W.fnOf "rooms_row" "rooms_row" (defArgs s_rooms_row) (defBody s_rooms_row) (defScope s_rooms_row) .none kV6 dc6 pm6 an6 cd6 ct6), sl6⟩) (c6 : PySem.W.codeIn K cd6 "rooms_row" = true) (k6 : PySem.W.keepIn K (.ref f6) = true)
    {f7 : Addr} {od7 an7 : Option Addr} {sl7 : Array (Option Value)} {oc7 kV7 dc7 pm7 cd7 ct7 : Value} (a7 : PySem.W.nsIn K mainGlobals "need_lived" = some (some (.ref f7))) (b7 : K.lookup f7 = some ⟨oc7, od7, .func (PySem.W.fnOf "need_lived" "need_lived" (defArgs s_need_lived) (defBody s_need_lived) (defScope s_need_lived) .none kV7 dc7 pm7 an7 cd7 ct7), sl7⟩) (c7 : PySem.W.codeIn K cd7 "need_lived" = true) (k7 : PySem.W.keepIn K (.ref f7) = true)
    {f8 : Addr} {od8 an8 : Option Addr} {sl8 : Array (Option Value)} {oc8 kV8 dc8 pm8 cd8 ct8 : Value} (a8 : PySem.W.nsIn K mainGlobals "unlike_blocks" = some (some (.ref f8))) (b8 : K.lookup f8 = some ⟨oc8, od8, .func (PySem.W.fnOf "unlike_blocks" "unlike_blocks" (defArgs s_unlike_blocks) (defBody s_unlike_blocks) (defScope s_unlike_blocks) .none kV8 dc8 pm8 an8 cd8 ct8), sl8⟩) (c8 : PySem.W.codeIn K cd8 "unlike_blocks" = true) (k8 : PySem.W.keepIn K (.ref f8) = true)
    {f9 : Addr} {od9 an9 : Option Addr} {sl9 : Array (Option Value)} {oc9 kV9 dc9 pm9 cd9 ct9 : Value} (a9 : PySem.W.nsIn K mainGlobals "room_limits" = some (some (.ref f9))) (b9 : K.lookup f9 = some ⟨oc9, od9, .func (PySem.W.fnOf "room_limits" "room_limits" (defArgs s_room_limits) (defBody s_room_limits) (defScope s_room_limits) .none kV9 dc9 pm9 an9 cd9 ct9), sl9⟩) (c9 : PySem.W.codeIn K cd9 "room_limits" = true) (k9 : PySem.W.keepIn K (.ref f9) = true)
    {f10 : Addr} {od10 an10 : Option Addr} {sl10 : Array (Option Value)} {oc10 kV10 dc10 pm10 cd10 ct10 : Value} (a10 : PySem.W.nsIn K mainGlobals "end_marks" = some (some (.ref f10))) (b10 : K.lookup f10 = some ⟨oc10, od10, .func (PySem.W.fnOf "end_marks" "end_marks" (defArgs s_end_marks) (defBody s_end_marks) (defScope s_end_marks) .none kV10 dc10 pm10 an10 cd10 ct10), sl10⟩) (c10 : PySem.W.codeIn K cd10 "end_marks" = true) (k10 : PySem.W.keepIn K (.ref f10) = true)
    {f11 : Addr} {od11 an11 : Option Addr} {sl11 : Array (Option Value)} {oc11 kV11 dc11 pm11 cd11 ct11 : Value} (a11 : PySem.W.nsIn K mainGlobals "beginning_moves" = some (some (.ref f11))) (b11 : K.lookup f11 = some ⟨oc11, od11, .func (PySem.W.fnOf "beginning_moves" "beginning_moves" (defArgs s_beginning_moves) (defBody s_beginning_moves) (defScope s_beginning_moves) .none kV11 dc11 pm11 an11 cd11 ct11), sl11⟩) (c11 : PySem.W.codeIn K cd11 "beginning_moves" = true) (k11 : PySem.W.keepIn K (.ref f11) = true)
    {f12 : Addr} {od12 an12 : Option Addr} {sl12 : Array (Option Value)} {oc12 kV12 dc12 pm12 cd12 ct12 : Value} (a12 : PySem.W.nsIn K mainGlobals "all_marks" = some (some (.ref f12))) (b12 : K.lookup f12 = some ⟨oc12, od12, .func (PySem.W.fnOf "all_marks" "all_marks" (defArgs s_all_marks) (defBody s_all_marks) (defScope s_all_marks) .none kV12 dc12 pm12 an12 cd12 ct12), sl12⟩) (c12 : PySem.W.codeIn K cd12 "all_marks" = true) (k12 : PySem.W.keepIn K (.ref f12) = true)
    {f13 : Addr} {od13 an13 : Option Addr} {sl13 : Array (Option Value)} {oc13 kV13 dc13 pm13 cd13 ct13 : Value} (a13 : PySem.W.nsIn K mainGlobals "touch_depths" = some (some (.ref f13))) (b13 : K.lookup f13 = some ⟨oc13, od13, .func (PySem.W.fnOf "touch_depths" "touch_depths" (defArgs s_touch_depths) (defBody s_touch_depths) (defScope s_touch_depths) .none kV13 dc13 pm13 an13 cd13 ct13), sl13⟩) (c13 : PySem.W.codeIn K cd13 "touch_depths" = true) (k13 : PySem.W.keepIn K (.ref f13) = true)
    {f14 : Addr} {od14 an14 : Option Addr} {sl14 : Array (Option Value)} {oc14 kV14 dc14 pm14 cd14 ct14 : Value} (a14 : PySem.W.nsIn K mainGlobals "rooms_moves" = some (some (.ref f14))) (b14 : K.lookup f14 = some ⟨oc14, od14, .func (PySem.W.fnOf "rooms_moves" "rooms_moves" (defArgs s_rooms_moves) (defBody s_rooms_moves) (defScope s_rooms_moves) .none kV14 dc14 pm14 an14 cd14 ct14), sl14⟩) (c14 : PySem.W.codeIn K cd14 "rooms_moves" = true) (k14 : PySem.W.keepIn K (.ref f14) = true)
    {f15 : Addr} {od15 an15 : Option Addr} {sl15 : Array (Option Value)} {oc15 kV15 dc15 pm15 cd15 ct15 : Value} (a15 : PySem.W.nsIn K mainGlobals "_law_box" = some (some (.ref f15))) (b15 : K.lookup f15 = some ⟨oc15, od15, .func (PySem.W.fnOf "_law_box" "_law_box" (defArgs s__law_box) (defBody s__law_box) (defScope s__law_box) .none kV15 dc15 pm15 an15 cd15 ct15), sl15⟩) (c15 : PySem.W.codeIn K cd15 "_law_box" = true) (k15 : PySem.W.keepIn K (.ref f15) = true)
    {f16 : Addr} {od16 an16 : Option Addr} {sl16 : Array (Option Value)} {oc16 kV16 dc16 pm16 cd16 ct16 : Value} (a16 : PySem.W.nsIn K mainGlobals "_law_take" = some (some (.ref f16))) (b16 : K.lookup f16 = some ⟨oc16, od16, .func (PySem.W.fnOf "_law_take" "_law_take" (defArgs s__law_take) (defBody s__law_take) (defScope s__law_take) .none kV16 dc16 pm16 an16 cd16 ct16), sl16⟩) (c16 : PySem.W.codeIn K cd16 "_law_take" = true) (k16 : PySem.W.keepIn K (.ref f16) = true)
    {f17 : Addr} {od17 an17 : Option Addr} {sl17 : Array (Option Value)} {oc17 kV17 dc17 pm17 cd17 ct17 : Value} (a17 : PySem.W.nsIn K mainGlobals "_law_pick" = some (some (.ref f17))) (b17 : K.lookup f17 = some ⟨oc17, od17, .func (PySem.W.fnOf "_law_pick" "_law_pick" (defArgs s__law_pick) (defBody s__law_pick) (defScope s__law_pick) .none kV17 dc17 pm17 an17 cd17 ct17), sl17⟩) (c17 : PySem.W.codeIn K cd17 "_law_pick" = true) (k17 : PySem.W.keepIn K (.ref f17) = true)
    {f18 : Addr} {od18 an18 : Option Addr} {sl18 : Array (Option Value)} {oc18 kV18 dc18 pm18 cd18 ct18 : Value} (a18 : PySem.W.nsIn K mainGlobals "_law_mixed" = some (some (.ref f18))) (b18 : K.lookup f18 = some ⟨oc18, od18, .func (PySem.W.fnOf "_law_mixed" "_law_mixed" (defArgs s__law_mixed) (defBody s__law_mixed) (defScope s__law_mixed) .none kV18 dc18 pm18 an18 cd18 ct18), sl18⟩) (c18 : PySem.W.codeIn K cd18 "_law_mixed" = true) (k18 : PySem.W.keepIn K (.ref f18) = true)
    {f19 : Addr} {od19 an19 : Option Addr} {sl19 : Array (Option Value)} {oc19 kV19 dc19 pm19 cd19 ct19 : Value} (a19 : PySem.W.nsIn K mainGlobals "_law_is_int" = some (some (.ref f19))) (b19 : K.lookup f19 = some ⟨oc19, od19, .func (PySem.W.fnOf "_law_is_int" "_law_is_int" (defArgs s__law_is_int) (defBody s__law_is_int) (defScope s__law_is_int) .none kV19 dc19 pm19 an19 cd19 ct19), sl19⟩) (c19 : PySem.W.codeIn K cd19 "_law_is_int" = true) (k19 : PySem.W.keepIn K (.ref f19) = true)
    {f20 : Addr} {od20 an20 : Option Addr} {sl20 : Array (Option Value)} {oc20 kV20 dc20 pm20 cd20 ct20 : Value} (a20 : PySem.W.nsIn K mainGlobals "_law_is_row" = some (some (.ref f20))) (b20 : K.lookup f20 = some ⟨oc20, od20, .func (PySem.W.fnOf "_law_is_row" "_law_is_row" (defArgs s__law_is_row) (defBody s__law_is_row) (defScope s__law_is_row) .none kV20 dc20 pm20 an20 cd20 ct20), sl20⟩) (c20 : PySem.W.codeIn K cd20 "_law_is_row" = true) (k20 : PySem.W.keepIn K (.ref f20) = true)
    {f21 : Addr} {od21 an21 : Option Addr} {sl21 : Array (Option Value)} {oc21 kV21 dc21 pm21 cd21 ct21 : Value} (a21 : PySem.W.nsIn K mainGlobals "_law_far" = some (some (.ref f21))) (b21 : K.lookup f21 = some ⟨oc21, od21, .func (PySem.W.fnOf "_law_far" "_law_far" (defArgs s__law_far) (defBody s__law_far) (defScope s__law_far) .none kV21 dc21 pm21 an21 cd21 ct21), sl21⟩) (c21 : PySem.W.codeIn K cd21 "_law_far" = true) (k21 : PySem.W.keepIn K (.ref f21) = true)
    {f22 : Addr} {od22 an22 : Option Addr} {sl22 : Array (Option Value)} {oc22 kV22 dc22 pm22 cd22 ct22 : Value} (a22 : PySem.W.nsIn K mainGlobals "_law_least" = some (some (.ref f22))) (b22 : K.lookup f22 = some ⟨oc22, od22, .func (PySem.W.fnOf "_law_least" "_law_least" (defArgs s__law_least) (defBody s__law_least) (defScope s__law_least) .none kV22 dc22 pm22 an22 cd22 ct22), sl22⟩) (c22 : PySem.W.codeIn K cd22 "_law_least" = true) (k22 : PySem.W.keepIn K (.ref f22) = true)
    {f23 : Addr} {od23 an23 : Option Addr} {sl23 : Array (Option Value)} {oc23 kV23 dc23 pm23 cd23 ct23 : Value} (a23 : PySem.W.nsIn K mainGlobals "_law_touches" = some (some (.ref f23))) (b23 : K.lookup f23 = some ⟨oc23, od23, .func (PySem.W.fnOf "_law_touches" "_law_touches" (defArgs s__law_touches) (defBody s__law_touches) (defScope s__law_touches) .none kV23 dc23 pm23 an23 cd23 ct23), sl23⟩) (c23 : PySem.W.codeIn K cd23 "_law_touches" = true) (k23 : PySem.W.keepIn K (.ref f23) = true)
    {f24 : Addr} {od24 an24 : Option Addr} {sl24 : Array (Option Value)} {oc24 kV24 dc24 pm24 cd24 ct24 : Value} (a24 : PySem.W.nsIn K mainGlobals "_law_depth" = some (some (.ref f24))) (b24 : K.lookup f24 = some ⟨oc24, od24, .func (PySem.W.fnOf "_law_depth" "_law_depth" (defArgs s__law_depth) (defBody s__law_depth) (defScope s__law_depth) .none kV24 dc24 pm24 an24 cd24 ct24), sl24⟩) (c24 : PySem.W.codeIn K cd24 "_law_depth" = true) (k24 : PySem.W.keepIn K (.ref f24) = true)
    {f25 : Addr} {od25 an25 : Option Addr} {sl25 : Array (Option Value)} {oc25 kV25 dc25 pm25 cd25 ct25 : Value} (a25 : PySem.W.nsIn K mainGlobals "law" = some (some (.ref f25))) (b25 : K.lookup f25 = some ⟨oc25, od25, .func (PySem.W.fnOf "law" "law" (defArgs s_law) (defBody s_law) (defScope s_law) .none kV25 dc25 pm25 an25 cd25 ct25), sl25⟩) (c25 : PySem.W.codeIn K cd25 "law" = true) (k25 : PySem.W.keepIn K (.ref f25) = true)
    (z0 : PySem.W.nsIn K mainGlobals "abs" = some none)
    (z1 : PySem.W.nsIn K mainGlobals "all" = some none)
    (z2 : PySem.W.nsIn K mainGlobals "bool" = some none)
    (z3 : PySem.W.nsIn K mainGlobals "enumerate" = some none)
    (z4 : PySem.W.nsIn K mainGlobals "int" = some none)
    (z5 : PySem.W.nsIn K mainGlobals "isinstance" = some none)
    (z6 : PySem.W.nsIn K mainGlobals "len" = some none)
    (z7 : PySem.W.nsIn K mainGlobals "list" = some none)
    (z8 : PySem.W.nsIn K mainGlobals "max" = some none)
    (z9 : PySem.W.nsIn K mainGlobals "min" = some none)
    (z10 : PySem.W.nsIn K mainGlobals "range" = some none)
    (z11 : PySem.W.nsIn K mainGlobals "set" = some none)
    (z12 : PySem.W.nsIn K mainGlobals "sorted" = some none)
    (z13 : PySem.W.nsIn K mainGlobals "tuple" = some none)
    {t0 : Tok} (e0 : PySem.W.nsIn K mainGlobals "MOST_BLOCKS" = some (some (.int 40 t0)))
    {t1 : Tok} (e1 : PySem.W.nsIn K mainGlobals "MOST_ROOMS" = some (some (.int 5 t1)))
    {t2 : Tok} (e2 : PySem.W.nsIn K mainGlobals "MOST_TOUCHES" = some (some (.int 400 t2))) :
    ∃ fd : FuncData, (∀ (s : Shared) (v : Value), BindsTo s fd ⟨[v], []⟩ [("script", v)]) ∧ ∀ base : Heap, K.In base → base.Ns mainGlobals mg → FnOk l.prog w K mg base CX0 9 fa fd ["script"] (spQ K f_law) := by
  have e := hfa.symm.trans (PySem.W.mg_of X G a25)
  cases e
  refine ⟨PySem.W.fnOf "law" "law" (defArgs s_law) (defBody s_law) (defScope s_law) .none kV25 dc25 pm25 an25 cd25 ct25, fun s v => .of_eq rfl, fun base _ _ => ?_⟩
  have y_abs := PySem.W.mg_none_of X G z0
  have y_all := PySem.W.mg_none_of X G z1
  have y_bool := PySem.W.mg_none_of X G z2
  have y_enumerate := PySem.W.mg_none_of X G z3
  have y_int := PySem.W.mg_none_of X G z4
  have y_isinstance := PySem.W.mg_none_of X G z5
  have y_len := PySem.W.mg_none_of X G z6
  have y_list := PySem.W.mg_none_of X G z7
  have y_max := PySem.W.mg_none_of X G z8
  have y_min := PySem.W.mg_none_of X G z9
  have y_range := PySem.W.mg_none_of X G z10
  have y_set := PySem.W.mg_none_of X G z11
  have y_sorted := PySem.W.mg_none_of X G z12
  have y_tuple := PySem.W.mg_none_of X G z13
  have y_MOST_BLOCKS := PySem.W.mg_of X G e0
  have y_MOST_ROOMS := PySem.W.mg_of X G e1
  have y_MOST_TOUCHES := PySem.W.mg_of X G e2
  have q_is_integer : Cal l.prog w K mg base "is_integer" 3 f_is_integer := l_is_integer (fun_mk (st := s_is_integer) b0 c0 k0) (PySem.W.mg_of X G a0) y_bool y_int y_isinstance
  have q_is_sequence : Cal l.prog w K mg base "is_sequence" 3 f_is_sequence := l_is_sequence (fun_mk (st := s_is_sequence) b3 c3 k3) (PySem.W.mg_of X G a3) y_isinstance y_list y_tuple
  have q_unlike_blocks : Cal l.prog w K mg base "unlike_blocks" 3 f_unlike_blocks := l_unlike_blocks (fun_mk (st := s_unlike_blocks) b8 c8 k8) (PySem.W.mg_of X G a8) y_sorted y_tuple
  have q_room_limits : Cal l.prog w K mg base "room_limits" 3 f_room_limits := l_room_limits (fun_mk (st := s_room_limits) b9 c9 k9) (PySem.W.mg_of X G a9) y_tuple
  have q_end_marks : Cal l.prog w K mg base "end_marks" 3 f_end_marks := l_end_marks (fun_mk (st := s_end_marks) b10 c10 k10) (PySem.W.mg_of X G a10) y_all y_enumerate y_len y_list y_range y_tuple
  have q__law_box : Cal l.prog w K mg base "_law_box" 3 f__law_box := l__law_box (fun_mk (st := s__law_box) b15 c15 k15) (PySem.W.mg_of X G a15) y_abs y_int y_len
  have q__law_take : Cal l.prog w K mg base "_law_take" 3 f__law_take := l__law_take (fun_mk (st := s__law_take) b16 c16 k16) (PySem.W.mg_of X G a16) y_int
  have q__law_is_int : Cal l.prog w K mg base "_law_is_int" 3 f__law_is_int := l__law_is_int (fun_mk (st := s__law_is_int) b19 c19 k19) (PySem.W.mg_of X G a19) y_bool y_int y_isinstance
  have q__law_far : Cal l.prog w K mg base "_law_far" 3 f__law_far := l__law_far (fun_mk (st := s__law_far) b21 c21 k21) (PySem.W.mg_of X G a21) y_len y_min y_range
  have q_is_number : Cal l.prog w K mg base "is_number" 4 f_is_number := l_is_number (fun_mk (st := s_is_number) b1 c1 k1) (PySem.W.mg_of X G a1) q_is_integer
  have q_all_marks : Cal l.prog w K mg base "all_marks" 4 f_all_marks := l_all_marks (fun_mk (st := s_all_marks) b12 c12 k12) (PySem.W.mg_of X G a12) y_len y_range q_end_marks q_unlike_blocks
  have q__law_pick : Cal l.prog w K mg base "_law_pick" 4 f__law_pick := l__law_pick (fun_mk (st := s__law_pick) b17 c17 k17) (PySem.W.mg_of X G a17) y_len q__law_take
  have q__law_mixed : Cal l.prog w K mg base "_law_mixed" 4 f__law_mixed := l__law_mixed (fun_mk (st := s__law_mixed) b18 c18 k18) (PySem.W.mg_of X G a18) y_len y_list y_range q__law_take
  have q__law_is_row : Cal l.prog w K mg base "_law_is_row" 4 f__law_is_row := l__law_is_row (fun_mk (st := s__law_is_row) b20 c20 k20) (PySem.W.mg_of X G a20) y_isinstance y_len y_tuple q__law_is_int
  have q__law_least : Cal l.prog w K mg base "_law_least" 4 f__law_least := l__law_least (fun_mk (st := s__law_least) b22 c22 k22) (PySem.W.mg_of X G a22) y_len y_max y_range q__law_far
  have q_is_below : Cal l.prog w K mg base "is_below" 5 f_is_below := l_is_below (fun_mk (st := s_is_below) b2 c2 k2) (PySem.W.mg_of X G a2) q_is_number
  have q_is_rooms : Cal l.prog w K mg base "is_rooms" 5 f_is_rooms := l_is_rooms (fun_mk (st := s_is_rooms) b5 c5 k5) (PySem.W.mg_of X G a5) y_MOST_ROOMS q_is_number
  have q__law_touches : Cal l.prog w K mg base "_law_touches" 5 f__law_touches := l__law_touches (fun_mk (st := s__law_touches) b23 c23 k23) (PySem.W.mg_of X G a23) y_len y_list y_range y_tuple q__law_mixed q__law_pick q__law_take
  have q__law_depth : Cal l.prog w K mg base "_law_depth" 5 f__law_depth := l__law_depth (fun_mk (st := s__law_depth) b24 c24 k24) (PySem.W.mg_of X G a24) y_len y_min y_range y_set q__law_least
  have q_need_touches : Cal l.prog w K mg base "need_touches" 6 f_need_touches := l_need_touches (fun_mk (st := s_need_touches) b4 c4 k4) (PySem.W.mg_of X G a4) y_enumerate y_len y_tuple y_MOST_BLOCKS y_MOST_TOUCHES q_is_below q_is_sequence
  have q_rooms_row : Cal l.prog w K mg base "rooms_row" 6 f_rooms_row := l_rooms_row (fun_mk (st := s_rooms_row) b6 c6 k6) (PySem.W.mg_of X G a6) y_enumerate y_len y_tuple q_is_rooms q_is_sequence
  have q_need_lived : Cal l.prog w K mg base "need_lived" 7 f_need_lived := l_need_lived (fun_mk (st := s_need_lived) b7 c7 k7) (PySem.W.mg_of X G a7) q_need_touches q_rooms_row
  have q_touch_depths : Cal l.prog w K mg base "touch_depths" 7 f_touch_depths := l_touch_depths (fun_mk (st := s_touch_depths) b13 c13 k13) (PySem.W.mg_of X G a13) y_enumerate y_len y_range y_tuple q_all_marks q_need_touches
  have q_rooms_moves : Cal l.prog w K mg base "rooms_moves" 7 f_rooms_moves := l_rooms_moves (fun_mk (st := s_rooms_moves) b14 c14 k14) (PySem.W.mg_of X G a14) y_tuple q_all_marks q_need_touches
  have q_beginning_moves : Cal l.prog w K mg base "beginning_moves" 8 f_beginning_moves := l_beginning_moves (fun_mk (st := s_beginning_moves) b11 c11 k11) (PySem.W.mg_of X G a11) y_tuple q_end_marks q_need_lived q_room_limits
  exact ok_law (fun_mk (st := s_law) b25 c25 k25) y_isinstance y_len y_list y_min y_range y_set y_tuple q__law_box q__law_depth q__law_is_int q__law_is_row q__law_least q__law_pick q__law_take q__law_touches q_beginning_moves q_rooms_moves q_touch_depths
end K79
set_option Elab.async false
set_option linter.all false
set_option maxRecDepth 100000
set_option maxHeartbeats 4000000
namespace K79
open Q
theorem take_big (b0 b1 b2 many : Int) (m : Md) (hm : m.lk = false) (h : 0 < many) (h2 : many < 2 ^ 30) (h0 : 0 < b0) : f__law_take [.hot m (.lst [.int b0, .int b1, .int b2]), .val (.int many)] = some (.val (.int (b0 % many)), [.hot m (.lst [.int (b0 / many), .int b1, .int b2]), .val (.int many)]) := by
  have h2' : many < 1073741824 := h2
  simp [f__law_take, defF, g__law_take, Q.sSeq, Q.sIf, Q.sSet, Q.sSub, Q.sRet, Q.sPar, Q.putAll, Q.sExpr, Q.sNx, Q.asB, Q.bNot, Q.bAnd, Q.bOr, Q.eAnd, Q.eOr, Q.eNot, Q.eIf, Q.bin, Q.una, Q.dat1, Q.dat2, Q.whole2, Q.fin1, Q.viewC, Q.view, Q.Sl.viewC, Q.Sl.view, Q.Hot.viewC, Q.Hot.data, Q.plainD, Q.eVar, Q.eC, Q.eArg, Q.aCons, Q.aNil, Q.eB, Q.viewsC, Q.eTup, Q.eLst, Q.colds, Q.eDic0, Q.cold, Q.toCold, Q.own, Q.toOwn, Q.putS, Q.put, Q.Rv.sl, Q.Sl.settable, Q.stI, Q.keyOf, Q.toRet, Q.Res.bind, Q.callE, Q.toArgs, Q.slotPos, Q.backA, Q.hLen, Q.hListOf, Q.hTupOf, Q.hAbs, Q.hIntOf, Q.hMin2, Q.hMax2, Q.hAdd, Q.hSub, Q.hMul, Q.hDiv, Q.hMod, Q.hPow, Q.hNeg, Q.hI, Q.hIx, Q.eMt, Q.eMt0, Q.isTy, Q.mAppend, Q.mPop, Q.mPopAt, Q.onL, Q.eCut, Q.oNone, Q.oSome, Q.hCut, Q.hRevL, Q.eLRg1, Q.eLRg2, Q.intOf, Q.resS, Q.finA, Q.wGt, Q.wLt, Q.wLe, Q.wGe, Q.wOrd, L2.atI, L2.ixN, Q.divOk, Q.mulOk, Q.powOk, Q.eIsi, Q.tyN, Q.isT, Q.eChain, Q.wEq, Q.wNe, Q.wIn, Q.wNotIn, Q.isIn, Q.shaped_int, Q.sTg, Q.Tg.asg, Q.Tgs.asg, h0, h, h2', hm]
theorem take_small (b0 b1 b2 many : Int) (m : Md) (hm : m.lk = false) (h : 0 < many) (h2 : many < 2 ^ 30) (h0 : ¬ 0 < b0) : ∃ d c1 c2, f__law_take [.hot m (.lst [.int b0, .int b1, .int b2]), .val (.int many)] = some (.val (.int d), [.hot m (.lst [.int b0, .int c1, .int c2]), .val (.int many)]) ∧ 0 ≤ d ∧ d < many := by
  have h2' : many < 1073741824 := h2
  refine ⟨_, _, _, by simp [f__law_take, defF, g__law_take, Q.sSeq, Q.sIf, Q.sSet, Q.sSub, Q.sRet, Q.sPar, Q.putAll, Q.sExpr, Q.sNx, Q.asB, Q.bNot, Q.bAnd, Q.bOr, Q.eAnd, Q.eOr, Q.eNot, Q.eIf, Q.bin, Q.una, Q.dat1, Q.dat2, Q.whole2, Q.fin1, Q.viewC, Q.view, Q.Sl.viewC, Q.Sl.view, Q.Hot.viewC, Q.Hot.data, Q.plainD, Q.eVar, Q.eC, Q.eArg, Q.aCons, Q.aNil, Q.eB, Q.viewsC, Q.eTup, Q.eLst, Q.colds, Q.eDic0, Q.cold, Q.toCold, Q.own, Q.toOwn, Q.putS, Q.put, Q.Rv.sl, Q.Sl.settable, Q.stI, Q.keyOf, Q.toRet, Q.Res.bind, Q.callE, Q.toArgs, Q.slotPos, Q.backA, Q.hLen, Q.hListOf, Q.hTupOf, Q.hAbs, Q.hIntOf, Q.hMin2, Q.hMax2, Q.hAdd, Q.hSub, Q.hMul, Q.hDiv, Q.hMod, Q.hPow, Q.hNeg, Q.hI, Q.hIx, Q.eMt, Q.eMt0, Q.isTy, Q.mAppend, Q.mPop, Q.mPopAt, Q.onL, Q.eCut, Q.oNone, Q.oSome, Q.hCut, Q.hRevL, Q.eLRg1, Q.eLRg2, Q.intOf, Q.resS, Q.finA, Q.wGt, Q.wLt, Q.wLe, Q.wGe, Q.wOrd, L2.atI, L2.ixN, Q.divOk, Q.mulOk, Q.powOk, Q.eIsi, Q.tyN, Q.isT, Q.eChain, Q.wEq, Q.wNe, Q.wIn, Q.wNotIn, Q.isIn, Q.shaped_int, Q.sTg, Q.Tg.asg, Q.Tgs.asg, h0, h, h2', hm]; exact ⟨rfl, rfl, rfl⟩, Int.emod_nonneg _ (by omega), Int.emod_lt_of_pos _ h⟩
/-- a box: three numbers -/
def Box (h : Hot) : Prop := ∃ b0 b1 b2, h = .lst [.int b0, .int b1, .int b2]
theorem take (h : Hot) (B : Box h) (many : Int) (m : Md) (hm : m.lk = false) (h1 : 0 < many) (h2 : many < 2 ^ 30) : ∃ d h', f__law_take [.hot m h, .val (.int many)] = some (.val (.int d), [.hot m h', .val (.int many)]) ∧ Box h' ∧ 0 ≤ d ∧ d < many := by
  obtain ⟨b0, b1, b2, rfl⟩ := B
  by_cases h0 : 0 < b0
  · exact ⟨_, _, take_big b0 b1 b2 many m hm h1 h2 h0, ⟨_, _, _, rfl⟩, Int.emod_nonneg _ (by omega), Int.emod_lt_of_pos _ h1⟩
  · obtain ⟨d, c1, c2, e, q⟩ := take_small b0 b1 b2 many m hm h1 h2 h0
    exact ⟨d, _, e, ⟨_, _, _, rfl⟩, q⟩
theorem is_integer (i : Int) : f_is_integer [.val (.int i)] = some (.val (.bool true), [.val (.int i)]) := by
  simp [f_is_integer, defF, g_is_integer, Q.sSeq, Q.sIf, Q.sSet, Q.sSub, Q.sRet, Q.sPar, Q.putAll, Q.sExpr, Q.sNx, Q.asB, Q.bNot, Q.bAnd, Q.bOr, Q.eAnd, Q.eOr, Q.eNot, Q.eIf, Q.bin, Q.una, Q.dat1, Q.dat2, Q.whole2, Q.fin1, Q.viewC, Q.view, Q.Sl.viewC, Q.Sl.view, Q.Hot.viewC, Q.Hot.data, Q.plainD, Q.eVar, Q.eC, Q.eArg, Q.aCons, Q.aNil, Q.eB, Q.viewsC, Q.eTup, Q.eLst, Q.colds, Q.eDic0, Q.cold, Q.toCold, Q.own, Q.toOwn, Q.putS, Q.put, Q.Rv.sl, Q.Sl.settable, Q.stI, Q.keyOf, Q.toRet, Q.Res.bind, Q.callE, Q.toArgs, Q.slotPos, Q.backA, Q.hLen, Q.hListOf, Q.hTupOf, Q.hAbs, Q.hIntOf, Q.hMin2, Q.hMax2, Q.hAdd, Q.hSub, Q.hMul, Q.hDiv, Q.hMod, Q.hPow, Q.hNeg, Q.hI, Q.hIx, Q.eMt, Q.eMt0, Q.isTy, Q.mAppend, Q.mPop, Q.mPopAt, Q.onL, Q.eCut, Q.oNone, Q.oSome, Q.hCut, Q.hRevL, Q.eLRg1, Q.eLRg2, Q.intOf, Q.resS, Q.finA, Q.wGt, Q.wLt, Q.wLe, Q.wGe, Q.wOrd, L2.atI, L2.ixN, Q.divOk, Q.mulOk, Q.powOk, Q.eIsi, Q.tyN, Q.isT, Q.eChain, Q.wEq, Q.wNe, Q.wIn, Q.wNotIn, Q.isIn, Q.shaped_int, Q.sTg, Q.Tg.asg, Q.Tgs.asg]
theorem is_number (i : Int) : f_is_number [.val (.int i)] = some (.val (.bool (decide (0 ≤ i))), [.val (.int i)]) := by
  simp [f_is_number, defF, g_is_number, Q.sSeq, Q.sIf, Q.sSet, Q.sSub, Q.sRet, Q.sPar, Q.putAll, Q.sExpr, Q.sNx, Q.asB, Q.bNot, Q.bAnd, Q.bOr, Q.eAnd, Q.eOr, Q.eNot, Q.eIf, Q.bin, Q.una, Q.dat1, Q.dat2, Q.whole2, Q.fin1, Q.viewC, Q.view, Q.Sl.viewC, Q.Sl.view, Q.Hot.viewC, Q.Hot.data, Q.plainD, Q.eVar, Q.eC, Q.eArg, Q.aCons, Q.aNil, Q.eB, Q.viewsC, Q.eTup, Q.eLst, Q.colds, Q.eDic0, Q.cold, Q.toCold, Q.own, Q.toOwn, Q.putS, Q.put, Q.Rv.sl, Q.Sl.settable, Q.stI, Q.keyOf, Q.toRet, Q.Res.bind, Q.callE, Q.toArgs, Q.slotPos, Q.backA, Q.hLen, Q.hListOf, Q.hTupOf, Q.hAbs, Q.hIntOf, Q.hMin2, Q.hMax2, Q.hAdd, Q.hSub, Q.hMul, Q.hDiv, Q.hMod, Q.hPow, Q.hNeg, Q.hI, Q.hIx, Q.eMt, Q.eMt0, Q.isTy, Q.mAppend, Q.mPop, Q.mPopAt, Q.onL, Q.eCut, Q.oNone, Q.oSome, Q.hCut, Q.hRevL, Q.eLRg1, Q.eLRg2, Q.intOf, Q.resS, Q.finA, Q.wGt, Q.wLt, Q.wLe, Q.wGe, Q.wOrd, L2.atI, L2.ixN, Q.divOk, Q.mulOk, Q.powOk, Q.eIsi, Q.tyN, Q.isT, Q.eChain, Q.wEq, Q.wNe, Q.wIn, Q.wNotIn, Q.isIn, Q.shaped_int, Q.sTg, Q.Tg.asg, Q.Tgs.asg, is_integer]
theorem is_below (i n : Int) : f_is_below [.val (.int i), .val (.int n)] = some (.val (.bool (decide (0 ≤ i ∧ i < n))), [.val (.int i), .val (.int n)]) := by
  by_cases h : 0 ≤ i <;> simp [f_is_below, defF, g_is_below, Q.sSeq, Q.sIf, Q.sSet, Q.sSub, Q.sRet, Q.sPar, Q.putAll, Q.sExpr, Q.sNx, Q.asB, Q.bNot, Q.bAnd, Q.bOr, Q.eAnd, Q.eOr, Q.eNot, Q.eIf, Q.bin, Q.una, Q.dat1, Q.dat2, Q.whole2, Q.fin1, Q.viewC, Q.view, Q.Sl.viewC, Q.Sl.view, Q.Hot.viewC, Q.Hot.data, Q.plainD, Q.eVar, Q.eC, Q.eArg, Q.aCons, Q.aNil, Q.eB, Q.viewsC, Q.eTup, Q.eLst, Q.colds, Q.eDic0, Q.cold, Q.toCold, Q.own, Q.toOwn, Q.putS, Q.put, Q.Rv.sl, Q.Sl.settable, Q.stI, Q.keyOf, Q.toRet, Q.Res.bind, Q.callE, Q.toArgs, Q.slotPos, Q.backA, Q.hLen, Q.hListOf, Q.hTupOf, Q.hAbs, Q.hIntOf, Q.hMin2, Q.hMax2, Q.hAdd, Q.hSub, Q.hMul, Q.hDiv, Q.hMod, Q.hPow, Q.hNeg, Q.hI, Q.hIx, Q.eMt, Q.eMt0, Q.isTy, Q.mAppend, Q.mPop, Q.mPopAt, Q.onL, Q.eCut, Q.oNone, Q.oSome, Q.hCut, Q.hRevL, Q.eLRg1, Q.eLRg2, Q.intOf, Q.resS, Q.finA, Q.wGt, Q.wLt, Q.wLe, Q.wGe, Q.wOrd, L2.atI, L2.ixN, Q.divOk, Q.mulOk, Q.powOk, Q.eIsi, Q.tyN, Q.isT, Q.eChain, Q.wEq, Q.wNe, Q.wIn, Q.wNotIn, Q.isIn, Q.shaped_int, Q.sTg, Q.Tg.asg, Q.Tgs.asg, is_number, h]
theorem is_rooms (i : Int) : f_is_rooms [.val (.int i)] = some (.val (.bool (decide (0 ≤ i ∧ 1 ≤ i ∧ i ≤ 5))), [.val (.int i)]) := by
  by_cases h : 0 ≤ i <;> by_cases h2 : 1 ≤ i <;> simp [f_is_rooms, defF, g_is_rooms, Q.sSeq, Q.sIf, Q.sSet, Q.sSub, Q.sRet, Q.sPar, Q.putAll, Q.sExpr, Q.sNx, Q.asB, Q.bNot, Q.bAnd, Q.bOr, Q.eAnd, Q.eOr, Q.eNot, Q.eIf, Q.bin, Q.una, Q.dat1, Q.dat2, Q.whole2, Q.fin1, Q.viewC, Q.view, Q.Sl.viewC, Q.Sl.view, Q.Hot.viewC, Q.Hot.data, Q.plainD, Q.eVar, Q.eC, Q.eArg, Q.aCons, Q.aNil, Q.eB, Q.viewsC, Q.eTup, Q.eLst, Q.colds, Q.eDic0, Q.cold, Q.toCold, Q.own, Q.toOwn, Q.putS, Q.put, Q.Rv.sl, Q.Sl.settable, Q.stI, Q.keyOf, Q.toRet, Q.Res.bind, Q.callE, Q.toArgs, Q.slotPos, Q.backA, Q.hLen, Q.hListOf, Q.hTupOf, Q.hAbs, Q.hIntOf, Q.hMin2, Q.hMax2, Q.hAdd, Q.hSub, Q.hMul, Q.hDiv, Q.hMod, Q.hPow, Q.hNeg, Q.hI, Q.hIx, Q.eMt, Q.eMt0, Q.isTy, Q.mAppend, Q.mPop, Q.mPopAt, Q.onL, Q.eCut, Q.oNone, Q.oSome, Q.hCut, Q.hRevL, Q.eLRg1, Q.eLRg2, Q.intOf, Q.resS, Q.finA, Q.wGt, Q.wLt, Q.wLe, Q.wGe, Q.wOrd, L2.atI, L2.ixN, Q.divOk, Q.mulOk, Q.powOk, Q.eIsi, Q.tyN, Q.isT, Q.eChain, Q.wEq, Q.wNe, Q.wIn, Q.wNotIn, Q.isIn, Q.shaped_int, Q.sTg, Q.Tg.asg, Q.Tgs.asg, is_number, h, h2]
theorem is_sequence_t (ds : List PySem.PyData) : f_is_sequence [.val (.tuple ds)] = some (.val (.bool true), [.val (.tuple ds)]) := by
  simp [f_is_sequence, defF, g_is_sequence, Q.sSeq, Q.sIf, Q.sSet, Q.sSub, Q.sRet, Q.sPar, Q.putAll, Q.sExpr, Q.sNx, Q.asB, Q.bNot, Q.bAnd, Q.bOr, Q.eAnd, Q.eOr, Q.eNot, Q.eIf, Q.bin, Q.una, Q.dat1, Q.dat2, Q.whole2, Q.fin1, Q.viewC, Q.view, Q.Sl.viewC, Q.Sl.view, Q.Hot.viewC, Q.Hot.data, Q.plainD, Q.eVar, Q.eC, Q.eArg, Q.aCons, Q.aNil, Q.eB, Q.viewsC, Q.eTup, Q.eLst, Q.colds, Q.eDic0, Q.cold, Q.toCold, Q.own, Q.toOwn, Q.putS, Q.put, Q.Rv.sl, Q.Sl.settable, Q.stI, Q.keyOf, Q.toRet, Q.Res.bind, Q.callE, Q.toArgs, Q.slotPos, Q.backA, Q.hLen, Q.hListOf, Q.hTupOf, Q.hAbs, Q.hIntOf, Q.hMin2, Q.hMax2, Q.hAdd, Q.hSub, Q.hMul, Q.hDiv, Q.hMod, Q.hPow, Q.hNeg, Q.hI, Q.hIx, Q.eMt, Q.eMt0, Q.isTy, Q.mAppend, Q.mPop, Q.mPopAt, Q.onL, Q.eCut, Q.oNone, Q.oSome, Q.hCut, Q.hRevL, Q.eLRg1, Q.eLRg2, Q.intOf, Q.resS, Q.finA, Q.wGt, Q.wLt, Q.wLe, Q.wGe, Q.wOrd, L2.atI, L2.ixN, Q.divOk, Q.mulOk, Q.powOk, Q.eIsi, Q.tyN, Q.isT, Q.eChain, Q.wEq, Q.wNe, Q.wIn, Q.wNotIn, Q.isIn, Q.shaped_int, Q.sTg, Q.Tg.asg, Q.Tgs.asg]
theorem is_sequence_l (ds : List PySem.PyData) : f_is_sequence [.val (.list ds)] = some (.val (.bool true), [.val (.list ds)]) := by
  simp [f_is_sequence, defF, g_is_sequence, Q.sSeq, Q.sIf, Q.sSet, Q.sSub, Q.sRet, Q.sPar, Q.putAll, Q.sExpr, Q.sNx, Q.asB, Q.bNot, Q.bAnd, Q.bOr, Q.eAnd, Q.eOr, Q.eNot, Q.eIf, Q.bin, Q.una, Q.dat1, Q.dat2, Q.whole2, Q.fin1, Q.viewC, Q.view, Q.Sl.viewC, Q.Sl.view, Q.Hot.viewC, Q.Hot.data, Q.plainD, Q.eVar, Q.eC, Q.eArg, Q.aCons, Q.aNil, Q.eB, Q.viewsC, Q.eTup, Q.eLst, Q.colds, Q.eDic0, Q.cold, Q.toCold, Q.own, Q.toOwn, Q.putS, Q.put, Q.Rv.sl, Q.Sl.settable, Q.stI, Q.keyOf, Q.toRet, Q.Res.bind, Q.callE, Q.toArgs, Q.slotPos, Q.backA, Q.hLen, Q.hListOf, Q.hTupOf, Q.hAbs, Q.hIntOf, Q.hMin2, Q.hMax2, Q.hAdd, Q.hSub, Q.hMul, Q.hDiv, Q.hMod, Q.hPow, Q.hNeg, Q.hI, Q.hIx, Q.eMt, Q.eMt0, Q.isTy, Q.mAppend, Q.mPop, Q.mPopAt, Q.onL, Q.eCut, Q.oNone, Q.oSome, Q.hCut, Q.hRevL, Q.eLRg1, Q.eLRg2, Q.intOf, Q.resS, Q.finA, Q.wGt, Q.wLt, Q.wLe, Q.wGe, Q.wOrd, L2.atI, L2.ixN, Q.divOk, Q.mulOk, Q.powOk, Q.eIsi, Q.tyN, Q.isT, Q.eChain, Q.wEq, Q.wNe, Q.wIn, Q.wNotIn, Q.isIn, Q.shaped_int, Q.sTg, Q.Tg.asg, Q.Tgs.asg]
theorem law_is_int (i : Int) : f__law_is_int [.val (.int i)] = some (.val (.bool true), [.val (.int i)]) := by
  simp [f__law_is_int, defF, g__law_is_int, Q.sSeq, Q.sIf, Q.sSet, Q.sSub, Q.sRet, Q.sPar, Q.putAll, Q.sExpr, Q.sNx, Q.asB, Q.bNot, Q.bAnd, Q.bOr, Q.eAnd, Q.eOr, Q.eNot, Q.eIf, Q.bin, Q.una, Q.dat1, Q.dat2, Q.whole2, Q.fin1, Q.viewC, Q.view, Q.Sl.viewC, Q.Sl.view, Q.Hot.viewC, Q.Hot.data, Q.plainD, Q.eVar, Q.eC, Q.eArg, Q.aCons, Q.aNil, Q.eB, Q.viewsC, Q.eTup, Q.eLst, Q.colds, Q.eDic0, Q.cold, Q.toCold, Q.own, Q.toOwn, Q.putS, Q.put, Q.Rv.sl, Q.Sl.settable, Q.stI, Q.keyOf, Q.toRet, Q.Res.bind, Q.callE, Q.toArgs, Q.slotPos, Q.backA, Q.hLen, Q.hListOf, Q.hTupOf, Q.hAbs, Q.hIntOf, Q.hMin2, Q.hMax2, Q.hAdd, Q.hSub, Q.hMul, Q.hDiv, Q.hMod, Q.hPow, Q.hNeg, Q.hI, Q.hIx, Q.eMt, Q.eMt0, Q.isTy, Q.mAppend, Q.mPop, Q.mPopAt, Q.onL, Q.eCut, Q.oNone, Q.oSome, Q.hCut, Q.hRevL, Q.eLRg1, Q.eLRg2, Q.intOf, Q.resS, Q.finA, Q.wGt, Q.wLt, Q.wLe, Q.wGe, Q.wOrd, L2.atI, L2.ixN, Q.divOk, Q.mulOk, Q.powOk, Q.eIsi, Q.tyN, Q.isT, Q.eChain, Q.wEq, Q.wNe, Q.wIn, Q.wNotIn, Q.isIn, Q.shaped_int, Q.sTg, Q.Tg.asg, Q.Tgs.asg]
end K79
set_option Elab.async false
set_option linter.all false
set_option maxRecDepth 100000
set_option maxHeartbeats 4000000
namespace K79
open Q
/-- touches that are none like the one ahead -/
structure Walk (ts : List Int) : Prop where
  some_ : 1 ≤ ts.length
  few : ts.length ≤ 20
  fit : ∀ t ∈ ts, 0 ≤ t ∧ t < 40
  unlike : ∀ i a b, ts[i]? = some a → ts[i + 1]? = some b → a ≠ b
theorem need_loop {ts : List Int} (W : Walk ts) (v : PySem.PyData) (hv : v = .tuple (ts.map .int) ∨ v = .list (ts.map .int)) : ∃ s1 s2, forL (.tp (.cons (.nm 1) (.cons (.nm 2) (.nil)))) (sIf (bOr (bNot (asB (callE f_is_below (aCons (eArg 2) (aCons (cold (eC (.int 40))) (aNil)))))) (bAnd (asB (bin (whole2 wGt) (eVar 1) (eC (.int 0)))) (asB (bin (whole2 wEq) (eVar 2) (bin (dat2 hIx) (eVar 0) (bin (dat2 hSub) (eVar 1) (eC (.int 1)))))))) ((fun _ => .no)) (sNx)) (enumD (ts.map .int)) [.val v, .un, .un] = .ok .nx [.val v, s1, s2] := by
  obtain ⟨e', h, s1, s2, he, -⟩ := forL_inv (T := .tp (.cons (.nm 1) (.cons (.nm 2) (.nil)))) (body := sIf (bOr (bNot (asB (callE f_is_below (aCons (eArg 2) (aCons (cold (eC (.int 40))) (aNil)))))) (bAnd (asB (bin (whole2 wGt) (eVar 1) (eC (.int 0)))) (asB (bin (whole2 wEq) (eVar 2) (bin (dat2 hIx) (eVar 0) (bin (dat2 hSub) (eVar 1) (eC (.int 1)))))))) ((fun _ => .no)) (sNx)) (fun _ e => ∃ s1 s2, e = [.val v, s1, s2] ∧ (∀ m h, s1 ≠ .hot m h) ∧ (∀ m h, s2 ≠ .hot m h)) (items := enumD (ts.map .int)) (k := 0) (e := [.val v, .un, .un]) ⟨_, _, rfl, nofun, nofun⟩ fun i d e hd ⟨s1, s2, he, n1, n2⟩ => by
    subst he
    rw [enumD_at, List.getElem?_map] at hd
    cases ht : ts[i]? with
    | none => rw [ht] at hd; cases hd
    | some t =>
      rw [ht] at hd
      cases hd
      have hi := (List.getElem?_eq_some_iff.mp ht).1
      have f := W.fit t (List.mem_of_getElem? ht)
      have se1 : s1.settable = true := by cases s1 <;> first | rfl | exact absurd rfl (n1 _ _)
      have se2 : s2.settable = true := by cases s2 <;> first | rfl | exact absurd rfl (n2 _ _)
      refine ⟨[.val v, .val (.int i), .val (.int t)], .nx, [.val v, .val (.int i), .val (.int t)], ?_, ?_, .inl rfl, _, _, rfl, nofun, nofun⟩
      · simp [Tg.asg, Tgs.asg, put, se1, se2, Rv.sl]
      · by_cases h0 : 0 < i
        · have hp : i - 1 < ts.length := by omega
          have ne : ts[i - 1] ≠ t := W.unlike (i - 1) _ _ (List.getElem?_eq_getElem hp) (by rw [show i - 1 + 1 = i by omega]; exact ht)
          have ne' : ¬ t = ts[i - 1] := fun e => ne e.symm
          have e1 : ((i : Int) - 1) = ((i - 1 : Nat) : Int) := by omega
          have at_ : L2.atI (ts.map PySem.PyData.int) ((i : Int) - 1) = some (.int ts[i - 1]) := by rw [e1]; exact atI_ints ts (i - 1) hp
          rcases hv with rfl | rfl <;> simp [sIf, bOr, bNot, bAnd, asB, callE, aCons, aNil, eArg, cold, toCold, eC, toArgs, backA, is_below, f, h0, bin, whole2, dat2, view, viewC, Sl.view, Sl.viewC, plainD, eVar, fin1, Res.bind, wGt, wOrd, wEq, shaped_int, eqv_int, hSub, hI, hIx, at_, ne', sNx]
        · have e0 : i = 0 := by omega
          subst e0
          simp [sIf, bOr, bNot, bAnd, asB, callE, aCons, aNil, eArg, cold, toCold, eC, toArgs, backA, is_below, f, bin, whole2, view, Sl.view, eVar, fin1, Res.bind, wGt, wOrd, sNx]
  exact ⟨s1, s2, by rw [h, he]⟩
theorem need_touches_t {ts : List Int} (W : Walk ts) : f_need_touches [.val (.tuple (ts.map .int))] = some (.val (.tuple (ts.map .int)), [.val (.tuple (ts.map .int))]) := by
  obtain ⟨s1, s2, h⟩ := need_loop W _ (.inl rfl)
  have a1 := W.some_
  have a2 := W.few
  refine (def_rt (e := [.val (.tuple (ts.map .int)), s1, s2]) (r := .cold (.tuple (ts.map .int))) ⟨rfl, by simp⟩ ?_ (by simp) rfl).trans (by simp [finA])
  unfold g_need_touches
  rw [seq_nx (e := [.val (.tuple (ts.map .int)), .un, .un])]
  · rw [seq_nx (for_nx (src := ⟨enumD (ts.map .int), none⟩) (e := [.val (.tuple (ts.map .int)), .un, .un]) (by simp [iEnumC, Q.sSeq, Q.sIf, Q.sSet, Q.sSub, Q.sRet, Q.sPar, Q.putAll, Q.sExpr, Q.sNx, Q.asB, Q.bNot, Q.bAnd, Q.bOr, Q.eAnd, Q.eOr, Q.eNot, Q.eIf, Q.bin, Q.una, Q.dat1, Q.dat2, Q.whole2, Q.fin1, Q.viewC, Q.view, Q.Sl.viewC, Q.Sl.view, Q.Hot.viewC, Q.Hot.data, Q.plainD, Q.eVar, Q.eC, Q.eArg, Q.aCons, Q.aNil, Q.eB, Q.viewsC, Q.eTup, Q.eLst, Q.colds, Q.eDic0, Q.cold, Q.toCold, Q.own, Q.toOwn, Q.putS, Q.put, Q.Rv.sl, Q.Sl.settable, Q.stI, Q.keyOf, Q.toRet, Q.Res.bind, Q.callE, Q.toArgs, Q.slotPos, Q.backA, Q.hLen, Q.hListOf, Q.hTupOf, Q.hAbs, Q.hIntOf, Q.hMin2, Q.hMax2, Q.hAdd, Q.hSub, Q.hMul, Q.hDiv, Q.hMod, Q.hPow, Q.hNeg, Q.hI, Q.hIx, Q.eMt, Q.eMt0, Q.isTy, Q.mAppend, Q.mPop, Q.mPopAt, Q.onL, Q.eCut, Q.oNone, Q.oSome, Q.hCut, Q.hRevL, Q.eLRg1, Q.eLRg2, Q.intOf, Q.resS, Q.finA, Q.wGt, Q.wLt, Q.wLe, Q.wGe, Q.wOrd, L2.atI, L2.ixN, Q.divOk, Q.mulOk, Q.powOk, Q.eIsi, Q.tyN, Q.isT, Q.eChain, Q.wEq, Q.wNe, Q.wIn, Q.wNotIn, Q.isIn, Q.shaped_int, Q.sTg, Q.Tg.asg, Q.Tgs.asg, seqD]) h)]
    simp [unlk, Q.sSeq, Q.sIf, Q.sSet, Q.sSub, Q.sRet, Q.sPar, Q.putAll, Q.sExpr, Q.sNx, Q.asB, Q.bNot, Q.bAnd, Q.bOr, Q.eAnd, Q.eOr, Q.eNot, Q.eIf, Q.bin, Q.una, Q.dat1, Q.dat2, Q.whole2, Q.fin1, Q.viewC, Q.view, Q.Sl.viewC, Q.Sl.view, Q.Hot.viewC, Q.Hot.data, Q.plainD, Q.eVar, Q.eC, Q.eArg, Q.aCons, Q.aNil, Q.eB, Q.viewsC, Q.eTup, Q.eLst, Q.colds, Q.eDic0, Q.cold, Q.toCold, Q.own, Q.toOwn, Q.putS, Q.put, Q.Rv.sl, Q.Sl.settable, Q.stI, Q.keyOf, Q.toRet, Q.Res.bind, Q.callE, Q.toArgs, Q.slotPos, Q.backA, Q.hLen, Q.hListOf, Q.hTupOf, Q.hAbs, Q.hIntOf, Q.hMin2, Q.hMax2, Q.hAdd, Q.hSub, Q.hMul, Q.hDiv, Q.hMod, Q.hPow, Q.hNeg, Q.hI, Q.hIx, Q.eMt, Q.eMt0, Q.isTy, Q.mAppend, Q.mPop, Q.mPopAt, Q.onL, Q.eCut, Q.oNone, Q.oSome, Q.hCut, Q.hRevL, Q.eLRg1, Q.eLRg2, Q.intOf, Q.resS, Q.finA, Q.wGt, Q.wLt, Q.wLe, Q.wGe, Q.wOrd, L2.atI, L2.ixN, Q.divOk, Q.mulOk, Q.powOk, Q.eIsi, Q.tyN, Q.isT, Q.eChain, Q.wEq, Q.wNe, Q.wIn, Q.wNotIn, Q.isIn, Q.shaped_int, Q.sTg, Q.Tg.asg, Q.Tgs.asg]
  · have b1 : (1 : Int) ≤ ts.length := by omega
    have b2 : (ts.length : Int) ≤ 400 := by omega
    simp [Q.sSeq, Q.sIf, Q.sSet, Q.sSub, Q.sRet, Q.sPar, Q.putAll, Q.sExpr, Q.sNx, Q.asB, Q.bNot, Q.bAnd, Q.bOr, Q.eAnd, Q.eOr, Q.eNot, Q.eIf, Q.bin, Q.una, Q.dat1, Q.dat2, Q.whole2, Q.fin1, Q.viewC, Q.view, Q.Sl.viewC, Q.Sl.view, Q.Hot.viewC, Q.Hot.data, Q.plainD, Q.eVar, Q.eC, Q.eArg, Q.aCons, Q.aNil, Q.eB, Q.viewsC, Q.eTup, Q.eLst, Q.colds, Q.eDic0, Q.cold, Q.toCold, Q.own, Q.toOwn, Q.putS, Q.put, Q.Rv.sl, Q.Sl.settable, Q.stI, Q.keyOf, Q.toRet, Q.Res.bind, Q.callE, Q.toArgs, Q.slotPos, Q.backA, Q.hLen, Q.hListOf, Q.hTupOf, Q.hAbs, Q.hIntOf, Q.hMin2, Q.hMax2, Q.hAdd, Q.hSub, Q.hMul, Q.hDiv, Q.hMod, Q.hPow, Q.hNeg, Q.hI, Q.hIx, Q.eMt, Q.eMt0, Q.isTy, Q.mAppend, Q.mPop, Q.mPopAt, Q.onL, Q.eCut, Q.oNone, Q.oSome, Q.hCut, Q.hRevL, Q.eLRg1, Q.eLRg2, Q.intOf, Q.resS, Q.finA, Q.wGt, Q.wLt, Q.wLe, Q.wGe, Q.wOrd, L2.atI, L2.ixN, Q.divOk, Q.mulOk, Q.powOk, Q.eIsi, Q.tyN, Q.isT, Q.eChain, Q.wEq, Q.wNe, Q.wIn, Q.wNotIn, Q.isIn, Q.shaped_int, Q.sTg, Q.Tg.asg, Q.Tgs.asg, is_sequence_t, b1, b2]
theorem need_touches_l {ts : List Int} (W : Walk ts) : f_need_touches [.val (.list (ts.map .int))] = some (.val (.tuple (ts.map .int)), [.val (.list (ts.map .int))]) := by
  obtain ⟨s1, s2, h⟩ := need_loop W _ (.inr rfl)
  have a1 := W.some_
  have a2 := W.few
  refine (def_rt (e := [.val (.list (ts.map .int)), s1, s2]) (r := .cold (.tuple (ts.map .int))) ⟨rfl, by simp⟩ ?_ (by simp) rfl).trans (by simp [finA])
  unfold g_need_touches
  rw [seq_nx (e := [.val (.list (ts.map .int)), .un, .un])]
  · rw [seq_nx (for_nx (src := ⟨enumD (ts.map .int), none⟩) (e := [.val (.list (ts.map .int)), .un, .un]) (by simp [iEnumC, Q.sSeq, Q.sIf, Q.sSet, Q.sSub, Q.sRet, Q.sPar, Q.putAll, Q.sExpr, Q.sNx, Q.asB, Q.bNot, Q.bAnd, Q.bOr, Q.eAnd, Q.eOr, Q.eNot, Q.eIf, Q.bin, Q.una, Q.dat1, Q.dat2, Q.whole2, Q.fin1, Q.viewC, Q.view, Q.Sl.viewC, Q.Sl.view, Q.Hot.viewC, Q.Hot.data, Q.plainD, Q.eVar, Q.eC, Q.eArg, Q.aCons, Q.aNil, Q.eB, Q.viewsC, Q.eTup, Q.eLst, Q.colds, Q.eDic0, Q.cold, Q.toCold, Q.own, Q.toOwn, Q.putS, Q.put, Q.Rv.sl, Q.Sl.settable, Q.stI, Q.keyOf, Q.toRet, Q.Res.bind, Q.callE, Q.toArgs, Q.slotPos, Q.backA, Q.hLen, Q.hListOf, Q.hTupOf, Q.hAbs, Q.hIntOf, Q.hMin2, Q.hMax2, Q.hAdd, Q.hSub, Q.hMul, Q.hDiv, Q.hMod, Q.hPow, Q.hNeg, Q.hI, Q.hIx, Q.eMt, Q.eMt0, Q.isTy, Q.mAppend, Q.mPop, Q.mPopAt, Q.onL, Q.eCut, Q.oNone, Q.oSome, Q.hCut, Q.hRevL, Q.eLRg1, Q.eLRg2, Q.intOf, Q.resS, Q.finA, Q.wGt, Q.wLt, Q.wLe, Q.wGe, Q.wOrd, L2.atI, L2.ixN, Q.divOk, Q.mulOk, Q.powOk, Q.eIsi, Q.tyN, Q.isT, Q.eChain, Q.wEq, Q.wNe, Q.wIn, Q.wNotIn, Q.isIn, Q.shaped_int, Q.sTg, Q.Tg.asg, Q.Tgs.asg, seqD]) h)]
    simp [unlk, Q.sSeq, Q.sIf, Q.sSet, Q.sSub, Q.sRet, Q.sPar, Q.putAll, Q.sExpr, Q.sNx, Q.asB, Q.bNot, Q.bAnd, Q.bOr, Q.eAnd, Q.eOr, Q.eNot, Q.eIf, Q.bin, Q.una, Q.dat1, Q.dat2, Q.whole2, Q.fin1, Q.viewC, Q.view, Q.Sl.viewC, Q.Sl.view, Q.Hot.viewC, Q.Hot.data, Q.plainD, Q.eVar, Q.eC, Q.eArg, Q.aCons, Q.aNil, Q.eB, Q.viewsC, Q.eTup, Q.eLst, Q.colds, Q.eDic0, Q.cold, Q.toCold, Q.own, Q.toOwn, Q.putS, Q.put, Q.Rv.sl, Q.Sl.settable, Q.stI, Q.keyOf, Q.toRet, Q.Res.bind, Q.callE, Q.toArgs, Q.slotPos, Q.backA, Q.hLen, Q.hListOf, Q.hTupOf, Q.hAbs, Q.hIntOf, Q.hMin2, Q.hMax2, Q.hAdd, Q.hSub, Q.hMul, Q.hDiv, Q.hMod, Q.hPow, Q.hNeg, Q.hI, Q.hIx, Q.eMt, Q.eMt0, Q.isTy, Q.mAppend, Q.mPop, Q.mPopAt, Q.onL, Q.eCut, Q.oNone, Q.oSome, Q.hCut, Q.hRevL, Q.eLRg1, Q.eLRg2, Q.intOf, Q.resS, Q.finA, Q.wGt, Q.wLt, Q.wLe, Q.wGe, Q.wOrd, L2.atI, L2.ixN, Q.divOk, Q.mulOk, Q.powOk, Q.eIsi, Q.tyN, Q.isT, Q.eChain, Q.wEq, Q.wNe, Q.wIn, Q.wNotIn, Q.isIn, Q.shaped_int, Q.sTg, Q.Tg.asg, Q.Tgs.asg]
  · have b1 : (1 : Int) ≤ ts.length := by omega
    have b2 : (ts.length : Int) ≤ 400 := by omega
    simp [Q.sSeq, Q.sIf, Q.sSet, Q.sSub, Q.sRet, Q.sPar, Q.putAll, Q.sExpr, Q.sNx, Q.asB, Q.bNot, Q.bAnd, Q.bOr, Q.eAnd, Q.eOr, Q.eNot, Q.eIf, Q.bin, Q.una, Q.dat1, Q.dat2, Q.whole2, Q.fin1, Q.viewC, Q.view, Q.Sl.viewC, Q.Sl.view, Q.Hot.viewC, Q.Hot.data, Q.plainD, Q.eVar, Q.eC, Q.eArg, Q.aCons, Q.aNil, Q.eB, Q.viewsC, Q.eTup, Q.eLst, Q.colds, Q.eDic0, Q.cold, Q.toCold, Q.own, Q.toOwn, Q.putS, Q.put, Q.Rv.sl, Q.Sl.settable, Q.stI, Q.keyOf, Q.toRet, Q.Res.bind, Q.callE, Q.toArgs, Q.slotPos, Q.backA, Q.hLen, Q.hListOf, Q.hTupOf, Q.hAbs, Q.hIntOf, Q.hMin2, Q.hMax2, Q.hAdd, Q.hSub, Q.hMul, Q.hDiv, Q.hMod, Q.hPow, Q.hNeg, Q.hI, Q.hIx, Q.eMt, Q.eMt0, Q.isTy, Q.mAppend, Q.mPop, Q.mPopAt, Q.onL, Q.eCut, Q.oNone, Q.oSome, Q.hCut, Q.hRevL, Q.eLRg1, Q.eLRg2, Q.intOf, Q.resS, Q.finA, Q.wGt, Q.wLt, Q.wLe, Q.wGe, Q.wOrd, L2.atI, L2.ixN, Q.divOk, Q.mulOk, Q.powOk, Q.eIsi, Q.tyN, Q.isT, Q.eChain, Q.wEq, Q.wNe, Q.wIn, Q.wNotIn, Q.isIn, Q.shaped_int, Q.sTg, Q.Tg.asg, Q.Tgs.asg, is_sequence_l, b1, b2]
end K79
set_option Elab.async false
set_option linter.all false
set_option maxRecDepth 100000
set_option maxHeartbeats 4000000
namespace K79
open Q
abbrev T (xs : List Int) : PySem.PyData := .tuple (xs.map .int)
theorem rep_flat {n : Nat} {x : Int} : (List.replicate n [PySem.PyData.int x]).flatten = (List.replicate n x).map .int := by
  induction n with
  | zero => rfl
  | succ n ih => rw [List.replicate_succ, List.flatten_cons, ih]; rfl
theorem rooms_row {ts : List Int} (W : Walk ts) {r : Int} (h1 : 1 ≤ r) (h2 : r ≤ 5) : f_rooms_row [.val (T ts), .val (.int r)] = some (.val (T (List.replicate ts.length r)), [.val (T ts), .val (.int r)]) := by
  have a1 := W.some_
  have a2 := W.few
  have b1 : (1 : Int) ≤ ts.length := by omega
  have b2 : (ts.length : Int) ≤ 1000 := by omega
  have b3 : 0 ≤ r := by omega
  have b4 : 1 ≤ ts.length := a1
  simp [f_rooms_row, defF, g_rooms_row, Q.sSeq, Q.sIf, Q.sSet, Q.sSub, Q.sRet, Q.sPar, Q.putAll, Q.sExpr, Q.sNx, Q.asB, Q.bNot, Q.bAnd, Q.bOr, Q.eAnd, Q.eOr, Q.eNot, Q.eIf, Q.bin, Q.una, Q.dat1, Q.dat2, Q.whole2, Q.fin1, Q.viewC, Q.view, Q.Sl.viewC, Q.Sl.view, Q.Hot.viewC, Q.Hot.data, Q.plainD, Q.eVar, Q.eC, Q.eArg, Q.aCons, Q.aNil, Q.eB, Q.viewsC, Q.eTup, Q.eLst, Q.colds, Q.eDic0, Q.cold, Q.toCold, Q.own, Q.toOwn, Q.putS, Q.put, Q.Rv.sl, Q.Sl.settable, Q.stI, Q.keyOf, Q.toRet, Q.Res.bind, Q.callE, Q.toArgs, Q.slotPos, Q.backA, Q.hLen, Q.hListOf, Q.hTupOf, Q.hAbs, Q.hIntOf, Q.hMin2, Q.hMax2, Q.hAdd, Q.hSub, Q.hMul, Q.hDiv, Q.hMod, Q.hPow, Q.hNeg, Q.hI, Q.hIx, Q.eMt, Q.eMt0, Q.isTy, Q.mAppend, Q.mPop, Q.mPopAt, Q.onL, Q.eCut, Q.oNone, Q.oSome, Q.hCut, Q.hRevL, Q.eLRg1, Q.eLRg2, Q.intOf, Q.resS, Q.finA, Q.wGt, Q.wLt, Q.wLe, Q.wGe, Q.wOrd, L2.atI, L2.ixN, Q.divOk, Q.mulOk, Q.powOk, Q.eIsi, Q.tyN, Q.isT, Q.eChain, Q.wEq, Q.wNe, Q.wIn, Q.wNotIn, Q.isIn, Q.shaped_int, Q.sTg, Q.Tg.asg, Q.Tgs.asg, is_rooms, hRepT, h1, h2, b1, b2, b3, b4, cap, rep_flat, PySem.sizeLine_eq]
theorem need_lived {ts : List Int} (W : Walk ts) {r : Int} (h1 : 1 ≤ r) (h2 : r ≤ 5) : f_need_lived [.val (T ts), .val (.int r)] = some (.val (.tuple [T ts, T (List.replicate ts.length r)]), [.val (T ts), .val (.int r)]) := by
  simp [f_need_lived, defF, g_need_lived, Q.sSeq, Q.sIf, Q.sSet, Q.sSub, Q.sRet, Q.sPar, Q.putAll, Q.sExpr, Q.sNx, Q.asB, Q.bNot, Q.bAnd, Q.bOr, Q.eAnd, Q.eOr, Q.eNot, Q.eIf, Q.bin, Q.una, Q.dat1, Q.dat2, Q.whole2, Q.fin1, Q.viewC, Q.view, Q.Sl.viewC, Q.Sl.view, Q.Hot.viewC, Q.Hot.data, Q.plainD, Q.eVar, Q.eC, Q.eArg, Q.aCons, Q.aNil, Q.eB, Q.viewsC, Q.eTup, Q.eLst, Q.colds, Q.eDic0, Q.cold, Q.toCold, Q.own, Q.toOwn, Q.putS, Q.put, Q.Rv.sl, Q.Sl.settable, Q.stI, Q.keyOf, Q.toRet, Q.Res.bind, Q.callE, Q.toArgs, Q.slotPos, Q.backA, Q.hLen, Q.hListOf, Q.hTupOf, Q.hAbs, Q.hIntOf, Q.hMin2, Q.hMax2, Q.hAdd, Q.hSub, Q.hMul, Q.hDiv, Q.hMod, Q.hPow, Q.hNeg, Q.hI, Q.hIx, Q.eMt, Q.eMt0, Q.isTy, Q.mAppend, Q.mPop, Q.mPopAt, Q.onL, Q.eCut, Q.oNone, Q.oSome, Q.hCut, Q.hRevL, Q.eLRg1, Q.eLRg2, Q.intOf, Q.resS, Q.finA, Q.wGt, Q.wLt, Q.wLe, Q.wGe, Q.wOrd, L2.atI, L2.ixN, Q.divOk, Q.mulOk, Q.powOk, Q.eIsi, Q.tyN, Q.isT, Q.eChain, Q.wEq, Q.wNe, Q.wIn, Q.wNotIn, Q.isIn, Q.shaped_int, Q.sTg, Q.Tg.asg, Q.Tgs.asg, need_touches_t W, rooms_row W h1 h2, cap, PySem.sizeLine_eq]
theorem room_limits {n : Nat} (hn : n ≤ 1000) (r : Int) : f_room_limits [.val (T (List.replicate n r))] = some (.val (T (List.replicate n (r - 1))), [.val (T (List.replicate n r))]) := by
  have key := lc_map (s := iSlot 0) (T := .nm 1) (f := bin (dat2 hSub) (eVar 1) (eC (.int 1))) (own := [1]) (env := [.val (T (List.replicate n r)), .un]) (e := [.val (T (List.replicate n r)), .un]) (e' := [.val (T (List.replicate n r)), .un]) (items := (List.replicate n r).map .int) (un := none)
    (onI fun i => .int (i - 1)) (by simp [iSlot, seqD]) (by simp [ownOk, Sl.isHot]) (by simp [Tg.slots]) (by simpa using hn) (by simp [unlk, backE, wipeE]) (by simp [ownOk, wipeE, Sl.isHot]) fun d hd => by
      obtain ⟨i, hi, rfl⟩ := List.mem_map.mp hd
      simp [Tg.asg, ownOk, Sl.isHot, wipeE, onI, Q.sSeq, Q.sIf, Q.sSet, Q.sSub, Q.sRet, Q.sPar, Q.putAll, Q.sExpr, Q.sNx, Q.asB, Q.bNot, Q.bAnd, Q.bOr, Q.eAnd, Q.eOr, Q.eNot, Q.eIf, Q.bin, Q.una, Q.dat1, Q.dat2, Q.whole2, Q.fin1, Q.viewC, Q.view, Q.Sl.viewC, Q.Sl.view, Q.Hot.viewC, Q.Hot.data, Q.plainD, Q.eVar, Q.eC, Q.eArg, Q.aCons, Q.aNil, Q.eB, Q.viewsC, Q.eTup, Q.eLst, Q.colds, Q.eDic0, Q.cold, Q.toCold, Q.own, Q.toOwn, Q.putS, Q.put, Q.Rv.sl, Q.Sl.settable, Q.stI, Q.keyOf, Q.toRet, Q.Res.bind, Q.callE, Q.toArgs, Q.slotPos, Q.backA, Q.hLen, Q.hListOf, Q.hTupOf, Q.hAbs, Q.hIntOf, Q.hMin2, Q.hMax2, Q.hAdd, Q.hSub, Q.hMul, Q.hDiv, Q.hMod, Q.hPow, Q.hNeg, Q.hI, Q.hIx, Q.eMt, Q.eMt0, Q.isTy, Q.mAppend, Q.mPop, Q.mPopAt, Q.onL, Q.eCut, Q.oNone, Q.oSome, Q.hCut, Q.hRevL, Q.eLRg1, Q.eLRg2, Q.intOf, Q.resS, Q.finA, Q.wGt, Q.wLt, Q.wLe, Q.wGe, Q.wOrd, L2.atI, L2.ixN, Q.divOk, Q.mulOk, Q.powOk, Q.eIsi, Q.tyN, Q.isT, Q.eChain, Q.wEq, Q.wNe, Q.wIn, Q.wNotIn, Q.isIn, Q.shaped_int, Q.sTg, Q.Tg.asg, Q.Tgs.asg]
  have e1 : ((List.replicate n r).map PySem.PyData.int).map (onI fun i => .int (i - 1)) = (List.replicate n (r - 1)).map .int := by rw [map_onI]; simp
  rw [e1] at key
  exact (def_rt ⟨rfl, by simp⟩ (ret_of (r := .cold (T (List.replicate n (r - 1)))) (eB1 key rfl rfl) rfl) (by simp) rfl).trans (by simp [finA])
/-- unlike blocks, ascending -/
theorem unlike_blocks {ts : List Int} (hl : ts.length ≤ 50) : f_unlike_blocks [.val (T ts)] = some (.val (T (usort ts)), [.val (T ts)]) := by
  have h3 : lcL roomI (.nm 1) tTrue (eVar 1) [1] (ts.map .int) [] [.val (T ts), .un] = .ok (ts.map .int) [.val (T ts), .un] := by
    have := lcL_pure (room := roomI) (T := .nm 1) (t := tTrue) (f := eVar 1) (own := [1]) (e0 := [.val (T ts), .un]) (items := ts.map .int) (acc := []) (fun _ => true) id (fun d hd => by
      obtain ⟨i, hi, rfl⟩ := List.mem_map.mp hd
      simp [tTrue, Tg.asg, ownOk, Sl.isHot, wipeE, Q.sSeq, Q.sIf, Q.sSet, Q.sSub, Q.sRet, Q.sPar, Q.putAll, Q.sExpr, Q.sNx, Q.asB, Q.bNot, Q.bAnd, Q.bOr, Q.eAnd, Q.eOr, Q.eNot, Q.eIf, Q.bin, Q.una, Q.dat1, Q.dat2, Q.whole2, Q.fin1, Q.viewC, Q.view, Q.Sl.viewC, Q.Sl.view, Q.Hot.viewC, Q.Hot.data, Q.plainD, Q.eVar, Q.eC, Q.eArg, Q.aCons, Q.aNil, Q.eB, Q.viewsC, Q.eTup, Q.eLst, Q.colds, Q.eDic0, Q.cold, Q.toCold, Q.own, Q.toOwn, Q.putS, Q.put, Q.Rv.sl, Q.Sl.settable, Q.stI, Q.keyOf, Q.toRet, Q.Res.bind, Q.callE, Q.toArgs, Q.slotPos, Q.backA, Q.hLen, Q.hListOf, Q.hTupOf, Q.hAbs, Q.hIntOf, Q.hMin2, Q.hMax2, Q.hAdd, Q.hSub, Q.hMul, Q.hDiv, Q.hMod, Q.hPow, Q.hNeg, Q.hI, Q.hIx, Q.eMt, Q.eMt0, Q.isTy, Q.mAppend, Q.mPop, Q.mPopAt, Q.onL, Q.eCut, Q.oNone, Q.oSome, Q.hCut, Q.hRevL, Q.eLRg1, Q.eLRg2, Q.intOf, Q.resS, Q.finA, Q.wGt, Q.wLt, Q.wLe, Q.wGe, Q.wOrd, L2.atI, L2.ixN, Q.divOk, Q.mulOk, Q.powOk, Q.eIsi, Q.tyN, Q.isT, Q.eChain, Q.wEq, Q.wNe, Q.wIn, Q.wNotIn, Q.isIn, Q.shaped_int, Q.sTg, Q.Tg.asg, Q.Tgs.asg]) fun a d hd ha ⟨m, e, hm⟩ => by
        obtain ⟨i, hi, rfl⟩ := List.mem_map.mp hd
        have : ∃ ns : List Int, m = ns.map .int := by
          clear e ha
          induction m with
          | nil => exact ⟨[], rfl⟩
          | cons x xs ih =>
            obtain ⟨ns, e⟩ := ih fun y hy => hm (List.mem_cons_of_mem _ hy)
            obtain ⟨j, _, ej⟩ := List.mem_map.mp (hm (show x ∈ x :: xs by simp))
            exact ⟨j :: ns, by simp [e, ej]⟩
        obtain ⟨ns, rfl⟩ := this
        simp at e ha
        subst e
        simp [roomI, asInts_map]
        simp at ha
        omega
    simpa [filter_all] using this
  have key : eSortSc (iSlot 0) (.nm 1) tTrue (eVar 1) [1] [.val (T ts), .un] = .ok (.hot (.lst ((usort ts).map .int))) [.val (T ts), .un] := by
    have hl2 : ts.length < 64 := by omega
    simp [eSortSc, iSlot, seqD, Res.bind, ownOk, Sl.isHot, Tg.slots, wipeE, h3, asInts_map, hl2, unlk, backE]
  exact (def_rt ⟨rfl, by simp⟩ (ret_of (r := .cold (T (usort ts))) (eB1 key rfl rfl) rfl) (by simp) rfl).trans (by simp [finA])
end K79
set_option Elab.async false
set_option linter.all false
set_option maxRecDepth 100000
set_option maxHeartbeats 4000000
namespace K79
open Q
/-! ### the marks, plainly -/
def lastO (ts : List Int) (b : Int) : Nat → Option Nat
  | 0 => none
  | m + 1 => if ts[m]? = some b then some m else lastO ts b m
def fits (ld : Nat → Int) (L : Int) (q m : Nat) : Bool := (List.range (m - q)).all fun k => decide (ld (q + k) < L)
def raise_ (ld : Nat → Int) (q m : Nat) : Nat → Int := fun j => if q ≤ j ∧ j < m then ld j + 1 else ld j
def mks (ts : List Int) (L : Int) : Nat → (Nat → Int) × List Bool
  | 0 => (fun _ => 0, [])
  | m + 1 => match lastO ts (ts.getD m 0) m with
    | none => ((mks ts L m).1, (mks ts L m).2 ++ [false])
    | some p => if fits (mks ts L m).1 L (p + 1) m = true then (raise_ (mks ts L m).1 (p + 1) m, (mks ts L m).2 ++ [true]) else ((mks ts L m).1, (mks ts L m).2 ++ [false])
def marks (ts : List Int) (L : Int) : List Bool := (mks ts L ts.length).2
theorem lastO_lt {ts : List Int} {b : Int} : ∀ {m p : Nat}, lastO ts b m = some p → p < m
  | 0, _, h => by cases h
  | m + 1, p, h => by
    unfold lastO at h
    split at h
    · cases h; omega
    · have := lastO_lt h; omega
theorem range_set (ld : Nat → Int) (n j : Nat) (x : Int) : ((List.range n).map ld).set j x = (List.range n).map fun i => if i = j then x else ld i := by
  apply List.ext_getElem?
  intro i
  by_cases h : j = i
  · subst h
    by_cases hl : j < n
    · rw [List.getElem?_set_self (by simpa using hl)]
      simp [hl]
    · rw [List.getElem?_eq_none (by simp; omega), List.getElem?_eq_none (by simp; omega)]
  · rw [List.getElem?_set_ne h]
    have h' : ¬ i = j := fun e => h e.symm
    by_cases hl : i < n
    · simp [hl, h']
    · rw [List.getElem?_eq_none (by simp; omega), List.getElem?_eq_none (by simp; omega)]
theorem atI_range (ld : Nat → Int) (n j : Nat) (h : j < n) : L2.atI (((List.range n).map ld).map PySem.PyData.int) (j : Int) = some (.int (ld j)) := by
  have := atI_ints ((List.range n).map ld) j (by simpa using h)
  rw [this]; simp
theorem atI_rep (L : Int) (n j : Nat) (h : j < n) : L2.atI ((List.replicate n L).map PySem.PyData.int) (j : Int) = some (.int L) := by
  have := atI_ints (List.replicate n L) j (by simpa using h)
  rw [this]; simp
/-! ### one turn -/
abbrev env0 (ts : List Int) (L : Int) (ld : Nat → Int) (kvs : List (PySem.PyData × PySem.PyData)) (ms : List Bool) (s5 s6 s7 s8 s9 : Sl) : Sto :=
  [.val (T ts), .val (T (List.replicate ts.length L)), .hot Md.free (.lst (((List.range ts.length).map ld).map .int)), .hot Md.free (.dic kvs), .hot Md.free (.lst (ms.map .bool)), s5, s6, s7, s8, s9]
def under (q m : Nat) : List PySem.PyData := rngD (q : Int) (m - q)
theorem mem_under {q m : Nat} {d : PySem.PyData} (h : d ∈ under q m) : ∃ j, q ≤ j ∧ j < m ∧ d = .int (j : Nat) := by
  unfold under rngD at h
  obtain ⟨k, hk, rfl⟩ := List.mem_map.mp h
  have := List.mem_range.mp hk
  exact ⟨q + k, by omega, by omega, by simp⟩
theorem comp_ok {ts : List Int} {L : Int} {ld : Nat → Int} {kvs : List (PySem.PyData × PySem.PyData)} {ms : List Bool} {s5 s6 s8 s9 : Sl} {q m : Nat} (hm : m ≤ ts.length) (hl : ts.length ≤ 20) (h8 : s8.isHot = false) :
    eLc (iSlot 7) (.nm 8) tTrue (bin (whole2 wLt) (bin (dat2 hIx) (eVar 2) (eVar 8)) (bin (dat2 hIx) (eVar 1) (eVar 8))) [8] (env0 ts L ld kvs ms s5 s6 (.hot Md.free (.lst (under q m))) s8 s9) =
      .ok (.hot (.lst ((under q m).map (onI fun j => .bool (decide (ld j.toNat < L)))))) (env0 ts L ld kvs ms s5 s6 (.hot Md.free (.lst (under q m))) s8 s9) := by
  refine lc_map (items := under q m) (un := some (7, false)) (e := env0 ts L ld kvs ms s5 s6 (.hot ⟨false, true⟩ (.lst (under q m))) s8 s9) _ (by simp [iSlot]) (by simp [ownOk, h8]) (by simp [Tg.slots]) (by simp [under, rngD]; omega) (by simp [unlk, backE, wipeE]) (by simp [ownOk, wipeE, Sl.isHot]) fun d hd => ?_
  obtain ⟨j, h1, h2, rfl⟩ := mem_under hd
  have hj : j < ts.length := by omega
  have a1 := atI_range ld ts.length j hj
  have a2 := atI_rep L ts.length j hj
  simp [-List.map_map, -List.map_replicate, Tg.asg, put, Sl.settable, Rv.sl, wipeE, ownOk, Sl.isHot, onI, cold, toCold, bin, whole2, dat2, view, viewC, Sl.view, Sl.viewC, Hot.viewC, plainD, eVar, fin1, Res.bind, wLt, wOrd, hIx, a1, a2]
theorem inner_ok {ts : List Int} {L : Int} {ld : Nat → Int} {kvs : List (PySem.PyData × PySem.PyData)} {ms : List Bool} {s5 s6 s8 s9 : Sl} {q m : Nat} (hm : m ≤ ts.length) (hq : q ≤ m) (h8 : s8.isHot = false) :
    ∃ s8', s8'.isHot = false ∧ sFor (iSlot 7) (.nm 8) (sAugS (ipInt (fun i j => i + j)) (eVar 2) (eVar 8) (eC (.int 1))) (env0 ts L ld kvs ms s5 s6 (.hot Md.free (.lst (under q m))) s8 s9) = .ok .nx (env0 ts L (raise_ ld q m) kvs ms s5 s6 (.hot Md.free (.lst (under q m))) s8' s9) := by
  obtain ⟨e', h, s8', h8', rfl⟩ := forL_inv (T := .nm 8) (body := sAugS (ipInt (fun i j => i + j)) (eVar 2) (eVar 8) (eC (.int 1))) (items := under q m) (k := 0)
    (fun i e => ∃ s8', s8'.isHot = false ∧ e = env0 ts L (raise_ ld q (q + i)) kvs ms s5 s6 (.hot ⟨false, true⟩ (.lst (under q m))) s8' s9) (e := env0 ts L ld kvs ms s5 s6 (.hot ⟨false, true⟩ (.lst (under q m))) s8 s9)
    ⟨s8, h8, by
      have : raise_ ld q (q + 0) = ld := by funext j; unfold raise_; rw [if_neg (by omega)]
      rw [this]⟩ fun i d e hd ⟨s8', h8', he⟩ => by
    subst he
    unfold under at hd
    rw [rngD_at] at hd
    split at hd
    · rename_i hi
      cases hd
      have hj : q + i < ts.length := by omega
      have e1 : ((q : Int) + (i : Nat)) = ((q + i : Nat) : Int) := by simp
      rw [Nat.zero_add, e1]
      have a1 := atI_range (raise_ ld q (q + i)) ts.length (q + i) hj
      have ix : L2.ixN ts.length ((q + i : Nat) : Int) = some (q + i) := by unfold L2.ixN; rw [if_pos (by omega), if_pos (by omega), Int.toNat_natCast]
      have st : (((List.range ts.length).map (raise_ ld q (q + i))).map PySem.PyData.int).set (q + i) (.int (raise_ ld q (q + i) (q + i) + 1)) = ((List.range ts.length).map (raise_ ld q (q + i + 1))).map .int := by
        rw [← List.map_set, range_set]
        congr 1
        apply List.map_congr_left
        intro j _
        unfold raise_
        by_cases hj : j = q + i
        · subst hj
          rw [if_pos rfl, if_neg (by omega), if_pos (by omega)]
        · rw [if_neg hj]
          by_cases hj2 : q ≤ j ∧ j < q + i
          · rw [if_pos hj2, if_pos (by omega)]
          · rw [if_neg hj2, if_neg (by omega)]
      have set8 : s8'.settable = true := by cases s8' <;> first | rfl | cases h8'
      refine ⟨env0 ts L (raise_ ld q (q + i)) kvs ms s5 s6 (.hot ⟨false, true⟩ (.lst (under q m))) (.val (.int ((q + i : Nat) : Int))) s9, .nx, env0 ts L (raise_ ld q (q + i + 1)) kvs ms s5 s6 (.hot ⟨false, true⟩ (.lst (under q m))) (.val (.int ((q + i : Nat) : Int))) s9, ?_, ?_, .inl rfl, .val (.int ((q + i : Nat) : Int)), rfl, ?_⟩
      · simp [Tg.asg, put, set8, Rv.sl]
      · have one : dat2 hIx (.slot 2) (.cold (.int ((q + i : Nat) : Int))) (env0 ts L (raise_ ld q (q + i)) kvs ms s5 s6 (.hot ⟨false, true⟩ (.lst (under q m))) (.val (.int ((q + i : Nat) : Int))) s9) = .ok (.cold (.int (raise_ ld q (q + i) (q + i)))) (env0 ts L (raise_ ld q (q + i)) kvs ms s5 s6 (.hot ⟨false, true⟩ (.lst (under q m))) (.val (.int ((q + i : Nat) : Int))) s9) := by
          simp only [dat2, viewC, Sl.viewC, Hot.viewC, plainD, List.getElem?_cons_zero, List.getElem?_cons_succ, Option.bind, hIx, a1, Option.map, fin1]
        have two : stI (.slot 2) (.int ((q + i : Nat) : Int)) (.int (raise_ ld q (q + i) (q + i) + 1)) (env0 ts L (raise_ ld q (q + i)) kvs ms s5 s6 (.hot ⟨false, true⟩ (.lst (under q m))) (.val (.int ((q + i : Nat) : Int))) s9) = some (env0 ts L (raise_ ld q (q + i + 1)) kvs ms s5 s6 (.hot ⟨false, true⟩ (.lst (under q m))) (.val (.int ((q + i : Nat) : Int))) s9) := by
          have len : ((List.range ts.length).map (raise_ ld q (q + i)) |>.map PySem.PyData.int).length = ts.length := by simp
          simp only [stI, List.getElem?_cons_zero, List.getElem?_cons_succ, len, ix, Option.map, st, List.set, if_pos]
        simp only [sAugS, eVar, eC, cold, toCold, Res.bind, List.getElem?_cons_zero, List.getElem?_cons_succ]
        rw [one]
        simp only [ipInt, dat2, viewC, plainD, hI, Option.bind, Option.map, fin1]
        rw [two]
      · rw [show q + (i + 1) = q + i + 1 by omega]
    · cases hd
  have hlen : (under q m).length = m - q := by simp [under, rngD]
  refine ⟨s8', h8', ?_⟩
  rw [for_nx (src := ⟨under q m, some (7, false)⟩) (e := env0 ts L ld kvs ms s5 s6 (.hot ⟨false, true⟩ (.lst (under q m))) s8 s9) (by simp [iSlot]) h, hlen, show q + (0 + (m - q)) = m by omega]
  simp [unlk]
end K79
set_option Elab.async false
set_option linter.all false
set_option maxRecDepth 100000
set_option maxHeartbeats 4000000
namespace K79
open Q
theorem dget_cons (p : PySem.PyData × PySem.PyData) (r : List (PySem.PyData × PySem.PyData)) (k : L2.Key) : dget (p :: r) k = if Q.keyOf p.1 = some k then some p.2 else dget r k := by
  unfold dget
  rw [List.find?_cons]
  by_cases h : Q.keyOf p.1 = some k <;> simp [h]
theorem dget_any (kvs : List (PySem.PyData × PySem.PyData)) (k : L2.Key) : (kvs.any fun p => decide (Q.keyOf p.1 = some k)) = (dget kvs k).isSome := by
  induction kvs with
  | nil => rfl
  | cons p r ih =>
    rw [List.any_cons, ih, dget_cons]
    by_cases h : Q.keyOf p.1 = some k <;> simp [h]
theorem dget_mp (kvs : List (PySem.PyData × PySem.PyData)) (k k' : L2.Key) (v : PySem.PyData) : dget (kvs.map fun p => if Q.keyOf p.1 = some k then (p.1, v) else p) k' = if k' = k then (if (dget kvs k).isSome = true then some v else none) else dget kvs k' := by
  induction kvs with
  | nil => simp [dget]
  | cons p r ih =>
    rw [List.map_cons, dget_cons, ih, dget_cons, dget_cons]
    by_cases h : Q.keyOf p.1 = some k
    · simp only [h, if_true]
      by_cases e : k' = k
      · subst e; simp
      · have : ¬ k = k' := fun z => e z.symm
        simp [e, this]
    · simp only [h, if_false]
      by_cases e : k' = k
      · subst e; simp [h]
      · simp [e]
theorem dget_app (kvs : List (PySem.PyData × PySem.PyData)) (k k' : L2.Key) (v : PySem.PyData) : dget (kvs ++ [(keyD k, v)]) k' = (dget kvs k').or (if k' = k then some v else none) := by
  induction kvs with
  | nil =>
    rw [List.nil_append, dget_cons, keyOf_keyD]
    by_cases e : k' = k
    · subst e; simp [dget]
    · have : ¬ k = k' := fun z => e z.symm
      simp [e, this, dget]
  | cons p r ih =>
    rw [List.cons_append, dget_cons, dget_cons, ih]
    by_cases h : Q.keyOf p.1 = some k' <;> simp [h]
theorem dget_dput (kvs : List (PySem.PyData × PySem.PyData)) (k k' : L2.Key) (v : PySem.PyData) : dget (dput kvs k v) k' = if k' = k then some v else dget kvs k' := by
  unfold dput
  rw [dget_any]
  by_cases h : (dget kvs k).isSome = true
  · rw [if_pos h, dget_mp, if_pos h]
  · rw [if_neg h, dget_app]
    by_cases e : k' = k
    · subst e
      have : dget kvs k' = none := by simpa using h
      simp [this]
    · simp [e]
theorem dput_len (kvs : List (PySem.PyData × PySem.PyData)) (k : L2.Key) (v : PySem.PyData) : (dput kvs k v).length ≤ kvs.length + 1 := by
  unfold dput
  split <;> simp
abbrev bodyE : Sm := (sSeq (sSet 7 (eLRg2 (bin (dat2 hAdd) (eMt "dict" mDGet2 (eVar 3) (aCons (cold (eVar 6)) (aCons (cold (bin (dat2 hSub) (eVar 5) (eC (.int 1)))) (aNil)))) (eC (.int 1))) (eVar 5)))
  (sSeq (sSet 9 (eAnd (bin (whole2 wIn) (eVar 6) (eVar 3)) (eB (hBls fun bs => bs.all id) (aCons (eLc (iSlot 7) (.nm 8) (tTrue) (bin (whole2 wLt) (bin (dat2 hIx) (eVar 2) (eVar 8)) (bin (dat2 hIx) (eVar 1) (eVar 8))) [8]) (aNil)))))
  (sSeq (sIf (asB (eVar 9)) (sFor (iSlot 7) (.nm 8) (sAugS (ipInt (fun i j => i + j)) (eVar 2) (eVar 8) (eC (.int 1)))) (sNx))
  (sSeq (sSub (eVar 5) (eVar 3) (eVar 6))
  (sExpr (eMt "list" mAppend (eVar 4) (aCons (cold (eVar 9)) (aNil))))))))
/-- where the items under a moment begin -/
def beginAt (ts : List Int) (t : Int) (m : Nat) : Nat := match lastO ts t m with
  | none => m
  | some p => p + 1
theorem beginAt_le {ts : List Int} {t : Int} {m : Nat} : beginAt ts t m ≤ m := by
  unfold beginAt
  split
  · exact Nat.le_refl _
  · rename_i p h
    exact lastO_lt h
theorem st1 {ts : List Int} {L : Int} {ld : Nat → Int} {kvs : List (PySem.PyData × PySem.PyData)} {ms : List Bool} {s7 s8 s9 : Sl} {m : Nat} {t : Int} (hm : m ≤ 20) (h7 : s7.settable = true) (hp : plainD (.dict kvs) = some (.dict kvs)) (hd : dget kvs (.inl t) = (lastO ts t m).map fun p => .int (p : Nat)) :
    sSet 7 (eLRg2 (bin (dat2 hAdd) (eMt "dict" mDGet2 (eVar 3) (aCons (cold (eVar 6)) (aCons (cold (bin (dat2 hSub) (eVar 5) (eC (.int 1)))) (aNil)))) (eC (.int 1))) (eVar 5)) (env0 ts L ld kvs ms (.val (.int m)) (.val (.int t)) s7 s8 s9) =
      .ok .nx (env0 ts L ld kvs ms (.val (.int m)) (.val (.int t)) (.hot Md.free (.lst (under (beginAt ts t m) m))) s8 s9) := by
  have hq := beginAt_le (ts := ts) (t := t) (m := m)
  have e1 : ((dget kvs (.inl t)).getD (.int ((m : Int) - 1))) = .int ((beginAt ts t m : Nat) - 1 : Int) := by
    rw [hd]
    unfold beginAt
    cases lastO ts t m with
    | none => rfl
    | some p => simp
  have e2 : ((beginAt ts t m : Nat) - 1 : Int) + 1 = (beginAt ts t m : Nat) := by omega
  have e3 : lrgOk ((beginAt ts t m : Nat) : Int) (m : Int) := ⟨by omega, by omega, by omega, by omega⟩
  have e4 : ((m : Int) - ((beginAt ts t m : Nat) : Int)).toNat = m - beginAt ts t m := by omega
  have g : eMt "dict" mDGet2 (eVar 3) (aCons (cold (eVar 6)) (aCons (cold (bin (dat2 hSub) (eVar 5) (eC (.int 1)))) (aNil))) (env0 ts L ld kvs ms (.val (.int m)) (.val (.int t)) s7 s8 s9) = .ok (.cold (.int ((beginAt ts t m : Nat) - 1 : Int))) (env0 ts L ld kvs ms (.val (.int m)) (.val (.int t)) s7 s8 s9) := by
    simp [-List.map_map, -List.map_replicate, eMt, eVar, isTy, viewC, Sl.viewC, Hot.viewC, Res.bind, aCons, aNil, cold, toCold, bin, dat2, plainD, hSub, hI, eC, fin1, mDGet2, colds, Q.keyOf, e1]
  refine set_of (r := .hot (.lst (under (beginAt ts t m) m))) (r1 := .hot (.lst (under (beginAt ts t m) m))) (e := env0 ts L ld kvs ms (.val (.int m)) (.val (.int t)) s7 s8 s9) (e1 := env0 ts L ld kvs ms (.val (.int m)) (.val (.int t)) s7 s8 s9) ?_ rfl ?_
  · simp only [eLRg2, bin, g, Res.bind]
    simp [-List.map_map, -List.map_replicate, eVar, eC, dat2, viewC, Sl.viewC, plainD, hAdd, fin1, e2, intOf, e3, e4, under, Res.bind]
  · simp [put, h7, Rv.sl]
theorem under_all {ld : Nat → Int} {L : Int} {q m : Nat} : ((under q m).map (onI fun j => .bool (decide (ld j.toNat < L)))) = ((List.range (m - q)).map fun k => decide (ld (q + k) < L)).map .bool := by
  unfold under rngD
  rw [List.map_map]; rw [List.map_map]
  apply List.map_congr_left
  intro k _
  have : ((q : Int) + (k : Int)).toNat = q + k := by omega
  simp [onI, this]
theorem intKeys {kvs : List (PySem.PyData × PySem.PyData)} (h : ∀ p ∈ kvs, ∃ b, p.1 = .int b) : plainD (.dict kvs) = some (.dict kvs) := by
  cases kvs with
  | nil => rfl
  | cons p r =>
    obtain ⟨b, e⟩ := h p (by simp)
    obtain ⟨k, v⟩ := p
    simp only at e
    subst e
    rfl
/-- whether a moment's gap is kept -/
def freeAt (ts : List Int) (L : Int) (ld : Nat → Int) (t : Int) (m : Nat) : Bool := (lastO ts t m).isSome && fits ld L (beginAt ts t m) m
theorem st2 {ts : List Int} {L : Int} {ld : Nat → Int} {kvs : List (PySem.PyData × PySem.PyData)} {ms : List Bool} {s8 s9 : Sl} {m : Nat} {t : Int} (hm : m ≤ ts.length) (hl : ts.length ≤ 20) (h8 : s8.isHot = false) (h9 : s9.settable = true) (hp : plainD (.dict kvs) = some (.dict kvs)) (hd : dget kvs (.inl t) = (lastO ts t m).map fun p => .int (p : Nat)) :
    sSet 9 (eAnd (bin (whole2 wIn) (eVar 6) (eVar 3)) (eB (hBls fun bs => bs.all id) (aCons (eLc (iSlot 7) (.nm 8) (tTrue) (bin (whole2 wLt) (bin (dat2 hIx) (eVar 2) (eVar 8)) (bin (dat2 hIx) (eVar 1) (eVar 8))) [8]) (aNil)))) (env0 ts L ld kvs ms (.val (.int m)) (.val (.int t)) (.hot Md.free (.lst (under (beginAt ts t m) m))) s8 s9) =
      .ok .nx (env0 ts L ld kvs ms (.val (.int m)) (.val (.int t)) (.hot Md.free (.lst (under (beginAt ts t m) m))) s8 (.val (.bool (freeAt ts L ld t m)))) := by
  have c := comp_ok (ts := ts) (L := L) (ld := ld) (kvs := kvs) (ms := ms) (s5 := .val (.int m)) (s6 := .val (.int t)) (s8 := s8) (s9 := s9) (q := beginAt ts t m) (m := m) hm hl h8
  rw [under_all] at c
  have c2 := eB1 (h := hBls fun bs => bs.all id) c rfl (r' := .cold (.bool (fits ld L (beginAt ts t m) m))) (by simp only [hBls, asBls_map, Option.map]; simp [fits, List.all_map])
  have i1 : bin (whole2 wIn) (eVar 6) (eVar 3) (env0 ts L ld kvs ms (.val (.int m)) (.val (.int t)) (.hot Md.free (.lst (under (beginAt ts t m) m))) s8 s9) = .ok (.cold (.bool (lastO ts t m).isSome)) (env0 ts L ld kvs ms (.val (.int m)) (.val (.int t)) (.hot Md.free (.lst (under (beginAt ts t m) m))) s8 s9) := by
    simp [-List.map_map, -List.map_replicate, bin, whole2, eVar, Res.bind, view, Sl.view, Hot.data, fin1, wIn, isIn, hp, Q.keyOf, hd]
  refine set_of (r := .cold (.bool (freeAt ts L ld t m))) (r1 := .cold (.bool (freeAt ts L ld t m))) (e := env0 ts L ld kvs ms (.val (.int m)) (.val (.int t)) (.hot Md.free (.lst (under (beginAt ts t m) m))) s8 s9) (e1 := env0 ts L ld kvs ms (.val (.int m)) (.val (.int t)) (.hot Md.free (.lst (under (beginAt ts t m) m))) s8 s9) ?_ rfl ?_
  · simp only [eAnd, asB, i1, Res.bind]
    unfold freeAt
    cases (lastO ts t m).isSome with
    | false => rfl
    | true => simpa using c2
  · simp [put, h9, Rv.sl]
end K79
set_option Elab.async false
set_option linter.all false
set_option maxRecDepth 100000
set_option maxHeartbeats 4000000
namespace K79
open Q
theorem mks_succ (ts : List Int) (L : Int) (m : Nat) : mks ts L (m + 1) = (if freeAt ts L (mks ts L m).1 (ts.getD m 0) m = true then raise_ (mks ts L m).1 (beginAt ts (ts.getD m 0) m) m else (mks ts L m).1, (mks ts L m).2 ++ [freeAt ts L (mks ts L m).1 (ts.getD m 0) m]) := by
  rw [mks]
  unfold freeAt beginAt
  cases lastO ts (ts.getD m 0) m with
  | none => simp
  | some p =>
    cases h : fits (mks ts L m).1 L (p + 1) m <;> simp [h]
structure MInv (ts : List Int) (L : Int) (m : Nat) (e : Sto) : Prop where
  ex : ∃ kvs s5 s6 s7 s8 s9, e = env0 ts L (mks ts L m).1 kvs (mks ts L m).2 s5 s6 s7 s8 s9 ∧ s5.settable = true ∧ s6.settable = true ∧ s7.settable = true ∧ s9.settable = true ∧ s8.isHot = false ∧ kvs.length ≤ m ∧ (∀ p ∈ kvs, ∃ b, p.1 = .int b) ∧ ∀ b, dget kvs (.inl b) = (lastO ts b m).map fun p => .int (p : Nat)
theorem dput_keys {kvs : List (PySem.PyData × PySem.PyData)} {t : Int} {v : PySem.PyData} (h : ∀ p ∈ kvs, ∃ b, p.1 = .int b) : ∀ p ∈ dput kvs (.inl t) v, ∃ b, p.1 = .int b := by
  intro p hp
  unfold dput at hp
  split at hp
  · obtain ⟨q, hq, rfl⟩ := List.mem_map.mp hp
    split <;> exact h q hq
  · rcases List.mem_append.mp hp with z | z
    · exact h p z
    · rw [List.mem_singleton] at z
      subst z
      exact ⟨t, rfl⟩
theorem turn {ts : List Int} {L : Int} {m : Nat} {e : Sto} {d : PySem.PyData} (hl : ts.length ≤ 20) (hd : (enumD (ts.map .int))[m]? = some d) (I : MInv ts L m e) : ∃ e1 o e2, Tg.asg (.tp (.cons (.nm 5) (.cons (.nm 6) (.nil)))) d e = some e1 ∧ bodyE e1 = .ok o e2 ∧ (o = .nx ∨ o = .ct) ∧ MInv ts L (m + 1) e2 := by
  obtain ⟨kvs, s5, s6, s7, s8, s9, rfl, h5, h6, h7, h9, h8, hk, hi, hg⟩ := I.ex
  rw [enumD_at, List.getElem?_map] at hd
  cases ht : ts[m]? with
  | none => rw [ht] at hd; cases hd
  | some t =>
    rw [ht] at hd
    cases hd
    have hm := (List.getElem?_eq_some_iff.mp ht).1
    have et : ts.getD m 0 = t := by rw [List.getD_eq_getElem?_getD, ht]; rfl
    have hp := intKeys hi
    have hgt := hg t
    generalize hld : (mks ts L m).1 = ld at *
    generalize hms : (mks ts L m).2 = ms at *
    have s1 := st1 (ts := ts) (L := L) (ld := ld) (kvs := kvs) (ms := ms) (s7 := s7) (s8 := s8) (s9 := s9) (m := m) (t := t) (by omega) h7 hp hgt
    have s2 := st2 (ts := ts) (L := L) (ld := ld) (kvs := kvs) (ms := ms) (s8 := s8) (s9 := s9) (m := m) (t := t) (by omega) hl h8 h9 hp hgt
    have s3 : ∃ s8', s8'.isHot = false ∧ sIf (asB (eVar 9)) (sFor (iSlot 7) (.nm 8) (sAugS (ipInt (fun i j => i + j)) (eVar 2) (eVar 8) (eC (.int 1)))) (sNx) (env0 ts L ld kvs ms (.val (.int m)) (.val (.int t)) (.hot Md.free (.lst (under (beginAt ts t m) m))) s8 (.val (.bool (freeAt ts L ld t m)))) =
        .ok .nx (env0 ts L (if freeAt ts L ld t m = true then raise_ ld (beginAt ts t m) m else ld) kvs ms (.val (.int m)) (.val (.int t)) (.hot Md.free (.lst (under (beginAt ts t m) m))) s8' (.val (.bool (freeAt ts L ld t m)))) := by
      generalize freeAt ts L ld t m = fb
      obtain ⟨s8', q1, q2⟩ := inner_ok (ts := ts) (L := L) (ld := ld) (kvs := kvs) (ms := ms) (s5 := .val (.int m)) (s6 := .val (.int t)) (s8 := s8) (s9 := .val (.bool true)) (q := beginAt ts t m) (m := m) (by omega) beginAt_le h8
      cases fb with
      | false => exact ⟨s8, h8, by simp [-List.map_map, -List.map_replicate, sIf, asB, eVar, Res.bind, sNx]⟩
      | true =>
        refine ⟨s8', q1, ?_⟩
        have e : asB (eVar 9) (env0 ts L ld kvs ms (.val (.int m)) (.val (.int t)) (.hot Md.free (.lst (under (beginAt ts t m) m))) s8 (.val (.bool true))) = .ok true (env0 ts L ld kvs ms (.val (.int m)) (.val (.int t)) (.hot Md.free (.lst (under (beginAt ts t m) m))) s8 (.val (.bool true))) := by
          simp [-List.map_map, -List.map_replicate, asB, eVar, Res.bind]
        unfold sIf
        rw [e]
        simp only [Res.bind, if_true]
        exact q2
    obtain ⟨s8', h8', s3⟩ := s3
    have s4 : ∀ ld', sSub (eVar 5) (eVar 3) (eVar 6) (env0 ts L ld' kvs ms (.val (.int m)) (.val (.int t)) (.hot Md.free (.lst (under (beginAt ts t m) m))) s8' (.val (.bool (freeAt ts L ld t m)))) =
        .ok .nx (env0 ts L ld' (dput kvs (.inl t) (.int m)) ms (.val (.int m)) (.val (.int t)) (.hot Md.free (.lst (under (beginAt ts t m) m))) s8' (.val (.bool (freeAt ts L ld t m)))) := by
      intro ld'
      have small : kvs.length < PySem.sizeLine := by rw [PySem.sizeLine_eq]; omega
      simp [-List.map_map, -List.map_replicate, sSub, cold, toCold, eVar, Res.bind, stI, small, Q.keyOf]
    have s5' : ∀ ld' kvs', sExpr (eMt "list" mAppend (eVar 4) (aCons (cold (eVar 9)) (aNil))) (env0 ts L ld' kvs' ms (.val (.int m)) (.val (.int t)) (.hot Md.free (.lst (under (beginAt ts t m) m))) s8' (.val (.bool (freeAt ts L ld t m)))) =
        .ok .nx (env0 ts L ld' kvs' (ms ++ [freeAt ts L ld t m]) (.val (.int m)) (.val (.int t)) (.hot Md.free (.lst (under (beginAt ts t m) m))) s8' (.val (.bool (freeAt ts L ld t m)))) := by
      intro ld' kvs'
      have small : ms.length < PySem.sizeLine := by
        have : ∀ k, (mks ts L k).2.length = k := by
          intro k
          induction k with
          | zero => rfl
          | succ k ih => rw [mks_succ]; simp [ih]
        rw [← hms, this m, PySem.sizeLine_eq]; omega
      simp [-List.map_map, -List.map_replicate, sExpr, eMt, eVar, isTy, viewC, Sl.viewC, Hot.viewC, Res.bind, aCons, aNil, cold, toCold, mAppend, onL, colds, small]
    refine ⟨env0 ts L ld kvs ms (.val (.int m)) (.val (.int t)) s7 s8 s9, .nx, env0 ts L (if freeAt ts L ld t m = true then raise_ ld (beginAt ts t m) m else ld) (dput kvs (.inl t) (.int m)) (ms ++ [freeAt ts L ld t m]) (.val (.int m)) (.val (.int t)) (.hot Md.free (.lst (under (beginAt ts t m) m))) s8' (.val (.bool (freeAt ts L ld t m))), ?_, ?_, .inl rfl, ⟨dput kvs (.inl t) (.int m), .val (.int m), .val (.int t), .hot Md.free (.lst (under (beginAt ts t m) m)), s8', .val (.bool (freeAt ts L ld t m)), ?_, rfl, rfl, rfl, rfl, h8', ?_, ?_, ?_⟩⟩
    · simp [Tg.asg, Tgs.asg, put, h5, h6, Rv.sl]
    · show bodyE _ = _
      unfold bodyE
      rw [seq_nx s1, seq_nx s2, seq_nx s3, seq_nx (s4 _), s5' _ _]
    · rw [mks_succ, et, hld, hms]
    · exact Nat.le_trans (dput_len _ _ _) (by omega)
    · exact dput_keys hi
    · intro b
      rw [dget_dput]
      show _ = (lastO ts b (m + 1)).map _
      unfold lastO
      by_cases hb : b = t
      · subst hb
        rw [if_pos rfl, if_pos ht]; rfl
      · rw [if_neg (fun z => hb (Sum.inl.inj z)), if_neg (fun z => hb (by rw [ht] at z; exact (Option.some.inj z).symm)), hg b]
theorem zeros (n : Nat) : (List.replicate n [PySem.PyData.int 0]).flatten = ((List.range n).map fun _ => (0 : Int)).map .int := by
  rw [rep_flat]
  congr 1
  apply List.ext_getElem <;> simp
theorem em_mul {ts : List Int} (hl : ts.length ≤ 20) : hMul (.list [.int 0]) (.int ts.length) = some (.hot (.lst (((List.range ts.length).map fun _ => (0 : Int)).map .int))) := by
  rw [mul_list (by simp; omega) (by omega), zeros]
theorem em_start {ts : List Int} (hl : ts.length ≤ 20) (L : Int) : sPar [2, 3, 4] (aCons (own (bin (dat2 hMul) (eLst (aCons (cold (eC (.int 0))) (aNil))) (eB hLen (aCons (eVar 0) (aNil))))) (aCons (own (eDic0)) (aCons (own (eLst (aNil))) (aNil)))) ([.val (T ts), .val (T (List.replicate ts.length L))] ++ List.replicate (10 - 2) .un) = .ok .nx (env0 ts L (fun _ => 0) [] [] .un .un .un .un .un) := by
  have c1 : cap 1 := cap_le (by decide)
  have c0 : cap 0 := cap_le (by decide)
  have m := em_mul hl
  have e1 : eLst (aCons (cold (eC (.int 0))) aNil) [.val (T ts), .val (T (List.replicate ts.length L)), .un, .un, .un, .un, .un, .un, .un, .un] = .ok (.hot (.lst [.int 0])) [.val (T ts), .val (T (List.replicate ts.length L)), .un, .un, .un, .un, .un, .un, .un, .un] := by
    simp only [eLst, aCons, aNil, cold, toCold, eC, Res.bind, colds, Option.map, Option.bind, List.length_cons, List.length_nil, Nat.zero_add, if_pos c1, fin1]
  have e2 : eLst aNil [.val (T ts), .val (T (List.replicate ts.length L)), .un, .un, .un, .un, .un, .un, .un, .un] = .ok (.hot (.lst [])) [.val (T ts), .val (T (List.replicate ts.length L)), .un, .un, .un, .un, .un, .un, .un, .un] := by
    simp only [eLst, aNil, Res.bind, colds, Option.bind, List.length_nil, if_pos c0, fin1]
  have e4 : eB hLen (aCons (eVar 0) aNil) [.val (T ts), .val (T (List.replicate ts.length L)), .un, .un, .un, .un, .un, .un, .un, .un] = .ok (.cold (.int ts.length)) [.val (T ts), .val (T (List.replicate ts.length L)), .un, .un, .un, .un, .un, .un, .un, .un] :=
    eB1 (r := .slot 0) (d := T ts) rfl rfl (by simp [hLen])
  exact par3_ok (own_hot (bin_ok e1 e4 (dat2_ok rfl rfl m))) (own_hot rfl) (own_hot e2) rfl
theorem em_iter (ts : List Int) (L : Int) : iEnumC (eVar 0) (env0 ts L (fun _ => 0) [] [] .un .un .un .un .un) = .ok ⟨enumD (ts.map .int), none⟩ (env0 ts L (fun _ => 0) [] [] .un .un .un .un .un) := rfl
theorem em_end (ts : List Int) (L : Int) (ld : Nat → Int) (kvs : List (PySem.PyData × PySem.PyData)) (bs : List Bool) (s5 s6 s7 s8 s9 : Sl) : sRet (eB hTupOf (aCons (eVar 4) (aNil))) (unlk none (env0 ts L ld kvs bs s5 s6 s7 s8 s9)) = .ok (.rt (.cold (.tuple (bs.map .bool)))) (env0 ts L ld kvs bs s5 s6 s7 s8 s9) := rfl
/-- the program's marks -/
theorem end_marks {ts : List Int} (h1 : 1 ≤ ts.length) (hl : ts.length ≤ 20) (L : Int) : f_end_marks [.val (T ts), .val (T (List.replicate ts.length L))] = some (.val (.tuple ((marks ts L).map .bool)), [.val (T ts), .val (T (List.replicate ts.length L))]) := by
  have I0 : MInv ts L 0 (env0 ts L (fun _ => 0) [] [] .un .un .un .un .un) := ⟨[], _, _, _, _, _, rfl, rfl, rfl, rfl, rfl, rfl, by simp, by simp, fun b => rfl⟩
  obtain ⟨e', h, I⟩ := forL_inv (T := .tp (.cons (.nm 5) (.cons (.nm 6) (.nil)))) (body := bodyE) (MInv ts L) (items := enumD (ts.map .int)) (k := 0) I0 fun i d e hd I => by
    rw [Nat.zero_add] at I ⊢
    exact turn hl hd I
  rw [enumD_len, List.length_map, Nat.zero_add] at I
  obtain ⟨kvs, s5, s6, s7, s8, s9, rfl, -⟩ := I.ex
  have em : marks ts L = (mks ts L ts.length).2 := rfl
  rw [em]
  generalize (mks ts L ts.length).1 = ld at h
  generalize (mks ts L ts.length).2 = bs at h
  suffices g : g_end_marks ([.val (T ts), .val (T (List.replicate ts.length L))] ++ List.replicate (10 - 2) .un) = .ok (.rt (.cold (.tuple (bs.map .bool)))) (env0 ts L ld kvs bs s5 s6 s7 s8 s9) by
    rw [f_end_marks, def_rt (n := 2) (N := 10) (s := .val (.tuple (bs.map .bool))) ⟨rfl, by decide⟩ g (by simp) rfl]
    rfl
  unfold g_end_marks
  rw [seq_nx (em_start hl L)]
  rw [seq_nx (for_nx (src := ⟨enumD (ts.map .int), none⟩) (e := env0 ts L (fun _ => 0) [] [] .un .un .un .un .un) (em_iter ts L) h)]
  exact em_end ts L ld kvs bs s5 s6 s7 s8 s9
end K79
set_option Elab.async false
set_option linter.all false
/-! putting out what is touched last = keeping gaps in the order of their ends; plain Lean -/
namespace Bel
/-- c is touched next after t at m -/
structure Nx (ts : List Int) (t : Nat) (c : Int) (m : Nat) : Prop where
  lt : t < m
  at_ : ts[m]? = some c
  no : ∀ i, t < i → i < m → ts[i]? ≠ some c
/-- the gap that ends at m begins at p -/
structure Gap (ts : List Int) (p m : Nat) (b : Int) : Prop where
  lt : p < m
  beg : ts[p]? = some b
  end_ : ts[m]? = some b
  no : ∀ i, p < i → i < m → ts[i]? ≠ some b
structure Run (ts : List Int) (r : Nat) (M : Nat → List Int) : Prop where
  zero : M 0 = []
  hit : ∀ t b, ts[t]? = some b → b ∈ M t → M (t + 1) = M t
  add : ∀ t b, ts[t]? = some b → b ∉ M t → (M t).length ≠ r → M (t + 1) = M t ++ [b]
  put : ∀ t b, ts[t]? = some b → b ∉ M t → (M t).length = r → ∃ v, v ∈ M t ∧ (∀ mv, Nx ts t v mv → ∀ c ∈ M t, ∃ mc, mc ≤ mv ∧ Nx ts t c mc) ∧ M (t + 1) = (M t).erase v ++ [b]
section
variable {ts : List Int} {r : Nat} {M : Nat → List Int}
structure Good (ts : List Int) (r : Nat) (M : Nat → List Int) (t : Nat) : Prop where
  nd : (M t).Nodup
  le : (M t).length ≤ r
  old : ∀ c ∈ M t, ∃ i, i < t ∧ ts[i]? = some c
theorem Run.good (R : Run ts r M) (hr : 1 ≤ r) : ∀ t, t ≤ ts.length → Good ts r M t
  | 0, _ => ⟨by rw [R.zero]; exact .nil, by rw [R.zero]; simp, by rw [R.zero]; simp⟩
  | t + 1, h => by
    have G := R.good hr t (by omega)
    have hb : ts[t]? = some ts[t] := List.getElem?_eq_getElem (by omega)
    generalize ts[t] = b at hb
    by_cases hm : b ∈ M t
    · have e := R.hit t b hb hm
      exact ⟨by rw [e]; exact G.nd, by rw [e]; exact G.le, fun c hc => by
        rw [e] at hc
        obtain ⟨i, h1, h2⟩ := G.old c hc
        exact ⟨i, by omega, h2⟩⟩
    · by_cases hl : (M t).length = r
      · obtain ⟨v, hv, -, e⟩ := R.put t b hb hm hl
        refine ⟨?_, ?_, fun c hc => ?_⟩
        · rw [e, List.nodup_append]
          exact ⟨G.nd.erase _, by simp, fun x hx y hy => by
            rw [List.mem_singleton] at hy
            subst hy
            exact fun z => hm (z ▸ List.mem_of_mem_erase hx)⟩
        · rw [e, List.length_append, List.length_erase_of_mem hv, hl]
          simp
          omega
        · rw [e] at hc
          rcases List.mem_append.mp hc with z | z
          · obtain ⟨i, h1, h2⟩ := G.old c (List.mem_of_mem_erase z)
            exact ⟨i, by omega, h2⟩
          · rw [List.mem_singleton] at z
            subst z
            exact ⟨t, by omega, hb⟩
      · have e := R.add t b hb hm hl
        refine ⟨?_, ?_, fun c hc => ?_⟩
        · rw [e, List.nodup_append]
          exact ⟨G.nd, by simp, fun x hx y hy => by
            rw [List.mem_singleton] at hy
            subst hy
            exact fun z => hm (z ▸ hx)⟩
        · rw [e, List.length_append]
          have := G.le
          simp
          omega
        · rw [e] at hc
          rcases List.mem_append.mp hc with z | z
          · obtain ⟨i, h1, h2⟩ := G.old c z
            exact ⟨i, by omega, h2⟩
          · rw [List.mem_singleton] at z
            subst z
            exact ⟨t, by omega, hb⟩
/-- what was just touched stands in the memory -/
theorem Run.now (R : Run ts r M) {t : Nat} {b : Int} (hb : ts[t]? = some b) : b ∈ M (t + 1) := by
  by_cases hm : b ∈ M t
  · rw [R.hit t b hb hm]; exact hm
  · by_cases hl : (M t).length = r
    · obtain ⟨v, hv, -, e⟩ := R.put t b hb hm hl
      rw [e]; simp
    · rw [R.add t b hb hm hl]; simp
/-- nothing comes in untouched -/
theorem Run.back (R : Run ts r M) {t : Nat} {c : Int} (ht : t < ts.length) (hc : c ∈ M (t + 1)) (n : ts[t]? ≠ some c) : c ∈ M t := by
  have hb : ts[t]? = some ts[t] := List.getElem?_eq_getElem ht
  have ne : c ≠ ts[t] := fun e => n (e ▸ hb)
  generalize ts[t] = b at hb ne
  by_cases hm : b ∈ M t
  · rw [R.hit t b hb hm] at hc; exact hc
  · by_cases hl : (M t).length = r
    · obtain ⟨v, hv, -, e⟩ := R.put t b hb hm hl
      rw [e] at hc
      rcases List.mem_append.mp hc with z | z
      · exact List.mem_of_mem_erase z
      · rw [List.mem_singleton] at z; exact absurd z ne
    · rw [R.add t b hb hm hl] at hc
      rcases List.mem_append.mp hc with z | z
      · exact z
      · rw [List.mem_singleton] at z; exact absurd z ne
theorem Run.stays (R : Run ts r M) {c : Int} {s : Nat} : ∀ {m : Nat}, s ≤ m → m ≤ ts.length → c ∈ M m → (∀ i, s ≤ i → i < m → ts[i]? ≠ some c) → c ∈ M s
  | 0, h, _, hc, _ => by rw [show s = 0 by omega]; exact hc
  | m + 1, h, hl, hc, n => by
    by_cases e : s = m + 1
    · rw [e]; exact hc
    · exact R.stays (m := m) (by omega) (by omega) (R.back (by omega) hc (n m (by omega) (by omega))) fun i h1 h2 => n i h1 (by omega)
/-- a hit: its gap was kept -/
def Hit (ts : List Int) (M : Nat → List Int) (m : Nat) : Prop := ∃ b, ts[m]? = some b ∧ b ∈ M m
/-- the gap that ends at m covers j -/
def Cov (ts : List Int) (m j : Nat) : Prop := ∃ p b, Gap ts p m b ∧ p < j ∧ j < m
theorem Cov.ne {m j : Nat} (c : Cov ts m j) : ts[j]? ≠ ts[m]? := by
  obtain ⟨p, b, g, h1, h2⟩ := c
  rw [g.end_]
  exact g.no j h1 h2
theorem Cov.inj {m m' j : Nat} (c : Cov ts m j) (c' : Cov ts m' j) (h : m < m') : ts[m]? ≠ ts[m']? := by
  obtain ⟨p, b, g, h1, h2⟩ := c'
  obtain ⟨_, _, _, _, h4⟩ := c
  rw [g.end_]
  exact g.no m (by omega) h
theorem Cov.in_ (R : Run ts r M) {m j : Nat} (hm : m < ts.length) (h : Hit ts M m) (c : Cov ts m j) : ∃ b, ts[m]? = some b ∧ b ∈ M (j + 1) := by
  obtain ⟨p, b, g, h1, h2⟩ := c
  obtain ⟨b', e, hb⟩ := h
  rw [g.end_] at e
  cases e
  exact ⟨b, g.end_, R.stays (m := m) (by omega) (by omega) hb fun i h3 h4 => g.no i (by omega) h4⟩
/-- CAPACITY: moments that end kept gaps over j are fewer than the rooms -/
theorem capacity (R : Run ts r M) (hr : 1 ≤ r) {j : Nat} (hj : j < ts.length) {l : List Nat} (nd : l.Nodup) (h : ∀ m ∈ l, m < ts.length ∧ Hit ts M m ∧ Cov ts m j) : l.length + 1 ≤ r := by
  have G := R.good hr (j + 1) (by omega)
  have inc : ∀ (l : List Nat), l.Nodup → (∀ m ∈ l, m < ts.length ∧ Hit ts M m ∧ Cov ts m j) → ∃ bs : List Int, bs.length = l.length ∧ bs.Nodup ∧ ∀ b ∈ bs, b ∈ M (j + 1) ∧ ts[j]? ≠ some b ∧ ∃ m ∈ l, ts[m]? = some b := by
    intro l
    induction l with
    | nil => exact fun _ _ => ⟨[], rfl, .nil, by simp⟩
    | cons m l ih =>
      intro nd h
      obtain ⟨bs, h1, h2, h3⟩ := ih (List.nodup_cons.mp nd).2 fun x hx => h x (List.mem_cons_of_mem _ hx)
      obtain ⟨a1, a2, a3⟩ := h m (by simp)
      obtain ⟨b, e, hb⟩ := Cov.in_ R a1 a2 a3
      refine ⟨b :: bs, by simp [h1], List.nodup_cons.mpr ⟨fun z => ?_, h2⟩, fun x hx => ?_⟩
      · obtain ⟨_, _, m', hm', e'⟩ := h3 b z
        have ne : m ≠ m' := fun q => (List.nodup_cons.mp nd).1 (q ▸ hm')
        have c' := (h m' (List.mem_cons_of_mem _ hm')).2.2
        rcases Nat.lt_or_gt_of_ne ne with q | q
        · exact Cov.inj a3 c' q (by rw [e, e'])
        · exact Cov.inj c' a3 q (by rw [e, e'])
      · rcases List.mem_cons.mp hx with q | q
        · subst q
          exact ⟨hb, by rw [← e]; exact a3.ne, m, by simp, e⟩
        · obtain ⟨q1, q2, m', q3, q4⟩ := h3 x q
          exact ⟨q1, q2, m', List.mem_cons_of_mem _ q3, q4⟩
  obtain ⟨bs, h1, h2, h3⟩ := inc l nd h
  have hb : ts[j]? = some ts[j] := List.getElem?_eq_getElem hj
  have nd2 : (ts[j] :: bs).Nodup := List.nodup_cons.mpr ⟨fun z => (h3 _ z).2.1 hb, h2⟩
  have sub : (ts[j] :: bs) ⊆ M (j + 1) := fun x hx => by
    rcases List.mem_cons.mp hx with q | q
    · rw [q]; exact R.now hb
    · exact (h3 x q).1
  have len : ∀ {as cs : List Int}, as.Nodup → as ⊆ cs → as.length ≤ cs.length := by
    intro as
    induction as with
    | nil => intros; simp
    | cons a as ih =>
      intro cs nd sub
      have ha : a ∈ cs := sub (by simp)
      have := ih (cs := cs.erase a) (List.nodup_cons.mp nd).2 fun x hx => (List.mem_erase_of_ne (fun e => (List.nodup_cons.mp nd).1 (by rw [← e]; exact hx))).mpr (sub (List.mem_cons_of_mem _ hx))
      rw [List.length_erase_of_mem ha] at this
      have pos := List.length_pos_of_mem ha
      simp
      omega
  have := len nd2 sub
  have := G.le
  simp at *
  omega
/-- between being in and being out a block was put out -/
theorem Run.out (R : Run ts r M) {c : Int} {s : Nat} : ∀ {m : Nat}, s ≤ m → m ≤ ts.length → c ∈ M s → c ∉ M m → ∃ t, s ≤ t ∧ t < m ∧ c ∈ M t ∧ c ∉ M (t + 1)
  | 0, h, _, h1, h2 => by rw [show s = 0 by omega] at h1; exact absurd h1 h2
  | m + 1, h, hl, h1, h2 => by
    by_cases e : s = m + 1
    · rw [e] at h1; exact absurd h1 h2
    · by_cases hm : c ∈ M m
      · exact ⟨m, by omega, by omega, hm, h2⟩
      · obtain ⟨t, a, b, q⟩ := R.out (m := m) (by omega) (by omega) h1 hm
        exact ⟨t, a, by omega, q⟩
/-- who is put out is the victim of a full memory -/
theorem Run.victim (R : Run ts r M) (hr : 1 ≤ r) {t : Nat} {c : Int} (ht : t < ts.length) (h1 : c ∈ M t) (h2 : c ∉ M (t + 1)) : ts[t]? ≠ some c ∧ ¬ Hit ts M t ∧ (M t).length = r ∧ (∀ mv, Nx ts t c mv → ∀ d ∈ M t, ∃ md, md ≤ mv ∧ Nx ts t d md) ∧ ∀ d, d ∈ M t → d ≠ c → d ∈ M (t + 1) := by
  have hb : ts[t]? = some ts[t] := List.getElem?_eq_getElem ht
  generalize ts[t] = b at hb
  have G := R.good hr t (by omega)
  by_cases hm : b ∈ M t
  · rw [R.hit t b hb hm] at h2; exact absurd h1 h2
  · by_cases hl : (M t).length = r
    · obtain ⟨v, hv, far, e⟩ := R.put t b hb hm hl
      have ev : c = v := by
        by_cases q : c = v
        · exact q
        · exact absurd (by rw [e]; exact List.mem_append_left _ ((List.mem_erase_of_ne q).mpr h1)) h2
      subst ev
      refine ⟨fun z => ?_, fun ⟨b', e1, e2⟩ => ?_, hl, far, fun d hd nd => by rw [e]; exact List.mem_append_left _ ((List.mem_erase_of_ne nd).mpr hd)⟩
      · rw [hb] at z; cases z; exact hm h1
      · rw [hb] at e1; cases e1; exact hm e2
    · rw [R.add t b hb hm hl] at h2
      exact absurd (List.mem_append_left _ h1) h2
/-- CROWDED: where a block is put out that is wanted again at m, some moment is covered by all but one room's kept gaps that end ahead of m -/
theorem crowded (R : Run ts r M) (hr : 1 ≤ r) {p m : Nat} (hm : m < ts.length) : ∀ (k : Nat) {t : Nat} {c : Int} {mc : Nat}, m - t ≤ k → p < t → t < m → c ∈ M t → c ∉ M (t + 1) → Nx ts t c mc → mc ≤ m →
    ∃ j l, p < j ∧ j < m ∧ (l : List Nat).Nodup ∧ l.length + 1 = r ∧ ∀ x ∈ l, x < m ∧ Hit ts M x ∧ Cov ts x j
  | 0, t, c, mc, hk, _, h, _, _, _, _ => by omega
  | k + 1, t, c, mc, hk, hp, ht, h1, h2, nx, le => by
    have htl : t < ts.length := by omega
    obtain ⟨nc, miss, full, far, rest⟩ := R.victim hr htl h1 h2
    have G := R.good hr t (by omega)
    -- the others' next touches
    by_cases all : ∀ d ∈ (M t).erase c, ∃ md, md < mc ∧ Nx ts t d md ∧ d ∈ M md
    · have pick : ∀ (ds : List Int), ds.Nodup → (∀ d ∈ ds, d ∈ (M t).erase c) → ∃ l : List Nat, l.length = ds.length ∧ l.Nodup ∧ ∀ x ∈ l, ∃ d ∈ ds, x < mc ∧ Nx ts t d x ∧ d ∈ M x := by
        intro ds
        induction ds with
        | nil => exact fun _ _ => ⟨[], rfl, .nil, by simp⟩
        | cons d ds ih =>
          intro nd h
          obtain ⟨l, q1, q2, q3⟩ := ih (List.nodup_cons.mp nd).2 fun x hx => h x (List.mem_cons_of_mem _ hx)
          obtain ⟨md, a1, a2, a3⟩ := all d (h d (by simp))
          refine ⟨md :: l, by simp [q1], List.nodup_cons.mpr ⟨fun z => ?_, q2⟩, fun x hx => ?_⟩
          · obtain ⟨d', hd', _, nx', _⟩ := q3 md z
            have := a2.at_.symm.trans nx'.at_
            cases this
            exact (List.nodup_cons.mp nd).1 hd'
          · rcases List.mem_cons.mp hx with q | q
            · subst q; exact ⟨d, by simp, a1, a2, a3⟩
            · obtain ⟨d', hd', z⟩ := q3 x q
              exact ⟨d', List.mem_cons_of_mem _ hd', z⟩
      obtain ⟨l, q1, q2, q3⟩ := pick _ (G.nd.erase c) fun d hd => hd
      refine ⟨t, l, hp, ht, q2, ?_, fun x hx => ?_⟩
      · rw [q1, List.length_erase_of_mem h1, full]
        omega
      · obtain ⟨d, hd, a1, a2, a3⟩ := q3 x hx
        have hdM := List.mem_of_mem_erase hd
        refine ⟨by omega, ⟨d, a2.at_, a3⟩, ?_⟩
        -- the last touch of d ahead of t
        obtain ⟨i, hi, e⟩ := G.old d hdM
        have last : ∀ (n : Nat), n ≤ t → (∃ i, i < n ∧ ts[i]? = some d) → ∃ i, i < n ∧ ts[i]? = some d ∧ ∀ z, i < z → z < n → ts[z]? ≠ some d := by
          intro n
          induction n with
          | zero => exact fun _ ⟨i, h, _⟩ => by omega
          | succ n ih =>
            intro hn ⟨i, h, e⟩
            by_cases q : ts[n]? = some d
            · exact ⟨n, by omega, q, fun z h1 h2 => by omega⟩
            · have : i ≠ n := fun z => q (z ▸ e)
              obtain ⟨i', b1, b2, b3⟩ := ih (by omega) ⟨i, by omega, e⟩
              refine ⟨i', by omega, b2, fun z h1 h2 => ?_⟩
              by_cases zz : z = n
              · rw [zz]; exact q
              · exact b3 z h1 (by omega)
        obtain ⟨i', b1, b2, b3⟩ := last t (Nat.le_refl _) ⟨i, hi, e⟩
        refine ⟨i', d, ⟨by have := a2.lt; omega, b2, a2.at_, fun z h1 h2 => ?_⟩, b1, a2.lt⟩
        by_cases zt : z = t
        · subst zt
          exact fun e => miss ⟨d, e, hdM⟩
        · by_cases zl : z < t
          · exact b3 z h1 zl
          · exact a2.no z (by omega) h2
    · -- one of them is put out later
      have : ∃ d, d ∈ (M t).erase c ∧ ¬ ∃ md, md < mc ∧ Nx ts t d md ∧ d ∈ M md := by
        by_cases q : ∃ d, d ∈ (M t).erase c ∧ ¬ ∃ md, md < mc ∧ Nx ts t d md ∧ d ∈ M md
        · exact q
        · exact absurd (fun d hd => by
            by_cases z : ∃ md, md < mc ∧ Nx ts t d md ∧ d ∈ M md
            · exact z
            · exact absurd ⟨d, hd, z⟩ q) all
      obtain ⟨d, hd, no⟩ := this
      have hdM := List.mem_of_mem_erase hd
      have ndc : d ≠ c := fun e => by
        rw [e] at hd
        exact (G.nd.not_mem_erase) hd
      obtain ⟨md, le2, nxd⟩ := far mc nx d hdM
      have ne : md ≠ mc := fun e => ndc (by
        have := nxd.at_
        rw [e, nx.at_] at this
        exact (Option.some.inj this).symm)
      have out : d ∉ M md := fun z => no ⟨md, by omega, nxd, z⟩
      have d1 := rest d hdM ndc
      obtain ⟨t', q1, q2, q3, q4⟩ := R.out (s := t + 1) (m := md) (by have := nxd.lt; omega) (by omega) d1 out
      exact crowded R hr hm k (t := t') (c := d) (mc := md) (by omega) (by omega) (by omega) q3 q4 ⟨q2, nxd.at_, fun i h1 h2 => nxd.no i (by omega) h2⟩ (by omega)
end
end Bel
set_option Elab.async false
set_option linter.all false
set_option maxRecDepth 100000
set_option maxHeartbeats 4000000
namespace K79
open Q Bel
theorem lastO_some {ts : List Int} {b : Int} : ∀ {m p : Nat}, lastO ts b m = some p → p < m ∧ ts[p]? = some b ∧ ∀ i, p < i → i < m → ts[i]? ≠ some b
  | 0, _, h => by cases h
  | m + 1, p, h => by
    unfold lastO at h
    split at h
    · rename_i e
      cases h
      exact ⟨by omega, e, fun i h1 h2 => by omega⟩
    · rename_i e
      obtain ⟨a, b', c⟩ := lastO_some h
      refine ⟨by omega, b', fun i h1 h2 => ?_⟩
      by_cases q : i = m
      · rw [q]; exact e
      · exact c i h1 (by omega)
theorem lastO_none {ts : List Int} {b : Int} : ∀ {m : Nat}, lastO ts b m = none → ∀ i, i < m → ts[i]? ≠ some b
  | 0, _, i, hi => by omega
  | m + 1, h, i, hi => by
    unfold lastO at h
    split at h
    · cases h
    · rename_i e
      by_cases q : i = m
      · rw [q]; exact e
      · exact lastO_none h i (by omega)
def hitB (ts : List Int) (M : Nat → List Int) (m : Nat) : Bool := decide (ts.getD m 0 ∈ M m)
def covB (ts : List Int) (x j : Nat) : Bool := match lastO ts (ts.getD x 0) x with
  | none => false
  | some p => decide (p < j ∧ j < x)
theorem getD_at {ts : List Int} {m : Nat} (h : m < ts.length) : ts[m]? = some (ts.getD m 0) := by
  rw [List.getD_eq_getElem?_getD]; rw [List.getElem?_eq_getElem h]; rfl
theorem hitB_iff {ts : List Int} {M : Nat → List Int} {m : Nat} (h : m < ts.length) : hitB ts M m = true ↔ Hit ts M m := by
  unfold hitB Hit
  rw [decide_eq_true_eq, getD_at h]
  exact ⟨fun z => ⟨_, rfl, z⟩, fun ⟨b, e, z⟩ => by cases e; exact z⟩
theorem covB_iff {ts : List Int} {x j : Nat} (h : x < ts.length) : covB ts x j = true ↔ Cov ts x j := by
  unfold covB Cov
  have e := getD_at h
  generalize ts.getD x 0 = b at e
  cases hl : lastO ts b x with
  | none =>
    refine ⟨fun z => by simp at z, fun ⟨p, b', g, _, _⟩ => ?_⟩
    have := g.end_
    rw [e] at this; cases this
    exact absurd g.beg (lastO_none hl p g.lt)
  | some p =>
    obtain ⟨h1, h2, h3⟩ := lastO_some hl
    simp only [decide_eq_true_eq]
    refine ⟨fun z => ⟨p, b, ⟨h1, h2, e, h3⟩, z⟩, fun ⟨p', b', g, z1, z2⟩ => ?_⟩
    have eb := g.end_
    rw [e] at eb; cases eb
    have : p' = p := by
      rcases Nat.lt_trichotomy p' p with q | q | q
      · exact absurd h2 (g.no p q h1)
      · exact q
      · exact absurd g.beg (h3 p' q g.lt)
    rw [← this]
    exact ⟨z1, z2⟩
def load (ts : List Int) (M : Nat → List Int) (m j : Nat) : List Nat := (List.range m).filter fun x => hitB ts M x && covB ts x j
theorem len_sub : ∀ {l k : List Nat}, l.Nodup → l ⊆ k → l.length ≤ k.length
  | [], _, _, _ => by simp
  | a :: l, k, nd, sub => by
    have ha : a ∈ k := sub (by simp)
    have := len_sub (l := l) (k := k.erase a) (List.nodup_cons.mp nd).2 fun x hx => (List.mem_erase_of_ne (fun e => (List.nodup_cons.mp nd).1 (by rw [← e]; exact hx))).mpr (sub (List.mem_cons_of_mem _ hx))
    rw [List.length_erase_of_mem ha] at this
    have pos := List.length_pos_of_mem ha
    rw [List.length_cons]
    omega
theorem marks_hits {ts : List Int} {r : Nat} {M : Nat → List Int} (R : Run ts r M) (hr : 1 ≤ r) : ∀ m, m ≤ ts.length → (mks ts ((r : Int) - 1) m).2 = (List.range m).map (hitB ts M) ∧ ∀ j, (mks ts ((r : Int) - 1) m).1 j = ((load ts M m j).length : Int)
  | 0, _ => ⟨rfl, fun j => rfl⟩
  | m + 1, h => by
    obtain ⟨h1, h2⟩ := marks_hits R hr m (by omega)
    have hm : m < ts.length := by omega
    have e := getD_at hm
    have key : freeAt ts ((r : Int) - 1) (mks ts ((r : Int) - 1) m).1 (ts.getD m 0) m = hitB ts M m := by
      unfold freeAt beginAt
      have hb := hitB_iff (M := M) hm
      generalize hbv : hitB ts M m = hv at hb
      generalize ts.getD m 0 = b at e
      cases hl : lastO ts b m with
      | none =>
        cases hv with
        | false => rfl
        | true =>
          obtain ⟨b', e', z⟩ := hb.mp rfl
          rw [e] at e'; cases e'
          obtain ⟨i, hi, ei⟩ := (R.good hr m (by omega)).old b z
          exact absurd ei (lastO_none hl i hi)
      | some p =>
        obtain ⟨q1, q2, q3⟩ := lastO_some hl
        simp only [Option.isSome_some, Bool.true_and]
        have g : Gap ts p m b := ⟨q1, q2, e, q3⟩
        cases hv with
        | true =>
          unfold fits
          rw [List.all_eq_true]
          intro k hk
          have hk := List.mem_range.mp hk
          rw [decide_eq_true_eq, h2]
          have cap := capacity R hr (j := p + 1 + k) (by omega) (l := m :: load ts M m (p + 1 + k)) (List.nodup_cons.mpr ⟨fun z => by
              have := List.mem_range.mp (List.mem_filter.mp z).1
              omega, List.nodup_range.filter _⟩) fun x hx => by
            rcases List.mem_cons.mp hx with z | z
            · subst z
              exact ⟨hm, hb.mp rfl, p, b, g, by omega, by omega⟩
            · obtain ⟨z1, z2⟩ := List.mem_filter.mp z
              have z1 := List.mem_range.mp z1
              rw [Bool.and_eq_true] at z2
              exact ⟨by omega, (hitB_iff (by omega)).mp z2.1, (covB_iff (by omega)).mp z2.2⟩
          rw [List.length_cons] at cap
          omega
        | false =>
          have nin : b ∉ M m := fun z => by
            have := hb.mpr ⟨b, e, z⟩
            cases this
          obtain ⟨t, t1, t2, t3, t4⟩ := R.out (c := b) (s := p + 1) (m := m) (by omega) (by omega) (R.now q2) nin
          obtain ⟨j, l, j1, j2, nd, len, all⟩ := crowded R hr hm (m - t) (p := p) (t := t) (c := b) (mc := m) (Nat.le_refl _) (by omega) t2 t3 t4 ⟨t2, e, fun i a1 a2 => q3 i (by omega) a2⟩ (Nat.le_refl _)
          have sub : l ⊆ load ts M m j := fun x hx => by
            obtain ⟨a1, a2, a3⟩ := all x hx
            refine List.mem_filter.mpr ⟨List.mem_range.mpr a1, ?_⟩
            rw [(hitB_iff (by omega)).mpr a2, (covB_iff (by omega)).mpr a3]; rfl
          have le := len_sub nd sub
          unfold fits
          rw [Bool.eq_false_iff]
          intro z
          rw [List.all_eq_true] at z
          have := z (j - (p + 1)) (List.mem_range.mpr (by omega))
          rw [decide_eq_true_eq, h2, show p + 1 + (j - (p + 1)) = j by omega] at this
          omega
    rw [mks_succ, key]
    refine ⟨by rw [h1, List.range_succ, List.map_append]; rfl, fun j => ?_⟩
    have step : load ts M (m + 1) j = load ts M m j ++ (if (hitB ts M m && covB ts m j) = true then [m] else []) := by
      unfold load
      rw [List.range_succ, List.filter_append]
      congr 1
      generalize hc : (hitB ts M m && covB ts m j) = c
      cases c
      · rw [List.filter_cons_of_neg (by rw [hc]; exact Bool.false_ne_true)]; rfl
      · rw [List.filter_cons_of_pos (p := fun x => hitB ts M x && covB ts x j) hc]; rfl
    rw [step]
    unfold covB at *
    cases hh : hitB ts M m with
    | false => simp [h2]
    | true =>
      simp only [Bool.true_and, if_true]
      unfold raise_ beginAt
      rw [hh] at key
      cases hl : lastO ts (ts.getD m 0) m with
      | none =>
        dsimp only
        rw [if_neg (by omega)]
        simp [h2]
      | some p =>
        dsimp only
        by_cases q : p < j ∧ j < m
        · rw [if_pos ⟨by omega, q.2⟩, h2]
          simp [q]
        · rw [if_neg (fun z => q ⟨by omega, z.2⟩), h2]
          simp [q]
end K79
set_option Elab.async false
set_option linter.all false
set_option maxRecDepth 100000
set_option maxHeartbeats 4000000
namespace K79
open Q Bel
/-- the moments behind t -/
def behind (ts : List Int) (t : Nat) : List Int := (List.range (ts.length - (t + 1))).map fun k => ((t : Int) + 1) + (k : Nat)
def farL (ts : List Int) (t : Nat) (b : Int) : List Int := (behind ts t).filter (fun i => decide (ts.getD i.toNat 0 = b)) ++ [(ts.length : Int)]
def farV (ts : List Int) (t : Nat) (b : Int) : Int := (leastI (farL ts t b)).getD 0
theorem farV_is (ts : List Int) (t : Nat) (b : Int) : leastI (farL ts t b) = some (farV ts t b) := by
  unfold farV farL
  cases (behind ts t).filter (fun i => decide (ts.getD i.toNat 0 = b)) <;> rfl
theorem filter_ints (p : Int → Bool) (c : PySem.PyData → Bool) (h : ∀ i, c (.int i) = p i) : ∀ xs : List Int, (xs.map PySem.PyData.int).filter c = (xs.filter p).map .int
  | [] => rfl
  | x :: xs => by
    rw [List.map_cons]
    cases hp : p x with
    | false => rw [List.filter_cons_of_neg (by rw [h, hp]; exact Bool.false_ne_true), List.filter_cons_of_neg (by rw [hp]; exact Bool.false_ne_true), filter_ints p c h xs]
    | true => rw [List.filter_cons_of_pos (by rw [h, hp]), List.filter_cons_of_pos hp, filter_ints p c h xs]; rfl
theorem behind_D (ts : List Int) (t : Nat) : rngD ((t : Int) + 1) (((ts.length : Int) - ((t : Int) + 1)).toNat) = (behind ts t).map .int := by
  unfold rngD behind
  rw [List.map_map, show ((ts.length : Int) - ((t : Int) + 1)).toNat = ts.length - (t + 1) by omega]
  rfl
theorem law_far {ts : List Int} (hl : ts.length ≤ 20) {t : Nat} (ht : t < ts.length) (b : Int) : f__law_far [.val (T ts), .val (.int t), .val (.int b)] = some (.val (.int (farV ts t b)), [.val (T ts), .val (.int t), .val (.int b)]) := by
  have r1 : rngOk ((t : Int) + 1) := ⟨by omega, by omega⟩
  have r2 : rngOk (ts.length : Int) := ⟨by omega, by omega⟩
  have key := lc_filter (s := iRng2 (bin (dat2 hAdd) (eVar 1) (eC (.int 1))) (eB hLen (aCons (eVar 0) (aNil)))) (T := .nm 4) (t := asB (bin (whole2 wEq) (bin (dat2 hIx) (eVar 0) (eVar 4)) (eVar 2))) (f := eVar 4) (own := [4])
    (env := [.val (T ts), .val (.int t), .val (.int b), .un, .un]) (e := [.val (T ts), .val (.int t), .val (.int b), .un, .un]) (e' := [.val (T ts), .val (.int t), .val (.int b), .un, .un]) (items := (behind ts t).map .int) (un := none)
    (fun d => match d with | .int i => decide (ts.getD i.toNat 0 = b) | _ => false) id
    (by
      have a1 : bin (dat2 hAdd) (eVar 1) (eC (.int 1)) [.val (T ts), .val (.int t), .val (.int b), .un, .un] = .ok (.cold (.int ((t : Int) + 1))) [.val (T ts), .val (.int t), .val (.int b), .un, .un] := rfl
      have a2 : eB hLen (aCons (eVar 0) (aNil)) [.val (T ts), .val (.int t), .val (.int b), .un, .un] = .ok (.cold (.int ts.length)) [.val (T ts), .val (.int t), .val (.int b), .un, .un] := eB1 (r := .slot 0) (d := T ts) rfl rfl (by simp [hLen])
      have := rng2_ok a1 a2 rfl rfl r1 r2
      rw [behind_D] at this
      exact this)
    (by simp [ownOk, Sl.isHot]) (by simp [Tg.slots]) (by simp [behind]; omega) (by simp [unlk, backE, wipeE]) (by simp [ownOk, wipeE, Sl.isHot]) fun d hd => by
      obtain ⟨i, hi, rfl⟩ := List.mem_map.mp hd
      obtain ⟨k, hkm, rfl⟩ := List.mem_map.mp hi
      have hk := List.mem_range.mp hkm
      have e1 : (t : Int) + 1 + (k : Nat) = ((t + 1 + k : Nat) : Int) := by omega
      have hj : t + 1 + k < ts.length := by omega
      rw [e1]
      have at_ := atI_ints ts (t + 1 + k) hj
      have gd : ts.getD (t + 1 + k) 0 = ts[t + 1 + k] := by rw [List.getD_eq_getElem?_getD, List.getElem?_eq_getElem hj]; rfl
      refine ⟨[.val (T ts), .val (.int t), .val (.int b), .un, .val (.int ((t + 1 + k : Nat) : Int))], [.val (T ts), .val (.int t), .val (.int b), .un, .val (.int ((t + 1 + k : Nat) : Int))], [.val (T ts), .val (.int t), .val (.int b), .un, .val (.int ((t + 1 + k : Nat) : Int))], rfl, ?_, fun _ => rfl, fun _ => rfl, rfl, rfl⟩
      have i1 : bin (dat2 hIx) (eVar 0) (eVar 4) [.val (T ts), .val (.int t), .val (.int b), .un, .val (.int ((t + 1 + k : Nat) : Int))] = .ok (.cold (.int ts[t + 1 + k])) [.val (T ts), .val (.int t), .val (.int b), .un, .val (.int ((t + 1 + k : Nat) : Int))] :=
        bin_ok (ra := .slot 0) (rb := .slot 4) rfl rfl (dat2_ok rfl rfl (by simp only [hIx, at_, Option.map]))
      have i2 : eVar 2 [.val (T ts), .val (.int t), .val (.int b), .un, .val (.int ((t + 1 + k : Nat) : Int))] = .ok (.slot 2) [.val (T ts), .val (.int t), .val (.int b), .un, .val (.int ((t + 1 + k : Nat) : Int))] := rfl
      have i3 : whole2 wEq (.cold (.int ts[t + 1 + k])) (.slot 2) [.val (T ts), .val (.int t), .val (.int b), .un, .val (.int ((t + 1 + k : Nat) : Int))] = .ok (.cold (.bool (decide (ts.getD (t + 1 + k) 0 = b)))) [.val (T ts), .val (.int t), .val (.int b), .un, .val (.int ((t + 1 + k : Nat) : Int))] := by
        simp only [whole2, view, Sl.view, List.getElem?_cons_zero, List.getElem?_cons_succ, Option.bind, wEq, shaped_int, and_self, if_true, Option.map, fin1, eqv_int, gd]
      simp only [asB]
      rw [bin_ok i1 i2 i3]
      simp only [Res.bind, Int.toNat_natCast]
  rw [List.map_id, filter_ints (fun i => decide (ts.getD i.toNat 0 = b)) _ fun i => rfl] at key
  generalize hz : (behind ts t).filter (fun i => decide (ts.getD i.toNat 0 = b)) = zs at key
  have hzl : zs.length ≤ 20 := by
    rw [← hz]
    refine Nat.le_trans (List.length_filter_le _ _) ?_
    simp [behind]; omega
  have s1 : sSet 3 _ [.val (T ts), .val (.int t), .val (.int b), .un, .un] = .ok .nx [.val (T ts), .val (.int t), .val (.int b), .hot Md.free (.lst (zs.map .int)), .un] := set_of key rfl rfl
  have f1 : eLst (aCons (cold (eB hLen (aCons (eVar 0) (aNil)))) (aNil)) [.val (T ts), .val (.int t), .val (.int b), .hot Md.free (.lst (zs.map .int)), .un] = .ok (.hot (.lst [.int ts.length])) [.val (T ts), .val (.int t), .val (.int b), .hot Md.free (.lst (zs.map .int)), .un] := by
    have : eB hLen (aCons (eVar 0) (aNil)) [.val (T ts), .val (.int t), .val (.int b), .hot Md.free (.lst (zs.map .int)), .un] = .ok (.cold (.int ts.length)) [.val (T ts), .val (.int t), .val (.int b), .hot Md.free (.lst (zs.map .int)), .un] := eB1 (r := .slot 0) (d := T ts) rfl rfl (by simp [hLen])
    exact lst1 (by simp only [cold, this, Res.bind, toCold])
  have f2 : bin (dat2 hAdd) (eVar 3) (eLst (aCons (cold (eB hLen (aCons (eVar 0) (aNil)))) (aNil))) [.val (T ts), .val (.int t), .val (.int b), .hot Md.free (.lst (zs.map .int)), .un] = .ok (.hot (.lst ((zs ++ [(ts.length : Int)]).map .int))) [.val (T ts), .val (.int t), .val (.int b), .hot Md.free (.lst (zs.map .int)), .un] :=
    bin_ok (ra := .slot 3) rfl f1 (dat2_ok (a := .list (zs.map .int)) (b := .list [.int ts.length]) rfl rfl (by
      rw [add_list (by simp; omega), List.map_append]; rfl))
  have f3 : eB hMin1 (aCons (bin (dat2 hAdd) (eVar 3) (eLst (aCons (cold (eB hLen (aCons (eVar 0) (aNil)))) (aNil)))) (aNil)) [.val (T ts), .val (.int t), .val (.int b), .hot Md.free (.lst (zs.map .int)), .un] = .ok (.cold (.int (farV ts t b))) [.val (T ts), .val (.int t), .val (.int b), .hot Md.free (.lst (zs.map .int)), .un] := by
    refine eB1 f2 rfl ?_
    have e := farV_is ts t b
    unfold farL at e
    rw [hz] at e
    simp only [hMin1, hNums, asInts_map, Option.bind, e, Option.map]
  have g : g__law_far ([.val (T ts), .val (.int t), .val (.int b)] ++ List.replicate (5 - 3) .un) = .ok (.rt (.cold (.int (farV ts t b)))) [.val (T ts), .val (.int t), .val (.int b), .hot Md.free (.lst (zs.map .int)), .un] := by
    unfold g__law_far
    show sSeq _ _ [.val (T ts), .val (.int t), .val (.int b), .un, .un] = _
    rw [seq_nx s1]
    exact ret_of f3 rfl
  rw [f__law_far, def_rt (n := 3) (N := 5) (s := .val (.int (farV ts t b))) ⟨rfl, by decide⟩ g (by simp) rfl]
  rfl
end K79
set_option Elab.async false
set_option linter.all false
set_option maxRecDepth 100000
set_option maxHeartbeats 4000000
namespace K79
open Q Bel
theorem law_pick_v (h : Hot) (B : Box h) (xs : List Int) (h1 : 1 ≤ xs.length) (h2 : xs.length ≤ 1000) (m : Md) (hm : m.lk = false) : ∃ x h', f__law_pick [.hot m h, .val (.list (xs.map .int))] = some (.val (.int x), [.hot m h', .val (.list (xs.map .int))]) ∧ Box h' ∧ x ∈ xs := by
  obtain ⟨d, h', e, B', d1, d2⟩ := take h B xs.length Md.lent rfl (by omega) (by omega)
  have hd : d.toNat < xs.length := by omega
  have ed : d = ((d.toNat : Nat) : Int) := by omega
  have at_ := atI_ints xs d.toNat hd
  rw [← ed] at at_
  refine ⟨xs[d.toNat], h', ?_, B', List.getElem_mem hd⟩
  have a2 : cold (eB hLen (aCons (eVar 1) (aNil))) [.hot m h, .val (.list (xs.map .int))] = .ok (.cold (.int xs.length)) [.hot m h, .val (.list (xs.map .int))] := by
    have : eB hLen (aCons (eVar 1) (aNil)) [.hot m h, .val (.list (xs.map .int))] = .ok (.cold (.int xs.length)) [.hot m h, .val (.list (xs.map .int))] := eB1 (r := .slot 1) (d := .list (xs.map .int)) rfl rfl (by simp [hLen])
    simp only [cold, this, Res.bind, toCold]
  have a3 : callE f__law_take (aCons (eArg 0) (aCons (cold (eB hLen (aCons (eVar 1) (aNil)))) (aNil))) [.hot m h, .val (.list (xs.map .int))] = .ok (.cold (.int d)) [.hot m h', .val (.list (xs.map .int))] := by
    simp only [callE, aCons, aNil, eArg, List.getElem?_cons_zero, Res.bind, a2, toArgs, slotPos, Option.map, hm, and_self, if_true, e, backA, List.set]
  have g : g__law_pick ([.hot m h, .val (.list (xs.map .int))] ++ List.replicate (2 - 2) .un) = .ok (.rt (.cold (.int xs[d.toNat]))) [.hot m h', .val (.list (xs.map .int))] := by
    unfold g__law_pick
    show sRet _ [.hot m h, .val (.list (xs.map .int))] = _
    exact ret_of (bin_ok (ra := .slot 1) rfl a3 (dat2_ok (a := .list (xs.map .int)) (b := .int d) rfl rfl (by simp only [hIx, at_, Option.map]; rfl))) rfl
  rw [f__law_pick, def_rt (n := 2) (N := 2) (s := .val (.int xs[d.toNat])) ⟨rfl, by decide⟩ g (by simp) rfl]
  rfl
theorem law_pick_h (h : Hot) (B : Box h) (xs : List Int) (h1 : 1 ≤ xs.length) (h2 : xs.length ≤ 1000) (m m2 : Md) (hm : m.lk = false) : ∃ x h', f__law_pick [.hot m h, .hot m2 (.lst (xs.map .int))] = some (.val (.int x), [.hot m h', .hot m2 (.lst (xs.map .int))]) ∧ Box h' ∧ x ∈ xs := by
  obtain ⟨d, h', e, B', d1, d2⟩ := take h B xs.length Md.lent rfl (by omega) (by omega)
  have hd : d.toNat < xs.length := by omega
  have ed : d = ((d.toNat : Nat) : Int) := by omega
  have at_ := atI_ints xs d.toNat hd
  rw [← ed] at at_
  refine ⟨xs[d.toNat], h', ?_, B', List.getElem_mem hd⟩
  have a2 : cold (eB hLen (aCons (eVar 1) (aNil))) [.hot m h, .hot m2 (.lst (xs.map .int))] = .ok (.cold (.int xs.length)) [.hot m h, .hot m2 (.lst (xs.map .int))] := by
    have : eB hLen (aCons (eVar 1) (aNil)) [.hot m h, .hot m2 (.lst (xs.map .int))] = .ok (.cold (.int xs.length)) [.hot m h, .hot m2 (.lst (xs.map .int))] := eB1 (r := .slot 1) (d := .list (xs.map .int)) rfl rfl (by simp [hLen])
    simp only [cold, this, Res.bind, toCold]
  have a3 : callE f__law_take (aCons (eArg 0) (aCons (cold (eB hLen (aCons (eVar 1) (aNil)))) (aNil))) [.hot m h, .hot m2 (.lst (xs.map .int))] = .ok (.cold (.int d)) [.hot m h', .hot m2 (.lst (xs.map .int))] := by
    simp only [callE, aCons, aNil, eArg, List.getElem?_cons_zero, Res.bind, a2, toArgs, slotPos, Option.map, hm, and_self, if_true, e, backA, List.set]
  have g : g__law_pick ([.hot m h, .hot m2 (.lst (xs.map .int))] ++ List.replicate (2 - 2) .un) = .ok (.rt (.cold (.int xs[d.toNat]))) [.hot m h', .hot m2 (.lst (xs.map .int))] := by
    unfold g__law_pick
    show sRet _ [.hot m h, .hot m2 (.lst (xs.map .int))] = _
    exact ret_of (bin_ok (ra := .slot 1) rfl a3 (dat2_ok (a := .list (xs.map .int)) (b := .int d) rfl rfl (by simp only [hIx, at_, Option.map]; rfl))) rfl
  rw [f__law_pick, def_rt (n := 2) (N := 2) (s := .val (.int xs[d.toNat])) ⟨rfl, by decide⟩ g (by simp) rfl]
  rfl
end K79
set_option Elab.async false
set_option linter.all false
set_option maxRecDepth 100000
set_option maxHeartbeats 4000000
namespace K79
open Q Bel
theorem filter_none (l : List PySem.PyData) : l.filter (fun _ => false) = [] := List.filter_eq_nil_iff.mpr (by simp)
theorem law_is_row (xs : List Int) (hx : xs.length ≤ 1000) (n : Int) : f__law_is_row [.val (T xs), .val (.int n)] = some (.val (.bool (decide ((xs.length : Int) = n))), [.val (T xs), .val (.int n)]) := by
  have key := lc_filter (s := iSlot 0) (T := .nm 2) (t := bNot (asB (callE f__law_is_int (aCons (eArg 2) (aNil))))) (f := eVar 2) (own := [2]) (env := [.val (T xs), .val (.int n), .un]) (e := [.val (T xs), .val (.int n), .un]) (e' := [.val (T xs), .val (.int n), .un]) (items := xs.map .int) (un := none)
    (fun _ => false) id rfl rfl rfl (by simpa using hx) rfl rfl fun d hd => by
      obtain ⟨i, hi, rfl⟩ := List.mem_map.mp hd
      refine ⟨[.val (T xs), .val (.int n), .val (.int i)], [.val (T xs), .val (.int n), .val (.int i)], [.val (T xs), .val (.int n), .val (.int i)], rfl, ?_, nofun, fun _ => rfl, rfl, rfl⟩
      simp only [bNot, asB, callE, aCons, aNil, eArg, List.getElem?_cons_zero, List.getElem?_cons_succ, Res.bind, toArgs, Option.map, law_is_int, backA, Bool.not_true]
  rw [filter_none] at key
  have l0 : eLst aNil [.val (T xs), .val (.int n), .un] = .ok (.hot (.lst [])) [.val (T xs), .val (.int n), .un] := by
    have c0 : cap ([] : List PySem.PyData).length := cap_le (by simp)
    simp only [eLst, aNil, Res.bind, colds, Option.bind]
    rw [if_pos c0]; rfl
  have e1 : eIsi ["tuple"] (eVar 0) [.val (T xs), .val (.int n), .un] = .ok (.cold (.bool true)) [.val (T xs), .val (.int n), .un] := rfl
  have e2 : bin (whole2 wEq) (eB hLen (aCons (eVar 0) (aNil))) (eVar 1) [.val (T xs), .val (.int n), .un] = .ok (.cold (.bool (decide ((xs.length : Int) = n)))) [.val (T xs), .val (.int n), .un] := by
    have a : eB hLen (aCons (eVar 0) (aNil)) [.val (T xs), .val (.int n), .un] = .ok (.cold (.int xs.length)) [.val (T xs), .val (.int n), .un] := eB1 (r := .slot 0) (d := T xs) rfl rfl (by simp [hLen])
    refine bin_ok a (rb := .slot 1) rfl ?_
    simp only [whole2, view, Sl.view, List.getElem?_cons_zero, List.getElem?_cons_succ, Option.bind, wEq, shaped_int, and_self, if_true, Option.map, fin1, eqv_int]
  have e3 : bin (whole2 wEq) (eLc (iSlot 0) (.nm 2) (bNot (asB (callE f__law_is_int (aCons (eArg 2) (aNil))))) (eVar 2) [2]) (eLst (aNil)) [.val (T xs), .val (.int n), .un] = .ok (.cold (.bool true)) [.val (T xs), .val (.int n), .un] := bin_ok key l0 rfl
  have g : g__law_is_row ([.val (T xs), .val (.int n)] ++ List.replicate (3 - 2) .un) = .ok (.rt (.cold (.bool (decide ((xs.length : Int) = n))))) [.val (T xs), .val (.int n), .un] := by
    unfold g__law_is_row
    show sRet _ [.val (T xs), .val (.int n), .un] = _
    refine ret_of (r := .cold (.bool (decide ((xs.length : Int) = n)))) ?_ rfl
    cases hd : decide ((xs.length : Int) = n) with
    | false =>
      rw [hd] at e2
      simp only [eAnd, asB, e1, e2, Res.bind, if_true, Bool.false_eq_true, if_false]
    | true =>
      rw [hd] at e2
      simp only [eAnd, asB, e1, e2, e3, Res.bind, if_true]
  rw [f__law_is_row, def_rt (n := 2) (N := 3) (s := .val (.bool (decide ((xs.length : Int) = n)))) ⟨rfl, by decide⟩ g (by simp) rfl]
  rfl
end K79
set_option Elab.async false
set_option linter.all false
set_option maxRecDepth 100000
set_option maxHeartbeats 4000000
namespace K79
open Q Bel
theorem all_marks {ts : List Int} (h1 : 1 ≤ ts.length) (hl : ts.length ≤ 20) : wo (f_all_marks [.val (T ts)]) fun p => p = (.hot Md.free (.lst ((List.range (usort ts).length).map fun k => .tuple ((marks ts (k : Nat)).map .bool))), [.val (T ts)]) := by
  have ul : (usort ts).length ≤ 20 := by
    have : (usort ts).length = (dedupI ts).length := (sortI_perm _).length_eq
    have := dedupI_le ts
    omega
  have u := unlike_blocks (ts := ts) (by omega)
  refine def_wo ⟨rfl, by decide⟩ ?_
  unfold g_all_marks
  show wp (sRet _ [.val (T ts), .un]) _
  simp only [Q.wp_ok, Q.wp_no, Q.wo_some, Q.wo_none, Q.wo_bind, Q.wo_map, Q.wo_at0, Q.wo_atS, Q.wset_0, Q.wset_S, Q.bnd_val, Q.bnd_hot, Q.wp_eVar, Q.asArg_val, Q.asArg_hot, Q.wp_eArg, Q.wp_eC, Q.wp_cold, Q.wp_toCold_c, Q.wp_toCold_h, Q.chill_val, Q.chill_hot, Q.wp_toCold_s, Q.wp_own, Q.wp_toOwn_c, Q.wp_toOwn_h, Q.wp_toOwn_s, Q.giveBack_val, Q.giveBack_hot, Q.wp_toRet_c, Q.wp_toRet_h, Q.wp_toRet_s, Q.wp_aNil, Q.wp_aCons, Q.wp_bin, Q.wp_una, Q.wp_dat1, Q.wp_dat2, Q.wp_whole2, Q.view_c, Q.view_h, Q.view_s, Q.sview_v, Q.sview_h, Q.data_l, Q.data_d, Q.viewC_c, Q.viewC_h, Q.viewC_s, Q.sviewC_v, Q.sviewC_h, Q.dataC_l, Q.dataC_d, Q.plain_n, Q.plain_b, Q.plain_i, Q.plain_s, Q.plain_l, Q.plain_t, Q.wp_asB, Q.boolR_c, Q.boolS_v, Q.boolR_s, Q.wp_bAnd, Q.wp_bOr, Q.wp_bNot, Q.wp_eAnd, Q.wp_eOr, Q.wp_eNot, Q.wp_eIf, Q.wp_tTrue, Q.wp_sNx, Q.wp_never, Q.seqK_nx, Q.seqK_rt, Q.seqK_bk, Q.seqK_ct, Q.wp_sSeq, Q.wp_sExpr, Q.wp_sRet, Q.wp_sIf, Q.wp_putS, Q.wp_sSet, Q.set_val, Q.set_un, Q.set_hot, Q.sl_cold, Q.sl_hot, Q.wp_sTg, Q.ex_cold, Q.asg_nm, Q.asg_tp, Q.asgs_nil, Q.asgs_cons, Q.wputs_nil, Q.wputs_cons, Q.wp_sPar, Q.colds_nil, Q.colds_c, Q.wp_eTup, Q.wp_eLst, Q.wp_eDic0, Q.viewsC_nil, Q.viewsC_c, Q.wp_eB, Q.toArgs_nil, Q.toArgs_c, Q.lend_hot, Q.toArgs_s, Q.slotPos_c, Q.backA_nil, Q.backA_c, Q.takeBack_hot, Q.backA_s, Q.resR_v, Q.resR_h, Q.wp_callE, Q.resS_c, Q.resS_h, Q.resS_n, Q.wp_eMt, Q.wp_eMt0, Q.chg_lst, Q.wp_mAppend, Q.wp_mPopAt, Q.wp_mPop, Q.wp_mDat, Q.tyD_l, Q.tyD_t, Q.tyD_d, Q.isTy_o, Q.wp_oNone, Q.intD_i, Q.wp_oSome, Q.wp_eCut, Q.cut_l, Q.cut_t, Q.wp_eIsi, Q.wp_eLRg1, Q.wp_iRng1, Q.wp_iRng2, Q.seq_l, Q.seq_t, Q.wp_iCold, Q.wp_iEnumC, Q.walked_v, Q.walked_h, Q.wp_iSlot, Q.unlk_none, Q.wp_sFor, Q.turnK_nx, Q.turnK_ct, Q.turnK_bk, Q.turnK_rt, Q.add_ii, Q.add_ll, Q.add_tt, Q.sub_ii, Q.mul_ii, Q.mul_li, Q.mul_ti, Q.div_ii, Q.mod_ii, Q.pow_ii, Q.neg_i, Q.rev_l, Q.ix_l, Q.ix_t, Q.ix_d, Q.eq_xy, Q.ne_xy, Q.ord_ii, Q.in_w, Q.notin_w, Q.in_l, Q.in_t, Q.is_w, Q.isnot_w, Q.isq_n, Q.isNone_n, Q.isNone_i, Q.isNone_t, Q.isNone_l, Q.len_l, Q.len_t, Q.list_l, Q.list_t, Q.tup_l, Q.tup_t, Q.abs_i, Q.int_i, Q.int_b, Q.min_ii, Q.max_ii, Q.min_l, Q.max_l, Q.sum_l, Q.sort_l, Q.wo_asInts, Q.wo_asInts0, Q.wo_asIntsC, Q.key_i, Q.key_s, Q.wp_eLenSet, Q.lenSet_t, Q.wp_eChain, Q.store_l, Q.store_d, Q.wo_stI, Q.wp_sSub, Q.wp_sAugS, Q.aug_v, Q.wp_sAug, Q.ip_ii, Q.hI_ii, Q.wp_eLenScr, Q.wp_eIxScr, Q.scr_is, Q.cap_iff, Q.rng_iff, Q.lrg_iff, Q.div_iff, Q.mul_iff, Q.pow_iff, Q.size_lt, Q.free_pin, Q.free_lk, Q.lent_lk, Q.ff, Q.ft, Q.tt, Q.ffp, Q.dt, Q.df, Q.ndt, Q.ndf, Q.wo_ret, Q.fin_hot, Q.fin_val, Q.fin_nil, Q.ownOk_nil, Q.ownOk_cons, Q.hot_v, Q.hot_u, Q.wipe_0, Q.wipe_1, Q.back_0, Q.back_1, Q.slotPos_nil, List.set_cons_zero, List.set_cons_succ, List.getElem?_cons_zero, List.getElem?_cons_succ, List.length_cons, List.length_nil, Nat.zero_add, Nat.reduceAdd, Nat.reduceLeDiff, true_and, and_true, and_self, Bool.not_true, Bool.not_false, List.cons_append, List.nil_append, Q.wput_is, Q.true_imp, imp_self, implies_true, true_or, or_true]
  refine wp_eLc (fun _ => true) (onI fun k => .tuple ((marks ts k).map .bool)) rfl ?_
  simp only [Q.wp_ok, Q.wp_no, Q.wo_some, Q.wo_none, Q.wo_bind, Q.wo_map, Q.wo_at0, Q.wo_atS, Q.wset_0, Q.wset_S, Q.bnd_val, Q.bnd_hot, Q.wp_eVar, Q.asArg_val, Q.asArg_hot, Q.wp_eArg, Q.wp_eC, Q.wp_cold, Q.wp_toCold_c, Q.wp_toCold_h, Q.chill_val, Q.chill_hot, Q.wp_toCold_s, Q.wp_own, Q.wp_toOwn_c, Q.wp_toOwn_h, Q.wp_toOwn_s, Q.giveBack_val, Q.giveBack_hot, Q.wp_toRet_c, Q.wp_toRet_h, Q.wp_toRet_s, Q.wp_aNil, Q.wp_aCons, Q.wp_bin, Q.wp_una, Q.wp_dat1, Q.wp_dat2, Q.wp_whole2, Q.view_c, Q.view_h, Q.view_s, Q.sview_v, Q.sview_h, Q.data_l, Q.data_d, Q.viewC_c, Q.viewC_h, Q.viewC_s, Q.sviewC_v, Q.sviewC_h, Q.dataC_l, Q.dataC_d, Q.plain_n, Q.plain_b, Q.plain_i, Q.plain_s, Q.plain_l, Q.plain_t, Q.wp_asB, Q.boolR_c, Q.boolS_v, Q.boolR_s, Q.wp_bAnd, Q.wp_bOr, Q.wp_bNot, Q.wp_eAnd, Q.wp_eOr, Q.wp_eNot, Q.wp_eIf, Q.wp_tTrue, Q.wp_sNx, Q.wp_never, Q.seqK_nx, Q.seqK_rt, Q.seqK_bk, Q.seqK_ct, Q.wp_sSeq, Q.wp_sExpr, Q.wp_sRet, Q.wp_sIf, Q.wp_putS, Q.wp_sSet, Q.set_val, Q.set_un, Q.set_hot, Q.sl_cold, Q.sl_hot, Q.wp_sTg, Q.ex_cold, Q.asg_nm, Q.asg_tp, Q.asgs_nil, Q.asgs_cons, Q.wputs_nil, Q.wputs_cons, Q.wp_sPar, Q.colds_nil, Q.colds_c, Q.wp_eTup, Q.wp_eLst, Q.wp_eDic0, Q.viewsC_nil, Q.viewsC_c, Q.wp_eB, Q.toArgs_nil, Q.toArgs_c, Q.lend_hot, Q.toArgs_s, Q.slotPos_c, Q.backA_nil, Q.backA_c, Q.takeBack_hot, Q.backA_s, Q.resR_v, Q.resR_h, Q.wp_callE, Q.resS_c, Q.resS_h, Q.resS_n, Q.wp_eMt, Q.wp_eMt0, Q.chg_lst, Q.wp_mAppend, Q.wp_mPopAt, Q.wp_mPop, Q.wp_mDat, Q.tyD_l, Q.tyD_t, Q.tyD_d, Q.isTy_o, Q.wp_oNone, Q.intD_i, Q.wp_oSome, Q.wp_eCut, Q.cut_l, Q.cut_t, Q.wp_eIsi, Q.wp_eLRg1, Q.wp_iRng1, Q.wp_iRng2, Q.seq_l, Q.seq_t, Q.wp_iCold, Q.wp_iEnumC, Q.walked_v, Q.walked_h, Q.wp_iSlot, Q.unlk_none, Q.wp_sFor, Q.turnK_nx, Q.turnK_ct, Q.turnK_bk, Q.turnK_rt, Q.add_ii, Q.add_ll, Q.add_tt, Q.sub_ii, Q.mul_ii, Q.mul_li, Q.mul_ti, Q.div_ii, Q.mod_ii, Q.pow_ii, Q.neg_i, Q.rev_l, Q.ix_l, Q.ix_t, Q.ix_d, Q.eq_xy, Q.ne_xy, Q.ord_ii, Q.in_w, Q.notin_w, Q.in_l, Q.in_t, Q.is_w, Q.isnot_w, Q.isq_n, Q.isNone_n, Q.isNone_i, Q.isNone_t, Q.isNone_l, Q.len_l, Q.len_t, Q.list_l, Q.list_t, Q.tup_l, Q.tup_t, Q.abs_i, Q.int_i, Q.int_b, Q.min_ii, Q.max_ii, Q.min_l, Q.max_l, Q.sum_l, Q.sort_l, Q.wo_asInts, Q.wo_asInts0, Q.wo_asIntsC, Q.key_i, Q.key_s, Q.wp_eLenSet, Q.lenSet_t, Q.wp_eChain, Q.store_l, Q.store_d, Q.wo_stI, Q.wp_sSub, Q.wp_sAugS, Q.aug_v, Q.wp_sAug, Q.ip_ii, Q.hI_ii, Q.wp_eLenScr, Q.wp_eIxScr, Q.scr_is, Q.cap_iff, Q.rng_iff, Q.lrg_iff, Q.div_iff, Q.mul_iff, Q.pow_iff, Q.size_lt, Q.free_pin, Q.free_lk, Q.lent_lk, Q.ff, Q.ft, Q.tt, Q.ffp, Q.dt, Q.df, Q.ndt, Q.ndf, Q.wo_ret, Q.fin_hot, Q.fin_val, Q.fin_nil, Q.ownOk_nil, Q.ownOk_cons, Q.hot_v, Q.hot_u, Q.wipe_0, Q.wipe_1, Q.back_0, Q.back_1, Q.slotPos_nil, List.set_cons_zero, List.set_cons_succ, List.getElem?_cons_zero, List.getElem?_cons_succ, List.length_cons, List.length_nil, Nat.zero_add, Nat.reduceAdd, Nat.reduceLeDiff, true_and, and_true, and_self, Bool.not_true, Bool.not_false, List.cons_append, List.nil_append, Q.wput_is, Q.true_imp, imp_self, implies_true, true_or, or_true, u, T, List.length_map]
  refine ⟨⟨by omega, by omega⟩, by rw [rngD_len]; omega, fun d hd => ?_, ?_⟩
  · obtain ⟨k, hk, rfl⟩ := List.mem_map.mp hd
    refine ⟨⟨by simp, by omega, by omega⟩, ?_⟩
    rw [Int.toNat_natCast, rep_flat]
    refine wo_of (end_marks h1 hl _) ?_
    simp only [Q.wp_ok, Q.wp_no, Q.wo_some, Q.wo_none, Q.wo_bind, Q.wo_map, Q.wo_at0, Q.wo_atS, Q.wset_0, Q.wset_S, Q.bnd_val, Q.bnd_hot, Q.wp_eVar, Q.asArg_val, Q.asArg_hot, Q.wp_eArg, Q.wp_eC, Q.wp_cold, Q.wp_toCold_c, Q.wp_toCold_h, Q.chill_val, Q.chill_hot, Q.wp_toCold_s, Q.wp_own, Q.wp_toOwn_c, Q.wp_toOwn_h, Q.wp_toOwn_s, Q.giveBack_val, Q.giveBack_hot, Q.wp_toRet_c, Q.wp_toRet_h, Q.wp_toRet_s, Q.wp_aNil, Q.wp_aCons, Q.wp_bin, Q.wp_una, Q.wp_dat1, Q.wp_dat2, Q.wp_whole2, Q.view_c, Q.view_h, Q.view_s, Q.sview_v, Q.sview_h, Q.data_l, Q.data_d, Q.viewC_c, Q.viewC_h, Q.viewC_s, Q.sviewC_v, Q.sviewC_h, Q.dataC_l, Q.dataC_d, Q.plain_n, Q.plain_b, Q.plain_i, Q.plain_s, Q.plain_l, Q.plain_t, Q.wp_asB, Q.boolR_c, Q.boolS_v, Q.boolR_s, Q.wp_bAnd, Q.wp_bOr, Q.wp_bNot, Q.wp_eAnd, Q.wp_eOr, Q.wp_eNot, Q.wp_eIf, Q.wp_tTrue, Q.wp_sNx, Q.wp_never, Q.seqK_nx, Q.seqK_rt, Q.seqK_bk, Q.seqK_ct, Q.wp_sSeq, Q.wp_sExpr, Q.wp_sRet, Q.wp_sIf, Q.wp_putS, Q.wp_sSet, Q.set_val, Q.set_un, Q.set_hot, Q.sl_cold, Q.sl_hot, Q.wp_sTg, Q.ex_cold, Q.asg_nm, Q.asg_tp, Q.asgs_nil, Q.asgs_cons, Q.wputs_nil, Q.wputs_cons, Q.wp_sPar, Q.colds_nil, Q.colds_c, Q.wp_eTup, Q.wp_eLst, Q.wp_eDic0, Q.viewsC_nil, Q.viewsC_c, Q.wp_eB, Q.toArgs_nil, Q.toArgs_c, Q.lend_hot, Q.toArgs_s, Q.slotPos_c, Q.backA_nil, Q.backA_c, Q.takeBack_hot, Q.backA_s, Q.resR_v, Q.resR_h, Q.wp_callE, Q.resS_c, Q.resS_h, Q.resS_n, Q.wp_eMt, Q.wp_eMt0, Q.chg_lst, Q.wp_mAppend, Q.wp_mPopAt, Q.wp_mPop, Q.wp_mDat, Q.tyD_l, Q.tyD_t, Q.tyD_d, Q.isTy_o, Q.wp_oNone, Q.intD_i, Q.wp_oSome, Q.wp_eCut, Q.cut_l, Q.cut_t, Q.wp_eIsi, Q.wp_eLRg1, Q.wp_iRng1, Q.wp_iRng2, Q.seq_l, Q.seq_t, Q.wp_iCold, Q.wp_iEnumC, Q.walked_v, Q.walked_h, Q.wp_iSlot, Q.unlk_none, Q.wp_sFor, Q.turnK_nx, Q.turnK_ct, Q.turnK_bk, Q.turnK_rt, Q.add_ii, Q.add_ll, Q.add_tt, Q.sub_ii, Q.mul_ii, Q.mul_li, Q.mul_ti, Q.div_ii, Q.mod_ii, Q.pow_ii, Q.neg_i, Q.rev_l, Q.ix_l, Q.ix_t, Q.ix_d, Q.eq_xy, Q.ne_xy, Q.ord_ii, Q.in_w, Q.notin_w, Q.in_l, Q.in_t, Q.is_w, Q.isnot_w, Q.isq_n, Q.isNone_n, Q.isNone_i, Q.isNone_t, Q.isNone_l, Q.len_l, Q.len_t, Q.list_l, Q.list_t, Q.tup_l, Q.tup_t, Q.abs_i, Q.int_i, Q.int_b, Q.min_ii, Q.max_ii, Q.min_l, Q.max_l, Q.sum_l, Q.sort_l, Q.wo_asInts, Q.wo_asInts0, Q.wo_asIntsC, Q.key_i, Q.key_s, Q.wp_eLenSet, Q.lenSet_t, Q.wp_eChain, Q.store_l, Q.store_d, Q.wo_stI, Q.wp_sSub, Q.wp_sAugS, Q.aug_v, Q.wp_sAug, Q.ip_ii, Q.hI_ii, Q.wp_eLenScr, Q.wp_eIxScr, Q.scr_is, Q.cap_iff, Q.rng_iff, Q.lrg_iff, Q.div_iff, Q.mul_iff, Q.pow_iff, Q.size_lt, Q.free_pin, Q.free_lk, Q.lent_lk, Q.ff, Q.ft, Q.tt, Q.ffp, Q.dt, Q.df, Q.ndt, Q.ndf, Q.wo_ret, Q.fin_hot, Q.fin_val, Q.fin_nil, Q.ownOk_nil, Q.ownOk_cons, Q.hot_v, Q.hot_u, Q.wipe_0, Q.wipe_1, Q.back_0, Q.back_1, Q.slotPos_nil, List.set_cons_zero, List.set_cons_succ, List.getElem?_cons_zero, List.getElem?_cons_succ, List.length_cons, List.length_nil, Nat.zero_add, Nat.reduceAdd, Nat.reduceLeDiff, true_and, and_true, and_self, Bool.not_true, Bool.not_false, List.cons_append, List.nil_append, Q.wput_is, Q.true_imp, imp_self, implies_true, true_or, or_true]
    rfl
  · rw [filter_all, Int.toNat_natCast, range_rngD]
end K79
set_option Elab.async false
set_option linter.all false
set_option maxRecDepth 100000
set_option maxHeartbeats 4000000
namespace K79
open Q Bel
theorem wo_eq {α : Type} {o : Option α} {x : α} (h : wo o fun p => p = x) : o = some x := by
  obtain ⟨a, e, rfl⟩ := h
  exact e
theorem lay_bools : ∀ xs : List Bool, PySem.PyData.canLayAll0 (xs.map .bool) = true
  | [] => rfl
  | x :: xs => by rw [List.map_cons, PySem.PyData.canLayAll0, lay_bools xs]; rfl
theorem depth_bools : ∀ xs : List Bool, PySem.PyData.depthAll (xs.map .bool) = 0
  | [] => rfl
  | x :: xs => by rw [List.map_cons, PySem.PyData.depthAll, depth_bools xs]; rfl
theorem shaped_bools (xs : List Bool) : PySem.SeqAt.shaped (.tuple (xs.map .bool)) = true := by
  unfold PySem.SeqAt.shaped
  rw [PySem.PyData.canLay0, lay_bools, PySem.PyData.depth, depth_bools]; rfl
theorem shaped_b (b : Bool) : PySem.SeqAt.shaped (.bool b) = true := rfl
theorem count_false (bs : List Bool) : (bs.map PySem.PyData.bool).countP (fun z => PySem.PyData.eqv z (.bool false)) = bs.count false := by
  induction bs with
  | nil => rfl
  | cons b bs ih =>
    rw [List.map_cons, List.countP_cons, ih, List.count_cons]
    cases b <;> simp [PySem.PyData.eqv]
theorem ul20 {ts : List Int} (hl : ts.length ≤ 20) : (usort ts).length ≤ 20 := by
  have : (usort ts).length = (dedupI ts).length := (sortI_perm _).length_eq
  have := dedupI_le ts
  omega
def misses (ts : List Int) (k : Nat) : Nat := (marks ts (k : Nat)).count false
theorem rooms_moves {ts : List Int} (W : Walk ts) : f_rooms_moves [.val (.list (ts.map .int))] = some (.val (T ((List.range (usort ts).length).map fun k => (misses ts k : Int))), [.val (.list (ts.map .int))]) := wo_eq <| by
  have u := need_touches_l W
  obtain ⟨_, a, rfl⟩ := all_marks W.some_ W.few
  have := ul20 W.few
  refine def_wo ⟨rfl, by decide⟩ ?_
  unfold g_rooms_moves
  show wp (sRet _ [.val (.list (ts.map .int)), .un]) _
  simp only [Q.wp_ok, Q.wp_no, Q.wo_some, Q.wo_none, Q.wo_bind, Q.wo_map, Q.wo_at0, Q.wo_atS, Q.wset_0, Q.wset_S, Q.bnd_val, Q.bnd_hot, Q.wp_eVar, Q.asArg_val, Q.asArg_hot, Q.wp_eArg, Q.wp_eC, Q.wp_cold, Q.wp_toCold_c, Q.wp_toCold_h, Q.chill_val, Q.chill_hot, Q.wp_toCold_s, Q.wp_own, Q.wp_toOwn_c, Q.wp_toOwn_h, Q.wp_toOwn_s, Q.giveBack_val, Q.giveBack_hot, Q.wp_toRet_c, Q.wp_toRet_h, Q.wp_toRet_s, Q.wp_aNil, Q.wp_aCons, Q.wp_bin, Q.wp_una, Q.wp_dat1, Q.wp_dat2, Q.wp_whole2, Q.view_c, Q.view_h, Q.view_s, Q.sview_v, Q.sview_h, Q.data_l, Q.data_d, Q.viewC_c, Q.viewC_h, Q.viewC_s, Q.sviewC_v, Q.sviewC_h, Q.dataC_l, Q.dataC_d, Q.plain_n, Q.plain_b, Q.plain_i, Q.plain_s, Q.plain_l, Q.plain_t, Q.wp_asB, Q.boolR_c, Q.boolS_v, Q.boolR_s, Q.wp_bAnd, Q.wp_bOr, Q.wp_bNot, Q.wp_eAnd, Q.wp_eOr, Q.wp_eNot, Q.wp_eIf, Q.wp_tTrue, Q.wp_sNx, Q.wp_never, Q.seqK_nx, Q.seqK_rt, Q.seqK_bk, Q.seqK_ct, Q.wp_sSeq, Q.wp_sExpr, Q.wp_sRet, Q.wp_sIf, Q.wp_putS, Q.wp_sSet, Q.set_val, Q.set_un, Q.set_hot, Q.sl_cold, Q.sl_hot, Q.wp_sTg, Q.ex_cold, Q.asg_nm, Q.asg_tp, Q.asgs_nil, Q.asgs_cons, Q.wputs_nil, Q.wputs_cons, Q.wp_sPar, Q.colds_nil, Q.colds_c, Q.wp_eTup, Q.wp_eLst, Q.wp_eDic0, Q.viewsC_nil, Q.viewsC_c, Q.wp_eB, Q.toArgs_nil, Q.toArgs_c, Q.lend_hot, Q.toArgs_s, Q.slotPos_c, Q.backA_nil, Q.backA_c, Q.takeBack_hot, Q.backA_s, Q.resR_v, Q.resR_h, Q.wp_callE, Q.resS_c, Q.resS_h, Q.resS_n, Q.wp_eMt, Q.wp_eMt0, Q.chg_lst, Q.wp_mAppend, Q.wp_mPopAt, Q.wp_mPop, Q.wp_mDat, Q.tyD_l, Q.tyD_t, Q.tyD_d, Q.isTy_o, Q.wp_oNone, Q.intD_i, Q.wp_oSome, Q.wp_eCut, Q.cut_l, Q.cut_t, Q.wp_eIsi, Q.wp_eLRg1, Q.wp_iRng1, Q.wp_iRng2, Q.seq_l, Q.seq_t, Q.wp_iCold, Q.wp_iEnumC, Q.walked_v, Q.walked_h, Q.wp_iSlot, Q.unlk_none, Q.wp_sFor, Q.turnK_nx, Q.turnK_ct, Q.turnK_bk, Q.turnK_rt, Q.add_ii, Q.add_ll, Q.add_tt, Q.sub_ii, Q.mul_ii, Q.mul_li, Q.mul_ti, Q.div_ii, Q.mod_ii, Q.pow_ii, Q.neg_i, Q.rev_l, Q.ix_l, Q.ix_t, Q.ix_d, Q.eq_xy, Q.ne_xy, Q.ord_ii, Q.in_w, Q.notin_w, Q.in_l, Q.in_t, Q.is_w, Q.isnot_w, Q.isq_n, Q.isNone_n, Q.isNone_i, Q.isNone_t, Q.isNone_l, Q.len_l, Q.len_t, Q.list_l, Q.list_t, Q.tup_l, Q.tup_t, Q.abs_i, Q.int_i, Q.int_b, Q.min_ii, Q.max_ii, Q.min_l, Q.max_l, Q.sum_l, Q.sort_l, Q.wo_asInts, Q.wo_asInts0, Q.wo_asIntsC, Q.key_i, Q.key_s, Q.wp_eLenSet, Q.lenSet_t, Q.wp_eChain, Q.store_l, Q.store_d, Q.wo_stI, Q.wp_sSub, Q.wp_sAugS, Q.aug_v, Q.wp_sAug, Q.ip_ii, Q.hI_ii, Q.wp_eLenScr, Q.wp_eIxScr, Q.scr_is, Q.cap_iff, Q.rng_iff, Q.lrg_iff, Q.div_iff, Q.mul_iff, Q.pow_iff, Q.size_lt, Q.free_pin, Q.free_lk, Q.lent_lk, Q.ff, Q.ft, Q.tt, Q.ffp, Q.dt, Q.df, Q.ndt, Q.ndf, Q.wo_ret, Q.fin_hot, Q.fin_val, Q.fin_nil, Q.ownOk_nil, Q.ownOk_cons, Q.hot_v, Q.hot_u, Q.wipe_0, Q.wipe_1, Q.back_0, Q.back_1, Q.slotPos_nil, List.set_cons_zero, List.set_cons_succ, List.getElem?_cons_zero, List.getElem?_cons_succ, List.length_cons, List.length_nil, Nat.zero_add, Nat.reduceAdd, Nat.reduceLeDiff, true_and, and_true, and_self, Bool.not_true, Bool.not_false, List.cons_append, List.nil_append, Q.wput_is, Q.true_imp, imp_self, implies_true, true_or, or_true]
  refine wp_eLc (fun _ => true) (fun d => match d with
    | .tuple xs => .int (xs.countP fun z => PySem.PyData.eqv z (.bool false))
    | d => d) rfl ?_
  simp only [Q.wp_ok, Q.wp_no, Q.wo_some, Q.wo_none, Q.wo_bind, Q.wo_map, Q.wo_at0, Q.wo_atS, Q.wset_0, Q.wset_S, Q.bnd_val, Q.bnd_hot, Q.wp_eVar, Q.asArg_val, Q.asArg_hot, Q.wp_eArg, Q.wp_eC, Q.wp_cold, Q.wp_toCold_c, Q.wp_toCold_h, Q.chill_val, Q.chill_hot, Q.wp_toCold_s, Q.wp_own, Q.wp_toOwn_c, Q.wp_toOwn_h, Q.wp_toOwn_s, Q.giveBack_val, Q.giveBack_hot, Q.wp_toRet_c, Q.wp_toRet_h, Q.wp_toRet_s, Q.wp_aNil, Q.wp_aCons, Q.wp_bin, Q.wp_una, Q.wp_dat1, Q.wp_dat2, Q.wp_whole2, Q.view_c, Q.view_h, Q.view_s, Q.sview_v, Q.sview_h, Q.data_l, Q.data_d, Q.viewC_c, Q.viewC_h, Q.viewC_s, Q.sviewC_v, Q.sviewC_h, Q.dataC_l, Q.dataC_d, Q.plain_n, Q.plain_b, Q.plain_i, Q.plain_s, Q.plain_l, Q.plain_t, Q.wp_asB, Q.boolR_c, Q.boolS_v, Q.boolR_s, Q.wp_bAnd, Q.wp_bOr, Q.wp_bNot, Q.wp_eAnd, Q.wp_eOr, Q.wp_eNot, Q.wp_eIf, Q.wp_tTrue, Q.wp_sNx, Q.wp_never, Q.seqK_nx, Q.seqK_rt, Q.seqK_bk, Q.seqK_ct, Q.wp_sSeq, Q.wp_sExpr, Q.wp_sRet, Q.wp_sIf, Q.wp_putS, Q.wp_sSet, Q.set_val, Q.set_un, Q.set_hot, Q.sl_cold, Q.sl_hot, Q.wp_sTg, Q.ex_cold, Q.asg_nm, Q.asg_tp, Q.asgs_nil, Q.asgs_cons, Q.wputs_nil, Q.wputs_cons, Q.wp_sPar, Q.colds_nil, Q.colds_c, Q.wp_eTup, Q.wp_eLst, Q.wp_eDic0, Q.viewsC_nil, Q.viewsC_c, Q.wp_eB, Q.toArgs_nil, Q.toArgs_c, Q.lend_hot, Q.toArgs_s, Q.slotPos_c, Q.backA_nil, Q.backA_c, Q.takeBack_hot, Q.backA_s, Q.resR_v, Q.resR_h, Q.wp_callE, Q.resS_c, Q.resS_h, Q.resS_n, Q.wp_eMt, Q.wp_eMt0, Q.chg_lst, Q.wp_mAppend, Q.wp_mPopAt, Q.wp_mPop, Q.wp_mDat, Q.tyD_l, Q.tyD_t, Q.tyD_d, Q.isTy_o, Q.wp_oNone, Q.intD_i, Q.wp_oSome, Q.wp_eCut, Q.cut_l, Q.cut_t, Q.wp_eIsi, Q.wp_eLRg1, Q.wp_iRng1, Q.wp_iRng2, Q.seq_l, Q.seq_t, Q.wp_iCold, Q.wp_iEnumC, Q.walked_v, Q.walked_h, Q.wp_iSlot, Q.unlk_none, Q.wp_sFor, Q.turnK_nx, Q.turnK_ct, Q.turnK_bk, Q.turnK_rt, Q.add_ii, Q.add_ll, Q.add_tt, Q.sub_ii, Q.mul_ii, Q.mul_li, Q.mul_ti, Q.div_ii, Q.mod_ii, Q.pow_ii, Q.neg_i, Q.rev_l, Q.ix_l, Q.ix_t, Q.ix_d, Q.eq_xy, Q.ne_xy, Q.ord_ii, Q.in_w, Q.notin_w, Q.in_l, Q.in_t, Q.is_w, Q.isnot_w, Q.isq_n, Q.isNone_n, Q.isNone_i, Q.isNone_t, Q.isNone_l, Q.len_l, Q.len_t, Q.list_l, Q.list_t, Q.tup_l, Q.tup_t, Q.abs_i, Q.int_i, Q.int_b, Q.min_ii, Q.max_ii, Q.min_l, Q.max_l, Q.sum_l, Q.sort_l, Q.wo_asInts, Q.wo_asInts0, Q.wo_asIntsC, Q.key_i, Q.key_s, Q.wp_eLenSet, Q.lenSet_t, Q.wp_eChain, Q.store_l, Q.store_d, Q.wo_stI, Q.wp_sSub, Q.wp_sAugS, Q.aug_v, Q.wp_sAug, Q.ip_ii, Q.hI_ii, Q.wp_eLenScr, Q.wp_eIxScr, Q.scr_is, Q.cap_iff, Q.rng_iff, Q.lrg_iff, Q.div_iff, Q.mul_iff, Q.pow_iff, Q.size_lt, Q.free_pin, Q.free_lk, Q.lent_lk, Q.ff, Q.ft, Q.tt, Q.ffp, Q.dt, Q.df, Q.ndt, Q.ndf, Q.wo_ret, Q.fin_hot, Q.fin_val, Q.fin_nil, Q.ownOk_nil, Q.ownOk_cons, Q.hot_v, Q.hot_u, Q.wipe_0, Q.wipe_1, Q.back_0, Q.back_1, Q.slotPos_nil, List.set_cons_zero, List.set_cons_succ, List.getElem?_cons_zero, List.getElem?_cons_succ, List.length_cons, List.length_nil, Nat.zero_add, Nat.reduceAdd, Nat.reduceLeDiff, true_and, and_true, and_self, Bool.not_true, Bool.not_false, List.cons_append, List.nil_append, Q.wput_is, Q.true_imp, imp_self, implies_true, true_or, or_true, u, a]
  refine ⟨by simp; omega, fun d hd => ?_, ?_⟩
  · obtain ⟨k, hk, rfl⟩ := List.mem_map.mp hd
    refine ⟨wo_some.mpr rfl, ⟨shaped_bools _, rfl⟩, wo_some.mpr rfl⟩
  · rw [filter_all, List.map_map]
    refine congrArg (fun z => (Sl.val (.tuple z), _)) ?_
    rw [List.map_map]
    refine List.map_congr_left fun k hk => ?_
    show PySem.PyData.int _ = PySem.PyData.int _
    rw [count_false]; rfl
/-- the first row in which a moment is free, told by its number and one more -/
def dep (ts : List Int) (m : Nat) : PySem.PyData := match (List.range (usort ts).length).find? fun k => (marks ts (k : Nat)).getD m false with
  | some k => .int ((k : Int) + 1)
  | none => .none
theorem mks_len (ts : List Int) (L : Int) : ∀ m, (mks ts L m).2.length = m
  | 0 => rfl
  | m + 1 => by
    have := mks_len ts L m
    unfold mks
    split
    · simp [this]
    · split <;> simp [this]
theorem atI_bools (bs : List Bool) (m : Nat) (h : m < bs.length) : L2.atI (bs.map PySem.PyData.bool) (m : Int) = some (.bool (bs.getD m false)) := by
  unfold L2.atI L2.ixN
  simp [h, List.getD_eq_getElem?_getD]
def onP {α : Type} (g : Int → α) (z : α) : PySem.PyData → α
  | .tuple [.int k, _] => g k
  | _ => z
theorem enum_range (n : Nat) (g : Nat → PySem.PyData) : enumD ((List.range n).map g) = (List.range n).map fun k => .tuple [.int (k : Nat), g k] := by
  apply List.ext_getElem?
  intro k
  rw [enumD_at, List.getElem?_map, List.getElem?_map]
  by_cases h : k < n
  · rw [List.getElem?_range h]; rfl
  · rw [List.getElem?_eq_none (by simpa using h)]; rfl
theorem filter_m {α β : Type} (l : List α) (f : α → β) (p : β → Bool) : (l.map f).filter p = (l.filter fun x => p (f x)).map f := by rw [List.filter_map]; rfl
theorem touch_depths {ts : List Int} (W : Walk ts) : f_touch_depths [.val (T ts)] = some (.val (.tuple ((List.range ts.length).map (dep ts))), [.val (T ts)]) := wo_eq <| by
  have u := need_touches_t W
  obtain ⟨_, a, rfl⟩ := all_marks W.some_ W.few
  have ul := ul20 W.few
  have few := W.few
  refine def_wo ⟨rfl, by decide⟩ ?_
  unfold g_touch_depths
  show wp (sSeq _ _ [.val (T ts), .un, .un, .un, .un, .un, .un]) _
  simp only [Q.wp_ok, Q.wp_no, Q.wo_some, Q.wo_none, Q.wo_bind, Q.wo_map, Q.wo_at0, Q.wo_atS, Q.wset_0, Q.wset_S, Q.bnd_val, Q.bnd_hot, Q.wp_eVar, Q.asArg_val, Q.asArg_hot, Q.wp_eArg, Q.wp_eC, Q.wp_cold, Q.wp_toCold_c, Q.wp_toCold_h, Q.chill_val, Q.chill_hot, Q.wp_toCold_s, Q.wp_own, Q.wp_toOwn_c, Q.wp_toOwn_h, Q.wp_toOwn_s, Q.giveBack_val, Q.giveBack_hot, Q.wp_toRet_c, Q.wp_toRet_h, Q.wp_toRet_s, Q.wp_aNil, Q.wp_aCons, Q.wp_bin, Q.wp_una, Q.wp_dat1, Q.wp_dat2, Q.wp_whole2, Q.view_c, Q.view_h, Q.view_s, Q.sview_v, Q.sview_h, Q.data_l, Q.data_d, Q.viewC_c, Q.viewC_h, Q.viewC_s, Q.sviewC_v, Q.sviewC_h, Q.dataC_l, Q.dataC_d, Q.plain_n, Q.plain_b, Q.plain_i, Q.plain_s, Q.plain_l, Q.plain_t, Q.wp_asB, Q.boolR_c, Q.boolS_v, Q.boolR_s, Q.wp_bAnd, Q.wp_bOr, Q.wp_bNot, Q.wp_eAnd, Q.wp_eOr, Q.wp_eNot, Q.wp_eIf, Q.wp_tTrue, Q.wp_sNx, Q.wp_never, Q.seqK_nx, Q.seqK_rt, Q.seqK_bk, Q.seqK_ct, Q.wp_sSeq, Q.wp_sExpr, Q.wp_sRet, Q.wp_sIf, Q.wp_putS, Q.wp_sSet, Q.set_val, Q.set_un, Q.set_hot, Q.sl_cold, Q.sl_hot, Q.wp_sTg, Q.ex_cold, Q.asg_nm, Q.asg_tp, Q.asgs_nil, Q.asgs_cons, Q.wputs_nil, Q.wputs_cons, Q.wp_sPar, Q.colds_nil, Q.colds_c, Q.wp_eTup, Q.wp_eLst, Q.wp_eDic0, Q.viewsC_nil, Q.viewsC_c, Q.wp_eB, Q.toArgs_nil, Q.toArgs_c, Q.lend_hot, Q.toArgs_s, Q.slotPos_c, Q.backA_nil, Q.backA_c, Q.takeBack_hot, Q.backA_s, Q.resR_v, Q.resR_h, Q.wp_callE, Q.resS_c, Q.resS_h, Q.resS_n, Q.wp_eMt, Q.wp_eMt0, Q.chg_lst, Q.wp_mAppend, Q.wp_mPopAt, Q.wp_mPop, Q.wp_mDat, Q.tyD_l, Q.tyD_t, Q.tyD_d, Q.isTy_o, Q.wp_oNone, Q.intD_i, Q.wp_oSome, Q.wp_eCut, Q.cut_l, Q.cut_t, Q.wp_eIsi, Q.wp_eLRg1, Q.wp_iRng1, Q.wp_iRng2, Q.seq_l, Q.seq_t, Q.wp_iCold, Q.wp_iEnumC, Q.walked_v, Q.walked_h, Q.wp_iSlot, Q.unlk_none, Q.wp_sFor, Q.turnK_nx, Q.turnK_ct, Q.turnK_bk, Q.turnK_rt, Q.add_ii, Q.add_ll, Q.add_tt, Q.sub_ii, Q.mul_ii, Q.mul_li, Q.mul_ti, Q.div_ii, Q.mod_ii, Q.pow_ii, Q.neg_i, Q.rev_l, Q.ix_l, Q.ix_t, Q.ix_d, Q.eq_xy, Q.ne_xy, Q.ord_ii, Q.in_w, Q.notin_w, Q.in_l, Q.in_t, Q.is_w, Q.isnot_w, Q.isq_n, Q.isNone_n, Q.isNone_i, Q.isNone_t, Q.isNone_l, Q.len_l, Q.len_t, Q.list_l, Q.list_t, Q.tup_l, Q.tup_t, Q.abs_i, Q.int_i, Q.int_b, Q.min_ii, Q.max_ii, Q.min_l, Q.max_l, Q.sum_l, Q.sort_l, Q.wo_asInts, Q.wo_asInts0, Q.wo_asIntsC, Q.key_i, Q.key_s, Q.wp_eLenSet, Q.lenSet_t, Q.wp_eChain, Q.store_l, Q.store_d, Q.wo_stI, Q.wp_sSub, Q.wp_sAugS, Q.aug_v, Q.wp_sAug, Q.ip_ii, Q.hI_ii, Q.wp_eLenScr, Q.wp_eIxScr, Q.scr_is, Q.cap_iff, Q.rng_iff, Q.lrg_iff, Q.div_iff, Q.mul_iff, Q.pow_iff, Q.size_lt, Q.free_pin, Q.free_lk, Q.lent_lk, Q.ff, Q.ft, Q.tt, Q.ffp, Q.dt, Q.df, Q.ndt, Q.ndf, Q.wo_ret, Q.fin_hot, Q.fin_val, Q.fin_nil, Q.ownOk_nil, Q.ownOk_cons, Q.hot_v, Q.hot_u, Q.wipe_0, Q.wipe_1, Q.back_0, Q.back_1, Q.slotPos_nil, List.set_cons_zero, List.set_cons_succ, List.getElem?_cons_zero, List.getElem?_cons_succ, List.length_cons, List.length_nil, Nat.zero_add, Nat.reduceAdd, Nat.reduceLeDiff, true_and, and_true, and_self, Bool.not_true, Bool.not_false, List.cons_append, List.nil_append, Q.wput_is, Q.true_imp, imp_self, implies_true, true_or, or_true, u, a]
  refine ⟨by simp; omega, wp_forL (fun i e => ∃ s1 s3 s4, s3.isHot = false ∧ s4.settable = true ∧ (s1 = .hot Md.free (.lst ((List.range (usort ts).length).map fun k => .tuple ((marks ts (k : Nat)).map .bool))) ∨ s1 = .val (.list ((List.range (usort ts).length).map fun k => .tuple ((marks ts (k : Nat)).map .bool)))) ∧ e = [.val (T ts), s1, .hot Md.free (.lst ((List.range i).map (dep ts))), s3, s4, .un, .un]) (k := 0) ⟨_, .un, .un, rfl, rfl, .inl rfl, rfl⟩ (fun i d e hd he => ?_) fun e he => ?_⟩
  · obtain ⟨s1, s3, s4, n3, n4, h1, rfl⟩ := he
    rw [rngD_at] at hd
    split at hd
    · rename_i hi
      cases hd
      rw [Int.toNat_natCast, List.length_map] at hi
      have st : s3.settable = true := by cases s3 <;> first | rfl | cases n3
      simp only [Nat.zero_add, Int.zero_add]
      simp only [Q.wp_ok, Q.wp_no, Q.wo_some, Q.wo_none, Q.wo_bind, Q.wo_map, Q.wo_at0, Q.wo_atS, Q.wset_0, Q.wset_S, Q.bnd_val, Q.bnd_hot, Q.wp_eVar, Q.asArg_val, Q.asArg_hot, Q.wp_eArg, Q.wp_eC, Q.wp_cold, Q.wp_toCold_c, Q.wp_toCold_h, Q.chill_val, Q.chill_hot, Q.wp_toCold_s, Q.wp_own, Q.wp_toOwn_c, Q.wp_toOwn_h, Q.wp_toOwn_s, Q.giveBack_val, Q.giveBack_hot, Q.wp_toRet_c, Q.wp_toRet_h, Q.wp_toRet_s, Q.wp_aNil, Q.wp_aCons, Q.wp_bin, Q.wp_una, Q.wp_dat1, Q.wp_dat2, Q.wp_whole2, Q.view_c, Q.view_h, Q.view_s, Q.sview_v, Q.sview_h, Q.data_l, Q.data_d, Q.viewC_c, Q.viewC_h, Q.viewC_s, Q.sviewC_v, Q.sviewC_h, Q.dataC_l, Q.dataC_d, Q.plain_n, Q.plain_b, Q.plain_i, Q.plain_s, Q.plain_l, Q.plain_t, Q.wp_asB, Q.boolR_c, Q.boolS_v, Q.boolR_s, Q.wp_bAnd, Q.wp_bOr, Q.wp_bNot, Q.wp_eAnd, Q.wp_eOr, Q.wp_eNot, Q.wp_eIf, Q.wp_tTrue, Q.wp_sNx, Q.wp_never, Q.seqK_nx, Q.seqK_rt, Q.seqK_bk, Q.seqK_ct, Q.wp_sSeq, Q.wp_sExpr, Q.wp_sRet, Q.wp_sIf, Q.wp_putS, Q.wp_sSet, Q.set_val, Q.set_un, Q.set_hot, Q.sl_cold, Q.sl_hot, Q.wp_sTg, Q.ex_cold, Q.asg_nm, Q.asg_tp, Q.asgs_nil, Q.asgs_cons, Q.wputs_nil, Q.wputs_cons, Q.wp_sPar, Q.colds_nil, Q.colds_c, Q.wp_eTup, Q.wp_eLst, Q.wp_eDic0, Q.viewsC_nil, Q.viewsC_c, Q.wp_eB, Q.toArgs_nil, Q.toArgs_c, Q.lend_hot, Q.toArgs_s, Q.slotPos_c, Q.backA_nil, Q.backA_c, Q.takeBack_hot, Q.backA_s, Q.resR_v, Q.resR_h, Q.wp_callE, Q.resS_c, Q.resS_h, Q.resS_n, Q.wp_eMt, Q.wp_eMt0, Q.chg_lst, Q.wp_mAppend, Q.wp_mPopAt, Q.wp_mPop, Q.wp_mDat, Q.tyD_l, Q.tyD_t, Q.tyD_d, Q.isTy_o, Q.wp_oNone, Q.intD_i, Q.wp_oSome, Q.wp_eCut, Q.cut_l, Q.cut_t, Q.wp_eIsi, Q.wp_eLRg1, Q.wp_iRng1, Q.wp_iRng2, Q.seq_l, Q.seq_t, Q.wp_iCold, Q.wp_iEnumC, Q.walked_v, Q.walked_h, Q.wp_iSlot, Q.unlk_none, Q.wp_sFor, Q.turnK_nx, Q.turnK_ct, Q.turnK_bk, Q.turnK_rt, Q.add_ii, Q.add_ll, Q.add_tt, Q.sub_ii, Q.mul_ii, Q.mul_li, Q.mul_ti, Q.div_ii, Q.mod_ii, Q.pow_ii, Q.neg_i, Q.rev_l, Q.ix_l, Q.ix_t, Q.ix_d, Q.eq_xy, Q.ne_xy, Q.ord_ii, Q.in_w, Q.notin_w, Q.in_l, Q.in_t, Q.is_w, Q.isnot_w, Q.isq_n, Q.isNone_n, Q.isNone_i, Q.isNone_t, Q.isNone_l, Q.len_l, Q.len_t, Q.list_l, Q.list_t, Q.tup_l, Q.tup_t, Q.abs_i, Q.int_i, Q.int_b, Q.min_ii, Q.max_ii, Q.min_l, Q.max_l, Q.sum_l, Q.sort_l, Q.wo_asInts, Q.wo_asInts0, Q.wo_asIntsC, Q.key_i, Q.key_s, Q.wp_eLenSet, Q.lenSet_t, Q.wp_eChain, Q.store_l, Q.store_d, Q.wo_stI, Q.wp_sSub, Q.wp_sAugS, Q.aug_v, Q.wp_sAug, Q.ip_ii, Q.hI_ii, Q.wp_eLenScr, Q.wp_eIxScr, Q.scr_is, Q.cap_iff, Q.rng_iff, Q.lrg_iff, Q.div_iff, Q.mul_iff, Q.pow_iff, Q.size_lt, Q.free_pin, Q.free_lk, Q.lent_lk, Q.ff, Q.ft, Q.tt, Q.ffp, Q.dt, Q.df, Q.ndt, Q.ndf, Q.wo_ret, Q.fin_hot, Q.fin_val, Q.fin_nil, Q.ownOk_nil, Q.ownOk_cons, Q.hot_v, Q.hot_u, Q.wipe_0, Q.wipe_1, Q.back_0, Q.back_1, Q.slotPos_nil, List.set_cons_zero, List.set_cons_succ, List.getElem?_cons_zero, List.getElem?_cons_succ, List.length_cons, List.length_nil, Nat.zero_add, Nat.reduceAdd, Nat.reduceLeDiff, true_and, and_true, and_self, Bool.not_true, Bool.not_false, List.cons_append, List.nil_append, Q.wput_is, Q.true_imp, imp_self, implies_true, true_or, or_true, st]
      refine wp_eLc (onP (fun k => (marks ts k).getD i false) false) (onP (fun k => .int (k + 1)) .none) rfl ?_
      have fin : wp (iEnumC (eVar 1) [.val (T ts), s1, .hot Md.free (.lst ((List.range i).map (dep ts))), .val (.int (i : Nat)), s4, .un, .un]) fun src e => src = ⟨(List.range (usort ts).length).map fun k => .tuple [.int (k : Nat), .tuple ((marks ts (k : Nat)).map .bool)], none⟩ ∧ e = [.val (T ts), .val (.list ((List.range (usort ts).length).map fun k => .tuple ((marks ts (k : Nat)).map .bool))), .hot Md.free (.lst ((List.range i).map (dep ts))), .val (.int (i : Nat)), s4, .un, .un] := by
        rcases h1 with rfl | rfl <;> simp only [Q.wp_ok, Q.wp_no, Q.wo_some, Q.wo_none, Q.wo_bind, Q.wo_map, Q.wo_at0, Q.wo_atS, Q.wset_0, Q.wset_S, Q.bnd_val, Q.bnd_hot, Q.wp_eVar, Q.asArg_val, Q.asArg_hot, Q.wp_eArg, Q.wp_eC, Q.wp_cold, Q.wp_toCold_c, Q.wp_toCold_h, Q.chill_val, Q.chill_hot, Q.wp_toCold_s, Q.wp_own, Q.wp_toOwn_c, Q.wp_toOwn_h, Q.wp_toOwn_s, Q.giveBack_val, Q.giveBack_hot, Q.wp_toRet_c, Q.wp_toRet_h, Q.wp_toRet_s, Q.wp_aNil, Q.wp_aCons, Q.wp_bin, Q.wp_una, Q.wp_dat1, Q.wp_dat2, Q.wp_whole2, Q.view_c, Q.view_h, Q.view_s, Q.sview_v, Q.sview_h, Q.data_l, Q.data_d, Q.viewC_c, Q.viewC_h, Q.viewC_s, Q.sviewC_v, Q.sviewC_h, Q.dataC_l, Q.dataC_d, Q.plain_n, Q.plain_b, Q.plain_i, Q.plain_s, Q.plain_l, Q.plain_t, Q.wp_asB, Q.boolR_c, Q.boolS_v, Q.boolR_s, Q.wp_bAnd, Q.wp_bOr, Q.wp_bNot, Q.wp_eAnd, Q.wp_eOr, Q.wp_eNot, Q.wp_eIf, Q.wp_tTrue, Q.wp_sNx, Q.wp_never, Q.seqK_nx, Q.seqK_rt, Q.seqK_bk, Q.seqK_ct, Q.wp_sSeq, Q.wp_sExpr, Q.wp_sRet, Q.wp_sIf, Q.wp_putS, Q.wp_sSet, Q.set_val, Q.set_un, Q.set_hot, Q.sl_cold, Q.sl_hot, Q.wp_sTg, Q.ex_cold, Q.asg_nm, Q.asg_tp, Q.asgs_nil, Q.asgs_cons, Q.wputs_nil, Q.wputs_cons, Q.wp_sPar, Q.colds_nil, Q.colds_c, Q.wp_eTup, Q.wp_eLst, Q.wp_eDic0, Q.viewsC_nil, Q.viewsC_c, Q.wp_eB, Q.toArgs_nil, Q.toArgs_c, Q.lend_hot, Q.toArgs_s, Q.slotPos_c, Q.backA_nil, Q.backA_c, Q.takeBack_hot, Q.backA_s, Q.resR_v, Q.resR_h, Q.wp_callE, Q.resS_c, Q.resS_h, Q.resS_n, Q.wp_eMt, Q.wp_eMt0, Q.chg_lst, Q.wp_mAppend, Q.wp_mPopAt, Q.wp_mPop, Q.wp_mDat, Q.tyD_l, Q.tyD_t, Q.tyD_d, Q.isTy_o, Q.wp_oNone, Q.intD_i, Q.wp_oSome, Q.wp_eCut, Q.cut_l, Q.cut_t, Q.wp_eIsi, Q.wp_eLRg1, Q.wp_iRng1, Q.wp_iRng2, Q.seq_l, Q.seq_t, Q.wp_iCold, Q.wp_iEnumC, Q.walked_v, Q.walked_h, Q.wp_iSlot, Q.unlk_none, Q.wp_sFor, Q.turnK_nx, Q.turnK_ct, Q.turnK_bk, Q.turnK_rt, Q.add_ii, Q.add_ll, Q.add_tt, Q.sub_ii, Q.mul_ii, Q.mul_li, Q.mul_ti, Q.div_ii, Q.mod_ii, Q.pow_ii, Q.neg_i, Q.rev_l, Q.ix_l, Q.ix_t, Q.ix_d, Q.eq_xy, Q.ne_xy, Q.ord_ii, Q.in_w, Q.notin_w, Q.in_l, Q.in_t, Q.is_w, Q.isnot_w, Q.isq_n, Q.isNone_n, Q.isNone_i, Q.isNone_t, Q.isNone_l, Q.len_l, Q.len_t, Q.list_l, Q.list_t, Q.tup_l, Q.tup_t, Q.abs_i, Q.int_i, Q.int_b, Q.min_ii, Q.max_ii, Q.min_l, Q.max_l, Q.sum_l, Q.sort_l, Q.wo_asInts, Q.wo_asInts0, Q.wo_asIntsC, Q.key_i, Q.key_s, Q.wp_eLenSet, Q.lenSet_t, Q.wp_eChain, Q.store_l, Q.store_d, Q.wo_stI, Q.wp_sSub, Q.wp_sAugS, Q.aug_v, Q.wp_sAug, Q.ip_ii, Q.hI_ii, Q.wp_eLenScr, Q.wp_eIxScr, Q.scr_is, Q.cap_iff, Q.rng_iff, Q.lrg_iff, Q.div_iff, Q.mul_iff, Q.pow_iff, Q.size_lt, Q.free_pin, Q.free_lk, Q.lent_lk, Q.ff, Q.ft, Q.tt, Q.ffp, Q.dt, Q.df, Q.ndt, Q.ndf, Q.wo_ret, Q.fin_hot, Q.fin_val, Q.fin_nil, Q.ownOk_nil, Q.ownOk_cons, Q.hot_v, Q.hot_u, Q.wipe_0, Q.wipe_1, Q.back_0, Q.back_1, Q.slotPos_nil, List.set_cons_zero, List.set_cons_succ, List.getElem?_cons_zero, List.getElem?_cons_succ, List.length_cons, List.length_nil, Nat.zero_add, Nat.reduceAdd, Nat.reduceLeDiff, true_and, and_true, and_self, Bool.not_true, Bool.not_false, List.cons_append, List.nil_append, Q.wput_is, Q.true_imp, imp_self, implies_true, true_or, or_true, enum_range]
      refine wp_imp fin fun src e h => ?_
      obtain ⟨rfl, rfl⟩ := h
      simp only [Q.wp_ok, Q.wp_no, Q.wo_some, Q.wo_none, Q.wo_bind, Q.wo_map, Q.wo_at0, Q.wo_atS, Q.wset_0, Q.wset_S, Q.bnd_val, Q.bnd_hot, Q.wp_eVar, Q.asArg_val, Q.asArg_hot, Q.wp_eArg, Q.wp_eC, Q.wp_cold, Q.wp_toCold_c, Q.wp_toCold_h, Q.chill_val, Q.chill_hot, Q.wp_toCold_s, Q.wp_own, Q.wp_toOwn_c, Q.wp_toOwn_h, Q.wp_toOwn_s, Q.giveBack_val, Q.giveBack_hot, Q.wp_toRet_c, Q.wp_toRet_h, Q.wp_toRet_s, Q.wp_aNil, Q.wp_aCons, Q.wp_bin, Q.wp_una, Q.wp_dat1, Q.wp_dat2, Q.wp_whole2, Q.view_c, Q.view_h, Q.view_s, Q.sview_v, Q.sview_h, Q.data_l, Q.data_d, Q.viewC_c, Q.viewC_h, Q.viewC_s, Q.sviewC_v, Q.sviewC_h, Q.dataC_l, Q.dataC_d, Q.plain_n, Q.plain_b, Q.plain_i, Q.plain_s, Q.plain_l, Q.plain_t, Q.wp_asB, Q.boolR_c, Q.boolS_v, Q.boolR_s, Q.wp_bAnd, Q.wp_bOr, Q.wp_bNot, Q.wp_eAnd, Q.wp_eOr, Q.wp_eNot, Q.wp_eIf, Q.wp_tTrue, Q.wp_sNx, Q.wp_never, Q.seqK_nx, Q.seqK_rt, Q.seqK_bk, Q.seqK_ct, Q.wp_sSeq, Q.wp_sExpr, Q.wp_sRet, Q.wp_sIf, Q.wp_putS, Q.wp_sSet, Q.set_val, Q.set_un, Q.set_hot, Q.sl_cold, Q.sl_hot, Q.wp_sTg, Q.ex_cold, Q.asg_nm, Q.asg_tp, Q.asgs_nil, Q.asgs_cons, Q.wputs_nil, Q.wputs_cons, Q.wp_sPar, Q.colds_nil, Q.colds_c, Q.wp_eTup, Q.wp_eLst, Q.wp_eDic0, Q.viewsC_nil, Q.viewsC_c, Q.wp_eB, Q.toArgs_nil, Q.toArgs_c, Q.lend_hot, Q.toArgs_s, Q.slotPos_c, Q.backA_nil, Q.backA_c, Q.takeBack_hot, Q.backA_s, Q.resR_v, Q.resR_h, Q.wp_callE, Q.resS_c, Q.resS_h, Q.resS_n, Q.wp_eMt, Q.wp_eMt0, Q.chg_lst, Q.wp_mAppend, Q.wp_mPopAt, Q.wp_mPop, Q.wp_mDat, Q.tyD_l, Q.tyD_t, Q.tyD_d, Q.isTy_o, Q.wp_oNone, Q.intD_i, Q.wp_oSome, Q.wp_eCut, Q.cut_l, Q.cut_t, Q.wp_eIsi, Q.wp_eLRg1, Q.wp_iRng1, Q.wp_iRng2, Q.seq_l, Q.seq_t, Q.wp_iCold, Q.wp_iEnumC, Q.walked_v, Q.walked_h, Q.wp_iSlot, Q.unlk_none, Q.wp_sFor, Q.turnK_nx, Q.turnK_ct, Q.turnK_bk, Q.turnK_rt, Q.add_ii, Q.add_ll, Q.add_tt, Q.sub_ii, Q.mul_ii, Q.mul_li, Q.mul_ti, Q.div_ii, Q.mod_ii, Q.pow_ii, Q.neg_i, Q.rev_l, Q.ix_l, Q.ix_t, Q.ix_d, Q.eq_xy, Q.ne_xy, Q.ord_ii, Q.in_w, Q.notin_w, Q.in_l, Q.in_t, Q.is_w, Q.isnot_w, Q.isq_n, Q.isNone_n, Q.isNone_i, Q.isNone_t, Q.isNone_l, Q.len_l, Q.len_t, Q.list_l, Q.list_t, Q.tup_l, Q.tup_t, Q.abs_i, Q.int_i, Q.int_b, Q.min_ii, Q.max_ii, Q.min_l, Q.max_l, Q.sum_l, Q.sort_l, Q.wo_asInts, Q.wo_asInts0, Q.wo_asIntsC, Q.key_i, Q.key_s, Q.wp_eLenSet, Q.lenSet_t, Q.wp_eChain, Q.store_l, Q.store_d, Q.wo_stI, Q.wp_sSub, Q.wp_sAugS, Q.aug_v, Q.wp_sAug, Q.ip_ii, Q.hI_ii, Q.wp_eLenScr, Q.wp_eIxScr, Q.scr_is, Q.cap_iff, Q.rng_iff, Q.lrg_iff, Q.div_iff, Q.mul_iff, Q.pow_iff, Q.size_lt, Q.free_pin, Q.free_lk, Q.lent_lk, Q.ff, Q.ft, Q.tt, Q.ffp, Q.dt, Q.df, Q.ndt, Q.ndf, Q.wo_ret, Q.fin_hot, Q.fin_val, Q.fin_nil, Q.ownOk_nil, Q.ownOk_cons, Q.hot_v, Q.hot_u, Q.wipe_0, Q.wipe_1, Q.back_0, Q.back_1, Q.slotPos_nil, List.set_cons_zero, List.set_cons_succ, List.getElem?_cons_zero, List.getElem?_cons_succ, List.length_cons, List.length_nil, Nat.zero_add, Nat.reduceAdd, Nat.reduceLeDiff, true_and, and_true, and_self, Bool.not_true, Bool.not_false, List.cons_append, List.nil_append, Q.wput_is, Q.true_imp, imp_self, implies_true, true_or, or_true, n4]
      refine ⟨by simp; omega, fun d hd => ?_, ?_⟩
      · obtain ⟨k, hk, rfl⟩ := List.mem_map.mp hd
        have len : i < (marks ts (k : Nat)).length := by unfold marks; rw [mks_len]; exact hi
        simp only [Q.wp_ok, Q.wp_no, Q.wo_some, Q.wo_none, Q.wo_bind, Q.wo_map, Q.wo_at0, Q.wo_atS, Q.wset_0, Q.wset_S, Q.bnd_val, Q.bnd_hot, Q.wp_eVar, Q.asArg_val, Q.asArg_hot, Q.wp_eArg, Q.wp_eC, Q.wp_cold, Q.wp_toCold_c, Q.wp_toCold_h, Q.chill_val, Q.chill_hot, Q.wp_toCold_s, Q.wp_own, Q.wp_toOwn_c, Q.wp_toOwn_h, Q.wp_toOwn_s, Q.giveBack_val, Q.giveBack_hot, Q.wp_toRet_c, Q.wp_toRet_h, Q.wp_toRet_s, Q.wp_aNil, Q.wp_aCons, Q.wp_bin, Q.wp_una, Q.wp_dat1, Q.wp_dat2, Q.wp_whole2, Q.view_c, Q.view_h, Q.view_s, Q.sview_v, Q.sview_h, Q.data_l, Q.data_d, Q.viewC_c, Q.viewC_h, Q.viewC_s, Q.sviewC_v, Q.sviewC_h, Q.dataC_l, Q.dataC_d, Q.plain_n, Q.plain_b, Q.plain_i, Q.plain_s, Q.plain_l, Q.plain_t, Q.wp_asB, Q.boolR_c, Q.boolS_v, Q.boolR_s, Q.wp_bAnd, Q.wp_bOr, Q.wp_bNot, Q.wp_eAnd, Q.wp_eOr, Q.wp_eNot, Q.wp_eIf, Q.wp_tTrue, Q.wp_sNx, Q.wp_never, Q.seqK_nx, Q.seqK_rt, Q.seqK_bk, Q.seqK_ct, Q.wp_sSeq, Q.wp_sExpr, Q.wp_sRet, Q.wp_sIf, Q.wp_putS, Q.wp_sSet, Q.set_val, Q.set_un, Q.set_hot, Q.sl_cold, Q.sl_hot, Q.wp_sTg, Q.ex_cold, Q.asg_nm, Q.asg_tp, Q.asgs_nil, Q.asgs_cons, Q.wputs_nil, Q.wputs_cons, Q.wp_sPar, Q.colds_nil, Q.colds_c, Q.wp_eTup, Q.wp_eLst, Q.wp_eDic0, Q.viewsC_nil, Q.viewsC_c, Q.wp_eB, Q.toArgs_nil, Q.toArgs_c, Q.lend_hot, Q.toArgs_s, Q.slotPos_c, Q.backA_nil, Q.backA_c, Q.takeBack_hot, Q.backA_s, Q.resR_v, Q.resR_h, Q.wp_callE, Q.resS_c, Q.resS_h, Q.resS_n, Q.wp_eMt, Q.wp_eMt0, Q.chg_lst, Q.wp_mAppend, Q.wp_mPopAt, Q.wp_mPop, Q.wp_mDat, Q.tyD_l, Q.tyD_t, Q.tyD_d, Q.isTy_o, Q.wp_oNone, Q.intD_i, Q.wp_oSome, Q.wp_eCut, Q.cut_l, Q.cut_t, Q.wp_eIsi, Q.wp_eLRg1, Q.wp_iRng1, Q.wp_iRng2, Q.seq_l, Q.seq_t, Q.wp_iCold, Q.wp_iEnumC, Q.walked_v, Q.walked_h, Q.wp_iSlot, Q.unlk_none, Q.wp_sFor, Q.turnK_nx, Q.turnK_ct, Q.turnK_bk, Q.turnK_rt, Q.add_ii, Q.add_ll, Q.add_tt, Q.sub_ii, Q.mul_ii, Q.mul_li, Q.mul_ti, Q.div_ii, Q.mod_ii, Q.pow_ii, Q.neg_i, Q.rev_l, Q.ix_l, Q.ix_t, Q.ix_d, Q.eq_xy, Q.ne_xy, Q.ord_ii, Q.in_w, Q.notin_w, Q.in_l, Q.in_t, Q.is_w, Q.isnot_w, Q.isq_n, Q.isNone_n, Q.isNone_i, Q.isNone_t, Q.isNone_l, Q.len_l, Q.len_t, Q.list_l, Q.list_t, Q.tup_l, Q.tup_t, Q.abs_i, Q.int_i, Q.int_b, Q.min_ii, Q.max_ii, Q.min_l, Q.max_l, Q.sum_l, Q.sort_l, Q.wo_asInts, Q.wo_asInts0, Q.wo_asIntsC, Q.key_i, Q.key_s, Q.wp_eLenSet, Q.lenSet_t, Q.wp_eChain, Q.store_l, Q.store_d, Q.wo_stI, Q.wp_sSub, Q.wp_sAugS, Q.aug_v, Q.wp_sAug, Q.ip_ii, Q.hI_ii, Q.wp_eLenScr, Q.wp_eIxScr, Q.scr_is, Q.cap_iff, Q.rng_iff, Q.lrg_iff, Q.div_iff, Q.mul_iff, Q.pow_iff, Q.size_lt, Q.free_pin, Q.free_lk, Q.lent_lk, Q.ff, Q.ft, Q.tt, Q.ffp, Q.dt, Q.df, Q.ndt, Q.ndf, Q.wo_ret, Q.fin_hot, Q.fin_val, Q.fin_nil, Q.ownOk_nil, Q.ownOk_cons, Q.hot_v, Q.hot_u, Q.wipe_0, Q.wipe_1, Q.back_0, Q.back_1, Q.slotPos_nil, List.set_cons_zero, List.set_cons_succ, List.getElem?_cons_zero, List.getElem?_cons_succ, List.length_cons, List.length_nil, Nat.zero_add, Nat.reduceAdd, Nat.reduceLeDiff, true_and, and_true, and_self, Bool.not_true, Bool.not_false, List.cons_append, List.nil_append, Q.wput_is, Q.true_imp, imp_self, implies_true, true_or, or_true, atI_bools _ _ len, onP]
      · rw [filter_m]
        simp only [onP]
        rw [List.map_map]
        have last : ∀ d, d = dep ts i → (List.range i).map (dep ts) ++ [d] = (List.range (i + 1)).map (dep ts) := by
          intro d hd
          rw [hd, List.range_succ, List.map_append]; rfl
        have dp : dep ts i = match ((List.range (usort ts).length).filter fun k => (marks ts (k : Nat)).getD i false).head? with
          | some k => .int ((k : Int) + 1)
          | none => .none := by
          unfold dep
          rw [List.head?_filter]
        generalize (List.range (usort ts).length).filter (fun k => (marks ts (k : Nat)).getD i false) = l at dp
        have sz : ((List.range i).map (dep ts)).length < 16777216 := by simp; omega
        cases l with
        | nil =>
          simp only [Q.wp_ok, Q.wp_no, Q.wo_some, Q.wo_none, Q.wo_bind, Q.wo_map, Q.wo_at0, Q.wo_atS, Q.wset_0, Q.wset_S, Q.bnd_val, Q.bnd_hot, Q.wp_eVar, Q.asArg_val, Q.asArg_hot, Q.wp_eArg, Q.wp_eC, Q.wp_cold, Q.wp_toCold_c, Q.wp_toCold_h, Q.chill_val, Q.chill_hot, Q.wp_toCold_s, Q.wp_own, Q.wp_toOwn_c, Q.wp_toOwn_h, Q.wp_toOwn_s, Q.giveBack_val, Q.giveBack_hot, Q.wp_toRet_c, Q.wp_toRet_h, Q.wp_toRet_s, Q.wp_aNil, Q.wp_aCons, Q.wp_bin, Q.wp_una, Q.wp_dat1, Q.wp_dat2, Q.wp_whole2, Q.view_c, Q.view_h, Q.view_s, Q.sview_v, Q.sview_h, Q.data_l, Q.data_d, Q.viewC_c, Q.viewC_h, Q.viewC_s, Q.sviewC_v, Q.sviewC_h, Q.dataC_l, Q.dataC_d, Q.plain_n, Q.plain_b, Q.plain_i, Q.plain_s, Q.plain_l, Q.plain_t, Q.wp_asB, Q.boolR_c, Q.boolS_v, Q.boolR_s, Q.wp_bAnd, Q.wp_bOr, Q.wp_bNot, Q.wp_eAnd, Q.wp_eOr, Q.wp_eNot, Q.wp_eIf, Q.wp_tTrue, Q.wp_sNx, Q.wp_never, Q.seqK_nx, Q.seqK_rt, Q.seqK_bk, Q.seqK_ct, Q.wp_sSeq, Q.wp_sExpr, Q.wp_sRet, Q.wp_sIf, Q.wp_putS, Q.wp_sSet, Q.set_val, Q.set_un, Q.set_hot, Q.sl_cold, Q.sl_hot, Q.wp_sTg, Q.ex_cold, Q.asg_nm, Q.asg_tp, Q.asgs_nil, Q.asgs_cons, Q.wputs_nil, Q.wputs_cons, Q.wp_sPar, Q.colds_nil, Q.colds_c, Q.wp_eTup, Q.wp_eLst, Q.wp_eDic0, Q.viewsC_nil, Q.viewsC_c, Q.wp_eB, Q.toArgs_nil, Q.toArgs_c, Q.lend_hot, Q.toArgs_s, Q.slotPos_c, Q.backA_nil, Q.backA_c, Q.takeBack_hot, Q.backA_s, Q.resR_v, Q.resR_h, Q.wp_callE, Q.resS_c, Q.resS_h, Q.resS_n, Q.wp_eMt, Q.wp_eMt0, Q.chg_lst, Q.wp_mAppend, Q.wp_mPopAt, Q.wp_mPop, Q.wp_mDat, Q.tyD_l, Q.tyD_t, Q.tyD_d, Q.isTy_o, Q.wp_oNone, Q.intD_i, Q.wp_oSome, Q.wp_eCut, Q.cut_l, Q.cut_t, Q.wp_eIsi, Q.wp_eLRg1, Q.wp_iRng1, Q.wp_iRng2, Q.seq_l, Q.seq_t, Q.wp_iCold, Q.wp_iEnumC, Q.walked_v, Q.walked_h, Q.wp_iSlot, Q.unlk_none, Q.wp_sFor, Q.turnK_nx, Q.turnK_ct, Q.turnK_bk, Q.turnK_rt, Q.add_ii, Q.add_ll, Q.add_tt, Q.sub_ii, Q.mul_ii, Q.mul_li, Q.mul_ti, Q.div_ii, Q.mod_ii, Q.pow_ii, Q.neg_i, Q.rev_l, Q.ix_l, Q.ix_t, Q.ix_d, Q.eq_xy, Q.ne_xy, Q.ord_ii, Q.in_w, Q.notin_w, Q.in_l, Q.in_t, Q.is_w, Q.isnot_w, Q.isq_n, Q.isNone_n, Q.isNone_i, Q.isNone_t, Q.isNone_l, Q.len_l, Q.len_t, Q.list_l, Q.list_t, Q.tup_l, Q.tup_t, Q.abs_i, Q.int_i, Q.int_b, Q.min_ii, Q.max_ii, Q.min_l, Q.max_l, Q.sum_l, Q.sort_l, Q.wo_asInts, Q.wo_asInts0, Q.wo_asIntsC, Q.key_i, Q.key_s, Q.wp_eLenSet, Q.lenSet_t, Q.wp_eChain, Q.store_l, Q.store_d, Q.wo_stI, Q.wp_sSub, Q.wp_sAugS, Q.aug_v, Q.wp_sAug, Q.ip_ii, Q.hI_ii, Q.wp_eLenScr, Q.wp_eIxScr, Q.scr_is, Q.cap_iff, Q.rng_iff, Q.lrg_iff, Q.div_iff, Q.mul_iff, Q.pow_iff, Q.size_lt, Q.free_pin, Q.free_lk, Q.lent_lk, Q.ff, Q.ft, Q.tt, Q.ffp, Q.dt, Q.df, Q.ndt, Q.ndf, Q.wo_ret, Q.fin_hot, Q.fin_val, Q.fin_nil, Q.ownOk_nil, Q.ownOk_cons, Q.hot_v, Q.hot_u, Q.wipe_0, Q.wipe_1, Q.back_0, Q.back_1, Q.slotPos_nil, List.set_cons_zero, List.set_cons_succ, List.getElem?_cons_zero, List.getElem?_cons_succ, List.length_cons, List.length_nil, Nat.zero_add, Nat.reduceAdd, Nat.reduceLeDiff, true_and, and_true, and_self, Bool.not_true, Bool.not_false, List.cons_append, List.nil_append, Q.wput_is, Q.true_imp, imp_self, implies_true, true_or, or_true, List.map_nil, Int.reduceLT, Int.lt_irrefl, false_imp_iff, not_false_eq_true, Int.natCast_zero, sz]
          rw [last .none dp.symm]
          exact ⟨_, .val (.int (i : Nat)), .hot Md.free (.lst []), rfl, rfl, .inr rfl, rfl⟩
        | cons k l =>
          have p : 0 < (((k :: l).map (onP (fun k => PySem.PyData.int (k + 1)) .none ∘ fun k => .tuple [.int (k : Nat), .tuple ((marks ts (k : Nat)).map .bool)])).length : Int) := by simp
          simp only [p, not_true_eq_false, false_imp_iff, true_imp, and_true]
          refine wo_of (a := .int ((k : Int) + 1)) (by unfold L2.atI L2.ixN; simp [onP]) ?_
          simp only [Q.wp_ok, Q.wp_no, Q.wo_some, Q.wo_none, Q.wo_bind, Q.wo_map, Q.wo_at0, Q.wo_atS, Q.wset_0, Q.wset_S, Q.bnd_val, Q.bnd_hot, Q.wp_eVar, Q.asArg_val, Q.asArg_hot, Q.wp_eArg, Q.wp_eC, Q.wp_cold, Q.wp_toCold_c, Q.wp_toCold_h, Q.chill_val, Q.chill_hot, Q.wp_toCold_s, Q.wp_own, Q.wp_toOwn_c, Q.wp_toOwn_h, Q.wp_toOwn_s, Q.giveBack_val, Q.giveBack_hot, Q.wp_toRet_c, Q.wp_toRet_h, Q.wp_toRet_s, Q.wp_aNil, Q.wp_aCons, Q.wp_bin, Q.wp_una, Q.wp_dat1, Q.wp_dat2, Q.wp_whole2, Q.view_c, Q.view_h, Q.view_s, Q.sview_v, Q.sview_h, Q.data_l, Q.data_d, Q.viewC_c, Q.viewC_h, Q.viewC_s, Q.sviewC_v, Q.sviewC_h, Q.dataC_l, Q.dataC_d, Q.plain_n, Q.plain_b, Q.plain_i, Q.plain_s, Q.plain_l, Q.plain_t, Q.wp_asB, Q.boolR_c, Q.boolS_v, Q.boolR_s, Q.wp_bAnd, Q.wp_bOr, Q.wp_bNot, Q.wp_eAnd, Q.wp_eOr, Q.wp_eNot, Q.wp_eIf, Q.wp_tTrue, Q.wp_sNx, Q.wp_never, Q.seqK_nx, Q.seqK_rt, Q.seqK_bk, Q.seqK_ct, Q.wp_sSeq, Q.wp_sExpr, Q.wp_sRet, Q.wp_sIf, Q.wp_putS, Q.wp_sSet, Q.set_val, Q.set_un, Q.set_hot, Q.sl_cold, Q.sl_hot, Q.wp_sTg, Q.ex_cold, Q.asg_nm, Q.asg_tp, Q.asgs_nil, Q.asgs_cons, Q.wputs_nil, Q.wputs_cons, Q.wp_sPar, Q.colds_nil, Q.colds_c, Q.wp_eTup, Q.wp_eLst, Q.wp_eDic0, Q.viewsC_nil, Q.viewsC_c, Q.wp_eB, Q.toArgs_nil, Q.toArgs_c, Q.lend_hot, Q.toArgs_s, Q.slotPos_c, Q.backA_nil, Q.backA_c, Q.takeBack_hot, Q.backA_s, Q.resR_v, Q.resR_h, Q.wp_callE, Q.resS_c, Q.resS_h, Q.resS_n, Q.wp_eMt, Q.wp_eMt0, Q.chg_lst, Q.wp_mAppend, Q.wp_mPopAt, Q.wp_mPop, Q.wp_mDat, Q.tyD_l, Q.tyD_t, Q.tyD_d, Q.isTy_o, Q.wp_oNone, Q.intD_i, Q.wp_oSome, Q.wp_eCut, Q.cut_l, Q.cut_t, Q.wp_eIsi, Q.wp_eLRg1, Q.wp_iRng1, Q.wp_iRng2, Q.seq_l, Q.seq_t, Q.wp_iCold, Q.wp_iEnumC, Q.walked_v, Q.walked_h, Q.wp_iSlot, Q.unlk_none, Q.wp_sFor, Q.turnK_nx, Q.turnK_ct, Q.turnK_bk, Q.turnK_rt, Q.add_ii, Q.add_ll, Q.add_tt, Q.sub_ii, Q.mul_ii, Q.mul_li, Q.mul_ti, Q.div_ii, Q.mod_ii, Q.pow_ii, Q.neg_i, Q.rev_l, Q.ix_l, Q.ix_t, Q.ix_d, Q.eq_xy, Q.ne_xy, Q.ord_ii, Q.in_w, Q.notin_w, Q.in_l, Q.in_t, Q.is_w, Q.isnot_w, Q.isq_n, Q.isNone_n, Q.isNone_i, Q.isNone_t, Q.isNone_l, Q.len_l, Q.len_t, Q.list_l, Q.list_t, Q.tup_l, Q.tup_t, Q.abs_i, Q.int_i, Q.int_b, Q.min_ii, Q.max_ii, Q.min_l, Q.max_l, Q.sum_l, Q.sort_l, Q.wo_asInts, Q.wo_asInts0, Q.wo_asIntsC, Q.key_i, Q.key_s, Q.wp_eLenSet, Q.lenSet_t, Q.wp_eChain, Q.store_l, Q.store_d, Q.wo_stI, Q.wp_sSub, Q.wp_sAugS, Q.aug_v, Q.wp_sAug, Q.ip_ii, Q.hI_ii, Q.wp_eLenScr, Q.wp_eIxScr, Q.scr_is, Q.cap_iff, Q.rng_iff, Q.lrg_iff, Q.div_iff, Q.mul_iff, Q.pow_iff, Q.size_lt, Q.free_pin, Q.free_lk, Q.lent_lk, Q.ff, Q.ft, Q.tt, Q.ffp, Q.dt, Q.df, Q.ndt, Q.ndf, Q.wo_ret, Q.fin_hot, Q.fin_val, Q.fin_nil, Q.ownOk_nil, Q.ownOk_cons, Q.hot_v, Q.hot_u, Q.wipe_0, Q.wipe_1, Q.back_0, Q.back_1, Q.slotPos_nil, List.set_cons_zero, List.set_cons_succ, List.getElem?_cons_zero, List.getElem?_cons_succ, List.length_cons, List.length_nil, Nat.zero_add, Nat.reduceAdd, Nat.reduceLeDiff, true_and, and_true, and_self, Bool.not_true, Bool.not_false, List.cons_append, List.nil_append, Q.wput_is, Q.true_imp, imp_self, implies_true, true_or, or_true, sz]
          rw [last (.int ((k : Int) + 1)) dp.symm]
          exact ⟨_, .val (.int (i : Nat)), .hot Md.free (.lst _), rfl, rfl, .inr rfl, rfl⟩
    · cases hd
  · obtain ⟨s1, s3, s4, n3, n4, h1, rfl⟩ := he
    rw [Nat.zero_add, rngD_len, Int.toNat_natCast, List.length_map]
    simp only [Q.wp_ok, Q.wp_no, Q.wo_some, Q.wo_none, Q.wo_bind, Q.wo_map, Q.wo_at0, Q.wo_atS, Q.wset_0, Q.wset_S, Q.bnd_val, Q.bnd_hot, Q.wp_eVar, Q.asArg_val, Q.asArg_hot, Q.wp_eArg, Q.wp_eC, Q.wp_cold, Q.wp_toCold_c, Q.wp_toCold_h, Q.chill_val, Q.chill_hot, Q.wp_toCold_s, Q.wp_own, Q.wp_toOwn_c, Q.wp_toOwn_h, Q.wp_toOwn_s, Q.giveBack_val, Q.giveBack_hot, Q.wp_toRet_c, Q.wp_toRet_h, Q.wp_toRet_s, Q.wp_aNil, Q.wp_aCons, Q.wp_bin, Q.wp_una, Q.wp_dat1, Q.wp_dat2, Q.wp_whole2, Q.view_c, Q.view_h, Q.view_s, Q.sview_v, Q.sview_h, Q.data_l, Q.data_d, Q.viewC_c, Q.viewC_h, Q.viewC_s, Q.sviewC_v, Q.sviewC_h, Q.dataC_l, Q.dataC_d, Q.plain_n, Q.plain_b, Q.plain_i, Q.plain_s, Q.plain_l, Q.plain_t, Q.wp_asB, Q.boolR_c, Q.boolS_v, Q.boolR_s, Q.wp_bAnd, Q.wp_bOr, Q.wp_bNot, Q.wp_eAnd, Q.wp_eOr, Q.wp_eNot, Q.wp_eIf, Q.wp_tTrue, Q.wp_sNx, Q.wp_never, Q.seqK_nx, Q.seqK_rt, Q.seqK_bk, Q.seqK_ct, Q.wp_sSeq, Q.wp_sExpr, Q.wp_sRet, Q.wp_sIf, Q.wp_putS, Q.wp_sSet, Q.set_val, Q.set_un, Q.set_hot, Q.sl_cold, Q.sl_hot, Q.wp_sTg, Q.ex_cold, Q.asg_nm, Q.asg_tp, Q.asgs_nil, Q.asgs_cons, Q.wputs_nil, Q.wputs_cons, Q.wp_sPar, Q.colds_nil, Q.colds_c, Q.wp_eTup, Q.wp_eLst, Q.wp_eDic0, Q.viewsC_nil, Q.viewsC_c, Q.wp_eB, Q.toArgs_nil, Q.toArgs_c, Q.lend_hot, Q.toArgs_s, Q.slotPos_c, Q.backA_nil, Q.backA_c, Q.takeBack_hot, Q.backA_s, Q.resR_v, Q.resR_h, Q.wp_callE, Q.resS_c, Q.resS_h, Q.resS_n, Q.wp_eMt, Q.wp_eMt0, Q.chg_lst, Q.wp_mAppend, Q.wp_mPopAt, Q.wp_mPop, Q.wp_mDat, Q.tyD_l, Q.tyD_t, Q.tyD_d, Q.isTy_o, Q.wp_oNone, Q.intD_i, Q.wp_oSome, Q.wp_eCut, Q.cut_l, Q.cut_t, Q.wp_eIsi, Q.wp_eLRg1, Q.wp_iRng1, Q.wp_iRng2, Q.seq_l, Q.seq_t, Q.wp_iCold, Q.wp_iEnumC, Q.walked_v, Q.walked_h, Q.wp_iSlot, Q.unlk_none, Q.wp_sFor, Q.turnK_nx, Q.turnK_ct, Q.turnK_bk, Q.turnK_rt, Q.add_ii, Q.add_ll, Q.add_tt, Q.sub_ii, Q.mul_ii, Q.mul_li, Q.mul_ti, Q.div_ii, Q.mod_ii, Q.pow_ii, Q.neg_i, Q.rev_l, Q.ix_l, Q.ix_t, Q.ix_d, Q.eq_xy, Q.ne_xy, Q.ord_ii, Q.in_w, Q.notin_w, Q.in_l, Q.in_t, Q.is_w, Q.isnot_w, Q.isq_n, Q.isNone_n, Q.isNone_i, Q.isNone_t, Q.isNone_l, Q.len_l, Q.len_t, Q.list_l, Q.list_t, Q.tup_l, Q.tup_t, Q.abs_i, Q.int_i, Q.int_b, Q.min_ii, Q.max_ii, Q.min_l, Q.max_l, Q.sum_l, Q.sort_l, Q.wo_asInts, Q.wo_asInts0, Q.wo_asIntsC, Q.key_i, Q.key_s, Q.wp_eLenSet, Q.lenSet_t, Q.wp_eChain, Q.store_l, Q.store_d, Q.wo_stI, Q.wp_sSub, Q.wp_sAugS, Q.aug_v, Q.wp_sAug, Q.ip_ii, Q.hI_ii, Q.wp_eLenScr, Q.wp_eIxScr, Q.scr_is, Q.cap_iff, Q.rng_iff, Q.lrg_iff, Q.div_iff, Q.mul_iff, Q.pow_iff, Q.size_lt, Q.free_pin, Q.free_lk, Q.lent_lk, Q.ff, Q.ft, Q.tt, Q.ffp, Q.dt, Q.df, Q.ndt, Q.ndf, Q.wo_ret, Q.fin_hot, Q.fin_val, Q.fin_nil, Q.ownOk_nil, Q.ownOk_cons, Q.hot_v, Q.hot_u, Q.wipe_0, Q.wipe_1, Q.back_0, Q.back_1, Q.slotPos_nil, List.set_cons_zero, List.set_cons_succ, List.getElem?_cons_zero, List.getElem?_cons_succ, List.length_cons, List.length_nil, Nat.zero_add, Nat.reduceAdd, Nat.reduceLeDiff, true_and, and_true, and_self, Bool.not_true, Bool.not_false, List.cons_append, List.nil_append, Q.wput_is, Q.true_imp, imp_self, implies_true, true_or, or_true]
end K79
set_option Elab.async false
set_option linter.all false
set_option maxRecDepth 100000
set_option maxHeartbeats 4000000
namespace K79
open Q Bel
/-- the moves of a beginning -/
def bmoves (bs : List Bool) (i : Nat) : Nat := (bs.take i).count false
theorem bmoves_succ (bs : List Bool) (i : Nat) (b : Bool) (h : bs[i]? = some b) : bmoves bs (i + 1) = bmoves bs i + (if b = true then 0 else 1) := by
  unfold bmoves
  rw [List.take_add_one, h]
  cases b <;> simp
theorem beginning_moves {ts : List Int} (W : Walk ts) {r : Int} (h1 : 1 ≤ r) (h2 : r ≤ 5) : f_beginning_moves [.val (T ts), .val (.int r)] = some (.val (T ((List.range ts.length).map fun i => (bmoves (marks ts (r - 1)) (i + 1) : Int))), [.val (T ts), .val (.int r)]) := wo_eq <| by
  have u := need_lived W h1 h2
  have few := W.few
  have v := room_limits (n := ts.length) (by omega) r
  have em := end_marks W.some_ few (r - 1)
  have ml : (marks ts (r - 1)).length = ts.length := mks_len ..
  refine def_wo ⟨rfl, by decide⟩ ?_
  unfold g_beginning_moves
  show wp (sSeq _ _ [.val (T ts), .val (.int r), .un, .un, .un, .un]) _
  simp only [Q.wp_ok, Q.wp_no, Q.wo_some, Q.wo_none, Q.wo_bind, Q.wo_map, Q.wo_at0, Q.wo_atS, Q.wset_0, Q.wset_S, Q.bnd_val, Q.bnd_hot, Q.wp_eVar, Q.asArg_val, Q.asArg_hot, Q.wp_eArg, Q.wp_eC, Q.wp_cold, Q.wp_toCold_c, Q.wp_toCold_h, Q.chill_val, Q.chill_hot, Q.wp_toCold_s, Q.wp_own, Q.wp_toOwn_c, Q.wp_toOwn_h, Q.wp_toOwn_s, Q.giveBack_val, Q.giveBack_hot, Q.wp_toRet_c, Q.wp_toRet_h, Q.wp_toRet_s, Q.wp_aNil, Q.wp_aCons, Q.wp_bin, Q.wp_una, Q.wp_dat1, Q.wp_dat2, Q.wp_whole2, Q.view_c, Q.view_h, Q.view_s, Q.sview_v, Q.sview_h, Q.data_l, Q.data_d, Q.viewC_c, Q.viewC_h, Q.viewC_s, Q.sviewC_v, Q.sviewC_h, Q.dataC_l, Q.dataC_d, Q.plain_n, Q.plain_b, Q.plain_i, Q.plain_s, Q.plain_l, Q.plain_t, Q.wp_asB, Q.boolR_c, Q.boolS_v, Q.boolR_s, Q.wp_bAnd, Q.wp_bOr, Q.wp_bNot, Q.wp_eAnd, Q.wp_eOr, Q.wp_eNot, Q.wp_eIf, Q.wp_tTrue, Q.wp_sNx, Q.wp_never, Q.seqK_nx, Q.seqK_rt, Q.seqK_bk, Q.seqK_ct, Q.wp_sSeq, Q.wp_sExpr, Q.wp_sRet, Q.wp_sIf, Q.wp_putS, Q.wp_sSet, Q.set_val, Q.set_un, Q.set_hot, Q.sl_cold, Q.sl_hot, Q.wp_sTg, Q.ex_cold, Q.asg_nm, Q.asg_tp, Q.asgs_nil, Q.asgs_cons, Q.wputs_nil, Q.wputs_cons, Q.wp_sPar, Q.colds_nil, Q.colds_c, Q.wp_eTup, Q.wp_eLst, Q.wp_eDic0, Q.viewsC_nil, Q.viewsC_c, Q.wp_eB, Q.toArgs_nil, Q.toArgs_c, Q.lend_hot, Q.toArgs_s, Q.slotPos_c, Q.backA_nil, Q.backA_c, Q.takeBack_hot, Q.backA_s, Q.resR_v, Q.resR_h, Q.wp_callE, Q.resS_c, Q.resS_h, Q.resS_n, Q.wp_eMt, Q.wp_eMt0, Q.chg_lst, Q.wp_mAppend, Q.wp_mPopAt, Q.wp_mPop, Q.wp_mDat, Q.tyD_l, Q.tyD_t, Q.tyD_d, Q.isTy_o, Q.wp_oNone, Q.intD_i, Q.wp_oSome, Q.wp_eCut, Q.cut_l, Q.cut_t, Q.wp_eIsi, Q.wp_eLRg1, Q.wp_iRng1, Q.wp_iRng2, Q.seq_l, Q.seq_t, Q.wp_iCold, Q.wp_iEnumC, Q.walked_v, Q.walked_h, Q.wp_iSlot, Q.unlk_none, Q.wp_sFor, Q.turnK_nx, Q.turnK_ct, Q.turnK_bk, Q.turnK_rt, Q.add_ii, Q.add_ll, Q.add_tt, Q.sub_ii, Q.mul_ii, Q.mul_li, Q.mul_ti, Q.div_ii, Q.mod_ii, Q.pow_ii, Q.neg_i, Q.rev_l, Q.ix_l, Q.ix_t, Q.ix_d, Q.eq_xy, Q.ne_xy, Q.ord_ii, Q.in_w, Q.notin_w, Q.in_l, Q.in_t, Q.is_w, Q.isnot_w, Q.isq_n, Q.isNone_n, Q.isNone_i, Q.isNone_t, Q.isNone_l, Q.len_l, Q.len_t, Q.list_l, Q.list_t, Q.tup_l, Q.tup_t, Q.abs_i, Q.int_i, Q.int_b, Q.min_ii, Q.max_ii, Q.min_l, Q.max_l, Q.sum_l, Q.sort_l, Q.wo_asInts, Q.wo_asInts0, Q.wo_asIntsC, Q.key_i, Q.key_s, Q.wp_eLenSet, Q.lenSet_t, Q.wp_eChain, Q.store_l, Q.store_d, Q.wo_stI, Q.wp_sSub, Q.wp_sAugS, Q.aug_v, Q.wp_sAug, Q.ip_ii, Q.hI_ii, Q.wp_eLenScr, Q.wp_eIxScr, Q.scr_is, Q.cap_iff, Q.rng_iff, Q.lrg_iff, Q.div_iff, Q.mul_iff, Q.pow_iff, Q.size_lt, Q.free_pin, Q.free_lk, Q.lent_lk, Q.ff, Q.ft, Q.tt, Q.ffp, Q.dt, Q.df, Q.ndt, Q.ndf, Q.wo_ret, Q.fin_hot, Q.fin_val, Q.fin_nil, Q.ownOk_nil, Q.ownOk_cons, Q.hot_v, Q.hot_u, Q.wipe_0, Q.wipe_1, Q.back_0, Q.back_1, Q.slotPos_nil, List.set_cons_zero, List.set_cons_succ, List.getElem?_cons_zero, List.getElem?_cons_succ, List.length_cons, List.length_nil, Nat.zero_add, Nat.reduceAdd, Nat.reduceLeDiff, true_and, and_true, and_self, Bool.not_true, Bool.not_false, List.cons_append, List.nil_append, Q.wput_is, Q.true_imp, imp_self, implies_true, true_or, or_true, u, v, em]
  refine wp_forL (fun i e => ∃ s, s.settable = true ∧ e = [.val (T ts), .val (.int r), .val (T (List.replicate ts.length r)), .val (.int (bmoves (marks ts (r - 1)) i)), .hot Md.free (.lst (((List.range i).map fun i => (bmoves (marks ts (r - 1)) (i + 1) : Int)).map .int)), s]) (k := 0) ⟨.un, rfl, rfl⟩ (fun i d e hd he => ?_) fun e he => ?_
  · obtain ⟨s, hs, rfl⟩ := he
    rw [List.getElem?_map] at hd
    obtain ⟨b, hb, rfl⟩ := Option.map_eq_some_iff.mp hd
    have hi := (List.getElem?_eq_some_iff.mp hb).1
    simp only [Nat.zero_add]
    have sz : (((List.range i).map fun i => (bmoves (marks ts (r - 1)) (i + 1) : Int)).map PySem.PyData.int).length < 16777216 := by simp; omega
    simp only [Q.wp_ok, Q.wp_no, Q.wo_some, Q.wo_none, Q.wo_bind, Q.wo_map, Q.wo_at0, Q.wo_atS, Q.wset_0, Q.wset_S, Q.bnd_val, Q.bnd_hot, Q.wp_eVar, Q.asArg_val, Q.asArg_hot, Q.wp_eArg, Q.wp_eC, Q.wp_cold, Q.wp_toCold_c, Q.wp_toCold_h, Q.chill_val, Q.chill_hot, Q.wp_toCold_s, Q.wp_own, Q.wp_toOwn_c, Q.wp_toOwn_h, Q.wp_toOwn_s, Q.giveBack_val, Q.giveBack_hot, Q.wp_toRet_c, Q.wp_toRet_h, Q.wp_toRet_s, Q.wp_aNil, Q.wp_aCons, Q.wp_bin, Q.wp_una, Q.wp_dat1, Q.wp_dat2, Q.wp_whole2, Q.view_c, Q.view_h, Q.view_s, Q.sview_v, Q.sview_h, Q.data_l, Q.data_d, Q.viewC_c, Q.viewC_h, Q.viewC_s, Q.sviewC_v, Q.sviewC_h, Q.dataC_l, Q.dataC_d, Q.plain_n, Q.plain_b, Q.plain_i, Q.plain_s, Q.plain_l, Q.plain_t, Q.wp_asB, Q.boolR_c, Q.boolS_v, Q.boolR_s, Q.wp_bAnd, Q.wp_bOr, Q.wp_bNot, Q.wp_eAnd, Q.wp_eOr, Q.wp_eNot, Q.wp_eIf, Q.wp_tTrue, Q.wp_sNx, Q.wp_never, Q.seqK_nx, Q.seqK_rt, Q.seqK_bk, Q.seqK_ct, Q.wp_sSeq, Q.wp_sExpr, Q.wp_sRet, Q.wp_sIf, Q.wp_putS, Q.wp_sSet, Q.set_val, Q.set_un, Q.set_hot, Q.sl_cold, Q.sl_hot, Q.wp_sTg, Q.ex_cold, Q.asg_nm, Q.asg_tp, Q.asgs_nil, Q.asgs_cons, Q.wputs_nil, Q.wputs_cons, Q.wp_sPar, Q.colds_nil, Q.colds_c, Q.wp_eTup, Q.wp_eLst, Q.wp_eDic0, Q.viewsC_nil, Q.viewsC_c, Q.wp_eB, Q.toArgs_nil, Q.toArgs_c, Q.lend_hot, Q.toArgs_s, Q.slotPos_c, Q.backA_nil, Q.backA_c, Q.takeBack_hot, Q.backA_s, Q.resR_v, Q.resR_h, Q.wp_callE, Q.resS_c, Q.resS_h, Q.resS_n, Q.wp_eMt, Q.wp_eMt0, Q.chg_lst, Q.wp_mAppend, Q.wp_mPopAt, Q.wp_mPop, Q.wp_mDat, Q.tyD_l, Q.tyD_t, Q.tyD_d, Q.isTy_o, Q.wp_oNone, Q.intD_i, Q.wp_oSome, Q.wp_eCut, Q.cut_l, Q.cut_t, Q.wp_eIsi, Q.wp_eLRg1, Q.wp_iRng1, Q.wp_iRng2, Q.seq_l, Q.seq_t, Q.wp_iCold, Q.wp_iEnumC, Q.walked_v, Q.walked_h, Q.wp_iSlot, Q.unlk_none, Q.wp_sFor, Q.turnK_nx, Q.turnK_ct, Q.turnK_bk, Q.turnK_rt, Q.add_ii, Q.add_ll, Q.add_tt, Q.sub_ii, Q.mul_ii, Q.mul_li, Q.mul_ti, Q.div_ii, Q.mod_ii, Q.pow_ii, Q.neg_i, Q.rev_l, Q.ix_l, Q.ix_t, Q.ix_d, Q.eq_xy, Q.ne_xy, Q.ord_ii, Q.in_w, Q.notin_w, Q.in_l, Q.in_t, Q.is_w, Q.isnot_w, Q.isq_n, Q.isNone_n, Q.isNone_i, Q.isNone_t, Q.isNone_l, Q.len_l, Q.len_t, Q.list_l, Q.list_t, Q.tup_l, Q.tup_t, Q.abs_i, Q.int_i, Q.int_b, Q.min_ii, Q.max_ii, Q.min_l, Q.max_l, Q.sum_l, Q.sort_l, Q.wo_asInts, Q.wo_asInts0, Q.wo_asIntsC, Q.key_i, Q.key_s, Q.wp_eLenSet, Q.lenSet_t, Q.wp_eChain, Q.store_l, Q.store_d, Q.wo_stI, Q.wp_sSub, Q.wp_sAugS, Q.aug_v, Q.wp_sAug, Q.ip_ii, Q.hI_ii, Q.wp_eLenScr, Q.wp_eIxScr, Q.scr_is, Q.cap_iff, Q.rng_iff, Q.lrg_iff, Q.div_iff, Q.mul_iff, Q.pow_iff, Q.size_lt, Q.free_pin, Q.free_lk, Q.lent_lk, Q.ff, Q.ft, Q.tt, Q.ffp, Q.dt, Q.df, Q.ndt, Q.ndf, Q.wo_ret, Q.fin_hot, Q.fin_val, Q.fin_nil, Q.ownOk_nil, Q.ownOk_cons, Q.hot_v, Q.hot_u, Q.wipe_0, Q.wipe_1, Q.back_0, Q.back_1, Q.slotPos_nil, List.set_cons_zero, List.set_cons_succ, List.getElem?_cons_zero, List.getElem?_cons_succ, List.length_cons, List.length_nil, Nat.zero_add, Nat.reduceAdd, Nat.reduceLeDiff, true_and, and_true, and_self, Bool.not_true, Bool.not_false, List.cons_append, List.nil_append, Q.wput_is, Q.true_imp, imp_self, implies_true, true_or, or_true, hs]
    have app : ∀ x : Int, x = bmoves (marks ts (r - 1)) (i + 1) → (((List.range i).map fun i => (bmoves (marks ts (r - 1)) (i + 1) : Int)).map PySem.PyData.int) ++ [.int x] = (((List.range (i + 1)).map fun i => (bmoves (marks ts (r - 1)) (i + 1) : Int)).map PySem.PyData.int) := by
      intro x hx
      rw [hx, List.range_succ, List.map_append, List.map_append]; rfl
    have sc := bmoves_succ _ _ _ hb
    refine ⟨fun hbt => ⟨sz, .val (.bool b), rfl, ?_⟩, fun hbf => ⟨sz, .val (.bool b), rfl, ?_⟩⟩
    · have e1 : ((bmoves (marks ts (r - 1)) i : Int) + 0) = bmoves (marks ts (r - 1)) (i + 1) := by rw [sc, if_pos hbt]; omega
      rw [app _ e1, e1]
    · have e1 : ((bmoves (marks ts (r - 1)) i : Int) + 1) = bmoves (marks ts (r - 1)) (i + 1) := by rw [sc, if_neg (by rw [hbf]; simp)]; omega
      rw [app _ e1, e1]
  · obtain ⟨s, hs, rfl⟩ := he
    simp only [Q.wp_ok, Q.wp_no, Q.wo_some, Q.wo_none, Q.wo_bind, Q.wo_map, Q.wo_at0, Q.wo_atS, Q.wset_0, Q.wset_S, Q.bnd_val, Q.bnd_hot, Q.wp_eVar, Q.asArg_val, Q.asArg_hot, Q.wp_eArg, Q.wp_eC, Q.wp_cold, Q.wp_toCold_c, Q.wp_toCold_h, Q.chill_val, Q.chill_hot, Q.wp_toCold_s, Q.wp_own, Q.wp_toOwn_c, Q.wp_toOwn_h, Q.wp_toOwn_s, Q.giveBack_val, Q.giveBack_hot, Q.wp_toRet_c, Q.wp_toRet_h, Q.wp_toRet_s, Q.wp_aNil, Q.wp_aCons, Q.wp_bin, Q.wp_una, Q.wp_dat1, Q.wp_dat2, Q.wp_whole2, Q.view_c, Q.view_h, Q.view_s, Q.sview_v, Q.sview_h, Q.data_l, Q.data_d, Q.viewC_c, Q.viewC_h, Q.viewC_s, Q.sviewC_v, Q.sviewC_h, Q.dataC_l, Q.dataC_d, Q.plain_n, Q.plain_b, Q.plain_i, Q.plain_s, Q.plain_l, Q.plain_t, Q.wp_asB, Q.boolR_c, Q.boolS_v, Q.boolR_s, Q.wp_bAnd, Q.wp_bOr, Q.wp_bNot, Q.wp_eAnd, Q.wp_eOr, Q.wp_eNot, Q.wp_eIf, Q.wp_tTrue, Q.wp_sNx, Q.wp_never, Q.seqK_nx, Q.seqK_rt, Q.seqK_bk, Q.seqK_ct, Q.wp_sSeq, Q.wp_sExpr, Q.wp_sRet, Q.wp_sIf, Q.wp_putS, Q.wp_sSet, Q.set_val, Q.set_un, Q.set_hot, Q.sl_cold, Q.sl_hot, Q.wp_sTg, Q.ex_cold, Q.asg_nm, Q.asg_tp, Q.asgs_nil, Q.asgs_cons, Q.wputs_nil, Q.wputs_cons, Q.wp_sPar, Q.colds_nil, Q.colds_c, Q.wp_eTup, Q.wp_eLst, Q.wp_eDic0, Q.viewsC_nil, Q.viewsC_c, Q.wp_eB, Q.toArgs_nil, Q.toArgs_c, Q.lend_hot, Q.toArgs_s, Q.slotPos_c, Q.backA_nil, Q.backA_c, Q.takeBack_hot, Q.backA_s, Q.resR_v, Q.resR_h, Q.wp_callE, Q.resS_c, Q.resS_h, Q.resS_n, Q.wp_eMt, Q.wp_eMt0, Q.chg_lst, Q.wp_mAppend, Q.wp_mPopAt, Q.wp_mPop, Q.wp_mDat, Q.tyD_l, Q.tyD_t, Q.tyD_d, Q.isTy_o, Q.wp_oNone, Q.intD_i, Q.wp_oSome, Q.wp_eCut, Q.cut_l, Q.cut_t, Q.wp_eIsi, Q.wp_eLRg1, Q.wp_iRng1, Q.wp_iRng2, Q.seq_l, Q.seq_t, Q.wp_iCold, Q.wp_iEnumC, Q.walked_v, Q.walked_h, Q.wp_iSlot, Q.unlk_none, Q.wp_sFor, Q.turnK_nx, Q.turnK_ct, Q.turnK_bk, Q.turnK_rt, Q.add_ii, Q.add_ll, Q.add_tt, Q.sub_ii, Q.mul_ii, Q.mul_li, Q.mul_ti, Q.div_ii, Q.mod_ii, Q.pow_ii, Q.neg_i, Q.rev_l, Q.ix_l, Q.ix_t, Q.ix_d, Q.eq_xy, Q.ne_xy, Q.ord_ii, Q.in_w, Q.notin_w, Q.in_l, Q.in_t, Q.is_w, Q.isnot_w, Q.isq_n, Q.isNone_n, Q.isNone_i, Q.isNone_t, Q.isNone_l, Q.len_l, Q.len_t, Q.list_l, Q.list_t, Q.tup_l, Q.tup_t, Q.abs_i, Q.int_i, Q.int_b, Q.min_ii, Q.max_ii, Q.min_l, Q.max_l, Q.sum_l, Q.sort_l, Q.wo_asInts, Q.wo_asInts0, Q.wo_asIntsC, Q.key_i, Q.key_s, Q.wp_eLenSet, Q.lenSet_t, Q.wp_eChain, Q.store_l, Q.store_d, Q.wo_stI, Q.wp_sSub, Q.wp_sAugS, Q.aug_v, Q.wp_sAug, Q.ip_ii, Q.hI_ii, Q.wp_eLenScr, Q.wp_eIxScr, Q.scr_is, Q.cap_iff, Q.rng_iff, Q.lrg_iff, Q.div_iff, Q.mul_iff, Q.pow_iff, Q.size_lt, Q.free_pin, Q.free_lk, Q.lent_lk, Q.ff, Q.ft, Q.tt, Q.ffp, Q.dt, Q.df, Q.ndt, Q.ndf, Q.wo_ret, Q.fin_hot, Q.fin_val, Q.fin_nil, Q.ownOk_nil, Q.ownOk_cons, Q.hot_v, Q.hot_u, Q.wipe_0, Q.wipe_1, Q.back_0, Q.back_1, Q.slotPos_nil, List.set_cons_zero, List.set_cons_succ, List.getElem?_cons_zero, List.getElem?_cons_succ, List.length_cons, List.length_nil, Nat.zero_add, Nat.reduceAdd, Nat.reduceLeDiff, true_and, and_true, and_self, Bool.not_true, Bool.not_false, List.cons_append, List.nil_append, Q.wput_is, Q.true_imp, imp_self, implies_true, true_or, or_true, ml, List.length_map]

theorem atI_int (ns : List Int) (i : Int) (h0 : 0 ≤ i) (h1 : i < ns.length) : ∃ x, L2.atI (ns.map PySem.PyData.int) i = some (.int x) := by
  have := atI_ints ns i.toNat (by omega)
  rw [show ((i.toNat : Nat) : Int) = i by omega] at this
  exact ⟨_, this⟩
theorem law_box (ns : List Int) (k : Int) (hk : k = 0 ∨ k = 1) : wo (f__law_box [.val (.dict [(.none, .list (ns.map .int))]), .val (.int k)]) fun p => ∃ h, Box h ∧ p = (.hot Md.free h, [.val (.dict [(.none, .list (ns.map .int))]), .val (.int k)]) := by
  refine def_wo ⟨rfl, by decide⟩ ?_
  unfold g__law_box
  show wp (sSeq _ (sSeq _ _) [.val (.dict [(.none, .list (ns.map .int))]), .val (.int k), .un]) _
  rw [wp_sSeq]
  have m1 : mulOk 5099 k := .inl ⟨by decide, by decide⟩
  have m2 : mulOk 5171 k := .inl ⟨by decide, by decide⟩
  have m3 : ∀ x, mulOk x 70793 := fun x => .inr ⟨by decide, by decide⟩
  have m4 : ∀ x, mulOk x 39397 := fun x => .inr ⟨by decide, by decide⟩
  have k0 : 0 ≤ k := by omega
  have one : wp (sSet 2 (bin (dat2 hAdd) (bin (dat2 hMul) (eC (.int 5099)) (eVar 1)) (eC (.int 1061))) [.val (.dict [(.none, .list (ns.map .int))]), .val (.int k), .un]) fun o e => o = .nx ∧ ∃ c, e = [.val (.dict [(.none, .list (ns.map .int))]), .val (.int k), .val (.int c)] := by
    simp only [Q.wp_ok, Q.wp_no, Q.wo_some, Q.wo_none, Q.wo_bind, Q.wo_map, Q.wo_at0, Q.wo_atS, Q.wset_0, Q.wset_S, Q.bnd_val, Q.bnd_hot, Q.wp_eVar, Q.asArg_val, Q.asArg_hot, Q.wp_eArg, Q.wp_eC, Q.wp_cold, Q.wp_toCold_c, Q.wp_toCold_h, Q.chill_val, Q.chill_hot, Q.wp_toCold_s, Q.wp_own, Q.wp_toOwn_c, Q.wp_toOwn_h, Q.wp_toOwn_s, Q.giveBack_val, Q.giveBack_hot, Q.wp_toRet_c, Q.wp_toRet_h, Q.wp_toRet_s, Q.wp_aNil, Q.wp_aCons, Q.wp_bin, Q.wp_una, Q.wp_dat1, Q.wp_dat2, Q.wp_whole2, Q.view_c, Q.view_h, Q.view_s, Q.sview_v, Q.sview_h, Q.data_l, Q.data_d, Q.viewC_c, Q.viewC_h, Q.viewC_s, Q.sviewC_v, Q.sviewC_h, Q.dataC_l, Q.dataC_d, Q.plain_n, Q.plain_b, Q.plain_i, Q.plain_s, Q.plain_l, Q.plain_t, Q.wp_asB, Q.boolR_c, Q.boolS_v, Q.boolR_s, Q.wp_bAnd, Q.wp_bOr, Q.wp_bNot, Q.wp_eAnd, Q.wp_eOr, Q.wp_eNot, Q.wp_eIf, Q.wp_tTrue, Q.wp_sNx, Q.wp_never, Q.seqK_nx, Q.seqK_rt, Q.seqK_bk, Q.seqK_ct, Q.wp_sSeq, Q.wp_sExpr, Q.wp_sRet, Q.wp_sIf, Q.wp_putS, Q.wp_sSet, Q.set_val, Q.set_un, Q.set_hot, Q.sl_cold, Q.sl_hot, Q.wp_sTg, Q.ex_cold, Q.asg_nm, Q.asg_tp, Q.asgs_nil, Q.asgs_cons, Q.wputs_nil, Q.wputs_cons, Q.wp_sPar, Q.colds_nil, Q.colds_c, Q.wp_eTup, Q.wp_eLst, Q.wp_eDic0, Q.viewsC_nil, Q.viewsC_c, Q.wp_eB, Q.toArgs_nil, Q.toArgs_c, Q.lend_hot, Q.toArgs_s, Q.slotPos_c, Q.backA_nil, Q.backA_c, Q.takeBack_hot, Q.backA_s, Q.resR_v, Q.resR_h, Q.wp_callE, Q.resS_c, Q.resS_h, Q.resS_n, Q.wp_eMt, Q.wp_eMt0, Q.chg_lst, Q.wp_mAppend, Q.wp_mPopAt, Q.wp_mPop, Q.wp_mDat, Q.tyD_l, Q.tyD_t, Q.tyD_d, Q.isTy_o, Q.wp_oNone, Q.intD_i, Q.wp_oSome, Q.wp_eCut, Q.cut_l, Q.cut_t, Q.wp_eIsi, Q.wp_eLRg1, Q.wp_iRng1, Q.wp_iRng2, Q.seq_l, Q.seq_t, Q.wp_iCold, Q.wp_iEnumC, Q.walked_v, Q.walked_h, Q.wp_iSlot, Q.unlk_none, Q.wp_sFor, Q.turnK_nx, Q.turnK_ct, Q.turnK_bk, Q.turnK_rt, Q.add_ii, Q.add_ll, Q.add_tt, Q.sub_ii, Q.mul_ii, Q.mul_li, Q.mul_ti, Q.div_ii, Q.mod_ii, Q.pow_ii, Q.neg_i, Q.rev_l, Q.ix_l, Q.ix_t, Q.ix_d, Q.eq_xy, Q.ne_xy, Q.ord_ii, Q.in_w, Q.notin_w, Q.in_l, Q.in_t, Q.is_w, Q.isnot_w, Q.isq_n, Q.isNone_n, Q.isNone_i, Q.isNone_t, Q.isNone_l, Q.len_l, Q.len_t, Q.list_l, Q.list_t, Q.tup_l, Q.tup_t, Q.abs_i, Q.int_i, Q.int_b, Q.min_ii, Q.max_ii, Q.min_l, Q.max_l, Q.sum_l, Q.sort_l, Q.wo_asInts, Q.wo_asInts0, Q.wo_asIntsC, Q.key_i, Q.key_s, Q.wp_eLenSet, Q.lenSet_t, Q.wp_eChain, Q.store_l, Q.store_d, Q.wo_stI, Q.wp_sSub, Q.wp_sAugS, Q.aug_v, Q.wp_sAug, Q.ip_ii, Q.hI_ii, Q.wp_eLenScr, Q.wp_eIxScr, Q.scr_is, Q.cap_iff, Q.rng_iff, Q.lrg_iff, Q.div_iff, Q.mul_iff, Q.pow_iff, Q.size_lt, Q.free_pin, Q.free_lk, Q.lent_lk, Q.ff, Q.ft, Q.tt, Q.ffp, Q.dt, Q.df, Q.ndt, Q.ndf, Q.wo_ret, Q.fin_hot, Q.fin_val, Q.fin_nil, Q.ownOk_nil, Q.ownOk_cons, Q.hot_v, Q.hot_u, Q.wipe_0, Q.wipe_1, Q.back_0, Q.back_1, Q.slotPos_nil, List.set_cons_zero, List.set_cons_succ, List.getElem?_cons_zero, List.getElem?_cons_succ, List.length_cons, List.length_nil, Nat.zero_add, Nat.reduceAdd, Nat.reduceLeDiff, true_and, and_true, and_self, Bool.not_true, Bool.not_false, List.cons_append, List.nil_append, Q.wput_is, Q.true_imp, imp_self, implies_true, true_or, or_true]
    exact ⟨m1, _, rfl⟩
  refine wp_imp one fun o e h => ?_
  obtain ⟨rfl, c, rfl⟩ := h
  rw [seqK_nx, wp_sSeq]
  have two : ∀ Z : Out → Sto → Prop, (∀ c, Z .nx [.val (.dict [(.none, .list (ns.map .int))]), .val (.int k), .val (.int c)]) → wp (sIf (asB (bin (whole2 wLt) (eVar 1) (eLenScr (eVar 0)))) (sSet 2 (eB hAbs (aCons (eIxScr (eVar 0) (eVar 1)) (aNil)))) (sIf (asB (bin (whole2 wGt) (eLenScr (eVar 0)) (eC (.int 0)))) (sSet 2 (bin (dat2 hAdd) (eVar 2) (bin (dat2 hMul) (bin (dat2 hMod) (eB hIntOf (aCons (eB hAbs (aCons (eIxScr (eVar 0) (bin (dat2 hMod) (eB hIntOf (aCons (eVar 1) (aNil))) (eLenScr (eVar 0)))) (aNil))) (aNil))) (eC (.int 2147483629))) (eC (.int 70793))))) (sNx)) [.val (.dict [(.none, .list (ns.map .int))]), .val (.int k), .val (.int c)]) Z := by
    intro Z hQ
    simp only [Q.wp_ok, Q.wp_no, Q.wo_some, Q.wo_none, Q.wo_bind, Q.wo_map, Q.wo_at0, Q.wo_atS, Q.wset_0, Q.wset_S, Q.bnd_val, Q.bnd_hot, Q.wp_eVar, Q.asArg_val, Q.asArg_hot, Q.wp_eArg, Q.wp_eC, Q.wp_cold, Q.wp_toCold_c, Q.wp_toCold_h, Q.chill_val, Q.chill_hot, Q.wp_toCold_s, Q.wp_own, Q.wp_toOwn_c, Q.wp_toOwn_h, Q.wp_toOwn_s, Q.giveBack_val, Q.giveBack_hot, Q.wp_toRet_c, Q.wp_toRet_h, Q.wp_toRet_s, Q.wp_aNil, Q.wp_aCons, Q.wp_bin, Q.wp_una, Q.wp_dat1, Q.wp_dat2, Q.wp_whole2, Q.view_c, Q.view_h, Q.view_s, Q.sview_v, Q.sview_h, Q.data_l, Q.data_d, Q.viewC_c, Q.viewC_h, Q.viewC_s, Q.sviewC_v, Q.sviewC_h, Q.dataC_l, Q.dataC_d, Q.plain_n, Q.plain_b, Q.plain_i, Q.plain_s, Q.plain_l, Q.plain_t, Q.wp_asB, Q.boolR_c, Q.boolS_v, Q.boolR_s, Q.wp_bAnd, Q.wp_bOr, Q.wp_bNot, Q.wp_eAnd, Q.wp_eOr, Q.wp_eNot, Q.wp_eIf, Q.wp_tTrue, Q.wp_sNx, Q.wp_never, Q.seqK_nx, Q.seqK_rt, Q.seqK_bk, Q.seqK_ct, Q.wp_sSeq, Q.wp_sExpr, Q.wp_sRet, Q.wp_sIf, Q.wp_putS, Q.wp_sSet, Q.set_val, Q.set_un, Q.set_hot, Q.sl_cold, Q.sl_hot, Q.wp_sTg, Q.ex_cold, Q.asg_nm, Q.asg_tp, Q.asgs_nil, Q.asgs_cons, Q.wputs_nil, Q.wputs_cons, Q.wp_sPar, Q.colds_nil, Q.colds_c, Q.wp_eTup, Q.wp_eLst, Q.wp_eDic0, Q.viewsC_nil, Q.viewsC_c, Q.wp_eB, Q.toArgs_nil, Q.toArgs_c, Q.lend_hot, Q.toArgs_s, Q.slotPos_c, Q.backA_nil, Q.backA_c, Q.takeBack_hot, Q.backA_s, Q.resR_v, Q.resR_h, Q.wp_callE, Q.resS_c, Q.resS_h, Q.resS_n, Q.wp_eMt, Q.wp_eMt0, Q.chg_lst, Q.wp_mAppend, Q.wp_mPopAt, Q.wp_mPop, Q.wp_mDat, Q.tyD_l, Q.tyD_t, Q.tyD_d, Q.isTy_o, Q.wp_oNone, Q.intD_i, Q.wp_oSome, Q.wp_eCut, Q.cut_l, Q.cut_t, Q.wp_eIsi, Q.wp_eLRg1, Q.wp_iRng1, Q.wp_iRng2, Q.seq_l, Q.seq_t, Q.wp_iCold, Q.wp_iEnumC, Q.walked_v, Q.walked_h, Q.wp_iSlot, Q.unlk_none, Q.wp_sFor, Q.turnK_nx, Q.turnK_ct, Q.turnK_bk, Q.turnK_rt, Q.add_ii, Q.add_ll, Q.add_tt, Q.sub_ii, Q.mul_ii, Q.mul_li, Q.mul_ti, Q.div_ii, Q.mod_ii, Q.pow_ii, Q.neg_i, Q.rev_l, Q.ix_l, Q.ix_t, Q.ix_d, Q.eq_xy, Q.ne_xy, Q.ord_ii, Q.in_w, Q.notin_w, Q.in_l, Q.in_t, Q.is_w, Q.isnot_w, Q.isq_n, Q.isNone_n, Q.isNone_i, Q.isNone_t, Q.isNone_l, Q.len_l, Q.len_t, Q.list_l, Q.list_t, Q.tup_l, Q.tup_t, Q.abs_i, Q.int_i, Q.int_b, Q.min_ii, Q.max_ii, Q.min_l, Q.max_l, Q.sum_l, Q.sort_l, Q.wo_asInts, Q.wo_asInts0, Q.wo_asIntsC, Q.key_i, Q.key_s, Q.wp_eLenSet, Q.lenSet_t, Q.wp_eChain, Q.store_l, Q.store_d, Q.wo_stI, Q.wp_sSub, Q.wp_sAugS, Q.aug_v, Q.wp_sAug, Q.ip_ii, Q.hI_ii, Q.wp_eLenScr, Q.wp_eIxScr, Q.scr_is, Q.cap_iff, Q.rng_iff, Q.lrg_iff, Q.div_iff, Q.mul_iff, Q.pow_iff, Q.size_lt, Q.free_pin, Q.free_lk, Q.lent_lk, Q.ff, Q.ft, Q.tt, Q.ffp, Q.dt, Q.df, Q.ndt, Q.ndf, Q.wo_ret, Q.fin_hot, Q.fin_val, Q.fin_nil, Q.ownOk_nil, Q.ownOk_cons, Q.hot_v, Q.hot_u, Q.wipe_0, Q.wipe_1, Q.back_0, Q.back_1, Q.slotPos_nil, List.set_cons_zero, List.set_cons_succ, List.getElem?_cons_zero, List.getElem?_cons_succ, List.length_cons, List.length_nil, Nat.zero_add, Nat.reduceAdd, Nat.reduceLeDiff, true_and, and_true, and_self, Bool.not_true, Bool.not_false, List.cons_append, List.nil_append, Q.wput_is, Q.true_imp, imp_self, implies_true, true_or, or_true, List.length_map]
    refine ⟨fun h1 => ?_, fun h1 => ⟨fun h2 => ⟨h2, ?_⟩, fun _ => hQ _⟩⟩
    · obtain ⟨x, hx⟩ := atI_int ns k k0 h1
      refine wo_of hx ?_
      simp only [Q.wp_ok, Q.wp_no, Q.wo_some, Q.wo_none, Q.wo_bind, Q.wo_map, Q.wo_at0, Q.wo_atS, Q.wset_0, Q.wset_S, Q.bnd_val, Q.bnd_hot, Q.wp_eVar, Q.asArg_val, Q.asArg_hot, Q.wp_eArg, Q.wp_eC, Q.wp_cold, Q.wp_toCold_c, Q.wp_toCold_h, Q.chill_val, Q.chill_hot, Q.wp_toCold_s, Q.wp_own, Q.wp_toOwn_c, Q.wp_toOwn_h, Q.wp_toOwn_s, Q.giveBack_val, Q.giveBack_hot, Q.wp_toRet_c, Q.wp_toRet_h, Q.wp_toRet_s, Q.wp_aNil, Q.wp_aCons, Q.wp_bin, Q.wp_una, Q.wp_dat1, Q.wp_dat2, Q.wp_whole2, Q.view_c, Q.view_h, Q.view_s, Q.sview_v, Q.sview_h, Q.data_l, Q.data_d, Q.viewC_c, Q.viewC_h, Q.viewC_s, Q.sviewC_v, Q.sviewC_h, Q.dataC_l, Q.dataC_d, Q.plain_n, Q.plain_b, Q.plain_i, Q.plain_s, Q.plain_l, Q.plain_t, Q.wp_asB, Q.boolR_c, Q.boolS_v, Q.boolR_s, Q.wp_bAnd, Q.wp_bOr, Q.wp_bNot, Q.wp_eAnd, Q.wp_eOr, Q.wp_eNot, Q.wp_eIf, Q.wp_tTrue, Q.wp_sNx, Q.wp_never, Q.seqK_nx, Q.seqK_rt, Q.seqK_bk, Q.seqK_ct, Q.wp_sSeq, Q.wp_sExpr, Q.wp_sRet, Q.wp_sIf, Q.wp_putS, Q.wp_sSet, Q.set_val, Q.set_un, Q.set_hot, Q.sl_cold, Q.sl_hot, Q.wp_sTg, Q.ex_cold, Q.asg_nm, Q.asg_tp, Q.asgs_nil, Q.asgs_cons, Q.wputs_nil, Q.wputs_cons, Q.wp_sPar, Q.colds_nil, Q.colds_c, Q.wp_eTup, Q.wp_eLst, Q.wp_eDic0, Q.viewsC_nil, Q.viewsC_c, Q.wp_eB, Q.toArgs_nil, Q.toArgs_c, Q.lend_hot, Q.toArgs_s, Q.slotPos_c, Q.backA_nil, Q.backA_c, Q.takeBack_hot, Q.backA_s, Q.resR_v, Q.resR_h, Q.wp_callE, Q.resS_c, Q.resS_h, Q.resS_n, Q.wp_eMt, Q.wp_eMt0, Q.chg_lst, Q.wp_mAppend, Q.wp_mPopAt, Q.wp_mPop, Q.wp_mDat, Q.tyD_l, Q.tyD_t, Q.tyD_d, Q.isTy_o, Q.wp_oNone, Q.intD_i, Q.wp_oSome, Q.wp_eCut, Q.cut_l, Q.cut_t, Q.wp_eIsi, Q.wp_eLRg1, Q.wp_iRng1, Q.wp_iRng2, Q.seq_l, Q.seq_t, Q.wp_iCold, Q.wp_iEnumC, Q.walked_v, Q.walked_h, Q.wp_iSlot, Q.unlk_none, Q.wp_sFor, Q.turnK_nx, Q.turnK_ct, Q.turnK_bk, Q.turnK_rt, Q.add_ii, Q.add_ll, Q.add_tt, Q.sub_ii, Q.mul_ii, Q.mul_li, Q.mul_ti, Q.div_ii, Q.mod_ii, Q.pow_ii, Q.neg_i, Q.rev_l, Q.ix_l, Q.ix_t, Q.ix_d, Q.eq_xy, Q.ne_xy, Q.ord_ii, Q.in_w, Q.notin_w, Q.in_l, Q.in_t, Q.is_w, Q.isnot_w, Q.isq_n, Q.isNone_n, Q.isNone_i, Q.isNone_t, Q.isNone_l, Q.len_l, Q.len_t, Q.list_l, Q.list_t, Q.tup_l, Q.tup_t, Q.abs_i, Q.int_i, Q.int_b, Q.min_ii, Q.max_ii, Q.min_l, Q.max_l, Q.sum_l, Q.sort_l, Q.wo_asInts, Q.wo_asInts0, Q.wo_asIntsC, Q.key_i, Q.key_s, Q.wp_eLenSet, Q.lenSet_t, Q.wp_eChain, Q.store_l, Q.store_d, Q.wo_stI, Q.wp_sSub, Q.wp_sAugS, Q.aug_v, Q.wp_sAug, Q.ip_ii, Q.hI_ii, Q.wp_eLenScr, Q.wp_eIxScr, Q.scr_is, Q.cap_iff, Q.rng_iff, Q.lrg_iff, Q.div_iff, Q.mul_iff, Q.pow_iff, Q.size_lt, Q.free_pin, Q.free_lk, Q.lent_lk, Q.ff, Q.ft, Q.tt, Q.ffp, Q.dt, Q.df, Q.ndt, Q.ndf, Q.wo_ret, Q.fin_hot, Q.fin_val, Q.fin_nil, Q.ownOk_nil, Q.ownOk_cons, Q.hot_v, Q.hot_u, Q.wipe_0, Q.wipe_1, Q.back_0, Q.back_1, Q.slotPos_nil, List.set_cons_zero, List.set_cons_succ, List.getElem?_cons_zero, List.getElem?_cons_succ, List.length_cons, List.length_nil, Nat.zero_add, Nat.reduceAdd, Nat.reduceLeDiff, true_and, and_true, and_self, Bool.not_true, Bool.not_false, List.cons_append, List.nil_append, Q.wput_is, Q.true_imp, imp_self, implies_true, true_or, or_true]
      exact hQ _
    · obtain ⟨x, hx⟩ := atI_int ns (k % ns.length) (Int.emod_nonneg _ (by omega)) (Int.emod_lt_of_pos _ h2)
      refine wo_of hx ?_
      simp only [Q.wp_ok, Q.wp_no, Q.wo_some, Q.wo_none, Q.wo_bind, Q.wo_map, Q.wo_at0, Q.wo_atS, Q.wset_0, Q.wset_S, Q.bnd_val, Q.bnd_hot, Q.wp_eVar, Q.asArg_val, Q.asArg_hot, Q.wp_eArg, Q.wp_eC, Q.wp_cold, Q.wp_toCold_c, Q.wp_toCold_h, Q.chill_val, Q.chill_hot, Q.wp_toCold_s, Q.wp_own, Q.wp_toOwn_c, Q.wp_toOwn_h, Q.wp_toOwn_s, Q.giveBack_val, Q.giveBack_hot, Q.wp_toRet_c, Q.wp_toRet_h, Q.wp_toRet_s, Q.wp_aNil, Q.wp_aCons, Q.wp_bin, Q.wp_una, Q.wp_dat1, Q.wp_dat2, Q.wp_whole2, Q.view_c, Q.view_h, Q.view_s, Q.sview_v, Q.sview_h, Q.data_l, Q.data_d, Q.viewC_c, Q.viewC_h, Q.viewC_s, Q.sviewC_v, Q.sviewC_h, Q.dataC_l, Q.dataC_d, Q.plain_n, Q.plain_b, Q.plain_i, Q.plain_s, Q.plain_l, Q.plain_t, Q.wp_asB, Q.boolR_c, Q.boolS_v, Q.boolR_s, Q.wp_bAnd, Q.wp_bOr, Q.wp_bNot, Q.wp_eAnd, Q.wp_eOr, Q.wp_eNot, Q.wp_eIf, Q.wp_tTrue, Q.wp_sNx, Q.wp_never, Q.seqK_nx, Q.seqK_rt, Q.seqK_bk, Q.seqK_ct, Q.wp_sSeq, Q.wp_sExpr, Q.wp_sRet, Q.wp_sIf, Q.wp_putS, Q.wp_sSet, Q.set_val, Q.set_un, Q.set_hot, Q.sl_cold, Q.sl_hot, Q.wp_sTg, Q.ex_cold, Q.asg_nm, Q.asg_tp, Q.asgs_nil, Q.asgs_cons, Q.wputs_nil, Q.wputs_cons, Q.wp_sPar, Q.colds_nil, Q.colds_c, Q.wp_eTup, Q.wp_eLst, Q.wp_eDic0, Q.viewsC_nil, Q.viewsC_c, Q.wp_eB, Q.toArgs_nil, Q.toArgs_c, Q.lend_hot, Q.toArgs_s, Q.slotPos_c, Q.backA_nil, Q.backA_c, Q.takeBack_hot, Q.backA_s, Q.resR_v, Q.resR_h, Q.wp_callE, Q.resS_c, Q.resS_h, Q.resS_n, Q.wp_eMt, Q.wp_eMt0, Q.chg_lst, Q.wp_mAppend, Q.wp_mPopAt, Q.wp_mPop, Q.wp_mDat, Q.tyD_l, Q.tyD_t, Q.tyD_d, Q.isTy_o, Q.wp_oNone, Q.intD_i, Q.wp_oSome, Q.wp_eCut, Q.cut_l, Q.cut_t, Q.wp_eIsi, Q.wp_eLRg1, Q.wp_iRng1, Q.wp_iRng2, Q.seq_l, Q.seq_t, Q.wp_iCold, Q.wp_iEnumC, Q.walked_v, Q.walked_h, Q.wp_iSlot, Q.unlk_none, Q.wp_sFor, Q.turnK_nx, Q.turnK_ct, Q.turnK_bk, Q.turnK_rt, Q.add_ii, Q.add_ll, Q.add_tt, Q.sub_ii, Q.mul_ii, Q.mul_li, Q.mul_ti, Q.div_ii, Q.mod_ii, Q.pow_ii, Q.neg_i, Q.rev_l, Q.ix_l, Q.ix_t, Q.ix_d, Q.eq_xy, Q.ne_xy, Q.ord_ii, Q.in_w, Q.notin_w, Q.in_l, Q.in_t, Q.is_w, Q.isnot_w, Q.isq_n, Q.isNone_n, Q.isNone_i, Q.isNone_t, Q.isNone_l, Q.len_l, Q.len_t, Q.list_l, Q.list_t, Q.tup_l, Q.tup_t, Q.abs_i, Q.int_i, Q.int_b, Q.min_ii, Q.max_ii, Q.min_l, Q.max_l, Q.sum_l, Q.sort_l, Q.wo_asInts, Q.wo_asInts0, Q.wo_asIntsC, Q.key_i, Q.key_s, Q.wp_eLenSet, Q.lenSet_t, Q.wp_eChain, Q.store_l, Q.store_d, Q.wo_stI, Q.wp_sSub, Q.wp_sAugS, Q.aug_v, Q.wp_sAug, Q.ip_ii, Q.hI_ii, Q.wp_eLenScr, Q.wp_eIxScr, Q.scr_is, Q.cap_iff, Q.rng_iff, Q.lrg_iff, Q.div_iff, Q.mul_iff, Q.pow_iff, Q.size_lt, Q.free_pin, Q.free_lk, Q.lent_lk, Q.ff, Q.ft, Q.tt, Q.ffp, Q.dt, Q.df, Q.ndt, Q.ndf, Q.wo_ret, Q.fin_hot, Q.fin_val, Q.fin_nil, Q.ownOk_nil, Q.ownOk_cons, Q.hot_v, Q.hot_u, Q.wipe_0, Q.wipe_1, Q.back_0, Q.back_1, Q.slotPos_nil, List.set_cons_zero, List.set_cons_succ, List.getElem?_cons_zero, List.getElem?_cons_succ, List.length_cons, List.length_nil, Nat.zero_add, Nat.reduceAdd, Nat.reduceLeDiff, true_and, and_true, and_self, Bool.not_true, Bool.not_false, List.cons_append, List.nil_append, Q.wput_is, Q.true_imp, imp_self, implies_true, true_or, or_true]
      exact ⟨by decide, m3 _, hQ _⟩
  refine two _ fun c => ?_
  rw [seqK_nx]
  simp only [Q.wp_ok, Q.wp_no, Q.wo_some, Q.wo_none, Q.wo_bind, Q.wo_map, Q.wo_at0, Q.wo_atS, Q.wset_0, Q.wset_S, Q.bnd_val, Q.bnd_hot, Q.wp_eVar, Q.asArg_val, Q.asArg_hot, Q.wp_eArg, Q.wp_eC, Q.wp_cold, Q.wp_toCold_c, Q.wp_toCold_h, Q.chill_val, Q.chill_hot, Q.wp_toCold_s, Q.wp_own, Q.wp_toOwn_c, Q.wp_toOwn_h, Q.wp_toOwn_s, Q.giveBack_val, Q.giveBack_hot, Q.wp_toRet_c, Q.wp_toRet_h, Q.wp_toRet_s, Q.wp_aNil, Q.wp_aCons, Q.wp_bin, Q.wp_una, Q.wp_dat1, Q.wp_dat2, Q.wp_whole2, Q.view_c, Q.view_h, Q.view_s, Q.sview_v, Q.sview_h, Q.data_l, Q.data_d, Q.viewC_c, Q.viewC_h, Q.viewC_s, Q.sviewC_v, Q.sviewC_h, Q.dataC_l, Q.dataC_d, Q.plain_n, Q.plain_b, Q.plain_i, Q.plain_s, Q.plain_l, Q.plain_t, Q.wp_asB, Q.boolR_c, Q.boolS_v, Q.boolR_s, Q.wp_bAnd, Q.wp_bOr, Q.wp_bNot, Q.wp_eAnd, Q.wp_eOr, Q.wp_eNot, Q.wp_eIf, Q.wp_tTrue, Q.wp_sNx, Q.wp_never, Q.seqK_nx, Q.seqK_rt, Q.seqK_bk, Q.seqK_ct, Q.wp_sSeq, Q.wp_sExpr, Q.wp_sRet, Q.wp_sIf, Q.wp_putS, Q.wp_sSet, Q.set_val, Q.set_un, Q.set_hot, Q.sl_cold, Q.sl_hot, Q.wp_sTg, Q.ex_cold, Q.asg_nm, Q.asg_tp, Q.asgs_nil, Q.asgs_cons, Q.wputs_nil, Q.wputs_cons, Q.wp_sPar, Q.colds_nil, Q.colds_c, Q.wp_eTup, Q.wp_eLst, Q.wp_eDic0, Q.viewsC_nil, Q.viewsC_c, Q.wp_eB, Q.toArgs_nil, Q.toArgs_c, Q.lend_hot, Q.toArgs_s, Q.slotPos_c, Q.backA_nil, Q.backA_c, Q.takeBack_hot, Q.backA_s, Q.resR_v, Q.resR_h, Q.wp_callE, Q.resS_c, Q.resS_h, Q.resS_n, Q.wp_eMt, Q.wp_eMt0, Q.chg_lst, Q.wp_mAppend, Q.wp_mPopAt, Q.wp_mPop, Q.wp_mDat, Q.tyD_l, Q.tyD_t, Q.tyD_d, Q.isTy_o, Q.wp_oNone, Q.intD_i, Q.wp_oSome, Q.wp_eCut, Q.cut_l, Q.cut_t, Q.wp_eIsi, Q.wp_eLRg1, Q.wp_iRng1, Q.wp_iRng2, Q.seq_l, Q.seq_t, Q.wp_iCold, Q.wp_iEnumC, Q.walked_v, Q.walked_h, Q.wp_iSlot, Q.unlk_none, Q.wp_sFor, Q.turnK_nx, Q.turnK_ct, Q.turnK_bk, Q.turnK_rt, Q.add_ii, Q.add_ll, Q.add_tt, Q.sub_ii, Q.mul_ii, Q.mul_li, Q.mul_ti, Q.div_ii, Q.mod_ii, Q.pow_ii, Q.neg_i, Q.rev_l, Q.ix_l, Q.ix_t, Q.ix_d, Q.eq_xy, Q.ne_xy, Q.ord_ii, Q.in_w, Q.notin_w, Q.in_l, Q.in_t, Q.is_w, Q.isnot_w, Q.isq_n, Q.isNone_n, Q.isNone_i, Q.isNone_t, Q.isNone_l, Q.len_l, Q.len_t, Q.list_l, Q.list_t, Q.tup_l, Q.tup_t, Q.abs_i, Q.int_i, Q.int_b, Q.min_ii, Q.max_ii, Q.min_l, Q.max_l, Q.sum_l, Q.sort_l, Q.wo_asInts, Q.wo_asInts0, Q.wo_asIntsC, Q.key_i, Q.key_s, Q.wp_eLenSet, Q.lenSet_t, Q.wp_eChain, Q.store_l, Q.store_d, Q.wo_stI, Q.wp_sSub, Q.wp_sAugS, Q.aug_v, Q.wp_sAug, Q.ip_ii, Q.hI_ii, Q.wp_eLenScr, Q.wp_eIxScr, Q.scr_is, Q.cap_iff, Q.rng_iff, Q.lrg_iff, Q.div_iff, Q.mul_iff, Q.pow_iff, Q.size_lt, Q.free_pin, Q.free_lk, Q.lent_lk, Q.ff, Q.ft, Q.tt, Q.ffp, Q.dt, Q.df, Q.ndt, Q.ndf, Q.wo_ret, Q.fin_hot, Q.fin_val, Q.fin_nil, Q.ownOk_nil, Q.ownOk_cons, Q.hot_v, Q.hot_u, Q.wipe_0, Q.wipe_1, Q.back_0, Q.back_1, Q.slotPos_nil, List.set_cons_zero, List.set_cons_succ, List.getElem?_cons_zero, List.getElem?_cons_succ, List.length_cons, List.length_nil, Nat.zero_add, Nat.reduceAdd, Nat.reduceLeDiff, true_and, and_true, and_self, Bool.not_true, Bool.not_false, List.cons_append, List.nil_append, Q.wput_is, Q.true_imp, imp_self, implies_true, true_or, or_true]
  refine ⟨by decide, ?_⟩
  generalize decide ((10 : Int) ^ Int.toNat 18 ≤ c) = t
  obtain ⟨x, hx⟩ : ∃ x, L2.atI [PySem.PyData.int 0, PySem.PyData.int c] (if t = true then 1 else 0) = some (.int x) := by cases t <;> exact ⟨_, rfl⟩
  refine wo_of hx ?_
  exact ⟨by decide, .inr (by decide), .inl (by decide), by decide, _, ⟨_, _, _, rfl⟩, rfl⟩
theorem take_wo (h : Hot) (B : Box h) (many : Int) (m : Md) (hm : m.lk = false) (h1 : 0 < many) (h2 : many < 1073741824) : wo (f__law_take [.hot m h, .val (.int many)]) fun p => ∃ d h', Box h' ∧ 0 ≤ d ∧ d < many ∧ p = (.val (.int d), [.hot m h', .val (.int many)]) := by
  obtain ⟨d, h', e, b, c1, c2⟩ := take h B many m hm h1 h2
  exact ⟨_, e, d, h', b, c1, c2, rfl⟩
theorem map_erase {α β : Type} (f : α → β) : ∀ (l : List α) (n : Nat), (l.map f).eraseIdx n = (l.eraseIdx n).map f
  | [], _ => rfl
  | _ :: _, 0 => rfl
  | x :: l, n + 1 => by rw [List.map_cons, List.eraseIdx_cons_succ, List.eraseIdx_cons_succ, List.map_cons, map_erase f l n]
theorem popAt {ls : List Int} {d : Int} (h0 : 0 ≤ d) (h1 : d < ls.length) (h2 : ls.length ≤ 10000) : (if -2 ^ 63 ≤ d ∧ d < 2 ^ 63 then (PySem.seqIndex? d ls.length).bind fun k => ((ls.map PySem.PyData.int)[k]?).map fun y => (y, (ls.map PySem.PyData.int).eraseIdx k) else none) = some (.int (ls.getD d.toNat 0), (ls.eraseIdx d.toNat).map .int) := by
  have c : -2 ^ 63 ≤ d ∧ d < 2 ^ 63 := ⟨by omega, by omega⟩
  have nn : ¬ d < 0 := by omega
  have e : PySem.seqIndex? d ls.length = some d.toNat := by
    unfold PySem.seqIndex?
    simp [nn, h0, h1]
  rw [if_pos c, e]
  have hd : d.toNat < ls.length := by omega
  simp [map_erase, List.getD_eq_getElem?_getD, hd]
theorem law_mixed (h : Hot) (B : Box h) (m : Md) (hm : m.lk = false) (xs : List Int) (hx : xs.length ≤ 100) : wo (f__law_mixed [.hot m h, .val (.list (xs.map .int))]) fun p => ∃ fs h', Box h' ∧ fs.length = xs.length ∧ fs ⊆ xs ∧ p = (.hot Md.free (.lst (fs.map .int)), [.hot m h', .val (.list (xs.map .int))]) := by
  refine def_wo ⟨rfl, by decide⟩ ?_
  unfold g__law_mixed
  show wp (sSeq _ _ [.hot m h, .val (.list (xs.map .int)), .un, .un, .un]) _
  simp only [Q.wp_ok, Q.wp_no, Q.wo_some, Q.wo_none, Q.wo_bind, Q.wo_map, Q.wo_at0, Q.wo_atS, Q.wset_0, Q.wset_S, Q.bnd_val, Q.bnd_hot, Q.wp_eVar, Q.asArg_val, Q.asArg_hot, Q.wp_eArg, Q.wp_eC, Q.wp_cold, Q.wp_toCold_c, Q.wp_toCold_h, Q.chill_val, Q.chill_hot, Q.wp_toCold_s, Q.wp_own, Q.wp_toOwn_c, Q.wp_toOwn_h, Q.wp_toOwn_s, Q.giveBack_val, Q.giveBack_hot, Q.wp_toRet_c, Q.wp_toRet_h, Q.wp_toRet_s, Q.wp_aNil, Q.wp_aCons, Q.wp_bin, Q.wp_una, Q.wp_dat1, Q.wp_dat2, Q.wp_whole2, Q.view_c, Q.view_h, Q.view_s, Q.sview_v, Q.sview_h, Q.data_l, Q.data_d, Q.viewC_c, Q.viewC_h, Q.viewC_s, Q.sviewC_v, Q.sviewC_h, Q.dataC_l, Q.dataC_d, Q.plain_n, Q.plain_b, Q.plain_i, Q.plain_s, Q.plain_l, Q.plain_t, Q.wp_asB, Q.boolR_c, Q.boolS_v, Q.boolR_s, Q.wp_bAnd, Q.wp_bOr, Q.wp_bNot, Q.wp_eAnd, Q.wp_eOr, Q.wp_eNot, Q.wp_eIf, Q.wp_tTrue, Q.wp_sNx, Q.wp_never, Q.seqK_nx, Q.seqK_rt, Q.seqK_bk, Q.seqK_ct, Q.wp_sSeq, Q.wp_sExpr, Q.wp_sRet, Q.wp_sIf, Q.wp_putS, Q.wp_sSet, Q.set_val, Q.set_un, Q.set_hot, Q.sl_cold, Q.sl_hot, Q.wp_sTg, Q.ex_cold, Q.asg_nm, Q.asg_tp, Q.asgs_nil, Q.asgs_cons, Q.wputs_nil, Q.wputs_cons, Q.wp_sPar, Q.colds_nil, Q.colds_c, Q.wp_eTup, Q.wp_eLst, Q.wp_eDic0, Q.viewsC_nil, Q.viewsC_c, Q.wp_eB, Q.toArgs_nil, Q.toArgs_c, Q.lend_hot, Q.toArgs_s, Q.slotPos_c, Q.backA_nil, Q.backA_c, Q.takeBack_hot, Q.backA_s, Q.resR_v, Q.resR_h, Q.wp_callE, Q.resS_c, Q.resS_h, Q.resS_n, Q.wp_eMt, Q.wp_eMt0, Q.chg_lst, Q.wp_mAppend, Q.wp_mPopAt, Q.wp_mPop, Q.wp_mDat, Q.tyD_l, Q.tyD_t, Q.tyD_d, Q.isTy_o, Q.wp_oNone, Q.intD_i, Q.wp_oSome, Q.wp_eCut, Q.cut_l, Q.cut_t, Q.wp_eIsi, Q.wp_eLRg1, Q.wp_iRng1, Q.wp_iRng2, Q.seq_l, Q.seq_t, Q.wp_iCold, Q.wp_iEnumC, Q.walked_v, Q.walked_h, Q.wp_iSlot, Q.unlk_none, Q.wp_sFor, Q.turnK_nx, Q.turnK_ct, Q.turnK_bk, Q.turnK_rt, Q.add_ii, Q.add_ll, Q.add_tt, Q.sub_ii, Q.mul_ii, Q.mul_li, Q.mul_ti, Q.div_ii, Q.mod_ii, Q.pow_ii, Q.neg_i, Q.rev_l, Q.ix_l, Q.ix_t, Q.ix_d, Q.eq_xy, Q.ne_xy, Q.ord_ii, Q.in_w, Q.notin_w, Q.in_l, Q.in_t, Q.is_w, Q.isnot_w, Q.isq_n, Q.isNone_n, Q.isNone_i, Q.isNone_t, Q.isNone_l, Q.len_l, Q.len_t, Q.list_l, Q.list_t, Q.tup_l, Q.tup_t, Q.abs_i, Q.int_i, Q.int_b, Q.min_ii, Q.max_ii, Q.min_l, Q.max_l, Q.sum_l, Q.sort_l, Q.wo_asInts, Q.wo_asInts0, Q.wo_asIntsC, Q.key_i, Q.key_s, Q.wp_eLenSet, Q.lenSet_t, Q.wp_eChain, Q.store_l, Q.store_d, Q.wo_stI, Q.wp_sSub, Q.wp_sAugS, Q.aug_v, Q.wp_sAug, Q.ip_ii, Q.hI_ii, Q.wp_eLenScr, Q.wp_eIxScr, Q.scr_is, Q.cap_iff, Q.rng_iff, Q.lrg_iff, Q.div_iff, Q.mul_iff, Q.pow_iff, Q.size_lt, Q.free_pin, Q.free_lk, Q.lent_lk, Q.ff, Q.ft, Q.tt, Q.ffp, Q.dt, Q.df, Q.ndt, Q.ndf, Q.wo_ret, Q.fin_hot, Q.fin_val, Q.fin_nil, Q.ownOk_nil, Q.ownOk_cons, Q.hot_v, Q.hot_u, Q.wipe_0, Q.wipe_1, Q.back_0, Q.back_1, Q.slotPos_nil, List.set_cons_zero, List.set_cons_succ, List.getElem?_cons_zero, List.getElem?_cons_succ, List.length_cons, List.length_nil, Nat.zero_add, Nat.reduceAdd, Nat.reduceLeDiff, true_and, and_true, and_self, Bool.not_true, Bool.not_false, List.cons_append, List.nil_append, Q.wput_is, Q.true_imp, imp_self, implies_true, true_or, or_true, List.length_map]
  refine ⟨⟨by omega, by omega⟩, wp_forL (fun i e => ∃ h' ls fs s, Box h' ∧ ls.length + i = xs.length ∧ fs.length = i ∧ ls ⊆ xs ∧ fs ⊆ xs ∧ s.settable = true ∧ e = [.hot m h', .val (.list (xs.map .int)), .hot Md.free (.lst (ls.map .int)), .hot Md.free (.lst (fs.map .int)), s]) (k := 0) ⟨h, xs, [], .un, B, rfl, rfl, fun _ h => h, by simp, rfl, rfl⟩ (fun i d e hd he => ?_) fun e he => ?_⟩
  · obtain ⟨h', ls, fs, s, B', l1, l2, l3, l4, hs, rfl⟩ := he
    rw [rngD_at] at hd
    split at hd
    · rename_i hi
      cases hd
      simp only [Q.wp_ok, Q.wp_no, Q.wo_some, Q.wo_none, Q.wo_bind, Q.wo_map, Q.wo_at0, Q.wo_atS, Q.wset_0, Q.wset_S, Q.bnd_val, Q.bnd_hot, Q.wp_eVar, Q.asArg_val, Q.asArg_hot, Q.wp_eArg, Q.wp_eC, Q.wp_cold, Q.wp_toCold_c, Q.wp_toCold_h, Q.chill_val, Q.chill_hot, Q.wp_toCold_s, Q.wp_own, Q.wp_toOwn_c, Q.wp_toOwn_h, Q.wp_toOwn_s, Q.giveBack_val, Q.giveBack_hot, Q.wp_toRet_c, Q.wp_toRet_h, Q.wp_toRet_s, Q.wp_aNil, Q.wp_aCons, Q.wp_bin, Q.wp_una, Q.wp_dat1, Q.wp_dat2, Q.wp_whole2, Q.view_c, Q.view_h, Q.view_s, Q.sview_v, Q.sview_h, Q.data_l, Q.data_d, Q.viewC_c, Q.viewC_h, Q.viewC_s, Q.sviewC_v, Q.sviewC_h, Q.dataC_l, Q.dataC_d, Q.plain_n, Q.plain_b, Q.plain_i, Q.plain_s, Q.plain_l, Q.plain_t, Q.wp_asB, Q.boolR_c, Q.boolS_v, Q.boolR_s, Q.wp_bAnd, Q.wp_bOr, Q.wp_bNot, Q.wp_eAnd, Q.wp_eOr, Q.wp_eNot, Q.wp_eIf, Q.wp_tTrue, Q.wp_sNx, Q.wp_never, Q.seqK_nx, Q.seqK_rt, Q.seqK_bk, Q.seqK_ct, Q.wp_sSeq, Q.wp_sExpr, Q.wp_sRet, Q.wp_sIf, Q.wp_putS, Q.wp_sSet, Q.set_val, Q.set_un, Q.set_hot, Q.sl_cold, Q.sl_hot, Q.wp_sTg, Q.ex_cold, Q.asg_nm, Q.asg_tp, Q.asgs_nil, Q.asgs_cons, Q.wputs_nil, Q.wputs_cons, Q.wp_sPar, Q.colds_nil, Q.colds_c, Q.wp_eTup, Q.wp_eLst, Q.wp_eDic0, Q.viewsC_nil, Q.viewsC_c, Q.wp_eB, Q.toArgs_nil, Q.toArgs_c, Q.lend_hot, Q.toArgs_s, Q.slotPos_c, Q.backA_nil, Q.backA_c, Q.takeBack_hot, Q.backA_s, Q.resR_v, Q.resR_h, Q.wp_callE, Q.resS_c, Q.resS_h, Q.resS_n, Q.wp_eMt, Q.wp_eMt0, Q.chg_lst, Q.wp_mAppend, Q.wp_mPopAt, Q.wp_mPop, Q.wp_mDat, Q.tyD_l, Q.tyD_t, Q.tyD_d, Q.isTy_o, Q.wp_oNone, Q.intD_i, Q.wp_oSome, Q.wp_eCut, Q.cut_l, Q.cut_t, Q.wp_eIsi, Q.wp_eLRg1, Q.wp_iRng1, Q.wp_iRng2, Q.seq_l, Q.seq_t, Q.wp_iCold, Q.wp_iEnumC, Q.walked_v, Q.walked_h, Q.wp_iSlot, Q.unlk_none, Q.wp_sFor, Q.turnK_nx, Q.turnK_ct, Q.turnK_bk, Q.turnK_rt, Q.add_ii, Q.add_ll, Q.add_tt, Q.sub_ii, Q.mul_ii, Q.mul_li, Q.mul_ti, Q.div_ii, Q.mod_ii, Q.pow_ii, Q.neg_i, Q.rev_l, Q.ix_l, Q.ix_t, Q.ix_d, Q.eq_xy, Q.ne_xy, Q.ord_ii, Q.in_w, Q.notin_w, Q.in_l, Q.in_t, Q.is_w, Q.isnot_w, Q.isq_n, Q.isNone_n, Q.isNone_i, Q.isNone_t, Q.isNone_l, Q.len_l, Q.len_t, Q.list_l, Q.list_t, Q.tup_l, Q.tup_t, Q.abs_i, Q.int_i, Q.int_b, Q.min_ii, Q.max_ii, Q.min_l, Q.max_l, Q.sum_l, Q.sort_l, Q.wo_asInts, Q.wo_asInts0, Q.wo_asIntsC, Q.key_i, Q.key_s, Q.wp_eLenSet, Q.lenSet_t, Q.wp_eChain, Q.store_l, Q.store_d, Q.wo_stI, Q.wp_sSub, Q.wp_sAugS, Q.aug_v, Q.wp_sAug, Q.ip_ii, Q.hI_ii, Q.wp_eLenScr, Q.wp_eIxScr, Q.scr_is, Q.cap_iff, Q.rng_iff, Q.lrg_iff, Q.div_iff, Q.mul_iff, Q.pow_iff, Q.size_lt, Q.free_pin, Q.free_lk, Q.lent_lk, Q.ff, Q.ft, Q.tt, Q.ffp, Q.dt, Q.df, Q.ndt, Q.ndf, Q.wo_ret, Q.fin_hot, Q.fin_val, Q.fin_nil, Q.ownOk_nil, Q.ownOk_cons, Q.hot_v, Q.hot_u, Q.wipe_0, Q.wipe_1, Q.back_0, Q.back_1, Q.slotPos_nil, List.set_cons_zero, List.set_cons_succ, List.getElem?_cons_zero, List.getElem?_cons_succ, List.length_cons, List.length_nil, Nat.zero_add, Nat.reduceAdd, Nat.reduceLeDiff, true_and, and_true, and_self, Bool.not_true, Bool.not_false, List.cons_append, List.nil_append, Q.wput_is, Q.true_imp, imp_self, implies_true, true_or, or_true, List.length_map, hs, hm]
      refine wo_imp (take_wo h' B' ls.length Md.lent rfl (by omega) (by omega)) fun p hp => ?_
      obtain ⟨d, h2, B2, d0, d1, rfl⟩ := hp
      simp only [Q.wp_ok, Q.wp_no, Q.wo_some, Q.wo_none, Q.wo_bind, Q.wo_map, Q.wo_at0, Q.wo_atS, Q.wset_0, Q.wset_S, Q.bnd_val, Q.bnd_hot, Q.wp_eVar, Q.asArg_val, Q.asArg_hot, Q.wp_eArg, Q.wp_eC, Q.wp_cold, Q.wp_toCold_c, Q.wp_toCold_h, Q.chill_val, Q.chill_hot, Q.wp_toCold_s, Q.wp_own, Q.wp_toOwn_c, Q.wp_toOwn_h, Q.wp_toOwn_s, Q.giveBack_val, Q.giveBack_hot, Q.wp_toRet_c, Q.wp_toRet_h, Q.wp_toRet_s, Q.wp_aNil, Q.wp_aCons, Q.wp_bin, Q.wp_una, Q.wp_dat1, Q.wp_dat2, Q.wp_whole2, Q.view_c, Q.view_h, Q.view_s, Q.sview_v, Q.sview_h, Q.data_l, Q.data_d, Q.viewC_c, Q.viewC_h, Q.viewC_s, Q.sviewC_v, Q.sviewC_h, Q.dataC_l, Q.dataC_d, Q.plain_n, Q.plain_b, Q.plain_i, Q.plain_s, Q.plain_l, Q.plain_t, Q.wp_asB, Q.boolR_c, Q.boolS_v, Q.boolR_s, Q.wp_bAnd, Q.wp_bOr, Q.wp_bNot, Q.wp_eAnd, Q.wp_eOr, Q.wp_eNot, Q.wp_eIf, Q.wp_tTrue, Q.wp_sNx, Q.wp_never, Q.seqK_nx, Q.seqK_rt, Q.seqK_bk, Q.seqK_ct, Q.wp_sSeq, Q.wp_sExpr, Q.wp_sRet, Q.wp_sIf, Q.wp_putS, Q.wp_sSet, Q.set_val, Q.set_un, Q.set_hot, Q.sl_cold, Q.sl_hot, Q.wp_sTg, Q.ex_cold, Q.asg_nm, Q.asg_tp, Q.asgs_nil, Q.asgs_cons, Q.wputs_nil, Q.wputs_cons, Q.wp_sPar, Q.colds_nil, Q.colds_c, Q.wp_eTup, Q.wp_eLst, Q.wp_eDic0, Q.viewsC_nil, Q.viewsC_c, Q.wp_eB, Q.toArgs_nil, Q.toArgs_c, Q.lend_hot, Q.toArgs_s, Q.slotPos_c, Q.backA_nil, Q.backA_c, Q.takeBack_hot, Q.backA_s, Q.resR_v, Q.resR_h, Q.wp_callE, Q.resS_c, Q.resS_h, Q.resS_n, Q.wp_eMt, Q.wp_eMt0, Q.chg_lst, Q.wp_mAppend, Q.wp_mPopAt, Q.wp_mPop, Q.wp_mDat, Q.tyD_l, Q.tyD_t, Q.tyD_d, Q.isTy_o, Q.wp_oNone, Q.intD_i, Q.wp_oSome, Q.wp_eCut, Q.cut_l, Q.cut_t, Q.wp_eIsi, Q.wp_eLRg1, Q.wp_iRng1, Q.wp_iRng2, Q.seq_l, Q.seq_t, Q.wp_iCold, Q.wp_iEnumC, Q.walked_v, Q.walked_h, Q.wp_iSlot, Q.unlk_none, Q.wp_sFor, Q.turnK_nx, Q.turnK_ct, Q.turnK_bk, Q.turnK_rt, Q.add_ii, Q.add_ll, Q.add_tt, Q.sub_ii, Q.mul_ii, Q.mul_li, Q.mul_ti, Q.div_ii, Q.mod_ii, Q.pow_ii, Q.neg_i, Q.rev_l, Q.ix_l, Q.ix_t, Q.ix_d, Q.eq_xy, Q.ne_xy, Q.ord_ii, Q.in_w, Q.notin_w, Q.in_l, Q.in_t, Q.is_w, Q.isnot_w, Q.isq_n, Q.isNone_n, Q.isNone_i, Q.isNone_t, Q.isNone_l, Q.len_l, Q.len_t, Q.list_l, Q.list_t, Q.tup_l, Q.tup_t, Q.abs_i, Q.int_i, Q.int_b, Q.min_ii, Q.max_ii, Q.min_l, Q.max_l, Q.sum_l, Q.sort_l, Q.wo_asInts, Q.wo_asInts0, Q.wo_asIntsC, Q.key_i, Q.key_s, Q.wp_eLenSet, Q.lenSet_t, Q.wp_eChain, Q.store_l, Q.store_d, Q.wo_stI, Q.wp_sSub, Q.wp_sAugS, Q.aug_v, Q.wp_sAug, Q.ip_ii, Q.hI_ii, Q.wp_eLenScr, Q.wp_eIxScr, Q.scr_is, Q.cap_iff, Q.rng_iff, Q.lrg_iff, Q.div_iff, Q.mul_iff, Q.pow_iff, Q.size_lt, Q.free_pin, Q.free_lk, Q.lent_lk, Q.ff, Q.ft, Q.tt, Q.ffp, Q.dt, Q.df, Q.ndt, Q.ndf, Q.wo_ret, Q.fin_hot, Q.fin_val, Q.fin_nil, Q.ownOk_nil, Q.ownOk_cons, Q.hot_v, Q.hot_u, Q.wipe_0, Q.wipe_1, Q.back_0, Q.back_1, Q.slotPos_nil, List.set_cons_zero, List.set_cons_succ, List.getElem?_cons_zero, List.getElem?_cons_succ, List.length_cons, List.length_nil, Nat.zero_add, Nat.reduceAdd, Nat.reduceLeDiff, true_and, and_true, and_self, Bool.not_true, Bool.not_false, List.cons_append, List.nil_append, Q.wput_is, Q.true_imp, imp_self, implies_true, true_or, or_true, List.length_map]
      refine wo_of (popAt d0 d1 (by omega)) ?_
      have gd : ls.getD d.toNat 0 ∈ ls := by
        have hd : d.toNat < ls.length := by omega
        rw [List.getD_eq_getElem?_getD, List.getElem?_eq_getElem hd]
        exact List.getElem_mem hd
      have hd : d.toNat < ls.length := by omega
      refine ⟨by omega, h2, ls.eraseIdx d.toNat, fs ++ [ls.getD d.toNat 0], .val (.int (0 + (i : Nat))), B2, ?_, by simp; omega, fun x hx => l3 (List.mem_of_mem_eraseIdx hx), fun x hx => ?_, rfl, ?_⟩
      · rw [List.length_eraseIdx, if_pos hd]; omega
      · rcases List.mem_append.mp hx with q | q
        · exact l4 q
        · rw [List.mem_singleton.mp q]; exact l3 gd
      · rw [List.map_append]; rfl
    · cases hd
  · obtain ⟨h', ls, fs, s, B', l1, l2, l3, l4, hs, rfl⟩ := he
    simp only [Q.wp_ok, Q.wp_no, Q.wo_some, Q.wo_none, Q.wo_bind, Q.wo_map, Q.wo_at0, Q.wo_atS, Q.wset_0, Q.wset_S, Q.bnd_val, Q.bnd_hot, Q.wp_eVar, Q.asArg_val, Q.asArg_hot, Q.wp_eArg, Q.wp_eC, Q.wp_cold, Q.wp_toCold_c, Q.wp_toCold_h, Q.chill_val, Q.chill_hot, Q.wp_toCold_s, Q.wp_own, Q.wp_toOwn_c, Q.wp_toOwn_h, Q.wp_toOwn_s, Q.giveBack_val, Q.giveBack_hot, Q.wp_toRet_c, Q.wp_toRet_h, Q.wp_toRet_s, Q.wp_aNil, Q.wp_aCons, Q.wp_bin, Q.wp_una, Q.wp_dat1, Q.wp_dat2, Q.wp_whole2, Q.view_c, Q.view_h, Q.view_s, Q.sview_v, Q.sview_h, Q.data_l, Q.data_d, Q.viewC_c, Q.viewC_h, Q.viewC_s, Q.sviewC_v, Q.sviewC_h, Q.dataC_l, Q.dataC_d, Q.plain_n, Q.plain_b, Q.plain_i, Q.plain_s, Q.plain_l, Q.plain_t, Q.wp_asB, Q.boolR_c, Q.boolS_v, Q.boolR_s, Q.wp_bAnd, Q.wp_bOr, Q.wp_bNot, Q.wp_eAnd, Q.wp_eOr, Q.wp_eNot, Q.wp_eIf, Q.wp_tTrue, Q.wp_sNx, Q.wp_never, Q.seqK_nx, Q.seqK_rt, Q.seqK_bk, Q.seqK_ct, Q.wp_sSeq, Q.wp_sExpr, Q.wp_sRet, Q.wp_sIf, Q.wp_putS, Q.wp_sSet, Q.set_val, Q.set_un, Q.set_hot, Q.sl_cold, Q.sl_hot, Q.wp_sTg, Q.ex_cold, Q.asg_nm, Q.asg_tp, Q.asgs_nil, Q.asgs_cons, Q.wputs_nil, Q.wputs_cons, Q.wp_sPar, Q.colds_nil, Q.colds_c, Q.wp_eTup, Q.wp_eLst, Q.wp_eDic0, Q.viewsC_nil, Q.viewsC_c, Q.wp_eB, Q.toArgs_nil, Q.toArgs_c, Q.lend_hot, Q.toArgs_s, Q.slotPos_c, Q.backA_nil, Q.backA_c, Q.takeBack_hot, Q.backA_s, Q.resR_v, Q.resR_h, Q.wp_callE, Q.resS_c, Q.resS_h, Q.resS_n, Q.wp_eMt, Q.wp_eMt0, Q.chg_lst, Q.wp_mAppend, Q.wp_mPopAt, Q.wp_mPop, Q.wp_mDat, Q.tyD_l, Q.tyD_t, Q.tyD_d, Q.isTy_o, Q.wp_oNone, Q.intD_i, Q.wp_oSome, Q.wp_eCut, Q.cut_l, Q.cut_t, Q.wp_eIsi, Q.wp_eLRg1, Q.wp_iRng1, Q.wp_iRng2, Q.seq_l, Q.seq_t, Q.wp_iCold, Q.wp_iEnumC, Q.walked_v, Q.walked_h, Q.wp_iSlot, Q.unlk_none, Q.wp_sFor, Q.turnK_nx, Q.turnK_ct, Q.turnK_bk, Q.turnK_rt, Q.add_ii, Q.add_ll, Q.add_tt, Q.sub_ii, Q.mul_ii, Q.mul_li, Q.mul_ti, Q.div_ii, Q.mod_ii, Q.pow_ii, Q.neg_i, Q.rev_l, Q.ix_l, Q.ix_t, Q.ix_d, Q.eq_xy, Q.ne_xy, Q.ord_ii, Q.in_w, Q.notin_w, Q.in_l, Q.in_t, Q.is_w, Q.isnot_w, Q.isq_n, Q.isNone_n, Q.isNone_i, Q.isNone_t, Q.isNone_l, Q.len_l, Q.len_t, Q.list_l, Q.list_t, Q.tup_l, Q.tup_t, Q.abs_i, Q.int_i, Q.int_b, Q.min_ii, Q.max_ii, Q.min_l, Q.max_l, Q.sum_l, Q.sort_l, Q.wo_asInts, Q.wo_asInts0, Q.wo_asIntsC, Q.key_i, Q.key_s, Q.wp_eLenSet, Q.lenSet_t, Q.wp_eChain, Q.store_l, Q.store_d, Q.wo_stI, Q.wp_sSub, Q.wp_sAugS, Q.aug_v, Q.wp_sAug, Q.ip_ii, Q.hI_ii, Q.wp_eLenScr, Q.wp_eIxScr, Q.scr_is, Q.cap_iff, Q.rng_iff, Q.lrg_iff, Q.div_iff, Q.mul_iff, Q.pow_iff, Q.size_lt, Q.free_pin, Q.free_lk, Q.lent_lk, Q.ff, Q.ft, Q.tt, Q.ffp, Q.dt, Q.df, Q.ndt, Q.ndf, Q.wo_ret, Q.fin_hot, Q.fin_val, Q.fin_nil, Q.ownOk_nil, Q.ownOk_cons, Q.hot_v, Q.hot_u, Q.wipe_0, Q.wipe_1, Q.back_0, Q.back_1, Q.slotPos_nil, List.set_cons_zero, List.set_cons_succ, List.getElem?_cons_zero, List.getElem?_cons_succ, List.length_cons, List.length_nil, Nat.zero_add, Nat.reduceAdd, Nat.reduceLeDiff, true_and, and_true, and_self, Bool.not_true, Bool.not_false, List.cons_append, List.nil_append, Q.wput_is, Q.true_imp, imp_self, implies_true, true_or, or_true]
    rw [rngD_len, Int.toNat_natCast] at l1 l2
    exact ⟨fs, h', B', by omega, l4, rfl⟩
end K79
set_option Elab.async false
set_option linter.all false
set_option maxRecDepth 100000
set_option maxHeartbeats 4000000
namespace K79
open Q Bel
/-! neighbours that are alike are left out -/
def chain : List Int → Prop
  | a :: b :: r => a ≠ b ∧ chain (b :: r)
  | _ => True
theorem chain_app : ∀ (l : List Int) (x : Int), chain l → (∀ y, l.getLast? = some y → y ≠ x) → chain (l ++ [x])
  | [], _, _, _ => trivial
  | [a], x, _, h => ⟨h a rfl, trivial⟩
  | a :: b :: r, x, h, h2 => ⟨h.1, chain_app (b :: r) x h.2 fun y hy => h2 y (by rw [List.getLast?_cons_cons]; exact hy)⟩
theorem chain_get : ∀ (l : List Int) (i : Nat) (a b : Int), chain l → l[i]? = some a → l[i + 1]? = some b → a ≠ b
  | a' :: b' :: r, 0, a, b, h, h1, h2 => by
    simp at h1 h2
    rw [← h1, ← h2]; exact h.1
  | a' :: b' :: r, i + 1, a, b, h, h1, h2 => chain_get (b' :: r) i a b h.2 (by simpa using h1) (by simpa using h2)
  | [a'], i, a, b, h, h1, h2 => by simp at h2
  | [], i, a, b, h, h1, h2 => by simp at h1
theorem chain_take : ∀ (l : List Int) (n : Nat), chain l → chain (l.take n)
  | [], n, _ => by cases n <;> trivial
  | [a], n, _ => by rcases n with _ | n <;> simp [chain]
  | a :: b :: r, 0, _ => trivial
  | a :: b :: r, 1, _ => trivial
  | a :: b :: r, n + 2, h => by
    have := chain_take (b :: r) (n + 1) h.2
    rw [List.take_succ_cons] at this
    rw [List.take_succ_cons, List.take_succ_cons]
    exact ⟨h.1, this⟩
def newAt (xs : List Int) (k : Nat) : Bool := decide (k = 0) || !decide (xs.getD k 0 = xs.getD (k - 1) 0)
def thin (xs : List Int) (n : Nat) : List Int := ((List.range n).filter (newAt xs)).map fun k => xs.getD k 0
theorem thin_ok (xs : List Int) : ∀ n, chain (thin xs n) ∧ (1 ≤ n → (thin xs n).getLast? = some (xs.getD (n - 1) 0))
  | 0 => ⟨trivial, fun h => by omega⟩
  | n + 1 => by
    obtain ⟨h1, h2⟩ := thin_ok xs n
    have e : thin xs (n + 1) = if newAt xs n = true then thin xs n ++ [xs.getD n 0] else thin xs n := by
      unfold thin
      rw [List.range_succ, List.filter_append, List.map_append]
      by_cases q : newAt xs n = true <;> simp [q]
    rw [e]
    by_cases q : newAt xs n = true
    · rw [if_pos q]
      refine ⟨chain_app _ _ h1 fun y hy => ?_, fun _ => by simp⟩
      by_cases n0 : n = 0
      · subst n0; cases hy
      · rw [h2 (by omega)] at hy
        cases hy
        intro z
        simp [newAt, n0] at q
        exact q z.symm
    · rw [if_neg q]
      refine ⟨h1, fun _ => ?_⟩
      by_cases n0 : n = 0
      · subst n0; simp [newAt] at q
      · rw [h2 (by omega)]
        simp [newAt, n0] at q
        show some _ = some (xs.getD n 0)
        simp [q]
theorem thin_mem (xs : List Int) : thin xs xs.length ⊆ xs := fun x hx => by
  obtain ⟨k, hk, rfl⟩ := List.mem_map.mp hx
  have hk := List.mem_range.mp (List.mem_filter.mp hk).1
  rw [List.getD_eq_getElem?_getD, List.getElem?_eq_getElem hk]
  exact List.getElem_mem hk
theorem walk_of_row (xs : List Int) (h1 : 1 ≤ xs.length) (h2 : ∀ x ∈ xs, 0 ≤ x ∧ x < 40) : Walk ((thin xs xs.length).take 20) := by
  obtain ⟨c1, c2⟩ := thin_ok xs xs.length
  have c2 := c2 h1
  refine ⟨?_, by simp; omega, fun t ht => h2 t (thin_mem xs (List.mem_of_mem_take ht)), fun i a b ha hb => chain_get _ i a b (chain_take _ 20 c1) ha hb⟩
  have : 1 ≤ (thin xs xs.length).length := by
    cases h : thin xs xs.length with
    | nil => rw [h] at c2; cases c2
    | cons a l => simp
  simp; omega
theorem pick_v (h : Hot) (B : Box h) (xs : List Int) (h1 : 1 ≤ xs.length) (h2 : xs.length ≤ 1000) (m : Md) (hm : m.lk = false) : wo (f__law_pick [.hot m h, .val (.list (xs.map .int))]) fun p => ∃ x h', Box h' ∧ x ∈ xs ∧ p = (.val (.int x), [.hot m h', .val (.list (xs.map .int))]) := by
  obtain ⟨x, h', e, b, c⟩ := law_pick_v h B xs h1 h2 m hm
  exact ⟨_, e, x, h', b, c, rfl⟩
theorem pick_h (h : Hot) (B : Box h) (xs : List Int) (h1 : 1 ≤ xs.length) (h2 : xs.length ≤ 1000) (m m2 : Md) (hm : m.lk = false) : wo (f__law_pick [.hot m h, .hot m2 (.lst (xs.map .int))]) fun p => ∃ x h', Box h' ∧ x ∈ xs ∧ p = (.val (.int x), [.hot m h', .hot m2 (.lst (xs.map .int))]) := by
  obtain ⟨x, h', e, b, c⟩ := law_pick_h h B xs h1 h2 m m2 hm
  exact ⟨_, e, x, h', b, c, rfl⟩

theorem cut_lo (ds : List PySem.PyData) (k : Int) (h : 0 ≤ k) : cutD ds none (some k) = ds.take k.toNat := by
  unfold cutD
  rw [HT.sIx_none, show k = ((k.toNat : Nat) : Int) by omega, HT.sIx_nat, Int.toNat_natCast, List.drop_zero, Nat.sub_zero]
  rcases Nat.le_total k.toNat ds.length with q | q
  · rw [Nat.min_eq_left q]
  · rw [Nat.min_eq_right q, List.take_length, List.take_of_length_le q]
theorem cut_hi (ds : List PySem.PyData) (k : Int) (h : 0 ≤ k) : cutD ds (some k) none = ds.drop k.toNat := by
  unfold cutD
  rw [HT.sIx_none, show k = ((k.toNat : Nat) : Int) by omega, HT.sIx_nat, Int.toNat_natCast]
  rcases Nat.le_total k.toNat ds.length with q | q
  · rw [Nat.min_eq_left q]
    exact List.take_of_length_le (by simp only [List.length_drop, Nat.le_refl])
  · rw [Nat.min_eq_right q, List.drop_of_length_le q, List.drop_of_length_le (by simp : ds.length ≤ ds.length)]; simp
def Fit (xs : List Int) : Prop := ∀ x ∈ xs, 0 ≤ x ∧ x < 40
theorem rng40 : rngD 0 40 = ((List.range 40).map fun k => ((k : Nat) : Int)).map PySem.PyData.int := rngD0 40
theorem lt_head (h : Hot) (B : Box h) (m : Md) (hm : m.lk = false) (Z : Out → Sto → Prop) (k : ∀ h' kind many names, Box h' → 1 ≤ names.length → names.length ≤ 40 → Fit names → Z .nx [.hot m h', .val (.int kind), .val (.int many), .hot Md.free (.lst (names.map .int)), .un, .un, .un, .un]) :
    wp (sSeq (sPar [1, 2] (aCons (own (callE f__law_take (aCons (eArg 0) (aCons (cold (eC (.int 4))) (aNil))))) (aCons (own (callE f__law_pick (aCons (eArg 0) (aCons (cold (eLst (aCons (cold (eC (.int 3))) (aCons (cold (eC (.int 6))) (aCons (cold (eC (.int 9))) (aCons (cold (eC (.int 10))) (aCons (cold (eC (.int 10))) (aCons (cold (eC (.int 10))) (aCons (cold (eC (.int 20))) (aNil)))))))))) (aNil))))) (aNil))))
      (sSet 3 (eCut (callE f__law_mixed (aCons (eArg 0) (aCons (cold (eLRg1 (eC (.int 40)))) (aNil)))) (oNone) (oSome (eVar 2)))) [.hot m h, .un, .un, .un, .un, .un, .un, .un]) Z := by
  simp only [Q.wp_ok, Q.wp_no, Q.wo_some, Q.wo_none, Q.wo_bind, Q.wo_map, Q.wo_at0, Q.wo_atS, Q.wset_0, Q.wset_S, Q.bnd_val, Q.bnd_hot, Q.wp_eVar, Q.asArg_val, Q.asArg_hot, Q.wp_eArg, Q.wp_eC, Q.wp_cold, Q.wp_toCold_c, Q.wp_toCold_h, Q.chill_val, Q.chill_hot, Q.wp_toCold_s, Q.wp_own, Q.wp_toOwn_c, Q.wp_toOwn_h, Q.wp_toOwn_s, Q.giveBack_val, Q.giveBack_hot, Q.wp_toRet_c, Q.wp_toRet_h, Q.wp_toRet_s, Q.wp_aNil, Q.wp_aCons, Q.wp_bin, Q.wp_una, Q.wp_dat1, Q.wp_dat2, Q.wp_whole2, Q.view_c, Q.view_h, Q.view_s, Q.sview_v, Q.sview_h, Q.data_l, Q.data_d, Q.viewC_c, Q.viewC_h, Q.viewC_s, Q.sviewC_v, Q.sviewC_h, Q.dataC_l, Q.dataC_d, Q.plain_n, Q.plain_b, Q.plain_i, Q.plain_s, Q.plain_l, Q.plain_t, Q.wp_asB, Q.boolR_c, Q.boolS_v, Q.boolR_s, Q.wp_bAnd, Q.wp_bOr, Q.wp_bNot, Q.wp_eAnd, Q.wp_eOr, Q.wp_eNot, Q.wp_eIf, Q.wp_tTrue, Q.wp_sNx, Q.wp_never, Q.seqK_nx, Q.seqK_rt, Q.seqK_bk, Q.seqK_ct, Q.wp_sSeq, Q.wp_sExpr, Q.wp_sRet, Q.wp_sIf, Q.wp_putS, Q.wp_sSet, Q.set_val, Q.set_un, Q.set_hot, Q.sl_cold, Q.sl_hot, Q.wp_sTg, Q.ex_cold, Q.asg_nm, Q.asg_tp, Q.asgs_nil, Q.asgs_cons, Q.wputs_nil, Q.wputs_cons, Q.wp_sPar, Q.colds_nil, Q.colds_c, Q.wp_eTup, Q.wp_eLst, Q.wp_eDic0, Q.viewsC_nil, Q.viewsC_c, Q.wp_eB, Q.toArgs_nil, Q.toArgs_c, Q.lend_hot, Q.toArgs_s, Q.slotPos_c, Q.backA_nil, Q.backA_c, Q.takeBack_hot, Q.backA_s, Q.resR_v, Q.resR_h, Q.wp_callE, Q.resS_c, Q.resS_h, Q.resS_n, Q.wp_eMt, Q.wp_eMt0, Q.chg_lst, Q.wp_mAppend, Q.wp_mPopAt, Q.wp_mPop, Q.wp_mDat, Q.tyD_l, Q.tyD_t, Q.tyD_d, Q.isTy_o, Q.wp_oNone, Q.intD_i, Q.wp_oSome, Q.wp_eCut, Q.cut_l, Q.cut_t, Q.wp_eIsi, Q.wp_eLRg1, Q.wp_iRng1, Q.wp_iRng2, Q.seq_l, Q.seq_t, Q.wp_iCold, Q.wp_iEnumC, Q.walked_v, Q.walked_h, Q.wp_iSlot, Q.unlk_none, Q.wp_sFor, Q.turnK_nx, Q.turnK_ct, Q.turnK_bk, Q.turnK_rt, Q.add_ii, Q.add_ll, Q.add_tt, Q.sub_ii, Q.mul_ii, Q.mul_li, Q.mul_ti, Q.div_ii, Q.mod_ii, Q.pow_ii, Q.neg_i, Q.rev_l, Q.ix_l, Q.ix_t, Q.ix_d, Q.eq_xy, Q.ne_xy, Q.ord_ii, Q.in_w, Q.notin_w, Q.in_l, Q.in_t, Q.is_w, Q.isnot_w, Q.isq_n, Q.isNone_n, Q.isNone_i, Q.isNone_t, Q.isNone_l, Q.len_l, Q.len_t, Q.list_l, Q.list_t, Q.tup_l, Q.tup_t, Q.abs_i, Q.int_i, Q.int_b, Q.min_ii, Q.max_ii, Q.min_l, Q.max_l, Q.sum_l, Q.sort_l, Q.wo_asInts, Q.wo_asInts0, Q.wo_asIntsC, Q.key_i, Q.key_s, Q.wp_eLenSet, Q.lenSet_t, Q.wp_eChain, Q.store_l, Q.store_d, Q.wo_stI, Q.wp_sSub, Q.wp_sAugS, Q.aug_v, Q.wp_sAug, Q.ip_ii, Q.hI_ii, Q.wp_eLenScr, Q.wp_eIxScr, Q.scr_is, Q.cap_iff, Q.rng_iff, Q.lrg_iff, Q.div_iff, Q.mul_iff, Q.pow_iff, Q.size_lt, Q.free_pin, Q.free_lk, Q.lent_lk, Q.ff, Q.ft, Q.tt, Q.ffp, Q.dt, Q.df, Q.ndt, Q.ndf, Q.wo_ret, Q.fin_hot, Q.fin_val, Q.fin_nil, Q.ownOk_nil, Q.ownOk_cons, Q.hot_v, Q.hot_u, Q.wipe_0, Q.wipe_1, Q.back_0, Q.back_1, Q.slotPos_nil, List.set_cons_zero, List.set_cons_succ, List.getElem?_cons_zero, List.getElem?_cons_succ, List.length_cons, List.length_nil, Nat.zero_add, Nat.reduceAdd, Nat.reduceLeDiff, true_and, and_true, and_self, Bool.not_true, Bool.not_false, List.cons_append, List.nil_append, Q.wput_is, Q.true_imp, imp_self, implies_true, true_or, or_true, hm]
  refine wo_imp (take_wo h B 4 Md.lent rfl (by decide) (by decide)) fun p hp => ?_
  obtain ⟨kind, h1, B1, -, -, rfl⟩ := hp
  simp only [Q.wp_ok, Q.wp_no, Q.wo_some, Q.wo_none, Q.wo_bind, Q.wo_map, Q.wo_at0, Q.wo_atS, Q.wset_0, Q.wset_S, Q.bnd_val, Q.bnd_hot, Q.wp_eVar, Q.asArg_val, Q.asArg_hot, Q.wp_eArg, Q.wp_eC, Q.wp_cold, Q.wp_toCold_c, Q.wp_toCold_h, Q.chill_val, Q.chill_hot, Q.wp_toCold_s, Q.wp_own, Q.wp_toOwn_c, Q.wp_toOwn_h, Q.wp_toOwn_s, Q.giveBack_val, Q.giveBack_hot, Q.wp_toRet_c, Q.wp_toRet_h, Q.wp_toRet_s, Q.wp_aNil, Q.wp_aCons, Q.wp_bin, Q.wp_una, Q.wp_dat1, Q.wp_dat2, Q.wp_whole2, Q.view_c, Q.view_h, Q.view_s, Q.sview_v, Q.sview_h, Q.data_l, Q.data_d, Q.viewC_c, Q.viewC_h, Q.viewC_s, Q.sviewC_v, Q.sviewC_h, Q.dataC_l, Q.dataC_d, Q.plain_n, Q.plain_b, Q.plain_i, Q.plain_s, Q.plain_l, Q.plain_t, Q.wp_asB, Q.boolR_c, Q.boolS_v, Q.boolR_s, Q.wp_bAnd, Q.wp_bOr, Q.wp_bNot, Q.wp_eAnd, Q.wp_eOr, Q.wp_eNot, Q.wp_eIf, Q.wp_tTrue, Q.wp_sNx, Q.wp_never, Q.seqK_nx, Q.seqK_rt, Q.seqK_bk, Q.seqK_ct, Q.wp_sSeq, Q.wp_sExpr, Q.wp_sRet, Q.wp_sIf, Q.wp_putS, Q.wp_sSet, Q.set_val, Q.set_un, Q.set_hot, Q.sl_cold, Q.sl_hot, Q.wp_sTg, Q.ex_cold, Q.asg_nm, Q.asg_tp, Q.asgs_nil, Q.asgs_cons, Q.wputs_nil, Q.wputs_cons, Q.wp_sPar, Q.colds_nil, Q.colds_c, Q.wp_eTup, Q.wp_eLst, Q.wp_eDic0, Q.viewsC_nil, Q.viewsC_c, Q.wp_eB, Q.toArgs_nil, Q.toArgs_c, Q.lend_hot, Q.toArgs_s, Q.slotPos_c, Q.backA_nil, Q.backA_c, Q.takeBack_hot, Q.backA_s, Q.resR_v, Q.resR_h, Q.wp_callE, Q.resS_c, Q.resS_h, Q.resS_n, Q.wp_eMt, Q.wp_eMt0, Q.chg_lst, Q.wp_mAppend, Q.wp_mPopAt, Q.wp_mPop, Q.wp_mDat, Q.tyD_l, Q.tyD_t, Q.tyD_d, Q.isTy_o, Q.wp_oNone, Q.intD_i, Q.wp_oSome, Q.wp_eCut, Q.cut_l, Q.cut_t, Q.wp_eIsi, Q.wp_eLRg1, Q.wp_iRng1, Q.wp_iRng2, Q.seq_l, Q.seq_t, Q.wp_iCold, Q.wp_iEnumC, Q.walked_v, Q.walked_h, Q.wp_iSlot, Q.unlk_none, Q.wp_sFor, Q.turnK_nx, Q.turnK_ct, Q.turnK_bk, Q.turnK_rt, Q.add_ii, Q.add_ll, Q.add_tt, Q.sub_ii, Q.mul_ii, Q.mul_li, Q.mul_ti, Q.div_ii, Q.mod_ii, Q.pow_ii, Q.neg_i, Q.rev_l, Q.ix_l, Q.ix_t, Q.ix_d, Q.eq_xy, Q.ne_xy, Q.ord_ii, Q.in_w, Q.notin_w, Q.in_l, Q.in_t, Q.is_w, Q.isnot_w, Q.isq_n, Q.isNone_n, Q.isNone_i, Q.isNone_t, Q.isNone_l, Q.len_l, Q.len_t, Q.list_l, Q.list_t, Q.tup_l, Q.tup_t, Q.abs_i, Q.int_i, Q.int_b, Q.min_ii, Q.max_ii, Q.min_l, Q.max_l, Q.sum_l, Q.sort_l, Q.wo_asInts, Q.wo_asInts0, Q.wo_asIntsC, Q.key_i, Q.key_s, Q.wp_eLenSet, Q.lenSet_t, Q.wp_eChain, Q.store_l, Q.store_d, Q.wo_stI, Q.wp_sSub, Q.wp_sAugS, Q.aug_v, Q.wp_sAug, Q.ip_ii, Q.hI_ii, Q.wp_eLenScr, Q.wp_eIxScr, Q.scr_is, Q.cap_iff, Q.rng_iff, Q.lrg_iff, Q.div_iff, Q.mul_iff, Q.pow_iff, Q.size_lt, Q.free_pin, Q.free_lk, Q.lent_lk, Q.ff, Q.ft, Q.tt, Q.ffp, Q.dt, Q.df, Q.ndt, Q.ndf, Q.wo_ret, Q.fin_hot, Q.fin_val, Q.fin_nil, Q.ownOk_nil, Q.ownOk_cons, Q.hot_v, Q.hot_u, Q.wipe_0, Q.wipe_1, Q.back_0, Q.back_1, Q.slotPos_nil, List.set_cons_zero, List.set_cons_succ, List.getElem?_cons_zero, List.getElem?_cons_succ, List.length_cons, List.length_nil, Nat.zero_add, Nat.reduceAdd, Nat.reduceLeDiff, true_and, and_true, and_self, Bool.not_true, Bool.not_false, List.cons_append, List.nil_append, Q.wput_is, Q.true_imp, imp_self, implies_true, true_or, or_true, hm]
  refine wo_imp (pick_v h1 B1 [3, 6, 9, 10, 10, 10, 20] (by decide) (by decide) Md.lent rfl) fun p hp => ?_
  obtain ⟨many, h2, B2, mm, rfl⟩ := hp
  simp only [Q.wp_ok, Q.wp_no, Q.wo_some, Q.wo_none, Q.wo_bind, Q.wo_map, Q.wo_at0, Q.wo_atS, Q.wset_0, Q.wset_S, Q.bnd_val, Q.bnd_hot, Q.wp_eVar, Q.asArg_val, Q.asArg_hot, Q.wp_eArg, Q.wp_eC, Q.wp_cold, Q.wp_toCold_c, Q.wp_toCold_h, Q.chill_val, Q.chill_hot, Q.wp_toCold_s, Q.wp_own, Q.wp_toOwn_c, Q.wp_toOwn_h, Q.wp_toOwn_s, Q.giveBack_val, Q.giveBack_hot, Q.wp_toRet_c, Q.wp_toRet_h, Q.wp_toRet_s, Q.wp_aNil, Q.wp_aCons, Q.wp_bin, Q.wp_una, Q.wp_dat1, Q.wp_dat2, Q.wp_whole2, Q.view_c, Q.view_h, Q.view_s, Q.sview_v, Q.sview_h, Q.data_l, Q.data_d, Q.viewC_c, Q.viewC_h, Q.viewC_s, Q.sviewC_v, Q.sviewC_h, Q.dataC_l, Q.dataC_d, Q.plain_n, Q.plain_b, Q.plain_i, Q.plain_s, Q.plain_l, Q.plain_t, Q.wp_asB, Q.boolR_c, Q.boolS_v, Q.boolR_s, Q.wp_bAnd, Q.wp_bOr, Q.wp_bNot, Q.wp_eAnd, Q.wp_eOr, Q.wp_eNot, Q.wp_eIf, Q.wp_tTrue, Q.wp_sNx, Q.wp_never, Q.seqK_nx, Q.seqK_rt, Q.seqK_bk, Q.seqK_ct, Q.wp_sSeq, Q.wp_sExpr, Q.wp_sRet, Q.wp_sIf, Q.wp_putS, Q.wp_sSet, Q.set_val, Q.set_un, Q.set_hot, Q.sl_cold, Q.sl_hot, Q.wp_sTg, Q.ex_cold, Q.asg_nm, Q.asg_tp, Q.asgs_nil, Q.asgs_cons, Q.wputs_nil, Q.wputs_cons, Q.wp_sPar, Q.colds_nil, Q.colds_c, Q.wp_eTup, Q.wp_eLst, Q.wp_eDic0, Q.viewsC_nil, Q.viewsC_c, Q.wp_eB, Q.toArgs_nil, Q.toArgs_c, Q.lend_hot, Q.toArgs_s, Q.slotPos_c, Q.backA_nil, Q.backA_c, Q.takeBack_hot, Q.backA_s, Q.resR_v, Q.resR_h, Q.wp_callE, Q.resS_c, Q.resS_h, Q.resS_n, Q.wp_eMt, Q.wp_eMt0, Q.chg_lst, Q.wp_mAppend, Q.wp_mPopAt, Q.wp_mPop, Q.wp_mDat, Q.tyD_l, Q.tyD_t, Q.tyD_d, Q.isTy_o, Q.wp_oNone, Q.intD_i, Q.wp_oSome, Q.wp_eCut, Q.cut_l, Q.cut_t, Q.wp_eIsi, Q.wp_eLRg1, Q.wp_iRng1, Q.wp_iRng2, Q.seq_l, Q.seq_t, Q.wp_iCold, Q.wp_iEnumC, Q.walked_v, Q.walked_h, Q.wp_iSlot, Q.unlk_none, Q.wp_sFor, Q.turnK_nx, Q.turnK_ct, Q.turnK_bk, Q.turnK_rt, Q.add_ii, Q.add_ll, Q.add_tt, Q.sub_ii, Q.mul_ii, Q.mul_li, Q.mul_ti, Q.div_ii, Q.mod_ii, Q.pow_ii, Q.neg_i, Q.rev_l, Q.ix_l, Q.ix_t, Q.ix_d, Q.eq_xy, Q.ne_xy, Q.ord_ii, Q.in_w, Q.notin_w, Q.in_l, Q.in_t, Q.is_w, Q.isnot_w, Q.isq_n, Q.isNone_n, Q.isNone_i, Q.isNone_t, Q.isNone_l, Q.len_l, Q.len_t, Q.list_l, Q.list_t, Q.tup_l, Q.tup_t, Q.abs_i, Q.int_i, Q.int_b, Q.min_ii, Q.max_ii, Q.min_l, Q.max_l, Q.sum_l, Q.sort_l, Q.wo_asInts, Q.wo_asInts0, Q.wo_asIntsC, Q.key_i, Q.key_s, Q.wp_eLenSet, Q.lenSet_t, Q.wp_eChain, Q.store_l, Q.store_d, Q.wo_stI, Q.wp_sSub, Q.wp_sAugS, Q.aug_v, Q.wp_sAug, Q.ip_ii, Q.hI_ii, Q.wp_eLenScr, Q.wp_eIxScr, Q.scr_is, Q.cap_iff, Q.rng_iff, Q.lrg_iff, Q.div_iff, Q.mul_iff, Q.pow_iff, Q.size_lt, Q.free_pin, Q.free_lk, Q.lent_lk, Q.ff, Q.ft, Q.tt, Q.ffp, Q.dt, Q.df, Q.ndt, Q.ndf, Q.wo_ret, Q.fin_hot, Q.fin_val, Q.fin_nil, Q.ownOk_nil, Q.ownOk_cons, Q.hot_v, Q.hot_u, Q.wipe_0, Q.wipe_1, Q.back_0, Q.back_1, Q.slotPos_nil, List.set_cons_zero, List.set_cons_succ, List.getElem?_cons_zero, List.getElem?_cons_succ, List.length_cons, List.length_nil, Nat.zero_add, Nat.reduceAdd, Nat.reduceLeDiff, true_and, and_true, and_self, Bool.not_true, Bool.not_false, List.cons_append, List.nil_append, Q.wput_is, Q.true_imp, imp_self, implies_true, true_or, or_true, hm]
  refine ⟨by decide, ?_⟩
  have e40 : rngD 0 (40 - 0 : Int).toNat = ((List.range 40).map fun k => ((k : Nat) : Int)).map PySem.PyData.int := rngD0 40
  rw [e40]
  refine wo_imp (law_mixed h2 B2 Md.lent rfl ((List.range 40).map fun k => ((k : Nat) : Int)) (by simp)) fun p hp => ?_
  obtain ⟨fs, h3, B3, f1, f2, rfl⟩ := hp
  have m3 : 3 ≤ many ∧ many ≤ 20 := by simp at mm; omega
  simp only [Q.wp_ok, Q.wp_no, Q.wo_some, Q.wo_none, Q.wo_bind, Q.wo_map, Q.wo_at0, Q.wo_atS, Q.wset_0, Q.wset_S, Q.bnd_val, Q.bnd_hot, Q.wp_eVar, Q.asArg_val, Q.asArg_hot, Q.wp_eArg, Q.wp_eC, Q.wp_cold, Q.wp_toCold_c, Q.wp_toCold_h, Q.chill_val, Q.chill_hot, Q.wp_toCold_s, Q.wp_own, Q.wp_toOwn_c, Q.wp_toOwn_h, Q.wp_toOwn_s, Q.giveBack_val, Q.giveBack_hot, Q.wp_toRet_c, Q.wp_toRet_h, Q.wp_toRet_s, Q.wp_aNil, Q.wp_aCons, Q.wp_bin, Q.wp_una, Q.wp_dat1, Q.wp_dat2, Q.wp_whole2, Q.view_c, Q.view_h, Q.view_s, Q.sview_v, Q.sview_h, Q.data_l, Q.data_d, Q.viewC_c, Q.viewC_h, Q.viewC_s, Q.sviewC_v, Q.sviewC_h, Q.dataC_l, Q.dataC_d, Q.plain_n, Q.plain_b, Q.plain_i, Q.plain_s, Q.plain_l, Q.plain_t, Q.wp_asB, Q.boolR_c, Q.boolS_v, Q.boolR_s, Q.wp_bAnd, Q.wp_bOr, Q.wp_bNot, Q.wp_eAnd, Q.wp_eOr, Q.wp_eNot, Q.wp_eIf, Q.wp_tTrue, Q.wp_sNx, Q.wp_never, Q.seqK_nx, Q.seqK_rt, Q.seqK_bk, Q.seqK_ct, Q.wp_sSeq, Q.wp_sExpr, Q.wp_sRet, Q.wp_sIf, Q.wp_putS, Q.wp_sSet, Q.set_val, Q.set_un, Q.set_hot, Q.sl_cold, Q.sl_hot, Q.wp_sTg, Q.ex_cold, Q.asg_nm, Q.asg_tp, Q.asgs_nil, Q.asgs_cons, Q.wputs_nil, Q.wputs_cons, Q.wp_sPar, Q.colds_nil, Q.colds_c, Q.wp_eTup, Q.wp_eLst, Q.wp_eDic0, Q.viewsC_nil, Q.viewsC_c, Q.wp_eB, Q.toArgs_nil, Q.toArgs_c, Q.lend_hot, Q.toArgs_s, Q.slotPos_c, Q.backA_nil, Q.backA_c, Q.takeBack_hot, Q.backA_s, Q.resR_v, Q.resR_h, Q.wp_callE, Q.resS_c, Q.resS_h, Q.resS_n, Q.wp_eMt, Q.wp_eMt0, Q.chg_lst, Q.wp_mAppend, Q.wp_mPopAt, Q.wp_mPop, Q.wp_mDat, Q.tyD_l, Q.tyD_t, Q.tyD_d, Q.isTy_o, Q.wp_oNone, Q.intD_i, Q.wp_oSome, Q.wp_eCut, Q.cut_l, Q.cut_t, Q.wp_eIsi, Q.wp_eLRg1, Q.wp_iRng1, Q.wp_iRng2, Q.seq_l, Q.seq_t, Q.wp_iCold, Q.wp_iEnumC, Q.walked_v, Q.walked_h, Q.wp_iSlot, Q.unlk_none, Q.wp_sFor, Q.turnK_nx, Q.turnK_ct, Q.turnK_bk, Q.turnK_rt, Q.add_ii, Q.add_ll, Q.add_tt, Q.sub_ii, Q.mul_ii, Q.mul_li, Q.mul_ti, Q.div_ii, Q.mod_ii, Q.pow_ii, Q.neg_i, Q.rev_l, Q.ix_l, Q.ix_t, Q.ix_d, Q.eq_xy, Q.ne_xy, Q.ord_ii, Q.in_w, Q.notin_w, Q.in_l, Q.in_t, Q.is_w, Q.isnot_w, Q.isq_n, Q.isNone_n, Q.isNone_i, Q.isNone_t, Q.isNone_l, Q.len_l, Q.len_t, Q.list_l, Q.list_t, Q.tup_l, Q.tup_t, Q.abs_i, Q.int_i, Q.int_b, Q.min_ii, Q.max_ii, Q.min_l, Q.max_l, Q.sum_l, Q.sort_l, Q.wo_asInts, Q.wo_asInts0, Q.wo_asIntsC, Q.key_i, Q.key_s, Q.wp_eLenSet, Q.lenSet_t, Q.wp_eChain, Q.store_l, Q.store_d, Q.wo_stI, Q.wp_sSub, Q.wp_sAugS, Q.aug_v, Q.wp_sAug, Q.ip_ii, Q.hI_ii, Q.wp_eLenScr, Q.wp_eIxScr, Q.scr_is, Q.cap_iff, Q.rng_iff, Q.lrg_iff, Q.div_iff, Q.mul_iff, Q.pow_iff, Q.size_lt, Q.free_pin, Q.free_lk, Q.lent_lk, Q.ff, Q.ft, Q.tt, Q.ffp, Q.dt, Q.df, Q.ndt, Q.ndf, Q.wo_ret, Q.fin_hot, Q.fin_val, Q.fin_nil, Q.ownOk_nil, Q.ownOk_cons, Q.hot_v, Q.hot_u, Q.wipe_0, Q.wipe_1, Q.back_0, Q.back_1, Q.slotPos_nil, List.set_cons_zero, List.set_cons_succ, List.getElem?_cons_zero, List.getElem?_cons_succ, List.length_cons, List.length_nil, Nat.zero_add, Nat.reduceAdd, Nat.reduceLeDiff, true_and, and_true, and_self, Bool.not_true, Bool.not_false, List.cons_append, List.nil_append, Q.wput_is, Q.true_imp, imp_self, implies_true, true_or, or_true, hm]
  rw [cut_lo _ _ (by omega), ← List.map_take]
  refine k h3 kind many _ B3 ?_ ?_ ?_
  · rw [List.length_take, f1]; simp; omega
  · rw [List.length_take, f1]; simp; omega
  · intro x hx
    have := f2 (List.mem_of_mem_take hx)
    simp at this
    omega
end K79
set_option Elab.async false
set_option linter.all false
set_option maxRecDepth 100000
set_option maxHeartbeats 4000000
namespace K79
open Q Bel
theorem wp_seq3 {a b c : Sm} {e : Sto} {Z : Out → Sto → Prop} : wp (sSeq a (sSeq b c) e) Z ↔ wp (sSeq a b e) (seqK c Z) := by
  rw [wp_sSeq, wp_sSeq]
  have go : ∀ o e, seqK (sSeq b c) Z o e ↔ seqK b (seqK c Z) o e := by
    intro o e
    cases o with
    | nx => exact wp_sSeq
    | _ => exact Iff.rfl
  exact ⟨fun h => wp_imp h fun o e h => (go o e).mp h, fun h => wp_imp h fun o e h => (go o e).mpr h⟩
theorem eqv_i (i j : Int) : PySem.PyData.eqv (.int i) (.int j) = decide (i = j) := eqv_int i j
theorem atI_last (xs : List Int) (x : Int) (h : xs.getLast? = some x) : L2.atI (xs.map PySem.PyData.int) (-1) = some (.int x) := by
  have h1 : 1 ≤ xs.length := by cases xs with
    | nil => cases h
    | cons => simp
  rw [List.getLast?_eq_getElem?] at h
  have e : L2.ixN xs.length (-1) = some (xs.length - 1) := by
    unfold L2.ixN
    simp
    omega
  unfold L2.atI
  rw [List.length_map, e]
  simp [h]
def fresh (row : List Int) : PySem.PyData → Bool
  | .int x => decide (row = []) || !decide (row.getLast? = some x)
  | _ => false
theorem eqv_nil (row : List Int) : PySem.PyData.eqv (.list (row.map .int)) (.list []) = decide (row = []) := eqv_list row []
theorem lt_turn (h : Hot) (B : Box h) (m : Md) (hm : m.lk = false) (d1 d2 d3 : PySem.PyData) (names row : List Int) (n1 : 1 ≤ names.length) (n2 : names.length ≤ 40) (nf : Fit names) (rl : row.length ≤ 200) (Z : Out → Sto → Prop) (k : ∀ h' x, Box h' → x ∈ names → Z .nx [.hot m h', .val d1, .val d2, .hot Md.free (.lst (names.map .int)), .hot Md.free (.lst ((row ++ (if fresh row (.int x) = true then [x] else [])).map .int)), .val d3, .un, .un]) :
    wp (sSet 4 (bin (dat2 hAdd) (eVar 4) (eLc (iCold (eLst (aCons (cold (callE f__law_pick (aCons (eArg 0) (aCons (eArg 3) (aNil))))) (aNil)))) (.nm 7) (bOr (asB (bin (whole2 wEq) (eVar 4) (eLst (aNil)))) (asB (bin (whole2 wNe) (bin (dat2 hIx) (eVar 4) (una (dat1 hNeg) (eC (.int 1)))) (eVar 7)))) (eVar 7) [7]))
      [.hot m h, .val d1, .val d2, .hot Md.free (.lst (names.map .int)), .hot Md.free (.lst (row.map .int)), .val d3, .un, .un]) Z := by
  simp only [Q.wp_ok, Q.wp_no, Q.wo_some, Q.wo_none, Q.wo_bind, Q.wo_map, Q.wo_at0, Q.wo_atS, Q.wset_0, Q.wset_S, Q.bnd_val, Q.bnd_hot, Q.wp_eVar, Q.asArg_val, Q.asArg_hot, Q.wp_eArg, Q.wp_eC, Q.wp_cold, Q.wp_toCold_c, Q.wp_toCold_h, Q.chill_val, Q.chill_hot, Q.wp_toCold_s, Q.wp_own, Q.wp_toOwn_c, Q.wp_toOwn_h, Q.wp_toOwn_s, Q.giveBack_val, Q.giveBack_hot, Q.wp_toRet_c, Q.wp_toRet_h, Q.wp_toRet_s, Q.wp_aNil, Q.wp_aCons, Q.wp_bin, Q.wp_una, Q.wp_dat1, Q.wp_dat2, Q.wp_whole2, Q.view_c, Q.view_h, Q.view_s, Q.sview_v, Q.sview_h, Q.data_l, Q.data_d, Q.viewC_c, Q.viewC_h, Q.viewC_s, Q.sviewC_v, Q.sviewC_h, Q.dataC_l, Q.dataC_d, Q.plain_n, Q.plain_b, Q.plain_i, Q.plain_s, Q.plain_l, Q.plain_t, Q.wp_asB, Q.boolR_c, Q.boolS_v, Q.boolR_s, Q.wp_bAnd, Q.wp_bOr, Q.wp_bNot, Q.wp_eAnd, Q.wp_eOr, Q.wp_eNot, Q.wp_eIf, Q.wp_tTrue, Q.wp_sNx, Q.wp_never, Q.seqK_nx, Q.seqK_rt, Q.seqK_bk, Q.seqK_ct, Q.wp_sSeq, Q.wp_sExpr, Q.wp_sRet, Q.wp_sIf, Q.wp_putS, Q.wp_sSet, Q.set_val, Q.set_un, Q.set_hot, Q.sl_cold, Q.sl_hot, Q.wp_sTg, Q.ex_cold, Q.asg_nm, Q.asg_tp, Q.asgs_nil, Q.asgs_cons, Q.wputs_nil, Q.wputs_cons, Q.wp_sPar, Q.colds_nil, Q.colds_c, Q.wp_eTup, Q.wp_eLst, Q.wp_eDic0, Q.viewsC_nil, Q.viewsC_c, Q.wp_eB, Q.toArgs_nil, Q.toArgs_c, Q.lend_hot, Q.toArgs_s, Q.slotPos_c, Q.backA_nil, Q.backA_c, Q.takeBack_hot, Q.backA_s, Q.resR_v, Q.resR_h, Q.wp_callE, Q.resS_c, Q.resS_h, Q.resS_n, Q.wp_eMt, Q.wp_eMt0, Q.chg_lst, Q.wp_mAppend, Q.wp_mPopAt, Q.wp_mPop, Q.wp_mDat, Q.tyD_l, Q.tyD_t, Q.tyD_d, Q.isTy_o, Q.wp_oNone, Q.intD_i, Q.wp_oSome, Q.wp_eCut, Q.cut_l, Q.cut_t, Q.wp_eIsi, Q.wp_eLRg1, Q.wp_iRng1, Q.wp_iRng2, Q.seq_l, Q.seq_t, Q.wp_iCold, Q.wp_iEnumC, Q.walked_v, Q.walked_h, Q.wp_iSlot, Q.unlk_none, Q.wp_sFor, Q.turnK_nx, Q.turnK_ct, Q.turnK_bk, Q.turnK_rt, Q.add_ii, Q.add_ll, Q.add_tt, Q.sub_ii, Q.mul_ii, Q.mul_li, Q.mul_ti, Q.div_ii, Q.mod_ii, Q.pow_ii, Q.neg_i, Q.rev_l, Q.ix_l, Q.ix_t, Q.ix_d, Q.eq_xy, Q.ne_xy, Q.ord_ii, Q.in_w, Q.notin_w, Q.in_l, Q.in_t, Q.is_w, Q.isnot_w, Q.isq_n, Q.isNone_n, Q.isNone_i, Q.isNone_t, Q.isNone_l, Q.len_l, Q.len_t, Q.list_l, Q.list_t, Q.tup_l, Q.tup_t, Q.abs_i, Q.int_i, Q.int_b, Q.min_ii, Q.max_ii, Q.min_l, Q.max_l, Q.sum_l, Q.sort_l, Q.wo_asInts, Q.wo_asInts0, Q.wo_asIntsC, Q.key_i, Q.key_s, Q.wp_eLenSet, Q.lenSet_t, Q.wp_eChain, Q.store_l, Q.store_d, Q.wo_stI, Q.wp_sSub, Q.wp_sAugS, Q.aug_v, Q.wp_sAug, Q.ip_ii, Q.hI_ii, Q.wp_eLenScr, Q.wp_eIxScr, Q.scr_is, Q.cap_iff, Q.rng_iff, Q.lrg_iff, Q.div_iff, Q.mul_iff, Q.pow_iff, Q.size_lt, Q.free_pin, Q.free_lk, Q.lent_lk, Q.ff, Q.ft, Q.tt, Q.ffp, Q.dt, Q.df, Q.ndt, Q.ndf, Q.wo_ret, Q.fin_hot, Q.fin_val, Q.fin_nil, Q.ownOk_nil, Q.ownOk_cons, Q.hot_v, Q.hot_u, Q.wipe_0, Q.wipe_1, Q.back_0, Q.back_1, Q.slotPos_nil, List.set_cons_zero, List.set_cons_succ, List.getElem?_cons_zero, List.getElem?_cons_succ, List.length_cons, List.length_nil, Nat.zero_add, Nat.reduceAdd, Nat.reduceLeDiff, true_and, and_true, and_self, Bool.not_true, Bool.not_false, List.cons_append, List.nil_append, Q.wput_is, Q.true_imp, imp_self, implies_true, true_or, or_true, hm]
  refine wp_eLc (fresh row) id rfl ?_
  simp only [Q.wp_ok, Q.wp_no, Q.wo_some, Q.wo_none, Q.wo_bind, Q.wo_map, Q.wo_at0, Q.wo_atS, Q.wset_0, Q.wset_S, Q.bnd_val, Q.bnd_hot, Q.wp_eVar, Q.asArg_val, Q.asArg_hot, Q.wp_eArg, Q.wp_eC, Q.wp_cold, Q.wp_toCold_c, Q.wp_toCold_h, Q.chill_val, Q.chill_hot, Q.wp_toCold_s, Q.wp_own, Q.wp_toOwn_c, Q.wp_toOwn_h, Q.wp_toOwn_s, Q.giveBack_val, Q.giveBack_hot, Q.wp_toRet_c, Q.wp_toRet_h, Q.wp_toRet_s, Q.wp_aNil, Q.wp_aCons, Q.wp_bin, Q.wp_una, Q.wp_dat1, Q.wp_dat2, Q.wp_whole2, Q.view_c, Q.view_h, Q.view_s, Q.sview_v, Q.sview_h, Q.data_l, Q.data_d, Q.viewC_c, Q.viewC_h, Q.viewC_s, Q.sviewC_v, Q.sviewC_h, Q.dataC_l, Q.dataC_d, Q.plain_n, Q.plain_b, Q.plain_i, Q.plain_s, Q.plain_l, Q.plain_t, Q.wp_asB, Q.boolR_c, Q.boolS_v, Q.boolR_s, Q.wp_bAnd, Q.wp_bOr, Q.wp_bNot, Q.wp_eAnd, Q.wp_eOr, Q.wp_eNot, Q.wp_eIf, Q.wp_tTrue, Q.wp_sNx, Q.wp_never, Q.seqK_nx, Q.seqK_rt, Q.seqK_bk, Q.seqK_ct, Q.wp_sSeq, Q.wp_sExpr, Q.wp_sRet, Q.wp_sIf, Q.wp_putS, Q.wp_sSet, Q.set_val, Q.set_un, Q.set_hot, Q.sl_cold, Q.sl_hot, Q.wp_sTg, Q.ex_cold, Q.asg_nm, Q.asg_tp, Q.asgs_nil, Q.asgs_cons, Q.wputs_nil, Q.wputs_cons, Q.wp_sPar, Q.colds_nil, Q.colds_c, Q.wp_eTup, Q.wp_eLst, Q.wp_eDic0, Q.viewsC_nil, Q.viewsC_c, Q.wp_eB, Q.toArgs_nil, Q.toArgs_c, Q.lend_hot, Q.toArgs_s, Q.slotPos_c, Q.backA_nil, Q.backA_c, Q.takeBack_hot, Q.backA_s, Q.resR_v, Q.resR_h, Q.wp_callE, Q.resS_c, Q.resS_h, Q.resS_n, Q.wp_eMt, Q.wp_eMt0, Q.chg_lst, Q.wp_mAppend, Q.wp_mPopAt, Q.wp_mPop, Q.wp_mDat, Q.tyD_l, Q.tyD_t, Q.tyD_d, Q.isTy_o, Q.wp_oNone, Q.intD_i, Q.wp_oSome, Q.wp_eCut, Q.cut_l, Q.cut_t, Q.wp_eIsi, Q.wp_eLRg1, Q.wp_iRng1, Q.wp_iRng2, Q.seq_l, Q.seq_t, Q.wp_iCold, Q.wp_iEnumC, Q.walked_v, Q.walked_h, Q.wp_iSlot, Q.unlk_none, Q.wp_sFor, Q.turnK_nx, Q.turnK_ct, Q.turnK_bk, Q.turnK_rt, Q.add_ii, Q.add_ll, Q.add_tt, Q.sub_ii, Q.mul_ii, Q.mul_li, Q.mul_ti, Q.div_ii, Q.mod_ii, Q.pow_ii, Q.neg_i, Q.rev_l, Q.ix_l, Q.ix_t, Q.ix_d, Q.eq_xy, Q.ne_xy, Q.ord_ii, Q.in_w, Q.notin_w, Q.in_l, Q.in_t, Q.is_w, Q.isnot_w, Q.isq_n, Q.isNone_n, Q.isNone_i, Q.isNone_t, Q.isNone_l, Q.len_l, Q.len_t, Q.list_l, Q.list_t, Q.tup_l, Q.tup_t, Q.abs_i, Q.int_i, Q.int_b, Q.min_ii, Q.max_ii, Q.min_l, Q.max_l, Q.sum_l, Q.sort_l, Q.wo_asInts, Q.wo_asInts0, Q.wo_asIntsC, Q.key_i, Q.key_s, Q.wp_eLenSet, Q.lenSet_t, Q.wp_eChain, Q.store_l, Q.store_d, Q.wo_stI, Q.wp_sSub, Q.wp_sAugS, Q.aug_v, Q.wp_sAug, Q.ip_ii, Q.hI_ii, Q.wp_eLenScr, Q.wp_eIxScr, Q.scr_is, Q.cap_iff, Q.rng_iff, Q.lrg_iff, Q.div_iff, Q.mul_iff, Q.pow_iff, Q.size_lt, Q.free_pin, Q.free_lk, Q.lent_lk, Q.ff, Q.ft, Q.tt, Q.ffp, Q.dt, Q.df, Q.ndt, Q.ndf, Q.wo_ret, Q.fin_hot, Q.fin_val, Q.fin_nil, Q.ownOk_nil, Q.ownOk_cons, Q.hot_v, Q.hot_u, Q.wipe_0, Q.wipe_1, Q.back_0, Q.back_1, Q.slotPos_nil, List.set_cons_zero, List.set_cons_succ, List.getElem?_cons_zero, List.getElem?_cons_succ, List.length_cons, List.length_nil, Nat.zero_add, Nat.reduceAdd, Nat.reduceLeDiff, true_and, and_true, and_self, Bool.not_true, Bool.not_false, List.cons_append, List.nil_append, Q.wput_is, Q.true_imp, imp_self, implies_true, true_or, or_true, hm, slotPos]
  refine ⟨rfl, ?_⟩
  refine wo_imp (pick_h h B names n1 (by omega) Md.lent Md.lent rfl) fun p hp => ?_
  obtain ⟨x, h', B', xm, rfl⟩ := hp
  simp only [Q.wp_ok, Q.wp_no, Q.wo_some, Q.wo_none, Q.wo_bind, Q.wo_map, Q.wo_at0, Q.wo_atS, Q.wset_0, Q.wset_S, Q.bnd_val, Q.bnd_hot, Q.wp_eVar, Q.asArg_val, Q.asArg_hot, Q.wp_eArg, Q.wp_eC, Q.wp_cold, Q.wp_toCold_c, Q.wp_toCold_h, Q.chill_val, Q.chill_hot, Q.wp_toCold_s, Q.wp_own, Q.wp_toOwn_c, Q.wp_toOwn_h, Q.wp_toOwn_s, Q.giveBack_val, Q.giveBack_hot, Q.wp_toRet_c, Q.wp_toRet_h, Q.wp_toRet_s, Q.wp_aNil, Q.wp_aCons, Q.wp_bin, Q.wp_una, Q.wp_dat1, Q.wp_dat2, Q.wp_whole2, Q.view_c, Q.view_h, Q.view_s, Q.sview_v, Q.sview_h, Q.data_l, Q.data_d, Q.viewC_c, Q.viewC_h, Q.viewC_s, Q.sviewC_v, Q.sviewC_h, Q.dataC_l, Q.dataC_d, Q.plain_n, Q.plain_b, Q.plain_i, Q.plain_s, Q.plain_l, Q.plain_t, Q.wp_asB, Q.boolR_c, Q.boolS_v, Q.boolR_s, Q.wp_bAnd, Q.wp_bOr, Q.wp_bNot, Q.wp_eAnd, Q.wp_eOr, Q.wp_eNot, Q.wp_eIf, Q.wp_tTrue, Q.wp_sNx, Q.wp_never, Q.seqK_nx, Q.seqK_rt, Q.seqK_bk, Q.seqK_ct, Q.wp_sSeq, Q.wp_sExpr, Q.wp_sRet, Q.wp_sIf, Q.wp_putS, Q.wp_sSet, Q.set_val, Q.set_un, Q.set_hot, Q.sl_cold, Q.sl_hot, Q.wp_sTg, Q.ex_cold, Q.asg_nm, Q.asg_tp, Q.asgs_nil, Q.asgs_cons, Q.wputs_nil, Q.wputs_cons, Q.wp_sPar, Q.colds_nil, Q.colds_c, Q.wp_eTup, Q.wp_eLst, Q.wp_eDic0, Q.viewsC_nil, Q.viewsC_c, Q.wp_eB, Q.toArgs_nil, Q.toArgs_c, Q.lend_hot, Q.toArgs_s, Q.slotPos_c, Q.backA_nil, Q.backA_c, Q.takeBack_hot, Q.backA_s, Q.resR_v, Q.resR_h, Q.wp_callE, Q.resS_c, Q.resS_h, Q.resS_n, Q.wp_eMt, Q.wp_eMt0, Q.chg_lst, Q.wp_mAppend, Q.wp_mPopAt, Q.wp_mPop, Q.wp_mDat, Q.tyD_l, Q.tyD_t, Q.tyD_d, Q.isTy_o, Q.wp_oNone, Q.intD_i, Q.wp_oSome, Q.wp_eCut, Q.cut_l, Q.cut_t, Q.wp_eIsi, Q.wp_eLRg1, Q.wp_iRng1, Q.wp_iRng2, Q.seq_l, Q.seq_t, Q.wp_iCold, Q.wp_iEnumC, Q.walked_v, Q.walked_h, Q.wp_iSlot, Q.unlk_none, Q.wp_sFor, Q.turnK_nx, Q.turnK_ct, Q.turnK_bk, Q.turnK_rt, Q.add_ii, Q.add_ll, Q.add_tt, Q.sub_ii, Q.mul_ii, Q.mul_li, Q.mul_ti, Q.div_ii, Q.mod_ii, Q.pow_ii, Q.neg_i, Q.rev_l, Q.ix_l, Q.ix_t, Q.ix_d, Q.eq_xy, Q.ne_xy, Q.ord_ii, Q.in_w, Q.notin_w, Q.in_l, Q.in_t, Q.is_w, Q.isnot_w, Q.isq_n, Q.isNone_n, Q.isNone_i, Q.isNone_t, Q.isNone_l, Q.len_l, Q.len_t, Q.list_l, Q.list_t, Q.tup_l, Q.tup_t, Q.abs_i, Q.int_i, Q.int_b, Q.min_ii, Q.max_ii, Q.min_l, Q.max_l, Q.sum_l, Q.sort_l, Q.wo_asInts, Q.wo_asInts0, Q.wo_asIntsC, Q.key_i, Q.key_s, Q.wp_eLenSet, Q.lenSet_t, Q.wp_eChain, Q.store_l, Q.store_d, Q.wo_stI, Q.wp_sSub, Q.wp_sAugS, Q.aug_v, Q.wp_sAug, Q.ip_ii, Q.hI_ii, Q.wp_eLenScr, Q.wp_eIxScr, Q.scr_is, Q.cap_iff, Q.rng_iff, Q.lrg_iff, Q.div_iff, Q.mul_iff, Q.pow_iff, Q.size_lt, Q.free_pin, Q.free_lk, Q.lent_lk, Q.ff, Q.ft, Q.tt, Q.ffp, Q.dt, Q.df, Q.ndt, Q.ndf, Q.wo_ret, Q.fin_hot, Q.fin_val, Q.fin_nil, Q.ownOk_nil, Q.ownOk_cons, Q.hot_v, Q.hot_u, Q.wipe_0, Q.wipe_1, Q.back_0, Q.back_1, Q.slotPos_nil, List.set_cons_zero, List.set_cons_succ, List.getElem?_cons_zero, List.getElem?_cons_succ, List.length_cons, List.length_nil, Nat.zero_add, Nat.reduceAdd, Nat.reduceLeDiff, true_and, and_true, and_self, Bool.not_true, Bool.not_false, List.cons_append, List.nil_append, Q.wput_is, Q.true_imp, imp_self, implies_true, true_or, or_true, hm]
  refine ⟨fun d hd => ?_, ?_⟩
  · cases List.mem_singleton.mp hd
    simp only [Q.wp_ok, Q.wp_no, Q.wo_some, Q.wo_none, Q.wo_bind, Q.wo_map, Q.wo_at0, Q.wo_atS, Q.wset_0, Q.wset_S, Q.bnd_val, Q.bnd_hot, Q.wp_eVar, Q.asArg_val, Q.asArg_hot, Q.wp_eArg, Q.wp_eC, Q.wp_cold, Q.wp_toCold_c, Q.wp_toCold_h, Q.chill_val, Q.chill_hot, Q.wp_toCold_s, Q.wp_own, Q.wp_toOwn_c, Q.wp_toOwn_h, Q.wp_toOwn_s, Q.giveBack_val, Q.giveBack_hot, Q.wp_toRet_c, Q.wp_toRet_h, Q.wp_toRet_s, Q.wp_aNil, Q.wp_aCons, Q.wp_bin, Q.wp_una, Q.wp_dat1, Q.wp_dat2, Q.wp_whole2, Q.view_c, Q.view_h, Q.view_s, Q.sview_v, Q.sview_h, Q.data_l, Q.data_d, Q.viewC_c, Q.viewC_h, Q.viewC_s, Q.sviewC_v, Q.sviewC_h, Q.dataC_l, Q.dataC_d, Q.plain_n, Q.plain_b, Q.plain_i, Q.plain_s, Q.plain_l, Q.plain_t, Q.wp_asB, Q.boolR_c, Q.boolS_v, Q.boolR_s, Q.wp_bAnd, Q.wp_bOr, Q.wp_bNot, Q.wp_eAnd, Q.wp_eOr, Q.wp_eNot, Q.wp_eIf, Q.wp_tTrue, Q.wp_sNx, Q.wp_never, Q.seqK_nx, Q.seqK_rt, Q.seqK_bk, Q.seqK_ct, Q.wp_sSeq, Q.wp_sExpr, Q.wp_sRet, Q.wp_sIf, Q.wp_putS, Q.wp_sSet, Q.set_val, Q.set_un, Q.set_hot, Q.sl_cold, Q.sl_hot, Q.wp_sTg, Q.ex_cold, Q.asg_nm, Q.asg_tp, Q.asgs_nil, Q.asgs_cons, Q.wputs_nil, Q.wputs_cons, Q.wp_sPar, Q.colds_nil, Q.colds_c, Q.wp_eTup, Q.wp_eLst, Q.wp_eDic0, Q.viewsC_nil, Q.viewsC_c, Q.wp_eB, Q.toArgs_nil, Q.toArgs_c, Q.lend_hot, Q.toArgs_s, Q.slotPos_c, Q.backA_nil, Q.backA_c, Q.takeBack_hot, Q.backA_s, Q.resR_v, Q.resR_h, Q.wp_callE, Q.resS_c, Q.resS_h, Q.resS_n, Q.wp_eMt, Q.wp_eMt0, Q.chg_lst, Q.wp_mAppend, Q.wp_mPopAt, Q.wp_mPop, Q.wp_mDat, Q.tyD_l, Q.tyD_t, Q.tyD_d, Q.isTy_o, Q.wp_oNone, Q.intD_i, Q.wp_oSome, Q.wp_eCut, Q.cut_l, Q.cut_t, Q.wp_eIsi, Q.wp_eLRg1, Q.wp_iRng1, Q.wp_iRng2, Q.seq_l, Q.seq_t, Q.wp_iCold, Q.wp_iEnumC, Q.walked_v, Q.walked_h, Q.wp_iSlot, Q.unlk_none, Q.wp_sFor, Q.turnK_nx, Q.turnK_ct, Q.turnK_bk, Q.turnK_rt, Q.add_ii, Q.add_ll, Q.add_tt, Q.sub_ii, Q.mul_ii, Q.mul_li, Q.mul_ti, Q.div_ii, Q.mod_ii, Q.pow_ii, Q.neg_i, Q.rev_l, Q.ix_l, Q.ix_t, Q.ix_d, Q.eq_xy, Q.ne_xy, Q.ord_ii, Q.in_w, Q.notin_w, Q.in_l, Q.in_t, Q.is_w, Q.isnot_w, Q.isq_n, Q.isNone_n, Q.isNone_i, Q.isNone_t, Q.isNone_l, Q.len_l, Q.len_t, Q.list_l, Q.list_t, Q.tup_l, Q.tup_t, Q.abs_i, Q.int_i, Q.int_b, Q.min_ii, Q.max_ii, Q.min_l, Q.max_l, Q.sum_l, Q.sort_l, Q.wo_asInts, Q.wo_asInts0, Q.wo_asIntsC, Q.key_i, Q.key_s, Q.wp_eLenSet, Q.lenSet_t, Q.wp_eChain, Q.store_l, Q.store_d, Q.wo_stI, Q.wp_sSub, Q.wp_sAugS, Q.aug_v, Q.wp_sAug, Q.ip_ii, Q.hI_ii, Q.wp_eLenScr, Q.wp_eIxScr, Q.scr_is, Q.cap_iff, Q.rng_iff, Q.lrg_iff, Q.div_iff, Q.mul_iff, Q.pow_iff, Q.size_lt, Q.free_pin, Q.free_lk, Q.lent_lk, Q.ff, Q.ft, Q.tt, Q.ffp, Q.dt, Q.df, Q.ndt, Q.ndf, Q.wo_ret, Q.fin_hot, Q.fin_val, Q.fin_nil, Q.ownOk_nil, Q.ownOk_cons, Q.hot_v, Q.hot_u, Q.wipe_0, Q.wipe_1, Q.back_0, Q.back_1, Q.slotPos_nil, List.set_cons_zero, List.set_cons_succ, List.getElem?_cons_zero, List.getElem?_cons_succ, List.length_cons, List.length_nil, Nat.zero_add, Nat.reduceAdd, Nat.reduceLeDiff, true_and, and_true, and_self, Bool.not_true, Bool.not_false, List.cons_append, List.nil_append, Q.wput_is, Q.true_imp, imp_self, implies_true, true_or, or_true, shaped_int, shaped_list, eqv_i, eqv_nil]
    refine ⟨shaped_list [], fun q => ⟨by simp [fresh, q], fun _ => rfl⟩, fun q => ?_⟩
    obtain ⟨y, hy⟩ : ∃ y, row.getLast? = some y := by
      cases hr : row.getLast? with
      | none => exact absurd (List.getLast?_eq_none_iff.mp hr) q
      | some y => exact ⟨y, rfl⟩
    refine wo_of (atI_last row y hy) ?_
    simp only [Q.wp_ok, Q.wp_no, Q.wo_some, Q.wo_none, Q.wo_bind, Q.wo_map, Q.wo_at0, Q.wo_atS, Q.wset_0, Q.wset_S, Q.bnd_val, Q.bnd_hot, Q.wp_eVar, Q.asArg_val, Q.asArg_hot, Q.wp_eArg, Q.wp_eC, Q.wp_cold, Q.wp_toCold_c, Q.wp_toCold_h, Q.chill_val, Q.chill_hot, Q.wp_toCold_s, Q.wp_own, Q.wp_toOwn_c, Q.wp_toOwn_h, Q.wp_toOwn_s, Q.giveBack_val, Q.giveBack_hot, Q.wp_toRet_c, Q.wp_toRet_h, Q.wp_toRet_s, Q.wp_aNil, Q.wp_aCons, Q.wp_bin, Q.wp_una, Q.wp_dat1, Q.wp_dat2, Q.wp_whole2, Q.view_c, Q.view_h, Q.view_s, Q.sview_v, Q.sview_h, Q.data_l, Q.data_d, Q.viewC_c, Q.viewC_h, Q.viewC_s, Q.sviewC_v, Q.sviewC_h, Q.dataC_l, Q.dataC_d, Q.plain_n, Q.plain_b, Q.plain_i, Q.plain_s, Q.plain_l, Q.plain_t, Q.wp_asB, Q.boolR_c, Q.boolS_v, Q.boolR_s, Q.wp_bAnd, Q.wp_bOr, Q.wp_bNot, Q.wp_eAnd, Q.wp_eOr, Q.wp_eNot, Q.wp_eIf, Q.wp_tTrue, Q.wp_sNx, Q.wp_never, Q.seqK_nx, Q.seqK_rt, Q.seqK_bk, Q.seqK_ct, Q.wp_sSeq, Q.wp_sExpr, Q.wp_sRet, Q.wp_sIf, Q.wp_putS, Q.wp_sSet, Q.set_val, Q.set_un, Q.set_hot, Q.sl_cold, Q.sl_hot, Q.wp_sTg, Q.ex_cold, Q.asg_nm, Q.asg_tp, Q.asgs_nil, Q.asgs_cons, Q.wputs_nil, Q.wputs_cons, Q.wp_sPar, Q.colds_nil, Q.colds_c, Q.wp_eTup, Q.wp_eLst, Q.wp_eDic0, Q.viewsC_nil, Q.viewsC_c, Q.wp_eB, Q.toArgs_nil, Q.toArgs_c, Q.lend_hot, Q.toArgs_s, Q.slotPos_c, Q.backA_nil, Q.backA_c, Q.takeBack_hot, Q.backA_s, Q.resR_v, Q.resR_h, Q.wp_callE, Q.resS_c, Q.resS_h, Q.resS_n, Q.wp_eMt, Q.wp_eMt0, Q.chg_lst, Q.wp_mAppend, Q.wp_mPopAt, Q.wp_mPop, Q.wp_mDat, Q.tyD_l, Q.tyD_t, Q.tyD_d, Q.isTy_o, Q.wp_oNone, Q.intD_i, Q.wp_oSome, Q.wp_eCut, Q.cut_l, Q.cut_t, Q.wp_eIsi, Q.wp_eLRg1, Q.wp_iRng1, Q.wp_iRng2, Q.seq_l, Q.seq_t, Q.wp_iCold, Q.wp_iEnumC, Q.walked_v, Q.walked_h, Q.wp_iSlot, Q.unlk_none, Q.wp_sFor, Q.turnK_nx, Q.turnK_ct, Q.turnK_bk, Q.turnK_rt, Q.add_ii, Q.add_ll, Q.add_tt, Q.sub_ii, Q.mul_ii, Q.mul_li, Q.mul_ti, Q.div_ii, Q.mod_ii, Q.pow_ii, Q.neg_i, Q.rev_l, Q.ix_l, Q.ix_t, Q.ix_d, Q.eq_xy, Q.ne_xy, Q.ord_ii, Q.in_w, Q.notin_w, Q.in_l, Q.in_t, Q.is_w, Q.isnot_w, Q.isq_n, Q.isNone_n, Q.isNone_i, Q.isNone_t, Q.isNone_l, Q.len_l, Q.len_t, Q.list_l, Q.list_t, Q.tup_l, Q.tup_t, Q.abs_i, Q.int_i, Q.int_b, Q.min_ii, Q.max_ii, Q.min_l, Q.max_l, Q.sum_l, Q.sort_l, Q.wo_asInts, Q.wo_asInts0, Q.wo_asIntsC, Q.key_i, Q.key_s, Q.wp_eLenSet, Q.lenSet_t, Q.wp_eChain, Q.store_l, Q.store_d, Q.wo_stI, Q.wp_sSub, Q.wp_sAugS, Q.aug_v, Q.wp_sAug, Q.ip_ii, Q.hI_ii, Q.wp_eLenScr, Q.wp_eIxScr, Q.scr_is, Q.cap_iff, Q.rng_iff, Q.lrg_iff, Q.div_iff, Q.mul_iff, Q.pow_iff, Q.size_lt, Q.free_pin, Q.free_lk, Q.lent_lk, Q.ff, Q.ft, Q.tt, Q.ffp, Q.dt, Q.df, Q.ndt, Q.ndf, Q.wo_ret, Q.fin_hot, Q.fin_val, Q.fin_nil, Q.ownOk_nil, Q.ownOk_cons, Q.hot_v, Q.hot_u, Q.wipe_0, Q.wipe_1, Q.back_0, Q.back_1, Q.slotPos_nil, List.set_cons_zero, List.set_cons_succ, List.getElem?_cons_zero, List.getElem?_cons_succ, List.length_cons, List.length_nil, Nat.zero_add, Nat.reduceAdd, Nat.reduceLeDiff, true_and, and_true, and_self, Bool.not_true, Bool.not_false, List.cons_append, List.nil_append, Q.wput_is, Q.true_imp, imp_self, implies_true, true_or, or_true, shaped_int, eqv_i]
    exact ⟨by simp [fresh, q, hy], fun _ => rfl⟩
  · have e : row.map PySem.PyData.int ++ (List.filter (fresh row) [PySem.PyData.int x]).map id = (row ++ (if fresh row (.int x) = true then [x] else [])).map .int := by
      rw [List.map_append]
      cases hf : fresh row (.int x) <;> simp [hf]
    rw [e]
    refine ⟨?_, k h' x B' xm⟩
    cases hf : fresh row (.int x) <;> simp [hf] <;> omega
def onB (g : Int → Bool) : PySem.PyData → Bool
  | .int i => g i
  | _ => false
theorem lt_row (h : Hot) (B : Box h) (m : Md) (hm : m.lk = false) (kind many : Int) (names : List Int) (n1 : 1 ≤ names.length) (n2 : names.length ≤ 40) (nf : Fit names) (Z : Out → Sto → Prop) (k : ∀ h' row s, Box h' → 1 ≤ row.length → row.length ≤ 200 → Fit row → s.isHot = false → Z .nx [.hot m h', .val (.int kind), .val (.int many), .hot Md.free (.lst (names.map .int)), .hot Md.free (.lst (row.map .int)), s, .un, .un]) :
    wp (sIf (asB (bin (whole2 wEq) (eVar 1) (eC (.int 0)))) (sSet 4 (bin (dat2 hAdd) (eVar 3) (eVar 3))) (sIf (asB (bin (whole2 wEq) (eVar 1) (eC (.int 1)))) (sSet 4 (bin (dat2 hAdd) (bin (dat2 hAdd) (eVar 3) (eCut (una (dat1 hRevL) (eVar 3)) (oSome (eC (.int 1))) (oNone))) (eVar 3))) (sSeq (sSet 4 (eLst (aNil)))
  (sFor (iRng1 (bin (dat2 hAdd) (eC (.int 1)) (callE f__law_take (aCons (eArg 0) (aCons (cold (eC (.int 20))) (aNil)))))) (.nm 5) (sSet 4 (bin (dat2 hAdd) (eVar 4) (eLc (iCold (eLst (aCons (cold (callE f__law_pick (aCons (eArg 0) (aCons (eArg 3) (aNil))))) (aNil)))) (.nm 7) (bOr (asB (bin (whole2 wEq) (eVar 4) (eLst (aNil)))) (asB (bin (whole2 wNe) (bin (dat2 hIx) (eVar 4) (una (dat1 hNeg) (eC (.int 1)))) (eVar 7)))) (eVar 7) [7]))))))
      [.hot m h, .val (.int kind), .val (.int many), .hot Md.free (.lst (names.map .int)), .un, .un, .un, .un]) Z := by
  simp only [Q.wp_ok, Q.wp_no, Q.wo_some, Q.wo_none, Q.wo_bind, Q.wo_map, Q.wo_at0, Q.wo_atS, Q.wset_0, Q.wset_S, Q.bnd_val, Q.bnd_hot, Q.wp_eVar, Q.asArg_val, Q.asArg_hot, Q.wp_eArg, Q.wp_eC, Q.wp_cold, Q.wp_toCold_c, Q.wp_toCold_h, Q.chill_val, Q.chill_hot, Q.wp_toCold_s, Q.wp_own, Q.wp_toOwn_c, Q.wp_toOwn_h, Q.wp_toOwn_s, Q.giveBack_val, Q.giveBack_hot, Q.wp_toRet_c, Q.wp_toRet_h, Q.wp_toRet_s, Q.wp_aNil, Q.wp_aCons, Q.wp_bin, Q.wp_una, Q.wp_dat1, Q.wp_dat2, Q.wp_whole2, Q.view_c, Q.view_h, Q.view_s, Q.sview_v, Q.sview_h, Q.data_l, Q.data_d, Q.viewC_c, Q.viewC_h, Q.viewC_s, Q.sviewC_v, Q.sviewC_h, Q.dataC_l, Q.dataC_d, Q.plain_n, Q.plain_b, Q.plain_i, Q.plain_s, Q.plain_l, Q.plain_t, Q.wp_asB, Q.boolR_c, Q.boolS_v, Q.boolR_s, Q.wp_bAnd, Q.wp_bOr, Q.wp_bNot, Q.wp_eAnd, Q.wp_eOr, Q.wp_eNot, Q.wp_eIf, Q.wp_tTrue, Q.wp_sNx, Q.wp_never, Q.seqK_nx, Q.seqK_rt, Q.seqK_bk, Q.seqK_ct, Q.wp_sSeq, Q.wp_sExpr, Q.wp_sRet, Q.wp_sIf, Q.wp_putS, Q.wp_sSet, Q.set_val, Q.set_un, Q.set_hot, Q.sl_cold, Q.sl_hot, Q.wp_sTg, Q.ex_cold, Q.asg_nm, Q.asg_tp, Q.asgs_nil, Q.asgs_cons, Q.wputs_nil, Q.wputs_cons, Q.wp_sPar, Q.colds_nil, Q.colds_c, Q.wp_eTup, Q.wp_eLst, Q.wp_eDic0, Q.viewsC_nil, Q.viewsC_c, Q.wp_eB, Q.toArgs_nil, Q.toArgs_c, Q.lend_hot, Q.toArgs_s, Q.slotPos_c, Q.backA_nil, Q.backA_c, Q.takeBack_hot, Q.backA_s, Q.resR_v, Q.resR_h, Q.wp_callE, Q.resS_c, Q.resS_h, Q.resS_n, Q.wp_eMt, Q.wp_eMt0, Q.chg_lst, Q.wp_mAppend, Q.wp_mPopAt, Q.wp_mPop, Q.wp_mDat, Q.tyD_l, Q.tyD_t, Q.tyD_d, Q.isTy_o, Q.wp_oNone, Q.intD_i, Q.wp_oSome, Q.wp_eCut, Q.cut_l, Q.cut_t, Q.wp_eIsi, Q.wp_eLRg1, Q.wp_iRng1, Q.wp_iRng2, Q.seq_l, Q.seq_t, Q.wp_iCold, Q.wp_iEnumC, Q.walked_v, Q.walked_h, Q.wp_iSlot, Q.unlk_none, Q.wp_sFor, Q.turnK_nx, Q.turnK_ct, Q.turnK_bk, Q.turnK_rt, Q.add_ii, Q.add_ll, Q.add_tt, Q.sub_ii, Q.mul_ii, Q.mul_li, Q.mul_ti, Q.div_ii, Q.mod_ii, Q.pow_ii, Q.neg_i, Q.rev_l, Q.ix_l, Q.ix_t, Q.ix_d, Q.eq_xy, Q.ne_xy, Q.ord_ii, Q.in_w, Q.notin_w, Q.in_l, Q.in_t, Q.is_w, Q.isnot_w, Q.isq_n, Q.isNone_n, Q.isNone_i, Q.isNone_t, Q.isNone_l, Q.len_l, Q.len_t, Q.list_l, Q.list_t, Q.tup_l, Q.tup_t, Q.abs_i, Q.int_i, Q.int_b, Q.min_ii, Q.max_ii, Q.min_l, Q.max_l, Q.sum_l, Q.sort_l, Q.wo_asInts, Q.wo_asInts0, Q.wo_asIntsC, Q.key_i, Q.key_s, Q.wp_eLenSet, Q.lenSet_t, Q.wp_eChain, Q.store_l, Q.store_d, Q.wo_stI, Q.wp_sSub, Q.wp_sAugS, Q.aug_v, Q.wp_sAug, Q.ip_ii, Q.hI_ii, Q.wp_eLenScr, Q.wp_eIxScr, Q.scr_is, Q.cap_iff, Q.rng_iff, Q.lrg_iff, Q.div_iff, Q.mul_iff, Q.pow_iff, Q.size_lt, Q.free_pin, Q.free_lk, Q.lent_lk, Q.ff, Q.ft, Q.tt, Q.ffp, Q.dt, Q.df, Q.ndt, Q.ndf, Q.wo_ret, Q.fin_hot, Q.fin_val, Q.fin_nil, Q.ownOk_nil, Q.ownOk_cons, Q.hot_v, Q.hot_u, Q.wipe_0, Q.wipe_1, Q.back_0, Q.back_1, Q.slotPos_nil, List.set_cons_zero, List.set_cons_succ, List.getElem?_cons_zero, List.getElem?_cons_succ, List.length_cons, List.length_nil, Nat.zero_add, Nat.reduceAdd, Nat.reduceLeDiff, true_and, and_true, and_self, Bool.not_true, Bool.not_false, List.cons_append, List.nil_append, Q.wput_is, Q.true_imp, imp_self, implies_true, true_or, or_true, hm, shaped_int, eqv_i]
  refine ⟨fun _ => ⟨by simp; omega, ?_⟩, fun _ => ⟨fun _ => ?_, fun _ => ?_⟩⟩
  · rw [← List.map_append]
    exact k h (names ++ names) _ B (by simp; omega) (by simp; omega) (fun x hx => nf x ((List.mem_append.mp hx).elim id id)) rfl
  · rw [cut_hi _ _ (by decide), ← List.map_reverse, ← List.map_drop, ← List.map_append, ← List.map_append]
    refine ⟨by simp; omega, by simp; omega, ?_⟩
    refine k h (names ++ names.reverse.drop 1 ++ names) _ B (by simp; omega) (by simp; omega) (fun x hx => ?_) rfl
    rcases List.mem_append.mp hx with q | q3
    · rcases List.mem_append.mp q with q | q2
      · exact nf x q
      · exact nf x (List.mem_reverse.mp (List.mem_of_mem_drop q2))
    · exact nf x q3
  · refine wo_imp (take_wo h B 20 Md.lent rfl (by decide) (by decide)) fun p hp => ?_
    obtain ⟨n, h1, B1, c0, c1, rfl⟩ := hp
    simp only [Q.wp_ok, Q.wp_no, Q.wo_some, Q.wo_none, Q.wo_bind, Q.wo_map, Q.wo_at0, Q.wo_atS, Q.wset_0, Q.wset_S, Q.bnd_val, Q.bnd_hot, Q.wp_eVar, Q.asArg_val, Q.asArg_hot, Q.wp_eArg, Q.wp_eC, Q.wp_cold, Q.wp_toCold_c, Q.wp_toCold_h, Q.chill_val, Q.chill_hot, Q.wp_toCold_s, Q.wp_own, Q.wp_toOwn_c, Q.wp_toOwn_h, Q.wp_toOwn_s, Q.giveBack_val, Q.giveBack_hot, Q.wp_toRet_c, Q.wp_toRet_h, Q.wp_toRet_s, Q.wp_aNil, Q.wp_aCons, Q.wp_bin, Q.wp_una, Q.wp_dat1, Q.wp_dat2, Q.wp_whole2, Q.view_c, Q.view_h, Q.view_s, Q.sview_v, Q.sview_h, Q.data_l, Q.data_d, Q.viewC_c, Q.viewC_h, Q.viewC_s, Q.sviewC_v, Q.sviewC_h, Q.dataC_l, Q.dataC_d, Q.plain_n, Q.plain_b, Q.plain_i, Q.plain_s, Q.plain_l, Q.plain_t, Q.wp_asB, Q.boolR_c, Q.boolS_v, Q.boolR_s, Q.wp_bAnd, Q.wp_bOr, Q.wp_bNot, Q.wp_eAnd, Q.wp_eOr, Q.wp_eNot, Q.wp_eIf, Q.wp_tTrue, Q.wp_sNx, Q.wp_never, Q.seqK_nx, Q.seqK_rt, Q.seqK_bk, Q.seqK_ct, Q.wp_sSeq, Q.wp_sExpr, Q.wp_sRet, Q.wp_sIf, Q.wp_putS, Q.wp_sSet, Q.set_val, Q.set_un, Q.set_hot, Q.sl_cold, Q.sl_hot, Q.wp_sTg, Q.ex_cold, Q.asg_nm, Q.asg_tp, Q.asgs_nil, Q.asgs_cons, Q.wputs_nil, Q.wputs_cons, Q.wp_sPar, Q.colds_nil, Q.colds_c, Q.wp_eTup, Q.wp_eLst, Q.wp_eDic0, Q.viewsC_nil, Q.viewsC_c, Q.wp_eB, Q.toArgs_nil, Q.toArgs_c, Q.lend_hot, Q.toArgs_s, Q.slotPos_c, Q.backA_nil, Q.backA_c, Q.takeBack_hot, Q.backA_s, Q.resR_v, Q.resR_h, Q.wp_callE, Q.resS_c, Q.resS_h, Q.resS_n, Q.wp_eMt, Q.wp_eMt0, Q.chg_lst, Q.wp_mAppend, Q.wp_mPopAt, Q.wp_mPop, Q.wp_mDat, Q.tyD_l, Q.tyD_t, Q.tyD_d, Q.isTy_o, Q.wp_oNone, Q.intD_i, Q.wp_oSome, Q.wp_eCut, Q.cut_l, Q.cut_t, Q.wp_eIsi, Q.wp_eLRg1, Q.wp_iRng1, Q.wp_iRng2, Q.seq_l, Q.seq_t, Q.wp_iCold, Q.wp_iEnumC, Q.walked_v, Q.walked_h, Q.wp_iSlot, Q.unlk_none, Q.wp_sFor, Q.turnK_nx, Q.turnK_ct, Q.turnK_bk, Q.turnK_rt, Q.add_ii, Q.add_ll, Q.add_tt, Q.sub_ii, Q.mul_ii, Q.mul_li, Q.mul_ti, Q.div_ii, Q.mod_ii, Q.pow_ii, Q.neg_i, Q.rev_l, Q.ix_l, Q.ix_t, Q.ix_d, Q.eq_xy, Q.ne_xy, Q.ord_ii, Q.in_w, Q.notin_w, Q.in_l, Q.in_t, Q.is_w, Q.isnot_w, Q.isq_n, Q.isNone_n, Q.isNone_i, Q.isNone_t, Q.isNone_l, Q.len_l, Q.len_t, Q.list_l, Q.list_t, Q.tup_l, Q.tup_t, Q.abs_i, Q.int_i, Q.int_b, Q.min_ii, Q.max_ii, Q.min_l, Q.max_l, Q.sum_l, Q.sort_l, Q.wo_asInts, Q.wo_asInts0, Q.wo_asIntsC, Q.key_i, Q.key_s, Q.wp_eLenSet, Q.lenSet_t, Q.wp_eChain, Q.store_l, Q.store_d, Q.wo_stI, Q.wp_sSub, Q.wp_sAugS, Q.aug_v, Q.wp_sAug, Q.ip_ii, Q.hI_ii, Q.wp_eLenScr, Q.wp_eIxScr, Q.scr_is, Q.cap_iff, Q.rng_iff, Q.lrg_iff, Q.div_iff, Q.mul_iff, Q.pow_iff, Q.size_lt, Q.free_pin, Q.free_lk, Q.lent_lk, Q.ff, Q.ft, Q.tt, Q.ffp, Q.dt, Q.df, Q.ndt, Q.ndf, Q.wo_ret, Q.fin_hot, Q.fin_val, Q.fin_nil, Q.ownOk_nil, Q.ownOk_cons, Q.hot_v, Q.hot_u, Q.wipe_0, Q.wipe_1, Q.back_0, Q.back_1, Q.slotPos_nil, List.set_cons_zero, List.set_cons_succ, List.getElem?_cons_zero, List.getElem?_cons_succ, List.length_cons, List.length_nil, Nat.zero_add, Nat.reduceAdd, Nat.reduceLeDiff, true_and, and_true, and_self, Bool.not_true, Bool.not_false, List.cons_append, List.nil_append, Q.wput_is, Q.true_imp, imp_self, implies_true, true_or, or_true, hm]
    refine ⟨by omega, ?_⟩
    refine wp_forL (fun i e => ∃ h' row s, Box h' ∧ (1 ≤ i → 1 ≤ row.length) ∧ row.length ≤ i ∧ Fit row ∧ s.isHot = false ∧ e = [.hot m h', .val (.int kind), .val (.int many), .hot Md.free (.lst (names.map .int)), .hot Md.free (.lst (row.map .int)), s, .un, .un]) (k := 0) ⟨h1, [], .un, B1, by omega, by simp, nofun, rfl, rfl⟩ (fun i d e hd he => ?_) fun e he => ?_
    · obtain ⟨h', row, s, B', r1, r2, r3, hs, rfl⟩ := he
      rw [rngD_at] at hd
      split at hd
      · rename_i hi
        cases hd
        have st : s.settable = true := by cases s <;> first | rfl | cases hs
        simp only [Q.asg_nm, Q.wput_is, Q.wo_atS, Q.wo_at0, st, true_and, Q.sl_cold, Q.wset_S, Q.wset_0]
        refine lt_turn h' B' m hm _ _ _ names row n1 n2 nf (by omega) _ fun h2 x B2 xm => ⟨.inl rfl, h2, _, .val (.int (0 + (i : Nat))), B2, fun _ => ?_, ?_, ?_, rfl, rfl⟩
        · rcases row with _ | ⟨a, l⟩ <;> simp [fresh]
        · cases fresh row (.int x) <;> simp <;> omega
        · intro y hy
          rcases List.mem_append.mp hy with q | q
          · exact r3 y q
          · cases hf : fresh row (.int x) with
            | true => simp [hf] at q; rw [q]; exact nf x xm
            | false => simp [hf] at q
      · cases hd
    · obtain ⟨h', row, s, B', r1, r2, r3, hs, rfl⟩ := he
      rw [rngD_len] at r1 r2
      exact k h' row s B' (r1 (by omega)) (by omega) r3 hs
theorem lt_tail (h : Hot) (m : Md) (d1 d2 : PySem.PyData) (sn s5 : Sl) (row : List Int) (r2 : row.length ≤ 200) :
    wp (sSet 4 (eLc (iRng1 (eB hLen (aCons (eVar 4) (aNil)))) (.nm 6) (bOr (asB (bin (whole2 wEq) (eVar 6) (eC (.int 0)))) (asB (bin (whole2 wNe) (bin (dat2 hIx) (eVar 4) (eVar 6)) (bin (dat2 hIx) (eVar 4) (bin (dat2 hSub) (eVar 6) (eC (.int 1))))))) (bin (dat2 hIx) (eVar 4) (eVar 6)) [6])
      [.hot m h, .val d1, .val d2, sn, .hot Md.free (.lst (row.map .int)), s5, .un, .un]) fun o e => o = .nx ∧ e = [.hot m h, .val d1, .val d2, sn, .hot Md.free (.lst ((thin row row.length).map .int)), s5, .un, .un] := by
  simp only [Q.wp_ok, Q.wp_no, Q.wo_some, Q.wo_none, Q.wo_bind, Q.wo_map, Q.wo_at0, Q.wo_atS, Q.wset_0, Q.wset_S, Q.bnd_val, Q.bnd_hot, Q.wp_eVar, Q.asArg_val, Q.asArg_hot, Q.wp_eArg, Q.wp_eC, Q.wp_cold, Q.wp_toCold_c, Q.wp_toCold_h, Q.chill_val, Q.chill_hot, Q.wp_toCold_s, Q.wp_own, Q.wp_toOwn_c, Q.wp_toOwn_h, Q.wp_toOwn_s, Q.giveBack_val, Q.giveBack_hot, Q.wp_toRet_c, Q.wp_toRet_h, Q.wp_toRet_s, Q.wp_aNil, Q.wp_aCons, Q.wp_bin, Q.wp_una, Q.wp_dat1, Q.wp_dat2, Q.wp_whole2, Q.view_c, Q.view_h, Q.view_s, Q.sview_v, Q.sview_h, Q.data_l, Q.data_d, Q.viewC_c, Q.viewC_h, Q.viewC_s, Q.sviewC_v, Q.sviewC_h, Q.dataC_l, Q.dataC_d, Q.plain_n, Q.plain_b, Q.plain_i, Q.plain_s, Q.plain_l, Q.plain_t, Q.wp_asB, Q.boolR_c, Q.boolS_v, Q.boolR_s, Q.wp_bAnd, Q.wp_bOr, Q.wp_bNot, Q.wp_eAnd, Q.wp_eOr, Q.wp_eNot, Q.wp_eIf, Q.wp_tTrue, Q.wp_sNx, Q.wp_never, Q.seqK_nx, Q.seqK_rt, Q.seqK_bk, Q.seqK_ct, Q.wp_sSeq, Q.wp_sExpr, Q.wp_sRet, Q.wp_sIf, Q.wp_putS, Q.wp_sSet, Q.set_val, Q.set_un, Q.set_hot, Q.sl_cold, Q.sl_hot, Q.wp_sTg, Q.ex_cold, Q.asg_nm, Q.asg_tp, Q.asgs_nil, Q.asgs_cons, Q.wputs_nil, Q.wputs_cons, Q.wp_sPar, Q.colds_nil, Q.colds_c, Q.wp_eTup, Q.wp_eLst, Q.wp_eDic0, Q.viewsC_nil, Q.viewsC_c, Q.wp_eB, Q.toArgs_nil, Q.toArgs_c, Q.lend_hot, Q.toArgs_s, Q.slotPos_c, Q.backA_nil, Q.backA_c, Q.takeBack_hot, Q.backA_s, Q.resR_v, Q.resR_h, Q.wp_callE, Q.resS_c, Q.resS_h, Q.resS_n, Q.wp_eMt, Q.wp_eMt0, Q.chg_lst, Q.wp_mAppend, Q.wp_mPopAt, Q.wp_mPop, Q.wp_mDat, Q.tyD_l, Q.tyD_t, Q.tyD_d, Q.isTy_o, Q.wp_oNone, Q.intD_i, Q.wp_oSome, Q.wp_eCut, Q.cut_l, Q.cut_t, Q.wp_eIsi, Q.wp_eLRg1, Q.wp_iRng1, Q.wp_iRng2, Q.seq_l, Q.seq_t, Q.wp_iCold, Q.wp_iEnumC, Q.walked_v, Q.walked_h, Q.wp_iSlot, Q.unlk_none, Q.wp_sFor, Q.turnK_nx, Q.turnK_ct, Q.turnK_bk, Q.turnK_rt, Q.add_ii, Q.add_ll, Q.add_tt, Q.sub_ii, Q.mul_ii, Q.mul_li, Q.mul_ti, Q.div_ii, Q.mod_ii, Q.pow_ii, Q.neg_i, Q.rev_l, Q.ix_l, Q.ix_t, Q.ix_d, Q.eq_xy, Q.ne_xy, Q.ord_ii, Q.in_w, Q.notin_w, Q.in_l, Q.in_t, Q.is_w, Q.isnot_w, Q.isq_n, Q.isNone_n, Q.isNone_i, Q.isNone_t, Q.isNone_l, Q.len_l, Q.len_t, Q.list_l, Q.list_t, Q.tup_l, Q.tup_t, Q.abs_i, Q.int_i, Q.int_b, Q.min_ii, Q.max_ii, Q.min_l, Q.max_l, Q.sum_l, Q.sort_l, Q.wo_asInts, Q.wo_asInts0, Q.wo_asIntsC, Q.key_i, Q.key_s, Q.wp_eLenSet, Q.lenSet_t, Q.wp_eChain, Q.store_l, Q.store_d, Q.wo_stI, Q.wp_sSub, Q.wp_sAugS, Q.aug_v, Q.wp_sAug, Q.ip_ii, Q.hI_ii, Q.wp_eLenScr, Q.wp_eIxScr, Q.scr_is, Q.cap_iff, Q.rng_iff, Q.lrg_iff, Q.div_iff, Q.mul_iff, Q.pow_iff, Q.size_lt, Q.free_pin, Q.free_lk, Q.lent_lk, Q.ff, Q.ft, Q.tt, Q.ffp, Q.dt, Q.df, Q.ndt, Q.ndf, Q.wo_ret, Q.fin_hot, Q.fin_val, Q.fin_nil, Q.ownOk_nil, Q.ownOk_cons, Q.hot_v, Q.hot_u, Q.wipe_0, Q.wipe_1, Q.back_0, Q.back_1, Q.slotPos_nil, List.set_cons_zero, List.set_cons_succ, List.getElem?_cons_zero, List.getElem?_cons_succ, List.length_cons, List.length_nil, Nat.zero_add, Nat.reduceAdd, Nat.reduceLeDiff, true_and, and_true, and_self, Bool.not_true, Bool.not_false, List.cons_append, List.nil_append, Q.wput_is, Q.true_imp, imp_self, implies_true, true_or, or_true]
  refine wp_eLc (onB fun k => newAt row k.toNat) (onI fun k => .int (row.getD k.toNat 0)) rfl ?_
  simp only [Q.wp_ok, Q.wp_no, Q.wo_some, Q.wo_none, Q.wo_bind, Q.wo_map, Q.wo_at0, Q.wo_atS, Q.wset_0, Q.wset_S, Q.bnd_val, Q.bnd_hot, Q.wp_eVar, Q.asArg_val, Q.asArg_hot, Q.wp_eArg, Q.wp_eC, Q.wp_cold, Q.wp_toCold_c, Q.wp_toCold_h, Q.chill_val, Q.chill_hot, Q.wp_toCold_s, Q.wp_own, Q.wp_toOwn_c, Q.wp_toOwn_h, Q.wp_toOwn_s, Q.giveBack_val, Q.giveBack_hot, Q.wp_toRet_c, Q.wp_toRet_h, Q.wp_toRet_s, Q.wp_aNil, Q.wp_aCons, Q.wp_bin, Q.wp_una, Q.wp_dat1, Q.wp_dat2, Q.wp_whole2, Q.view_c, Q.view_h, Q.view_s, Q.sview_v, Q.sview_h, Q.data_l, Q.data_d, Q.viewC_c, Q.viewC_h, Q.viewC_s, Q.sviewC_v, Q.sviewC_h, Q.dataC_l, Q.dataC_d, Q.plain_n, Q.plain_b, Q.plain_i, Q.plain_s, Q.plain_l, Q.plain_t, Q.wp_asB, Q.boolR_c, Q.boolS_v, Q.boolR_s, Q.wp_bAnd, Q.wp_bOr, Q.wp_bNot, Q.wp_eAnd, Q.wp_eOr, Q.wp_eNot, Q.wp_eIf, Q.wp_tTrue, Q.wp_sNx, Q.wp_never, Q.seqK_nx, Q.seqK_rt, Q.seqK_bk, Q.seqK_ct, Q.wp_sSeq, Q.wp_sExpr, Q.wp_sRet, Q.wp_sIf, Q.wp_putS, Q.wp_sSet, Q.set_val, Q.set_un, Q.set_hot, Q.sl_cold, Q.sl_hot, Q.wp_sTg, Q.ex_cold, Q.asg_nm, Q.asg_tp, Q.asgs_nil, Q.asgs_cons, Q.wputs_nil, Q.wputs_cons, Q.wp_sPar, Q.colds_nil, Q.colds_c, Q.wp_eTup, Q.wp_eLst, Q.wp_eDic0, Q.viewsC_nil, Q.viewsC_c, Q.wp_eB, Q.toArgs_nil, Q.toArgs_c, Q.lend_hot, Q.toArgs_s, Q.slotPos_c, Q.backA_nil, Q.backA_c, Q.takeBack_hot, Q.backA_s, Q.resR_v, Q.resR_h, Q.wp_callE, Q.resS_c, Q.resS_h, Q.resS_n, Q.wp_eMt, Q.wp_eMt0, Q.chg_lst, Q.wp_mAppend, Q.wp_mPopAt, Q.wp_mPop, Q.wp_mDat, Q.tyD_l, Q.tyD_t, Q.tyD_d, Q.isTy_o, Q.wp_oNone, Q.intD_i, Q.wp_oSome, Q.wp_eCut, Q.cut_l, Q.cut_t, Q.wp_eIsi, Q.wp_eLRg1, Q.wp_iRng1, Q.wp_iRng2, Q.seq_l, Q.seq_t, Q.wp_iCold, Q.wp_iEnumC, Q.walked_v, Q.walked_h, Q.wp_iSlot, Q.unlk_none, Q.wp_sFor, Q.turnK_nx, Q.turnK_ct, Q.turnK_bk, Q.turnK_rt, Q.add_ii, Q.add_ll, Q.add_tt, Q.sub_ii, Q.mul_ii, Q.mul_li, Q.mul_ti, Q.div_ii, Q.mod_ii, Q.pow_ii, Q.neg_i, Q.rev_l, Q.ix_l, Q.ix_t, Q.ix_d, Q.eq_xy, Q.ne_xy, Q.ord_ii, Q.in_w, Q.notin_w, Q.in_l, Q.in_t, Q.is_w, Q.isnot_w, Q.isq_n, Q.isNone_n, Q.isNone_i, Q.isNone_t, Q.isNone_l, Q.len_l, Q.len_t, Q.list_l, Q.list_t, Q.tup_l, Q.tup_t, Q.abs_i, Q.int_i, Q.int_b, Q.min_ii, Q.max_ii, Q.min_l, Q.max_l, Q.sum_l, Q.sort_l, Q.wo_asInts, Q.wo_asInts0, Q.wo_asIntsC, Q.key_i, Q.key_s, Q.wp_eLenSet, Q.lenSet_t, Q.wp_eChain, Q.store_l, Q.store_d, Q.wo_stI, Q.wp_sSub, Q.wp_sAugS, Q.aug_v, Q.wp_sAug, Q.ip_ii, Q.hI_ii, Q.wp_eLenScr, Q.wp_eIxScr, Q.scr_is, Q.cap_iff, Q.rng_iff, Q.lrg_iff, Q.div_iff, Q.mul_iff, Q.pow_iff, Q.size_lt, Q.free_pin, Q.free_lk, Q.lent_lk, Q.ff, Q.ft, Q.tt, Q.ffp, Q.dt, Q.df, Q.ndt, Q.ndf, Q.wo_ret, Q.fin_hot, Q.fin_val, Q.fin_nil, Q.ownOk_nil, Q.ownOk_cons, Q.hot_v, Q.hot_u, Q.wipe_0, Q.wipe_1, Q.back_0, Q.back_1, Q.slotPos_nil, List.set_cons_zero, List.set_cons_succ, List.getElem?_cons_zero, List.getElem?_cons_succ, List.length_cons, List.length_nil, Nat.zero_add, Nat.reduceAdd, Nat.reduceLeDiff, true_and, and_true, and_self, Bool.not_true, Bool.not_false, List.cons_append, List.nil_append, Q.wput_is, Q.true_imp, imp_self, implies_true, true_or, or_true, List.length_map]
  refine ⟨⟨by omega, by omega⟩, by rw [rngD_len]; omega, fun d hd => ?_, ?_⟩
  · obtain ⟨k, hk, rfl⟩ := List.mem_map.mp hd
    have hk := List.mem_range.mp hk
    rw [Int.toNat_natCast] at hk
    rw [Int.zero_add]
    simp only [Q.wp_ok, Q.wp_no, Q.wo_some, Q.wo_none, Q.wo_bind, Q.wo_map, Q.wo_at0, Q.wo_atS, Q.wset_0, Q.wset_S, Q.bnd_val, Q.bnd_hot, Q.wp_eVar, Q.asArg_val, Q.asArg_hot, Q.wp_eArg, Q.wp_eC, Q.wp_cold, Q.wp_toCold_c, Q.wp_toCold_h, Q.chill_val, Q.chill_hot, Q.wp_toCold_s, Q.wp_own, Q.wp_toOwn_c, Q.wp_toOwn_h, Q.wp_toOwn_s, Q.giveBack_val, Q.giveBack_hot, Q.wp_toRet_c, Q.wp_toRet_h, Q.wp_toRet_s, Q.wp_aNil, Q.wp_aCons, Q.wp_bin, Q.wp_una, Q.wp_dat1, Q.wp_dat2, Q.wp_whole2, Q.view_c, Q.view_h, Q.view_s, Q.sview_v, Q.sview_h, Q.data_l, Q.data_d, Q.viewC_c, Q.viewC_h, Q.viewC_s, Q.sviewC_v, Q.sviewC_h, Q.dataC_l, Q.dataC_d, Q.plain_n, Q.plain_b, Q.plain_i, Q.plain_s, Q.plain_l, Q.plain_t, Q.wp_asB, Q.boolR_c, Q.boolS_v, Q.boolR_s, Q.wp_bAnd, Q.wp_bOr, Q.wp_bNot, Q.wp_eAnd, Q.wp_eOr, Q.wp_eNot, Q.wp_eIf, Q.wp_tTrue, Q.wp_sNx, Q.wp_never, Q.seqK_nx, Q.seqK_rt, Q.seqK_bk, Q.seqK_ct, Q.wp_sSeq, Q.wp_sExpr, Q.wp_sRet, Q.wp_sIf, Q.wp_putS, Q.wp_sSet, Q.set_val, Q.set_un, Q.set_hot, Q.sl_cold, Q.sl_hot, Q.wp_sTg, Q.ex_cold, Q.asg_nm, Q.asg_tp, Q.asgs_nil, Q.asgs_cons, Q.wputs_nil, Q.wputs_cons, Q.wp_sPar, Q.colds_nil, Q.colds_c, Q.wp_eTup, Q.wp_eLst, Q.wp_eDic0, Q.viewsC_nil, Q.viewsC_c, Q.wp_eB, Q.toArgs_nil, Q.toArgs_c, Q.lend_hot, Q.toArgs_s, Q.slotPos_c, Q.backA_nil, Q.backA_c, Q.takeBack_hot, Q.backA_s, Q.resR_v, Q.resR_h, Q.wp_callE, Q.resS_c, Q.resS_h, Q.resS_n, Q.wp_eMt, Q.wp_eMt0, Q.chg_lst, Q.wp_mAppend, Q.wp_mPopAt, Q.wp_mPop, Q.wp_mDat, Q.tyD_l, Q.tyD_t, Q.tyD_d, Q.isTy_o, Q.wp_oNone, Q.intD_i, Q.wp_oSome, Q.wp_eCut, Q.cut_l, Q.cut_t, Q.wp_eIsi, Q.wp_eLRg1, Q.wp_iRng1, Q.wp_iRng2, Q.seq_l, Q.seq_t, Q.wp_iCold, Q.wp_iEnumC, Q.walked_v, Q.walked_h, Q.wp_iSlot, Q.unlk_none, Q.wp_sFor, Q.turnK_nx, Q.turnK_ct, Q.turnK_bk, Q.turnK_rt, Q.add_ii, Q.add_ll, Q.add_tt, Q.sub_ii, Q.mul_ii, Q.mul_li, Q.mul_ti, Q.div_ii, Q.mod_ii, Q.pow_ii, Q.neg_i, Q.rev_l, Q.ix_l, Q.ix_t, Q.ix_d, Q.eq_xy, Q.ne_xy, Q.ord_ii, Q.in_w, Q.notin_w, Q.in_l, Q.in_t, Q.is_w, Q.isnot_w, Q.isq_n, Q.isNone_n, Q.isNone_i, Q.isNone_t, Q.isNone_l, Q.len_l, Q.len_t, Q.list_l, Q.list_t, Q.tup_l, Q.tup_t, Q.abs_i, Q.int_i, Q.int_b, Q.min_ii, Q.max_ii, Q.min_l, Q.max_l, Q.sum_l, Q.sort_l, Q.wo_asInts, Q.wo_asInts0, Q.wo_asIntsC, Q.key_i, Q.key_s, Q.wp_eLenSet, Q.lenSet_t, Q.wp_eChain, Q.store_l, Q.store_d, Q.wo_stI, Q.wp_sSub, Q.wp_sAugS, Q.aug_v, Q.wp_sAug, Q.ip_ii, Q.hI_ii, Q.wp_eLenScr, Q.wp_eIxScr, Q.scr_is, Q.cap_iff, Q.rng_iff, Q.lrg_iff, Q.div_iff, Q.mul_iff, Q.pow_iff, Q.size_lt, Q.free_pin, Q.free_lk, Q.lent_lk, Q.ff, Q.ft, Q.tt, Q.ffp, Q.dt, Q.df, Q.ndt, Q.ndf, Q.wo_ret, Q.fin_hot, Q.fin_val, Q.fin_nil, Q.ownOk_nil, Q.ownOk_cons, Q.hot_v, Q.hot_u, Q.wipe_0, Q.wipe_1, Q.back_0, Q.back_1, Q.slotPos_nil, List.set_cons_zero, List.set_cons_succ, List.getElem?_cons_zero, List.getElem?_cons_succ, List.length_cons, List.length_nil, Nat.zero_add, Nat.reduceAdd, Nat.reduceLeDiff, true_and, and_true, and_self, Bool.not_true, Bool.not_false, List.cons_append, List.nil_append, Q.wput_is, Q.true_imp, imp_self, implies_true, true_or, or_true, shaped_int, eqv_i, onB, onI]
    have e1 : L2.atI (row.map PySem.PyData.int) (k : Int) = some (.int (row.getD k 0)) := by
      rw [atI_ints row k hk, List.getD_eq_getElem?_getD, List.getElem?_eq_getElem hk]; rfl
    refine ⟨fun q => ⟨?_, fun _ => wo_of e1 rfl⟩, fun q => wo_of e1 ?_⟩
    · simp [newAt, q]
    · have e2 : L2.atI (row.map PySem.PyData.int) ((k : Int) - 1) = some (.int (row.getD (k - 1) 0)) := by
        rw [show (k : Int) - 1 = ((k - 1 : Nat) : Int) by omega, atI_ints row (k - 1) (by omega), List.getD_eq_getElem?_getD, List.getElem?_eq_getElem (by omega)]; rfl
      refine wo_of e2 ?_
      simp only [Q.wp_ok, Q.wp_no, Q.wo_some, Q.wo_none, Q.wo_bind, Q.wo_map, Q.wo_at0, Q.wo_atS, Q.wset_0, Q.wset_S, Q.bnd_val, Q.bnd_hot, Q.wp_eVar, Q.asArg_val, Q.asArg_hot, Q.wp_eArg, Q.wp_eC, Q.wp_cold, Q.wp_toCold_c, Q.wp_toCold_h, Q.chill_val, Q.chill_hot, Q.wp_toCold_s, Q.wp_own, Q.wp_toOwn_c, Q.wp_toOwn_h, Q.wp_toOwn_s, Q.giveBack_val, Q.giveBack_hot, Q.wp_toRet_c, Q.wp_toRet_h, Q.wp_toRet_s, Q.wp_aNil, Q.wp_aCons, Q.wp_bin, Q.wp_una, Q.wp_dat1, Q.wp_dat2, Q.wp_whole2, Q.view_c, Q.view_h, Q.view_s, Q.sview_v, Q.sview_h, Q.data_l, Q.data_d, Q.viewC_c, Q.viewC_h, Q.viewC_s, Q.sviewC_v, Q.sviewC_h, Q.dataC_l, Q.dataC_d, Q.plain_n, Q.plain_b, Q.plain_i, Q.plain_s, Q.plain_l, Q.plain_t, Q.wp_asB, Q.boolR_c, Q.boolS_v, Q.boolR_s, Q.wp_bAnd, Q.wp_bOr, Q.wp_bNot, Q.wp_eAnd, Q.wp_eOr, Q.wp_eNot, Q.wp_eIf, Q.wp_tTrue, Q.wp_sNx, Q.wp_never, Q.seqK_nx, Q.seqK_rt, Q.seqK_bk, Q.seqK_ct, Q.wp_sSeq, Q.wp_sExpr, Q.wp_sRet, Q.wp_sIf, Q.wp_putS, Q.wp_sSet, Q.set_val, Q.set_un, Q.set_hot, Q.sl_cold, Q.sl_hot, Q.wp_sTg, Q.ex_cold, Q.asg_nm, Q.asg_tp, Q.asgs_nil, Q.asgs_cons, Q.wputs_nil, Q.wputs_cons, Q.wp_sPar, Q.colds_nil, Q.colds_c, Q.wp_eTup, Q.wp_eLst, Q.wp_eDic0, Q.viewsC_nil, Q.viewsC_c, Q.wp_eB, Q.toArgs_nil, Q.toArgs_c, Q.lend_hot, Q.toArgs_s, Q.slotPos_c, Q.backA_nil, Q.backA_c, Q.takeBack_hot, Q.backA_s, Q.resR_v, Q.resR_h, Q.wp_callE, Q.resS_c, Q.resS_h, Q.resS_n, Q.wp_eMt, Q.wp_eMt0, Q.chg_lst, Q.wp_mAppend, Q.wp_mPopAt, Q.wp_mPop, Q.wp_mDat, Q.tyD_l, Q.tyD_t, Q.tyD_d, Q.isTy_o, Q.wp_oNone, Q.intD_i, Q.wp_oSome, Q.wp_eCut, Q.cut_l, Q.cut_t, Q.wp_eIsi, Q.wp_eLRg1, Q.wp_iRng1, Q.wp_iRng2, Q.seq_l, Q.seq_t, Q.wp_iCold, Q.wp_iEnumC, Q.walked_v, Q.walked_h, Q.wp_iSlot, Q.unlk_none, Q.wp_sFor, Q.turnK_nx, Q.turnK_ct, Q.turnK_bk, Q.turnK_rt, Q.add_ii, Q.add_ll, Q.add_tt, Q.sub_ii, Q.mul_ii, Q.mul_li, Q.mul_ti, Q.div_ii, Q.mod_ii, Q.pow_ii, Q.neg_i, Q.rev_l, Q.ix_l, Q.ix_t, Q.ix_d, Q.eq_xy, Q.ne_xy, Q.ord_ii, Q.in_w, Q.notin_w, Q.in_l, Q.in_t, Q.is_w, Q.isnot_w, Q.isq_n, Q.isNone_n, Q.isNone_i, Q.isNone_t, Q.isNone_l, Q.len_l, Q.len_t, Q.list_l, Q.list_t, Q.tup_l, Q.tup_t, Q.abs_i, Q.int_i, Q.int_b, Q.min_ii, Q.max_ii, Q.min_l, Q.max_l, Q.sum_l, Q.sort_l, Q.wo_asInts, Q.wo_asInts0, Q.wo_asIntsC, Q.key_i, Q.key_s, Q.wp_eLenSet, Q.lenSet_t, Q.wp_eChain, Q.store_l, Q.store_d, Q.wo_stI, Q.wp_sSub, Q.wp_sAugS, Q.aug_v, Q.wp_sAug, Q.ip_ii, Q.hI_ii, Q.wp_eLenScr, Q.wp_eIxScr, Q.scr_is, Q.cap_iff, Q.rng_iff, Q.lrg_iff, Q.div_iff, Q.mul_iff, Q.pow_iff, Q.size_lt, Q.free_pin, Q.free_lk, Q.lent_lk, Q.ff, Q.ft, Q.tt, Q.ffp, Q.dt, Q.df, Q.ndt, Q.ndf, Q.wo_ret, Q.fin_hot, Q.fin_val, Q.fin_nil, Q.ownOk_nil, Q.ownOk_cons, Q.hot_v, Q.hot_u, Q.wipe_0, Q.wipe_1, Q.back_0, Q.back_1, Q.slotPos_nil, List.set_cons_zero, List.set_cons_succ, List.getElem?_cons_zero, List.getElem?_cons_succ, List.length_cons, List.length_nil, Nat.zero_add, Nat.reduceAdd, Nat.reduceLeDiff, true_and, and_true, and_self, Bool.not_true, Bool.not_false, List.cons_append, List.nil_append, Q.wput_is, Q.true_imp, imp_self, implies_true, true_or, or_true, shaped_int, eqv_i]
      have k0 : ¬ k = 0 := by omega
      exact ⟨by simp [newAt, k0], fun _ => wo_of e1 rfl⟩
  · rw [Int.toNat_natCast]
    unfold thin
    rw [rngD0, filter_ints (fun i => newAt row i.toNat) _ fun i => rfl, filter_m, List.map_map, List.map_map, List.map_map]
    rfl
theorem law_touches (h : Hot) (B : Box h) (m : Md) (hm : m.lk = false) : wo (f__law_touches [.hot m h]) fun p => ∃ ts h', Walk ts ∧ Box h' ∧ p = (.val (T ts), [.hot m h']) := by
  refine def_wo ⟨rfl, by decide⟩ ?_
  unfold g__law_touches
  show wp (sSeq _ _ [.hot m h, .un, .un, .un, .un, .un, .un, .un]) _
  rw [wp_seq3]
  refine lt_head h B m hm _ fun h1 kind many names B1 n1 n2 nf => ?_
  rw [seqK_nx, wp_sSeq]
  refine lt_row h1 B1 m hm kind many names n1 n2 nf _ fun h2 row s B2 r1 r2 rf hs => ?_
  rw [seqK_nx, wp_sSeq]
  refine wp_imp (lt_tail h2 m _ _ _ s row r2) fun o e he => ?_
  obtain ⟨rfl, rfl⟩ := he
  simp only [Q.wp_ok, Q.wp_no, Q.wo_some, Q.wo_none, Q.wo_bind, Q.wo_map, Q.wo_at0, Q.wo_atS, Q.wset_0, Q.wset_S, Q.bnd_val, Q.bnd_hot, Q.wp_eVar, Q.asArg_val, Q.asArg_hot, Q.wp_eArg, Q.wp_eC, Q.wp_cold, Q.wp_toCold_c, Q.wp_toCold_h, Q.chill_val, Q.chill_hot, Q.wp_toCold_s, Q.wp_own, Q.wp_toOwn_c, Q.wp_toOwn_h, Q.wp_toOwn_s, Q.giveBack_val, Q.giveBack_hot, Q.wp_toRet_c, Q.wp_toRet_h, Q.wp_toRet_s, Q.wp_aNil, Q.wp_aCons, Q.wp_bin, Q.wp_una, Q.wp_dat1, Q.wp_dat2, Q.wp_whole2, Q.view_c, Q.view_h, Q.view_s, Q.sview_v, Q.sview_h, Q.data_l, Q.data_d, Q.viewC_c, Q.viewC_h, Q.viewC_s, Q.sviewC_v, Q.sviewC_h, Q.dataC_l, Q.dataC_d, Q.plain_n, Q.plain_b, Q.plain_i, Q.plain_s, Q.plain_l, Q.plain_t, Q.wp_asB, Q.boolR_c, Q.boolS_v, Q.boolR_s, Q.wp_bAnd, Q.wp_bOr, Q.wp_bNot, Q.wp_eAnd, Q.wp_eOr, Q.wp_eNot, Q.wp_eIf, Q.wp_tTrue, Q.wp_sNx, Q.wp_never, Q.seqK_nx, Q.seqK_rt, Q.seqK_bk, Q.seqK_ct, Q.wp_sSeq, Q.wp_sExpr, Q.wp_sRet, Q.wp_sIf, Q.wp_putS, Q.wp_sSet, Q.set_val, Q.set_un, Q.set_hot, Q.sl_cold, Q.sl_hot, Q.wp_sTg, Q.ex_cold, Q.asg_nm, Q.asg_tp, Q.asgs_nil, Q.asgs_cons, Q.wputs_nil, Q.wputs_cons, Q.wp_sPar, Q.colds_nil, Q.colds_c, Q.wp_eTup, Q.wp_eLst, Q.wp_eDic0, Q.viewsC_nil, Q.viewsC_c, Q.wp_eB, Q.toArgs_nil, Q.toArgs_c, Q.lend_hot, Q.toArgs_s, Q.slotPos_c, Q.backA_nil, Q.backA_c, Q.takeBack_hot, Q.backA_s, Q.resR_v, Q.resR_h, Q.wp_callE, Q.resS_c, Q.resS_h, Q.resS_n, Q.wp_eMt, Q.wp_eMt0, Q.chg_lst, Q.wp_mAppend, Q.wp_mPopAt, Q.wp_mPop, Q.wp_mDat, Q.tyD_l, Q.tyD_t, Q.tyD_d, Q.isTy_o, Q.wp_oNone, Q.intD_i, Q.wp_oSome, Q.wp_eCut, Q.cut_l, Q.cut_t, Q.wp_eIsi, Q.wp_eLRg1, Q.wp_iRng1, Q.wp_iRng2, Q.seq_l, Q.seq_t, Q.wp_iCold, Q.wp_iEnumC, Q.walked_v, Q.walked_h, Q.wp_iSlot, Q.unlk_none, Q.wp_sFor, Q.turnK_nx, Q.turnK_ct, Q.turnK_bk, Q.turnK_rt, Q.add_ii, Q.add_ll, Q.add_tt, Q.sub_ii, Q.mul_ii, Q.mul_li, Q.mul_ti, Q.div_ii, Q.mod_ii, Q.pow_ii, Q.neg_i, Q.rev_l, Q.ix_l, Q.ix_t, Q.ix_d, Q.eq_xy, Q.ne_xy, Q.ord_ii, Q.in_w, Q.notin_w, Q.in_l, Q.in_t, Q.is_w, Q.isnot_w, Q.isq_n, Q.isNone_n, Q.isNone_i, Q.isNone_t, Q.isNone_l, Q.len_l, Q.len_t, Q.list_l, Q.list_t, Q.tup_l, Q.tup_t, Q.abs_i, Q.int_i, Q.int_b, Q.min_ii, Q.max_ii, Q.min_l, Q.max_l, Q.sum_l, Q.sort_l, Q.wo_asInts, Q.wo_asInts0, Q.wo_asIntsC, Q.key_i, Q.key_s, Q.wp_eLenSet, Q.lenSet_t, Q.wp_eChain, Q.store_l, Q.store_d, Q.wo_stI, Q.wp_sSub, Q.wp_sAugS, Q.aug_v, Q.wp_sAug, Q.ip_ii, Q.hI_ii, Q.wp_eLenScr, Q.wp_eIxScr, Q.scr_is, Q.cap_iff, Q.rng_iff, Q.lrg_iff, Q.div_iff, Q.mul_iff, Q.pow_iff, Q.size_lt, Q.free_pin, Q.free_lk, Q.lent_lk, Q.ff, Q.ft, Q.tt, Q.ffp, Q.dt, Q.df, Q.ndt, Q.ndf, Q.wo_ret, Q.fin_hot, Q.fin_val, Q.fin_nil, Q.ownOk_nil, Q.ownOk_cons, Q.hot_v, Q.hot_u, Q.wipe_0, Q.wipe_1, Q.back_0, Q.back_1, Q.slotPos_nil, List.set_cons_zero, List.set_cons_succ, List.getElem?_cons_zero, List.getElem?_cons_succ, List.length_cons, List.length_nil, Nat.zero_add, Nat.reduceAdd, Nat.reduceLeDiff, true_and, and_true, and_self, Bool.not_true, Bool.not_false, List.cons_append, List.nil_append, Q.wput_is, Q.true_imp, imp_self, implies_true, true_or, or_true]
  rw [cut_lo _ _ (by decide), ← List.map_take]
  exact ⟨_, h2, walk_of_row row r1 rf, B2, rfl⟩
end K79
set_option Elab.async false
set_option linter.all false
set_option maxRecDepth 100000
set_option maxHeartbeats 4000000
namespace K79
open Q Bel
def vic (ts : List Int) (t : Nat) (M : List Int) : Nat := (M.map (farV ts t)).findIdx fun z => decide (z = (mostI (M.map (farV ts t))).getD 0)
def bel (ts : List Int) (r : Nat) : Nat → List Int × Nat
  | 0 => ([], 0)
  | t + 1 => if ts.getD t 0 ∈ (bel ts r t).1 then bel ts r t
    else if (bel ts r t).1.length = r then ((bel ts r t).1.eraseIdx (vic ts t (bel ts r t).1) ++ [ts.getD t 0], (bel ts r t).2 + 1)
    else ((bel ts r t).1 ++ [ts.getD t 0], (bel ts r t).2 + 1)
theorem bel_succ (ts : List Int) (r t : Nat) : bel ts r (t + 1) = if ts.getD t 0 ∈ (bel ts r t).1 then bel ts r t
    else if (bel ts r t).1.length = r then ((bel ts r t).1.eraseIdx (vic ts t (bel ts r t).1) ++ [ts.getD t 0], (bel ts r t).2 + 1)
    else ((bel ts r t).1 ++ [ts.getD t 0], (bel ts r t).2 + 1) := rfl
theorem bel_len (ts : List Int) (r : Nat) : ∀ t, (bel ts r t).1.length ≤ t
  | 0 => Nat.le_refl _
  | t + 1 => by
    have := bel_len ts r t
    unfold bel
    split
    · omega
    · split
      · rw [List.length_append, List.length_eraseIdx]; simp; split <;> omega
      · simp; omega
theorem mostI_some {xs : List Int} (h : xs ≠ []) : ∃ m, mostI xs = some m := by
  cases xs with
  | nil => exact absurd rfl h
  | cons x r => exact ⟨_, rfl⟩
theorem foldl_max : ∀ (r : List Int) (n : Int), (r.foldl max n = n ∨ r.foldl max n ∈ r) ∧ n ≤ r.foldl max n ∧ ∀ y ∈ r, y ≤ r.foldl max n
  | [], n => ⟨.inl rfl, Int.le_refl _, by simp⟩
  | m :: r, n => by
    obtain ⟨h1, h2, h3⟩ := foldl_max r (max n m)
    rw [List.foldl_cons]
    refine ⟨?_, by omega, fun y hy => ?_⟩
    · rcases h1 with h | h
      · rw [h]
        rcases Int.le_total n m with q | q
        · exact .inr (by rw [Int.max_eq_right q]; simp)
        · exact .inl (Int.max_eq_left q)
      · exact .inr (List.mem_cons_of_mem _ h)
    · rcases List.mem_cons.mp hy with q | q
      · rw [q]; omega
      · exact h3 y q
theorem mostI_ok {xs : List Int} {m : Int} (h : mostI xs = some m) : m ∈ xs ∧ ∀ y ∈ xs, y ≤ m := by
  cases xs with
  | nil => cases h
  | cons x r =>
    cases h
    obtain ⟨h1, h2, h3⟩ := foldl_max r x
    refine ⟨?_, fun y hy => ?_⟩
    · rcases h1 with q | q
      · rw [q]; simp
      · exact List.mem_cons_of_mem _ q
    · rcases List.mem_cons.mp hy with q | q
      · rw [q]; exact h2
      · exact h3 y q
theorem findIdx_ints (xs : List Int) (m : Int) (h : m ∈ xs) : (xs.map PySem.PyData.int).findIdx? (fun z => PySem.PyData.eqv z (.int m)) = some (xs.findIdx fun z => decide (z = m)) := by
  induction xs with
  | nil => cases h
  | cons x xs ih =>
    rw [List.map_cons, List.findIdx?_cons, List.findIdx_cons, eqv_int]
    by_cases q : x = m
    · simp [q]
    · have hm : m ∈ xs := by
        rcases List.mem_cons.mp h with z | z2
        · exact absurd z.symm q
        · exact z2
      simp [q, ih hm]
theorem vic_ok {ts : List Int} {t : Nat} {M : List Int} (h : M ≠ []) : ∃ mx, mostI (M.map (farV ts t)) = some mx ∧ vic ts t M < M.length ∧ (∀ v, M[vic ts t M]? = some v → farV ts t v = mx) ∧ (∀ c ∈ M, farV ts t c ≤ mx) ∧ ∀ j, j < vic ts t M → ∀ v, M[j]? = some v → farV ts t v ≠ mx := by
  obtain ⟨mx, hm⟩ := mostI_some (xs := M.map (farV ts t)) (by simpa using h)
  obtain ⟨h1, h2⟩ := mostI_ok hm
  have lt : (M.map (farV ts t)).findIdx (fun z => decide (z = mx)) < (M.map (farV ts t)).length := List.findIdx_lt_length_of_exists ⟨mx, h1, by simp⟩
  have ev : vic ts t M = (M.map (farV ts t)).findIdx fun z => decide (z = mx) := by unfold vic; rw [hm]; rfl
  refine ⟨mx, hm, by rw [ev]; simpa using lt, fun v hv => ?_, fun c hc => h2 _ (List.mem_map_of_mem hc), fun j hj v hv => ?_⟩
  · have := List.findIdx_getElem (w := lt)
    simp only [List.getElem_map, decide_eq_true_eq] at this
    rw [ev] at hv
    rw [List.getElem?_eq_getElem (by simpa using lt)] at hv
    cases hv
    exact this
  · rw [ev] at hj
    have := List.not_of_lt_findIdx hj
    simp only [List.getElem_map, decide_eq_true_eq] at this
    have hl : j < M.length := by
      have : j < (M.map (farV ts t)).length := by omega
      simpa using this
    rw [List.getElem?_eq_getElem hl] at hv
    cases hv
    exact of_decide_eq_false this
theorem map_ints2 (xs : List Int) (g : Int → Int) : (xs.map g).map PySem.PyData.int = xs.map fun c => PySem.PyData.int (g c) := by rw [List.map_map]; rfl
theorem atI_T (ts : List Int) (i : Nat) (h : i < ts.length) : L2.atI (ts.map PySem.PyData.int) (i : Int) = some (.int (ts.getD i 0)) := by
  rw [atI_ints ts i h, List.getD_eq_getElem?_getD, List.getElem?_eq_getElem h]; rfl
theorem law_least {ts : List Int} (hl : ts.length ≤ 20) {r : Nat} (hr : 1 ≤ r) (hr2 : r ≤ 1000) : f__law_least [.val (T ts), .val (.int (r : Nat))] = some (.val (.int ((bel ts r ts.length).2 : Nat)), [.val (T ts), .val (.int (r : Nat))]) := wo_eq <| by
  refine def_wo ⟨rfl, by decide⟩ ?_
  unfold g__law_least
  show wp (sSeq _ _ [.val (T ts), .val (.int (r : Nat)), .un, .un, .un, .un, .un]) _
  simp only [Q.wp_ok, Q.wp_no, Q.wo_some, Q.wo_none, Q.wo_bind, Q.wo_map, Q.wo_at0, Q.wo_atS, Q.wset_0, Q.wset_S, Q.bnd_val, Q.bnd_hot, Q.wp_eVar, Q.asArg_val, Q.asArg_hot, Q.wp_eArg, Q.wp_eC, Q.wp_cold, Q.wp_toCold_c, Q.wp_toCold_h, Q.chill_val, Q.chill_hot, Q.wp_toCold_s, Q.wp_own, Q.wp_toOwn_c, Q.wp_toOwn_h, Q.wp_toOwn_s, Q.giveBack_val, Q.giveBack_hot, Q.wp_toRet_c, Q.wp_toRet_h, Q.wp_toRet_s, Q.wp_aNil, Q.wp_aCons, Q.wp_bin, Q.wp_una, Q.wp_dat1, Q.wp_dat2, Q.wp_whole2, Q.view_c, Q.view_h, Q.view_s, Q.sview_v, Q.sview_h, Q.data_l, Q.data_d, Q.viewC_c, Q.viewC_h, Q.viewC_s, Q.sviewC_v, Q.sviewC_h, Q.dataC_l, Q.dataC_d, Q.plain_n, Q.plain_b, Q.plain_i, Q.plain_s, Q.plain_l, Q.plain_t, Q.wp_asB, Q.boolR_c, Q.boolS_v, Q.boolR_s, Q.wp_bAnd, Q.wp_bOr, Q.wp_bNot, Q.wp_eAnd, Q.wp_eOr, Q.wp_eNot, Q.wp_eIf, Q.wp_tTrue, Q.wp_sNx, Q.wp_never, Q.seqK_nx, Q.seqK_rt, Q.seqK_bk, Q.seqK_ct, Q.wp_sSeq, Q.wp_sExpr, Q.wp_sRet, Q.wp_sIf, Q.wp_putS, Q.wp_sSet, Q.set_val, Q.set_un, Q.set_hot, Q.sl_cold, Q.sl_hot, Q.wp_sTg, Q.ex_cold, Q.asg_nm, Q.asg_tp, Q.asgs_nil, Q.asgs_cons, Q.wputs_nil, Q.wputs_cons, Q.wp_sPar, Q.colds_nil, Q.colds_c, Q.wp_eTup, Q.wp_eLst, Q.wp_eDic0, Q.viewsC_nil, Q.viewsC_c, Q.wp_eB, Q.toArgs_nil, Q.toArgs_c, Q.lend_hot, Q.toArgs_s, Q.slotPos_c, Q.backA_nil, Q.backA_c, Q.takeBack_hot, Q.backA_s, Q.resR_v, Q.resR_h, Q.wp_callE, Q.resS_c, Q.resS_h, Q.resS_n, Q.wp_eMt, Q.wp_eMt0, Q.chg_lst, Q.wp_mAppend, Q.wp_mPopAt, Q.wp_mPop, Q.wp_mDat, Q.tyD_l, Q.tyD_t, Q.tyD_d, Q.isTy_o, Q.wp_oNone, Q.intD_i, Q.wp_oSome, Q.wp_eCut, Q.cut_l, Q.cut_t, Q.wp_eIsi, Q.wp_eLRg1, Q.wp_iRng1, Q.wp_iRng2, Q.seq_l, Q.seq_t, Q.wp_iCold, Q.wp_iEnumC, Q.walked_v, Q.walked_h, Q.wp_iSlot, Q.unlk_none, Q.wp_sFor, Q.turnK_nx, Q.turnK_ct, Q.turnK_bk, Q.turnK_rt, Q.add_ii, Q.add_ll, Q.add_tt, Q.sub_ii, Q.mul_ii, Q.mul_li, Q.mul_ti, Q.div_ii, Q.mod_ii, Q.pow_ii, Q.neg_i, Q.rev_l, Q.ix_l, Q.ix_t, Q.ix_d, Q.eq_xy, Q.ne_xy, Q.ord_ii, Q.in_w, Q.notin_w, Q.in_l, Q.in_t, Q.is_w, Q.isnot_w, Q.isq_n, Q.isNone_n, Q.isNone_i, Q.isNone_t, Q.isNone_l, Q.len_l, Q.len_t, Q.list_l, Q.list_t, Q.tup_l, Q.tup_t, Q.abs_i, Q.int_i, Q.int_b, Q.min_ii, Q.max_ii, Q.min_l, Q.max_l, Q.sum_l, Q.sort_l, Q.wo_asInts, Q.wo_asInts0, Q.wo_asIntsC, Q.key_i, Q.key_s, Q.wp_eLenSet, Q.lenSet_t, Q.wp_eChain, Q.store_l, Q.store_d, Q.wo_stI, Q.wp_sSub, Q.wp_sAugS, Q.aug_v, Q.wp_sAug, Q.ip_ii, Q.hI_ii, Q.wp_eLenScr, Q.wp_eIxScr, Q.scr_is, Q.cap_iff, Q.rng_iff, Q.lrg_iff, Q.div_iff, Q.mul_iff, Q.pow_iff, Q.size_lt, Q.free_pin, Q.free_lk, Q.lent_lk, Q.ff, Q.ft, Q.tt, Q.ffp, Q.dt, Q.df, Q.ndt, Q.ndf, Q.wo_ret, Q.fin_hot, Q.fin_val, Q.fin_nil, Q.ownOk_nil, Q.ownOk_cons, Q.hot_v, Q.hot_u, Q.wipe_0, Q.wipe_1, Q.back_0, Q.back_1, Q.slotPos_nil, List.set_cons_zero, List.set_cons_succ, List.getElem?_cons_zero, List.getElem?_cons_succ, List.length_cons, List.length_nil, Nat.zero_add, Nat.reduceAdd, Nat.reduceLeDiff, true_and, and_true, and_self, Bool.not_true, Bool.not_false, List.cons_append, List.nil_append, Q.wput_is, Q.true_imp, imp_self, implies_true, true_or, or_true, List.length_map]
  refine ⟨⟨by omega, by omega⟩, wp_forL (fun i e => ∃ s4 s5, s4.isHot = false ∧ s5.settable = true ∧ e = [.val (T ts), .val (.int (r : Nat)), .hot Md.free (.lst ((bel ts r i).1.map .int)), .val (.int ((bel ts r i).2 : Nat)), s4, s5, .un]) (k := 0) ⟨.un, .un, rfl, rfl, rfl⟩ (fun i d e hd he => ?_) fun e he => ?_⟩
  · obtain ⟨s4, s5, n4, n5, rfl⟩ := he
    rw [rngD_at] at hd
    split at hd
    · rename_i hi
      rw [Int.toNat_natCast] at hi
      cases hd
      have st : s4.settable = true := by cases s4 <;> first | rfl | cases n4
      rw [Nat.zero_add, Int.zero_add]
      have ev := bel_succ ts r i
      generalize hb : ts.getD i 0 = b at ev
      have a1 := atI_T ts i hi
      rw [hb] at a1
      have ml := bel_len ts r i
      generalize bel ts r (i + 1) = q2 at ev ⊢
      generalize bel ts r i = q at ev ml ⊢
      obtain ⟨M, n⟩ := q
      have lm := List.length_map PySem.PyData.int (as := M)
      simp only [Q.wp_ok, Q.wp_no, Q.wo_some, Q.wo_none, Q.wo_bind, Q.wo_map, Q.wo_at0, Q.wo_atS, Q.wset_0, Q.wset_S, Q.bnd_val, Q.bnd_hot, Q.wp_eVar, Q.asArg_val, Q.asArg_hot, Q.wp_eArg, Q.wp_eC, Q.wp_cold, Q.wp_toCold_c, Q.wp_toCold_h, Q.chill_val, Q.chill_hot, Q.wp_toCold_s, Q.wp_own, Q.wp_toOwn_c, Q.wp_toOwn_h, Q.wp_toOwn_s, Q.giveBack_val, Q.giveBack_hot, Q.wp_toRet_c, Q.wp_toRet_h, Q.wp_toRet_s, Q.wp_aNil, Q.wp_aCons, Q.wp_bin, Q.wp_una, Q.wp_dat1, Q.wp_dat2, Q.wp_whole2, Q.view_c, Q.view_h, Q.view_s, Q.sview_v, Q.sview_h, Q.data_l, Q.data_d, Q.viewC_c, Q.viewC_h, Q.viewC_s, Q.sviewC_v, Q.sviewC_h, Q.dataC_l, Q.dataC_d, Q.plain_n, Q.plain_b, Q.plain_i, Q.plain_s, Q.plain_l, Q.plain_t, Q.wp_asB, Q.boolR_c, Q.boolS_v, Q.boolR_s, Q.wp_bAnd, Q.wp_bOr, Q.wp_bNot, Q.wp_eAnd, Q.wp_eOr, Q.wp_eNot, Q.wp_eIf, Q.wp_tTrue, Q.wp_sNx, Q.wp_never, Q.seqK_nx, Q.seqK_rt, Q.seqK_bk, Q.seqK_ct, Q.wp_sSeq, Q.wp_sExpr, Q.wp_sRet, Q.wp_sIf, Q.wp_putS, Q.wp_sSet, Q.set_val, Q.set_un, Q.set_hot, Q.sl_cold, Q.sl_hot, Q.wp_sTg, Q.ex_cold, Q.asg_nm, Q.asg_tp, Q.asgs_nil, Q.asgs_cons, Q.wputs_nil, Q.wputs_cons, Q.wp_sPar, Q.colds_nil, Q.colds_c, Q.wp_eTup, Q.wp_eLst, Q.wp_eDic0, Q.viewsC_nil, Q.viewsC_c, Q.wp_eB, Q.toArgs_nil, Q.toArgs_c, Q.lend_hot, Q.toArgs_s, Q.slotPos_c, Q.backA_nil, Q.backA_c, Q.takeBack_hot, Q.backA_s, Q.resR_v, Q.resR_h, Q.wp_callE, Q.resS_c, Q.resS_h, Q.resS_n, Q.wp_eMt, Q.wp_eMt0, Q.chg_lst, Q.wp_mAppend, Q.wp_mPopAt, Q.wp_mPop, Q.wp_mDat, Q.tyD_l, Q.tyD_t, Q.tyD_d, Q.isTy_o, Q.wp_oNone, Q.intD_i, Q.wp_oSome, Q.wp_eCut, Q.cut_l, Q.cut_t, Q.wp_eIsi, Q.wp_eLRg1, Q.wp_iRng1, Q.wp_iRng2, Q.seq_l, Q.seq_t, Q.wp_iCold, Q.wp_iEnumC, Q.walked_v, Q.walked_h, Q.wp_iSlot, Q.unlk_none, Q.wp_sFor, Q.turnK_nx, Q.turnK_ct, Q.turnK_bk, Q.turnK_rt, Q.add_ii, Q.add_ll, Q.add_tt, Q.sub_ii, Q.mul_ii, Q.mul_li, Q.mul_ti, Q.div_ii, Q.mod_ii, Q.pow_ii, Q.neg_i, Q.rev_l, Q.ix_l, Q.ix_t, Q.ix_d, Q.eq_xy, Q.ne_xy, Q.ord_ii, Q.in_w, Q.notin_w, Q.in_l, Q.in_t, Q.is_w, Q.isnot_w, Q.isq_n, Q.isNone_n, Q.isNone_i, Q.isNone_t, Q.isNone_l, Q.len_l, Q.len_t, Q.list_l, Q.list_t, Q.tup_l, Q.tup_t, Q.abs_i, Q.int_i, Q.int_b, Q.min_ii, Q.max_ii, Q.min_l, Q.max_l, Q.sum_l, Q.sort_l, Q.wo_asInts, Q.wo_asInts0, Q.wo_asIntsC, Q.key_i, Q.key_s, Q.wp_eLenSet, Q.lenSet_t, Q.wp_eChain, Q.store_l, Q.store_d, Q.wo_stI, Q.wp_sSub, Q.wp_sAugS, Q.aug_v, Q.wp_sAug, Q.ip_ii, Q.hI_ii, Q.wp_eLenScr, Q.wp_eIxScr, Q.scr_is, Q.cap_iff, Q.rng_iff, Q.lrg_iff, Q.div_iff, Q.mul_iff, Q.pow_iff, Q.size_lt, Q.free_pin, Q.free_lk, Q.lent_lk, Q.ff, Q.ft, Q.tt, Q.ffp, Q.dt, Q.df, Q.ndt, Q.ndf, Q.wo_ret, Q.fin_hot, Q.fin_val, Q.fin_nil, Q.ownOk_nil, Q.ownOk_cons, Q.hot_v, Q.hot_u, Q.wipe_0, Q.wipe_1, Q.back_0, Q.back_1, Q.slotPos_nil, List.set_cons_zero, List.set_cons_succ, List.getElem?_cons_zero, List.getElem?_cons_succ, List.length_cons, List.length_nil, Nat.zero_add, Nat.reduceAdd, Nat.reduceLeDiff, true_and, and_true, and_self, Bool.not_true, Bool.not_false, List.cons_append, List.nil_append, Q.wput_is, Q.true_imp, imp_self, implies_true, true_or, or_true, st, a1, shaped_int, shaped_list, any_eq, eqv_i, lm]
      simp only at ev ml
      refine ⟨fun hn => ⟨fun hlen => ?_, fun hlen => ?_⟩, fun hn => ?_⟩
      · have hlen : M.length = r := by omega
        rw [if_neg hn, if_pos hlen] at ev
        subst ev
        have ne : M ≠ [] := by intro z; rw [z] at hlen; simp at hlen; omega
        obtain ⟨mx, v1, v2, v3, v4, v5⟩ := vic_ok (ts := ts) (t := i) ne
        refine wp_eLc (fun _ => true) (onI fun c => .int (farV ts i c)) rfl ?_
        simp only [Q.wp_ok, Q.wp_no, Q.wo_some, Q.wo_none, Q.wo_bind, Q.wo_map, Q.wo_at0, Q.wo_atS, Q.wset_0, Q.wset_S, Q.bnd_val, Q.bnd_hot, Q.wp_eVar, Q.asArg_val, Q.asArg_hot, Q.wp_eArg, Q.wp_eC, Q.wp_cold, Q.wp_toCold_c, Q.wp_toCold_h, Q.chill_val, Q.chill_hot, Q.wp_toCold_s, Q.wp_own, Q.wp_toOwn_c, Q.wp_toOwn_h, Q.wp_toOwn_s, Q.giveBack_val, Q.giveBack_hot, Q.wp_toRet_c, Q.wp_toRet_h, Q.wp_toRet_s, Q.wp_aNil, Q.wp_aCons, Q.wp_bin, Q.wp_una, Q.wp_dat1, Q.wp_dat2, Q.wp_whole2, Q.view_c, Q.view_h, Q.view_s, Q.sview_v, Q.sview_h, Q.data_l, Q.data_d, Q.viewC_c, Q.viewC_h, Q.viewC_s, Q.sviewC_v, Q.sviewC_h, Q.dataC_l, Q.dataC_d, Q.plain_n, Q.plain_b, Q.plain_i, Q.plain_s, Q.plain_l, Q.plain_t, Q.wp_asB, Q.boolR_c, Q.boolS_v, Q.boolR_s, Q.wp_bAnd, Q.wp_bOr, Q.wp_bNot, Q.wp_eAnd, Q.wp_eOr, Q.wp_eNot, Q.wp_eIf, Q.wp_tTrue, Q.wp_sNx, Q.wp_never, Q.seqK_nx, Q.seqK_rt, Q.seqK_bk, Q.seqK_ct, Q.wp_sSeq, Q.wp_sExpr, Q.wp_sRet, Q.wp_sIf, Q.wp_putS, Q.wp_sSet, Q.set_val, Q.set_un, Q.set_hot, Q.sl_cold, Q.sl_hot, Q.wp_sTg, Q.ex_cold, Q.asg_nm, Q.asg_tp, Q.asgs_nil, Q.asgs_cons, Q.wputs_nil, Q.wputs_cons, Q.wp_sPar, Q.colds_nil, Q.colds_c, Q.wp_eTup, Q.wp_eLst, Q.wp_eDic0, Q.viewsC_nil, Q.viewsC_c, Q.wp_eB, Q.toArgs_nil, Q.toArgs_c, Q.lend_hot, Q.toArgs_s, Q.slotPos_c, Q.backA_nil, Q.backA_c, Q.takeBack_hot, Q.backA_s, Q.resR_v, Q.resR_h, Q.wp_callE, Q.resS_c, Q.resS_h, Q.resS_n, Q.wp_eMt, Q.wp_eMt0, Q.chg_lst, Q.wp_mAppend, Q.wp_mPopAt, Q.wp_mPop, Q.wp_mDat, Q.tyD_l, Q.tyD_t, Q.tyD_d, Q.isTy_o, Q.wp_oNone, Q.intD_i, Q.wp_oSome, Q.wp_eCut, Q.cut_l, Q.cut_t, Q.wp_eIsi, Q.wp_eLRg1, Q.wp_iRng1, Q.wp_iRng2, Q.seq_l, Q.seq_t, Q.wp_iCold, Q.wp_iEnumC, Q.walked_v, Q.walked_h, Q.wp_iSlot, Q.unlk_none, Q.wp_sFor, Q.turnK_nx, Q.turnK_ct, Q.turnK_bk, Q.turnK_rt, Q.add_ii, Q.add_ll, Q.add_tt, Q.sub_ii, Q.mul_ii, Q.mul_li, Q.mul_ti, Q.div_ii, Q.mod_ii, Q.pow_ii, Q.neg_i, Q.rev_l, Q.ix_l, Q.ix_t, Q.ix_d, Q.eq_xy, Q.ne_xy, Q.ord_ii, Q.in_w, Q.notin_w, Q.in_l, Q.in_t, Q.is_w, Q.isnot_w, Q.isq_n, Q.isNone_n, Q.isNone_i, Q.isNone_t, Q.isNone_l, Q.len_l, Q.len_t, Q.list_l, Q.list_t, Q.tup_l, Q.tup_t, Q.abs_i, Q.int_i, Q.int_b, Q.min_ii, Q.max_ii, Q.min_l, Q.max_l, Q.sum_l, Q.sort_l, Q.wo_asInts, Q.wo_asInts0, Q.wo_asIntsC, Q.key_i, Q.key_s, Q.wp_eLenSet, Q.lenSet_t, Q.wp_eChain, Q.store_l, Q.store_d, Q.wo_stI, Q.wp_sSub, Q.wp_sAugS, Q.aug_v, Q.wp_sAug, Q.ip_ii, Q.hI_ii, Q.wp_eLenScr, Q.wp_eIxScr, Q.scr_is, Q.cap_iff, Q.rng_iff, Q.lrg_iff, Q.div_iff, Q.mul_iff, Q.pow_iff, Q.size_lt, Q.free_pin, Q.free_lk, Q.lent_lk, Q.ff, Q.ft, Q.tt, Q.ffp, Q.dt, Q.df, Q.ndt, Q.ndf, Q.wo_ret, Q.fin_hot, Q.fin_val, Q.fin_nil, Q.ownOk_nil, Q.ownOk_cons, Q.hot_v, Q.hot_u, Q.wipe_0, Q.wipe_1, Q.back_0, Q.back_1, Q.slotPos_nil, List.set_cons_zero, List.set_cons_succ, List.getElem?_cons_zero, List.getElem?_cons_succ, List.length_cons, List.length_nil, Nat.zero_add, Nat.reduceAdd, Nat.reduceLeDiff, true_and, and_true, and_self, Bool.not_true, Bool.not_false, List.cons_append, List.nil_append, Q.wput_is, Q.true_imp, imp_self, implies_true, true_or, or_true, lm]
        refine ⟨by omega, fun d hd => ?_, ?_⟩
        · obtain ⟨c, hc, rfl⟩ := List.mem_map.mp hd
          simp only [Q.wp_ok, Q.wp_no, Q.wo_some, Q.wo_none, Q.wo_bind, Q.wo_map, Q.wo_at0, Q.wo_atS, Q.wset_0, Q.wset_S, Q.bnd_val, Q.bnd_hot, Q.wp_eVar, Q.asArg_val, Q.asArg_hot, Q.wp_eArg, Q.wp_eC, Q.wp_cold, Q.wp_toCold_c, Q.wp_toCold_h, Q.chill_val, Q.chill_hot, Q.wp_toCold_s, Q.wp_own, Q.wp_toOwn_c, Q.wp_toOwn_h, Q.wp_toOwn_s, Q.giveBack_val, Q.giveBack_hot, Q.wp_toRet_c, Q.wp_toRet_h, Q.wp_toRet_s, Q.wp_aNil, Q.wp_aCons, Q.wp_bin, Q.wp_una, Q.wp_dat1, Q.wp_dat2, Q.wp_whole2, Q.view_c, Q.view_h, Q.view_s, Q.sview_v, Q.sview_h, Q.data_l, Q.data_d, Q.viewC_c, Q.viewC_h, Q.viewC_s, Q.sviewC_v, Q.sviewC_h, Q.dataC_l, Q.dataC_d, Q.plain_n, Q.plain_b, Q.plain_i, Q.plain_s, Q.plain_l, Q.plain_t, Q.wp_asB, Q.boolR_c, Q.boolS_v, Q.boolR_s, Q.wp_bAnd, Q.wp_bOr, Q.wp_bNot, Q.wp_eAnd, Q.wp_eOr, Q.wp_eNot, Q.wp_eIf, Q.wp_tTrue, Q.wp_sNx, Q.wp_never, Q.seqK_nx, Q.seqK_rt, Q.seqK_bk, Q.seqK_ct, Q.wp_sSeq, Q.wp_sExpr, Q.wp_sRet, Q.wp_sIf, Q.wp_putS, Q.wp_sSet, Q.set_val, Q.set_un, Q.set_hot, Q.sl_cold, Q.sl_hot, Q.wp_sTg, Q.ex_cold, Q.asg_nm, Q.asg_tp, Q.asgs_nil, Q.asgs_cons, Q.wputs_nil, Q.wputs_cons, Q.wp_sPar, Q.colds_nil, Q.colds_c, Q.wp_eTup, Q.wp_eLst, Q.wp_eDic0, Q.viewsC_nil, Q.viewsC_c, Q.wp_eB, Q.toArgs_nil, Q.toArgs_c, Q.lend_hot, Q.toArgs_s, Q.slotPos_c, Q.backA_nil, Q.backA_c, Q.takeBack_hot, Q.backA_s, Q.resR_v, Q.resR_h, Q.wp_callE, Q.resS_c, Q.resS_h, Q.resS_n, Q.wp_eMt, Q.wp_eMt0, Q.chg_lst, Q.wp_mAppend, Q.wp_mPopAt, Q.wp_mPop, Q.wp_mDat, Q.tyD_l, Q.tyD_t, Q.tyD_d, Q.isTy_o, Q.wp_oNone, Q.intD_i, Q.wp_oSome, Q.wp_eCut, Q.cut_l, Q.cut_t, Q.wp_eIsi, Q.wp_eLRg1, Q.wp_iRng1, Q.wp_iRng2, Q.seq_l, Q.seq_t, Q.wp_iCold, Q.wp_iEnumC, Q.walked_v, Q.walked_h, Q.wp_iSlot, Q.unlk_none, Q.wp_sFor, Q.turnK_nx, Q.turnK_ct, Q.turnK_bk, Q.turnK_rt, Q.add_ii, Q.add_ll, Q.add_tt, Q.sub_ii, Q.mul_ii, Q.mul_li, Q.mul_ti, Q.div_ii, Q.mod_ii, Q.pow_ii, Q.neg_i, Q.rev_l, Q.ix_l, Q.ix_t, Q.ix_d, Q.eq_xy, Q.ne_xy, Q.ord_ii, Q.in_w, Q.notin_w, Q.in_l, Q.in_t, Q.is_w, Q.isnot_w, Q.isq_n, Q.isNone_n, Q.isNone_i, Q.isNone_t, Q.isNone_l, Q.len_l, Q.len_t, Q.list_l, Q.list_t, Q.tup_l, Q.tup_t, Q.abs_i, Q.int_i, Q.int_b, Q.min_ii, Q.max_ii, Q.min_l, Q.max_l, Q.sum_l, Q.sort_l, Q.wo_asInts, Q.wo_asInts0, Q.wo_asIntsC, Q.key_i, Q.key_s, Q.wp_eLenSet, Q.lenSet_t, Q.wp_eChain, Q.store_l, Q.store_d, Q.wo_stI, Q.wp_sSub, Q.wp_sAugS, Q.aug_v, Q.wp_sAug, Q.ip_ii, Q.hI_ii, Q.wp_eLenScr, Q.wp_eIxScr, Q.scr_is, Q.cap_iff, Q.rng_iff, Q.lrg_iff, Q.div_iff, Q.mul_iff, Q.pow_iff, Q.size_lt, Q.free_pin, Q.free_lk, Q.lent_lk, Q.ff, Q.ft, Q.tt, Q.ffp, Q.dt, Q.df, Q.ndt, Q.ndf, Q.wo_ret, Q.fin_hot, Q.fin_val, Q.fin_nil, Q.ownOk_nil, Q.ownOk_cons, Q.hot_v, Q.hot_u, Q.wipe_0, Q.wipe_1, Q.back_0, Q.back_1, Q.slotPos_nil, List.set_cons_zero, List.set_cons_succ, List.getElem?_cons_zero, List.getElem?_cons_succ, List.length_cons, List.length_nil, Nat.zero_add, Nat.reduceAdd, Nat.reduceLeDiff, true_and, and_true, and_self, Bool.not_true, Bool.not_false, List.cons_append, List.nil_append, Q.wput_is, Q.true_imp, imp_self, implies_true, true_or, or_true, law_far hl hi c, onI]
        · rw [filter_all, map_onI, show (M.map fun c => PySem.PyData.int (farV ts i c)) = (M.map (farV ts i)).map .int from (map_ints2 M (farV ts i)).symm]
          simp only [Q.wp_ok, Q.wp_no, Q.wo_some, Q.wo_none, Q.wo_bind, Q.wo_map, Q.wo_at0, Q.wo_atS, Q.wset_0, Q.wset_S, Q.bnd_val, Q.bnd_hot, Q.wp_eVar, Q.asArg_val, Q.asArg_hot, Q.wp_eArg, Q.wp_eC, Q.wp_cold, Q.wp_toCold_c, Q.wp_toCold_h, Q.chill_val, Q.chill_hot, Q.wp_toCold_s, Q.wp_own, Q.wp_toOwn_c, Q.wp_toOwn_h, Q.wp_toOwn_s, Q.giveBack_val, Q.giveBack_hot, Q.wp_toRet_c, Q.wp_toRet_h, Q.wp_toRet_s, Q.wp_aNil, Q.wp_aCons, Q.wp_bin, Q.wp_una, Q.wp_dat1, Q.wp_dat2, Q.wp_whole2, Q.view_c, Q.view_h, Q.view_s, Q.sview_v, Q.sview_h, Q.data_l, Q.data_d, Q.viewC_c, Q.viewC_h, Q.viewC_s, Q.sviewC_v, Q.sviewC_h, Q.dataC_l, Q.dataC_d, Q.plain_n, Q.plain_b, Q.plain_i, Q.plain_s, Q.plain_l, Q.plain_t, Q.wp_asB, Q.boolR_c, Q.boolS_v, Q.boolR_s, Q.wp_bAnd, Q.wp_bOr, Q.wp_bNot, Q.wp_eAnd, Q.wp_eOr, Q.wp_eNot, Q.wp_eIf, Q.wp_tTrue, Q.wp_sNx, Q.wp_never, Q.seqK_nx, Q.seqK_rt, Q.seqK_bk, Q.seqK_ct, Q.wp_sSeq, Q.wp_sExpr, Q.wp_sRet, Q.wp_sIf, Q.wp_putS, Q.wp_sSet, Q.set_val, Q.set_un, Q.set_hot, Q.sl_cold, Q.sl_hot, Q.wp_sTg, Q.ex_cold, Q.asg_nm, Q.asg_tp, Q.asgs_nil, Q.asgs_cons, Q.wputs_nil, Q.wputs_cons, Q.wp_sPar, Q.colds_nil, Q.colds_c, Q.wp_eTup, Q.wp_eLst, Q.wp_eDic0, Q.viewsC_nil, Q.viewsC_c, Q.wp_eB, Q.toArgs_nil, Q.toArgs_c, Q.lend_hot, Q.toArgs_s, Q.slotPos_c, Q.backA_nil, Q.backA_c, Q.takeBack_hot, Q.backA_s, Q.resR_v, Q.resR_h, Q.wp_callE, Q.resS_c, Q.resS_h, Q.resS_n, Q.wp_eMt, Q.wp_eMt0, Q.chg_lst, Q.wp_mAppend, Q.wp_mPopAt, Q.wp_mPop, Q.wp_mDat, Q.tyD_l, Q.tyD_t, Q.tyD_d, Q.isTy_o, Q.wp_oNone, Q.intD_i, Q.wp_oSome, Q.wp_eCut, Q.cut_l, Q.cut_t, Q.wp_eIsi, Q.wp_eLRg1, Q.wp_iRng1, Q.wp_iRng2, Q.seq_l, Q.seq_t, Q.wp_iCold, Q.wp_iEnumC, Q.walked_v, Q.walked_h, Q.wp_iSlot, Q.unlk_none, Q.wp_sFor, Q.turnK_nx, Q.turnK_ct, Q.turnK_bk, Q.turnK_rt, Q.add_ii, Q.add_ll, Q.add_tt, Q.sub_ii, Q.mul_ii, Q.mul_li, Q.mul_ti, Q.div_ii, Q.mod_ii, Q.pow_ii, Q.neg_i, Q.rev_l, Q.ix_l, Q.ix_t, Q.ix_d, Q.eq_xy, Q.ne_xy, Q.ord_ii, Q.in_w, Q.notin_w, Q.in_l, Q.in_t, Q.is_w, Q.isnot_w, Q.isq_n, Q.isNone_n, Q.isNone_i, Q.isNone_t, Q.isNone_l, Q.len_l, Q.len_t, Q.list_l, Q.list_t, Q.tup_l, Q.tup_t, Q.abs_i, Q.int_i, Q.int_b, Q.min_ii, Q.max_ii, Q.min_l, Q.max_l, Q.sum_l, Q.sort_l, Q.wo_asInts, Q.wo_asInts0, Q.wo_asIntsC, Q.key_i, Q.key_s, Q.wp_eLenSet, Q.lenSet_t, Q.wp_eChain, Q.store_l, Q.store_d, Q.wo_stI, Q.wp_sSub, Q.wp_sAugS, Q.aug_v, Q.wp_sAug, Q.ip_ii, Q.hI_ii, Q.wp_eLenScr, Q.wp_eIxScr, Q.scr_is, Q.cap_iff, Q.rng_iff, Q.lrg_iff, Q.div_iff, Q.mul_iff, Q.pow_iff, Q.size_lt, Q.free_pin, Q.free_lk, Q.lent_lk, Q.ff, Q.ft, Q.tt, Q.ffp, Q.dt, Q.df, Q.ndt, Q.ndf, Q.wo_ret, Q.fin_hot, Q.fin_val, Q.fin_nil, Q.ownOk_nil, Q.ownOk_cons, Q.hot_v, Q.hot_u, Q.wipe_0, Q.wipe_1, Q.back_0, Q.back_1, Q.slotPos_nil, List.set_cons_zero, List.set_cons_succ, List.getElem?_cons_zero, List.getElem?_cons_succ, List.length_cons, List.length_nil, Nat.zero_add, Nat.reduceAdd, Nat.reduceLeDiff, true_and, and_true, and_self, Bool.not_true, Bool.not_false, List.cons_append, List.nil_append, Q.wput_is, Q.true_imp, imp_self, implies_true, true_or, or_true, unlk, n5, shaped_int, shaped_list, v1]
          have fi := findIdx_ints (M.map (farV ts i)) mx (mostI_ok v1).1
          have vd : vic ts i M = (M.map (farV ts i)).findIdx fun z => decide (z = mx) := by unfold vic; rw [v1]; rfl
          rw [← vd] at fi
          refine wo_of (a := .int (vic ts i M : Nat)) (by simp only [gIdx, fi]; rfl) ?_
          have pp := popAt (ls := M) (d := (vic ts i M : Nat)) (by omega) (by omega) (by omega)
          rw [Int.toNat_natCast] at pp
          simp only [lm]
          refine wo_of pp ?_
          simp only [Q.wp_ok, Q.wp_no, Q.wo_some, Q.wo_none, Q.wo_bind, Q.wo_map, Q.wo_at0, Q.wo_atS, Q.wset_0, Q.wset_S, Q.bnd_val, Q.bnd_hot, Q.wp_eVar, Q.asArg_val, Q.asArg_hot, Q.wp_eArg, Q.wp_eC, Q.wp_cold, Q.wp_toCold_c, Q.wp_toCold_h, Q.chill_val, Q.chill_hot, Q.wp_toCold_s, Q.wp_own, Q.wp_toOwn_c, Q.wp_toOwn_h, Q.wp_toOwn_s, Q.giveBack_val, Q.giveBack_hot, Q.wp_toRet_c, Q.wp_toRet_h, Q.wp_toRet_s, Q.wp_aNil, Q.wp_aCons, Q.wp_bin, Q.wp_una, Q.wp_dat1, Q.wp_dat2, Q.wp_whole2, Q.view_c, Q.view_h, Q.view_s, Q.sview_v, Q.sview_h, Q.data_l, Q.data_d, Q.viewC_c, Q.viewC_h, Q.viewC_s, Q.sviewC_v, Q.sviewC_h, Q.dataC_l, Q.dataC_d, Q.plain_n, Q.plain_b, Q.plain_i, Q.plain_s, Q.plain_l, Q.plain_t, Q.wp_asB, Q.boolR_c, Q.boolS_v, Q.boolR_s, Q.wp_bAnd, Q.wp_bOr, Q.wp_bNot, Q.wp_eAnd, Q.wp_eOr, Q.wp_eNot, Q.wp_eIf, Q.wp_tTrue, Q.wp_sNx, Q.wp_never, Q.seqK_nx, Q.seqK_rt, Q.seqK_bk, Q.seqK_ct, Q.wp_sSeq, Q.wp_sExpr, Q.wp_sRet, Q.wp_sIf, Q.wp_putS, Q.wp_sSet, Q.set_val, Q.set_un, Q.set_hot, Q.sl_cold, Q.sl_hot, Q.wp_sTg, Q.ex_cold, Q.asg_nm, Q.asg_tp, Q.asgs_nil, Q.asgs_cons, Q.wputs_nil, Q.wputs_cons, Q.wp_sPar, Q.colds_nil, Q.colds_c, Q.wp_eTup, Q.wp_eLst, Q.wp_eDic0, Q.viewsC_nil, Q.viewsC_c, Q.wp_eB, Q.toArgs_nil, Q.toArgs_c, Q.lend_hot, Q.toArgs_s, Q.slotPos_c, Q.backA_nil, Q.backA_c, Q.takeBack_hot, Q.backA_s, Q.resR_v, Q.resR_h, Q.wp_callE, Q.resS_c, Q.resS_h, Q.resS_n, Q.wp_eMt, Q.wp_eMt0, Q.chg_lst, Q.wp_mAppend, Q.wp_mPopAt, Q.wp_mPop, Q.wp_mDat, Q.tyD_l, Q.tyD_t, Q.tyD_d, Q.isTy_o, Q.wp_oNone, Q.intD_i, Q.wp_oSome, Q.wp_eCut, Q.cut_l, Q.cut_t, Q.wp_eIsi, Q.wp_eLRg1, Q.wp_iRng1, Q.wp_iRng2, Q.seq_l, Q.seq_t, Q.wp_iCold, Q.wp_iEnumC, Q.walked_v, Q.walked_h, Q.wp_iSlot, Q.unlk_none, Q.wp_sFor, Q.turnK_nx, Q.turnK_ct, Q.turnK_bk, Q.turnK_rt, Q.add_ii, Q.add_ll, Q.add_tt, Q.sub_ii, Q.mul_ii, Q.mul_li, Q.mul_ti, Q.div_ii, Q.mod_ii, Q.pow_ii, Q.neg_i, Q.rev_l, Q.ix_l, Q.ix_t, Q.ix_d, Q.eq_xy, Q.ne_xy, Q.ord_ii, Q.in_w, Q.notin_w, Q.in_l, Q.in_t, Q.is_w, Q.isnot_w, Q.isq_n, Q.isNone_n, Q.isNone_i, Q.isNone_t, Q.isNone_l, Q.len_l, Q.len_t, Q.list_l, Q.list_t, Q.tup_l, Q.tup_t, Q.abs_i, Q.int_i, Q.int_b, Q.min_ii, Q.max_ii, Q.min_l, Q.max_l, Q.sum_l, Q.sort_l, Q.wo_asInts, Q.wo_asInts0, Q.wo_asIntsC, Q.key_i, Q.key_s, Q.wp_eLenSet, Q.lenSet_t, Q.wp_eChain, Q.store_l, Q.store_d, Q.wo_stI, Q.wp_sSub, Q.wp_sAugS, Q.aug_v, Q.wp_sAug, Q.ip_ii, Q.hI_ii, Q.wp_eLenScr, Q.wp_eIxScr, Q.scr_is, Q.cap_iff, Q.rng_iff, Q.lrg_iff, Q.div_iff, Q.mul_iff, Q.pow_iff, Q.size_lt, Q.free_pin, Q.free_lk, Q.lent_lk, Q.ff, Q.ft, Q.tt, Q.ffp, Q.dt, Q.df, Q.ndt, Q.ndf, Q.wo_ret, Q.fin_hot, Q.fin_val, Q.fin_nil, Q.ownOk_nil, Q.ownOk_cons, Q.hot_v, Q.hot_u, Q.wipe_0, Q.wipe_1, Q.back_0, Q.back_1, Q.slotPos_nil, List.set_cons_zero, List.set_cons_succ, List.getElem?_cons_zero, List.getElem?_cons_succ, List.length_cons, List.length_nil, Nat.zero_add, Nat.reduceAdd, Nat.reduceLeDiff, true_and, and_true, and_self, Bool.not_true, Bool.not_false, List.cons_append, List.nil_append, Q.wput_is, Q.true_imp, imp_self, implies_true, true_or, or_true, a1, List.length_map, List.map_append, List.map_cons, List.map_nil]
          refine ⟨?_, _, .hot Md.free (.lst _), rfl, rfl, rfl⟩
          have := List.length_eraseIdx_le M (vic ts i M)
          omega
      · rw [if_neg hn, if_neg (by omega)] at ev
        subst ev
        simp only [List.map_append]
        exact ⟨by omega, _, _, rfl, n5, rfl⟩
      · rw [if_pos hn] at ev
        subst ev
        exact ⟨_, _, rfl, n5, rfl⟩
    · cases hd
  · obtain ⟨s4, s5, n4, n5, rfl⟩ := he
    rw [Nat.zero_add, rngD_len, Int.toNat_natCast]
    simp only [Q.wp_ok, Q.wp_no, Q.wo_some, Q.wo_none, Q.wo_bind, Q.wo_map, Q.wo_at0, Q.wo_atS, Q.wset_0, Q.wset_S, Q.bnd_val, Q.bnd_hot, Q.wp_eVar, Q.asArg_val, Q.asArg_hot, Q.wp_eArg, Q.wp_eC, Q.wp_cold, Q.wp_toCold_c, Q.wp_toCold_h, Q.chill_val, Q.chill_hot, Q.wp_toCold_s, Q.wp_own, Q.wp_toOwn_c, Q.wp_toOwn_h, Q.wp_toOwn_s, Q.giveBack_val, Q.giveBack_hot, Q.wp_toRet_c, Q.wp_toRet_h, Q.wp_toRet_s, Q.wp_aNil, Q.wp_aCons, Q.wp_bin, Q.wp_una, Q.wp_dat1, Q.wp_dat2, Q.wp_whole2, Q.view_c, Q.view_h, Q.view_s, Q.sview_v, Q.sview_h, Q.data_l, Q.data_d, Q.viewC_c, Q.viewC_h, Q.viewC_s, Q.sviewC_v, Q.sviewC_h, Q.dataC_l, Q.dataC_d, Q.plain_n, Q.plain_b, Q.plain_i, Q.plain_s, Q.plain_l, Q.plain_t, Q.wp_asB, Q.boolR_c, Q.boolS_v, Q.boolR_s, Q.wp_bAnd, Q.wp_bOr, Q.wp_bNot, Q.wp_eAnd, Q.wp_eOr, Q.wp_eNot, Q.wp_eIf, Q.wp_tTrue, Q.wp_sNx, Q.wp_never, Q.seqK_nx, Q.seqK_rt, Q.seqK_bk, Q.seqK_ct, Q.wp_sSeq, Q.wp_sExpr, Q.wp_sRet, Q.wp_sIf, Q.wp_putS, Q.wp_sSet, Q.set_val, Q.set_un, Q.set_hot, Q.sl_cold, Q.sl_hot, Q.wp_sTg, Q.ex_cold, Q.asg_nm, Q.asg_tp, Q.asgs_nil, Q.asgs_cons, Q.wputs_nil, Q.wputs_cons, Q.wp_sPar, Q.colds_nil, Q.colds_c, Q.wp_eTup, Q.wp_eLst, Q.wp_eDic0, Q.viewsC_nil, Q.viewsC_c, Q.wp_eB, Q.toArgs_nil, Q.toArgs_c, Q.lend_hot, Q.toArgs_s, Q.slotPos_c, Q.backA_nil, Q.backA_c, Q.takeBack_hot, Q.backA_s, Q.resR_v, Q.resR_h, Q.wp_callE, Q.resS_c, Q.resS_h, Q.resS_n, Q.wp_eMt, Q.wp_eMt0, Q.chg_lst, Q.wp_mAppend, Q.wp_mPopAt, Q.wp_mPop, Q.wp_mDat, Q.tyD_l, Q.tyD_t, Q.tyD_d, Q.isTy_o, Q.wp_oNone, Q.intD_i, Q.wp_oSome, Q.wp_eCut, Q.cut_l, Q.cut_t, Q.wp_eIsi, Q.wp_eLRg1, Q.wp_iRng1, Q.wp_iRng2, Q.seq_l, Q.seq_t, Q.wp_iCold, Q.wp_iEnumC, Q.walked_v, Q.walked_h, Q.wp_iSlot, Q.unlk_none, Q.wp_sFor, Q.turnK_nx, Q.turnK_ct, Q.turnK_bk, Q.turnK_rt, Q.add_ii, Q.add_ll, Q.add_tt, Q.sub_ii, Q.mul_ii, Q.mul_li, Q.mul_ti, Q.div_ii, Q.mod_ii, Q.pow_ii, Q.neg_i, Q.rev_l, Q.ix_l, Q.ix_t, Q.ix_d, Q.eq_xy, Q.ne_xy, Q.ord_ii, Q.in_w, Q.notin_w, Q.in_l, Q.in_t, Q.is_w, Q.isnot_w, Q.isq_n, Q.isNone_n, Q.isNone_i, Q.isNone_t, Q.isNone_l, Q.len_l, Q.len_t, Q.list_l, Q.list_t, Q.tup_l, Q.tup_t, Q.abs_i, Q.int_i, Q.int_b, Q.min_ii, Q.max_ii, Q.min_l, Q.max_l, Q.sum_l, Q.sort_l, Q.wo_asInts, Q.wo_asInts0, Q.wo_asIntsC, Q.key_i, Q.key_s, Q.wp_eLenSet, Q.lenSet_t, Q.wp_eChain, Q.store_l, Q.store_d, Q.wo_stI, Q.wp_sSub, Q.wp_sAugS, Q.aug_v, Q.wp_sAug, Q.ip_ii, Q.hI_ii, Q.wp_eLenScr, Q.wp_eIxScr, Q.scr_is, Q.cap_iff, Q.rng_iff, Q.lrg_iff, Q.div_iff, Q.mul_iff, Q.pow_iff, Q.size_lt, Q.free_pin, Q.free_lk, Q.lent_lk, Q.ff, Q.ft, Q.tt, Q.ffp, Q.dt, Q.df, Q.ndt, Q.ndf, Q.wo_ret, Q.fin_hot, Q.fin_val, Q.fin_nil, Q.ownOk_nil, Q.ownOk_cons, Q.hot_v, Q.hot_u, Q.wipe_0, Q.wipe_1, Q.back_0, Q.back_1, Q.slotPos_nil, List.set_cons_zero, List.set_cons_succ, List.getElem?_cons_zero, List.getElem?_cons_succ, List.length_cons, List.length_nil, Nat.zero_add, Nat.reduceAdd, Nat.reduceLeDiff, true_and, and_true, and_self, Bool.not_true, Bool.not_false, List.cons_append, List.nil_append, Q.wput_is, Q.true_imp, imp_self, implies_true, true_or, or_true]
/-! its memories are a run -/
theorem farL_mem {ts : List Int} {t : Nat} {b : Int} {x : Int} (h : x ∈ farL ts t b) : x = (ts.length : Int) ∨ ∃ m : Nat, x = (m : Int) ∧ t < m ∧ ts[m]? = some b := by
  unfold farL at h
  rcases List.mem_append.mp h with q | qe
  · obtain ⟨q1, q2⟩ := List.mem_filter.mp q
    unfold behind at q1
    obtain ⟨k, hk, rfl⟩ := List.mem_map.mp q1
    have hk := List.mem_range.mp hk
    have e1 : (t : Int) + 1 + (k : Nat) = ((t + 1 + k : Nat) : Int) := by omega
    refine .inr ⟨t + 1 + k, e1, by omega, ?_⟩
    rw [e1, Int.toNat_natCast] at q2
    have hj : t + 1 + k < ts.length := by omega
    rw [List.getD_eq_getElem?_getD, List.getElem?_eq_getElem hj] at q2
    rw [List.getElem?_eq_getElem hj]
    simpa using q2
  · exact .inl (List.mem_singleton.mp qe)
theorem mem_farL {ts : List Int} {t m : Nat} {b : Int} (h1 : t < m) (h2 : ts[m]? = some b) : (m : Int) ∈ farL ts t b := by
  have hm := (List.getElem?_eq_some_iff.mp h2).1
  unfold farL
  refine List.mem_append_left _ (List.mem_filter.mpr ⟨?_, ?_⟩)
  · unfold behind
    exact List.mem_map.mpr ⟨m - (t + 1), List.mem_range.mpr (by omega), by omega⟩
  · rw [Int.toNat_natCast, List.getD_eq_getElem?_getD, h2]
    simp
theorem far_nx {ts : List Int} {t m : Nat} {b : Int} (N : Nx ts t b m) : farV ts t b = m := by
  obtain ⟨h1, h2⟩ := leastI_is (farV_is ts t b)
  have h3 := h2 _ (mem_farL N.lt N.at_)
  have hm := (List.getElem?_eq_some_iff.mp N.at_).1
  rcases farL_mem h1 with q | ⟨m', q, q2, q3⟩
  · omega
  · by_cases e : m' < m
    · exact absurd q3 (N.no m' q2 e)
    · omega
theorem nx_far {ts : List Int} {t : Nat} {b : Int} (h : farV ts t b < ts.length) : ∃ m : Nat, (m : Int) = farV ts t b ∧ Nx ts t b m := by
  obtain ⟨h1, h2⟩ := leastI_is (farV_is ts t b)
  rcases farL_mem h1 with q | ⟨m', q, q2, q3⟩
  · omega
  · refine ⟨m', q.symm, q2, q3, fun i i1 i2 e => ?_⟩
    have := h2 _ (mem_farL i1 e)
    omega
theorem erase_at : ∀ (l : List Int) (i : Nat) (v : Int), l[i]? = some v → (∀ j, j < i → l[j]? ≠ some v) → l.eraseIdx i = l.erase v
  | [], i, v, h, _ => by simp at h
  | x :: l, 0, v, h, _ => by simp at h; subst h; simp
  | x :: l, i + 1, v, h, no => by
    have nx : x ≠ v := fun e => no 0 (by omega) (by simp [e])
    rw [List.eraseIdx_cons_succ, List.erase_cons_tail (by simpa using nx), erase_at l i v (by simpa using h) fun j hj => by
      have := no (j + 1) (by omega)
      simpa using this]
theorem bel_run {ts : List Int} {r : Nat} (hr : 1 ≤ r) : Run ts r fun t => (bel ts r t).1 where
  zero := rfl
  hit t b hb hm := by
    show (bel ts r (t + 1)).1 = _
    have e : ts.getD t 0 = b := by rw [List.getD_eq_getElem?_getD, hb]; rfl
    rw [bel_succ, e, if_pos hm]
  add t b hb hm hl := by
    show (bel ts r (t + 1)).1 = _
    have e : ts.getD t 0 = b := by rw [List.getD_eq_getElem?_getD, hb]; rfl
    rw [bel_succ, e, if_neg hm, if_neg hl]
  put t b hb hm hl := by
    have e : ts.getD t 0 = b := by rw [List.getD_eq_getElem?_getD, hb]; rfl
    have es : (bel ts r (t + 1)).1 = (bel ts r t).1.eraseIdx (vic ts t (bel ts r t).1) ++ [b] := by rw [bel_succ, e, if_neg hm, if_pos hl]
    show ∃ v, v ∈ (bel ts r t).1 ∧ _ ∧ (bel ts r (t + 1)).1 = _
    rw [es]
    generalize (bel ts r t).1 = M at hm hl
    have ne : M ≠ [] := by intro z; rw [z] at hl; simp at hl; omega
    obtain ⟨mx, v1, v2, v3, v4, v5⟩ := vic_ok (ts := ts) (t := t) ne
    have at_ : M[vic ts t M]? = some M[vic ts t M] := List.getElem?_eq_getElem v2
    have fv := v3 _ at_
    refine ⟨M[vic ts t M], List.getElem_mem v2, fun mv N c hc => ?_, ?_⟩
    · have q := far_nx N
      have hm' := (List.getElem?_eq_some_iff.mp N.at_).1
      have := v4 c hc
      obtain ⟨m', q1, q2⟩ := nx_far (ts := ts) (t := t) (b := c) (by omega)
      exact ⟨m', by omega, q2⟩
    · rw [erase_at M _ _ at_ fun j hj z => v5 j hj _ z fv]
/-- the moves are the moments without a hit -/
theorem bel_count (ts : List Int) (r : Nat) : ∀ t, t ≤ ts.length → (bel ts r t).2 = ((List.range t).map (hitB ts fun t => (bel ts r t).1)).count false
  | 0, _ => rfl
  | t + 1, h => by
    have ih := bel_count ts r t (by omega)
    rw [List.range_succ, List.map_append, List.count_append, ← ih, bel_succ]
    have one : List.count false (List.map (hitB ts fun t => (bel ts r t).1) [t]) = if ts.getD t 0 ∈ (bel ts r t).1 then 0 else 1 := by
      by_cases q : ts.getD t 0 ∈ (bel ts r t).1 <;> simp only [List.map, List.count_cons, List.count_nil, hitB, q] <;> rfl
    rw [one]
    split
    · rfl
    · split <;> rfl
theorem mks_hits (ts : List Int) {r : Nat} (hr : 1 ≤ r) {m : Nat} (hm : m ≤ ts.length) : (mks ts ((r : Int) - 1) m).2.count false = (bel ts r m).2 := by
  rw [(marks_hits (bel_run hr) hr m hm).1, bel_count ts r m hm]
/-! beginnings -/
theorem lastO_take (ts : List Int) (b : Int) (n : Nat) : ∀ m, m ≤ n → lastO (ts.take n) b m = lastO ts b m
  | 0, _ => rfl
  | m + 1, h => by
    unfold lastO
    rw [List.getElem?_take_of_lt (by omega), lastO_take ts b n m (by omega)]
theorem mks_take (ts : List Int) (L : Int) (n : Nat) : ∀ m, m ≤ n → mks (ts.take n) L m = mks ts L m
  | 0, _ => rfl
  | m + 1, h => by
    have g : (ts.take n).getD m 0 = ts.getD m 0 := by rw [List.getD_eq_getElem?_getD, List.getD_eq_getElem?_getD, List.getElem?_take_of_lt (by omega)]
    unfold mks
    rw [mks_take ts L n m (by omega), g, lastO_take ts _ n m (by omega)]
theorem mks_next (ts : List Int) (L : Int) (n : Nat) : ∃ b, (mks ts L (n + 1)).2 = (mks ts L n).2 ++ [b] ∧ (lastO ts (ts.getD n 0) n = none → b = false) := by
  rw [mks]
  split
  · exact ⟨_, rfl, fun _ => rfl⟩
  · rename_i p hp
    split
    · exact ⟨_, rfl, fun z => by rw [hp] at z; cases z⟩
    · exact ⟨_, rfl, fun z => rfl⟩
theorem mks_pre (ts : List Int) (L : Int) (m : Nat) : ∀ k, (mks ts L (m + k)).2.take m = (mks ts L m).2
  | 0 => by rw [Nat.add_zero, List.take_of_length_le (by rw [mks_len]; omega)]
  | k + 1 => by
    have ih := mks_pre ts L m k
    have len := mks_len ts L (m + k)
    obtain ⟨b, hb, -⟩ := mks_next ts L (m + k)
    rw [show m + (k + 1) = m + k + 1 by omega, hb, List.take_append_of_le_length (by omega), ih]
theorem begin_ok (ts : List Int) {r : Nat} (hr : 1 ≤ r) {m : Nat} (hm : m ≤ ts.length) : bmoves (marks ts ((r : Int) - 1)) m = (bel (ts.take m) r (ts.take m).length).2 := by
  have len : (ts.take m).length = m := by rw [List.length_take]; omega
  rw [len, ← mks_hits (ts.take m) hr (by omega), mks_take ts _ m m (by omega)]
  unfold bmoves marks
  rw [show ts.length = m + (ts.length - m) by omega, mks_pre]
theorem misses_ok (ts : List Int) (k : Nat) : misses ts k = (bel ts (k + 1) ts.length).2 := by
  rw [← mks_hits ts (r := k + 1) (by omega) (Nat.le_refl _)]
  unfold misses marks
  rw [show (((k + 1 : Nat) : Int) - 1) = (k : Int) by omega]
end K79
set_option Elab.async false
set_option linter.all false
set_option maxRecDepth 100000
set_option maxHeartbeats 4000000
namespace K79
open Q Bel
theorem nodup_le : ∀ {as cs : List Int}, as.Nodup → as ⊆ cs → as.length ≤ cs.length
  | [], _, _, _ => by simp
  | a :: as, cs, nd, sub => by
    have ha : a ∈ cs := sub (by simp)
    have := nodup_le (as := as) (cs := cs.erase a) (List.nodup_cons.mp nd).2 fun x hx => (List.mem_erase_of_ne (fun e => (List.nodup_cons.mp nd).1 (by rw [← e]; exact hx))).mpr (sub (List.mem_cons_of_mem _ hx))
    rw [List.length_erase_of_mem ha] at this
    have pos := List.length_pos_of_mem ha
    simp
    omega
theorem nodup_dd {as cs : List Int} (nd : as.Nodup) (sub : as ⊆ cs) : as.length ≤ (dedupI cs).length := nodup_le nd fun x hx => (mem_dedupI x cs).mpr (sub hx)
theorem full {ts : List Int} {r : Nat} {M : Nat → List Int} (R : Run ts r M) (hr : 1 ≤ r) {m : Nat} (hm : m ≤ ts.length) (hd : (dedupI (ts.take m)).length ≤ r) : ∀ t, t ≤ m → ∀ b ∈ ts.take t, b ∈ M t
  | 0, _, b, hb => by simp at hb
  | t + 1, h, b, hb => by
    have ih := full R hr hm hd t (by omega)
    have G := R.good hr t (by omega)
    have hb0 : ts[t]? = some ts[t] := List.getElem?_eq_getElem (by omega)
    rw [List.take_add_one, hb0] at hb
    generalize hx : ts[t] = x at hb hb0
    have old : ∀ c ∈ M t, c ∈ ts.take m := fun c hc => by
      obtain ⟨i, hi, e⟩ := G.old c hc
      exact List.mem_of_getElem? (i := i) (by rw [List.getElem?_take_of_lt (by omega)]; exact e)
    by_cases q : x ∈ M t
    · rw [R.hit t x hb0 q]
      rcases List.mem_append.mp hb with z | z
      · exact ih b z
      · simp at z; rw [z]; exact q
    · have ne : (M t).length ≠ r := fun e => by
        have nd : (x :: M t).Nodup := List.nodup_cons.mpr ⟨q, G.nd⟩
        have := nodup_dd nd (cs := ts.take m) fun c hc => by
          rcases List.mem_cons.mp hc with z | z
          · rw [z]; exact List.mem_of_getElem? (i := t) (by rw [List.getElem?_take_of_lt (by omega)]; exact hb0)
          · exact old c z
        simp at this
        omega
      rw [R.add t x hb0 q ne]
      rcases List.mem_append.mp hb with z | z
      · exact List.mem_append_left _ (ih b z)
      · exact List.mem_append_right _ (by simpa using z)
theorem lastO_no {ts : List Int} {b : Int} : ∀ {m : Nat}, lastO ts b m = none ↔ b ∉ ts.take m
  | 0 => by simp [lastO]
  | m + 1 => by
    unfold lastO
    rw [List.take_add_one]
    by_cases h : ts[m]? = some b
    · simp [h]
    · rw [if_neg h, lastO_no]
      cases hm : ts[m]? with
      | none => simp
      | some c =>
        have : c ≠ b := fun e => h (by rw [hm, e])
        simp [this.symm]
def markAt (ts : List Int) (k m : Nat) : Bool := (marks ts (k : Nat)).getD m false
theorem mark_is (ts : List Int) (k : Nat) {m : Nat} (hm : m < ts.length) : (marks ts (k : Nat))[m]? = some (markAt ts k m) := by
  have : (marks ts (k : Nat)).length = ts.length := mks_len ..
  unfold markAt
  rw [List.getD_eq_getElem?_getD, List.getElem?_eq_getElem (by omega)]; rfl
theorem mark_new {ts : List Int} {m : Nat} (hm : m < ts.length) (h : ts.getD m 0 ∉ ts.take m) (k : Nat) : markAt ts k m = false := by
  have e := mark_is ts k hm
  obtain ⟨b, h1, h2⟩ := mks_next ts (k : Nat) m
  have hb := h2 (lastO_no.mpr h)
  have p := mks_pre ts (k : Nat) (m + 1) (ts.length - (m + 1))
  rw [show m + 1 + (ts.length - (m + 1)) = ts.length by omega] at p
  have : ((marks ts (k : Nat)).take (m + 1))[m]? = some b := by
    unfold marks
    rw [p, h1, List.getElem?_append_right (by rw [mks_len]; omega), mks_len]
    simp
  rw [List.getElem?_take_of_lt (by omega), e] at this
  rw [Option.some.inj this, hb]
theorem mark_full {ts : List Int} {m : Nat} (hm : m < ts.length) (h : ts.getD m 0 ∈ ts.take m) {r : Nat} (hr : 1 ≤ r) (hd : (dedupI (ts.take m)).length ≤ r) : markAt ts (r - 1) m = true := by
  have R := bel_run (ts := ts) hr
  have e := (marks_hits R hr ts.length (Nat.le_refl _)).1
  have mem := full R hr (m := m) (by omega) hd m (Nat.le_refl _) _ h
  unfold markAt marks
  rw [show ((r - 1 : Nat) : Int) = (r : Int) - 1 by omega, e, List.getD_eq_getElem?_getD, List.getElem?_map, List.getElem?_range hm]
  have hb : hitB ts (fun t => (bel ts r t).1) m = true := decide_eq_true mem
  simp only [Option.map_some, Option.getD_some, hb]
theorem step_count {ts : List Int} {m : Nat} (hm : m < ts.length) {r : Nat} (hr : 1 ≤ r) : (bel (ts.take (m + 1)) r (ts.take (m + 1)).length).2 = (bel (ts.take m) r (ts.take m).length).2 + (if markAt ts (r - 1) m = true then 0 else 1) := by
  rw [← begin_ok ts hr (m := m + 1) (by omega), ← begin_ok ts hr (m := m) (by omega)]
  have e := mark_is ts (r - 1) hm
  rw [show ((r - 1 : Nat) : Int) = (r : Int) - 1 by omega] at e
  exact bmoves_succ _ _ _ e
theorem T_take (ts : List Int) (k : Int) (h : 0 ≤ k) : cutD (ts.map PySem.PyData.int) none (some k) = (ts.take k.toNat).map .int := by rw [cut_lo _ _ h, List.map_take]
theorem first_is {p : Nat → Bool} : ∀ {n k : Nat}, (List.range n).find? p = some k → p k = true ∧ k < n ∧ ∀ j, j < k → p j = false := by
  intro n k h
  have h1 := List.find?_some h
  have h2 := List.mem_of_find?_eq_some h
  refine ⟨h1, List.mem_range.mp h2, fun j hj => ?_⟩
  rw [List.find?_eq_some_iff_append] at h
  obtain ⟨-, as, bs, e, no⟩ := h
  have lt : k < n := List.mem_range.mp h2
  have ek : (List.range n)[as.length]? = some k := by rw [e]; simp
  have el : as.length = k := by
    have := List.getElem?_eq_some_iff.mp ek
    obtain ⟨q1, q2⟩ := this
    simpa using q2
  have ej : as[j]? = some j := by
    have : (List.range n)[j]? = some j := List.getElem?_range (by omega)
    rw [e, List.getElem?_append_left (by omega)] at this
    exact this
  have := no j (List.mem_of_getElem? ej)
  simpa using this
theorem least_of {L : List Int} {x : Int} (h : x ∈ L) (hm : ∀ y ∈ L, x ≤ y) : leastI L = some x := by
  cases hl : leastI L with
  | none => cases L with
    | nil => cases h
    | cons a l => cases hl
  | some y =>
    obtain ⟨h1, h2⟩ := leastI_is hl
    have a := h2 x h
    have b := hm y h1
    rw [show y = x by omega]
theorem depth_is {ts : List Int} {m : Nat} (hm : m < ts.length) (h : ts.getD m 0 ∈ ts.take m) : ∃ x : Int, dep ts m = .int x ∧ leastI (((List.range (dedupI (ts.take m)).length).filter fun k => markAt ts k m).map fun (k : Nat) => ((k : Nat) : Int) + 1) = some x := by
  have pos : 1 ≤ (dedupI (ts.take m)).length := List.length_pos_of_mem ((mem_dedupI _ _).mpr h)
  generalize hu : (dedupI (ts.take m)).length = u at pos
  have uu : u ≤ (usort ts).length := by
    have e : (usort ts).length = (dedupI ts).length := (sortI_perm _).length_eq
    rw [e, ← hu]
    exact nodup_dd (nodup_dedupI _) fun x hx => List.mem_of_mem_take ((mem_dedupI x _).mp hx)
  have fl : markAt ts (u - 1) m = true := mark_full hm h pos (by omega)
  unfold dep
  cases hf : (List.range (usort ts).length).find? fun k => (marks ts (k : Nat)).getD m false with
  | none =>
    have := List.find?_eq_none.mp hf (u - 1) (List.mem_range.mpr (by omega))
    exact absurd fl this
  | some k =>
    obtain ⟨f1, f2, f3⟩ := first_is hf
    have ku : k ≤ u - 1 := by
      by_cases q : u - 1 < k
      · have := f3 _ q
        unfold markAt at fl
        rw [fl] at this; cases this
      · omega
    refine ⟨_, rfl, least_of (List.mem_map.mpr ⟨k, List.mem_filter.mpr ⟨List.mem_range.mpr (by omega), f1⟩, rfl⟩) fun y hy => ?_⟩
    obtain ⟨j, hj, rfl⟩ := List.mem_map.mp hy
    obtain ⟨j1, j2⟩ := List.mem_filter.mp hj
    by_cases q : j < k
    · have := f3 j q
      unfold markAt at j2
      rw [j2] at this; cases this
    · omega
theorem dep_new {ts : List Int} {m : Nat} (hm : m < ts.length) (h : ts.getD m 0 ∉ ts.take m) : dep ts m = .none := by
  unfold dep
  cases hf : (List.range (usort ts).length).find? fun k => (marks ts (k : Nat)).getD m false with
  | none => rfl
  | some k =>
    obtain ⟨f1, -, -⟩ := first_is hf
    have := mark_new hm h k
    unfold markAt at this
    rw [this] at f1; cases f1

theorem range1 (n : Nat) : rngD 1 (((n : Int) + 1 - 1).toNat) = (List.range n).map fun (k : Nat) => PySem.PyData.int (((k : Nat) : Int) + 1) := by
  unfold rngD
  rw [show ((n : Int) + 1 - 1).toNat = n by omega]
  exact List.map_congr_left fun k _ => by rw [Int.add_comm]
def onK {α : Type} (g : Nat → α) (z : α) : PySem.PyData → α
  | .int i => g (i - 1).toNat
  | _ => z
theorem onK_int {α : Type} (g : Nat → α) (z : α) (i : Int) : onK g z (.int i) = g (i - 1).toNat := rfl
theorem law_depth {ts : List Int} (hl : ts.length ≤ 20) {m : Nat} (hm : m < ts.length) : f__law_depth [.val (T ts), .val (.int (m : Nat))] = some (.val (dep ts m), [.val (T ts), .val (.int (m : Nat))]) := wo_eq <| by
  have a1 := atI_T ts m hm
  refine def_wo ⟨rfl, by decide⟩ ?_
  unfold g__law_depth
  show wp (sSeq _ _ [.val (T ts), .val (.int (m : Nat)), .un, .un, .un]) _
  have c1 := T_take ts (m : Nat) (by omega)
  rw [Int.toNat_natCast] at c1
  have c2 := T_take ts ((m : Int) + 1) (by omega)
  rw [show ((m : Int) + 1).toNat = m + 1 by omega] at c2
  simp only [Q.wp_ok, Q.wp_no, Q.wo_some, Q.wo_none, Q.wo_bind, Q.wo_map, Q.wo_at0, Q.wo_atS, Q.wset_0, Q.wset_S, Q.bnd_val, Q.bnd_hot, Q.wp_eVar, Q.asArg_val, Q.asArg_hot, Q.wp_eArg, Q.wp_eC, Q.wp_cold, Q.wp_toCold_c, Q.wp_toCold_h, Q.chill_val, Q.chill_hot, Q.wp_toCold_s, Q.wp_own, Q.wp_toOwn_c, Q.wp_toOwn_h, Q.wp_toOwn_s, Q.giveBack_val, Q.giveBack_hot, Q.wp_toRet_c, Q.wp_toRet_h, Q.wp_toRet_s, Q.wp_aNil, Q.wp_aCons, Q.wp_bin, Q.wp_una, Q.wp_dat1, Q.wp_dat2, Q.wp_whole2, Q.view_c, Q.view_h, Q.view_s, Q.sview_v, Q.sview_h, Q.data_l, Q.data_d, Q.viewC_c, Q.viewC_h, Q.viewC_s, Q.sviewC_v, Q.sviewC_h, Q.dataC_l, Q.dataC_d, Q.plain_n, Q.plain_b, Q.plain_i, Q.plain_s, Q.plain_l, Q.plain_t, Q.wp_asB, Q.boolR_c, Q.boolS_v, Q.boolR_s, Q.wp_bAnd, Q.wp_bOr, Q.wp_bNot, Q.wp_eAnd, Q.wp_eOr, Q.wp_eNot, Q.wp_eIf, Q.wp_tTrue, Q.wp_sNx, Q.wp_never, Q.seqK_nx, Q.seqK_rt, Q.seqK_bk, Q.seqK_ct, Q.wp_sSeq, Q.wp_sExpr, Q.wp_sRet, Q.wp_sIf, Q.wp_putS, Q.wp_sSet, Q.set_val, Q.set_un, Q.set_hot, Q.sl_cold, Q.sl_hot, Q.wp_sTg, Q.ex_cold, Q.asg_nm, Q.asg_tp, Q.asgs_nil, Q.asgs_cons, Q.wputs_nil, Q.wputs_cons, Q.wp_sPar, Q.colds_nil, Q.colds_c, Q.wp_eTup, Q.wp_eLst, Q.wp_eDic0, Q.viewsC_nil, Q.viewsC_c, Q.wp_eB, Q.toArgs_nil, Q.toArgs_c, Q.lend_hot, Q.toArgs_s, Q.slotPos_c, Q.backA_nil, Q.backA_c, Q.takeBack_hot, Q.backA_s, Q.resR_v, Q.resR_h, Q.wp_callE, Q.resS_c, Q.resS_h, Q.resS_n, Q.wp_eMt, Q.wp_eMt0, Q.chg_lst, Q.wp_mAppend, Q.wp_mPopAt, Q.wp_mPop, Q.wp_mDat, Q.tyD_l, Q.tyD_t, Q.tyD_d, Q.isTy_o, Q.wp_oNone, Q.intD_i, Q.wp_oSome, Q.wp_eCut, Q.cut_l, Q.cut_t, Q.wp_eIsi, Q.wp_eLRg1, Q.wp_iRng1, Q.wp_iRng2, Q.seq_l, Q.seq_t, Q.wp_iCold, Q.wp_iEnumC, Q.walked_v, Q.walked_h, Q.wp_iSlot, Q.unlk_none, Q.wp_sFor, Q.turnK_nx, Q.turnK_ct, Q.turnK_bk, Q.turnK_rt, Q.add_ii, Q.add_ll, Q.add_tt, Q.sub_ii, Q.mul_ii, Q.mul_li, Q.mul_ti, Q.div_ii, Q.mod_ii, Q.pow_ii, Q.neg_i, Q.rev_l, Q.ix_l, Q.ix_t, Q.ix_d, Q.eq_xy, Q.ne_xy, Q.ord_ii, Q.in_w, Q.notin_w, Q.in_l, Q.in_t, Q.is_w, Q.isnot_w, Q.isq_n, Q.isNone_n, Q.isNone_i, Q.isNone_t, Q.isNone_l, Q.len_l, Q.len_t, Q.list_l, Q.list_t, Q.tup_l, Q.tup_t, Q.abs_i, Q.int_i, Q.int_b, Q.min_ii, Q.max_ii, Q.min_l, Q.max_l, Q.sum_l, Q.sort_l, Q.wo_asInts, Q.wo_asInts0, Q.wo_asIntsC, Q.key_i, Q.key_s, Q.wp_eLenSet, Q.lenSet_t, Q.wp_eChain, Q.store_l, Q.store_d, Q.wo_stI, Q.wp_sSub, Q.wp_sAugS, Q.aug_v, Q.wp_sAug, Q.ip_ii, Q.hI_ii, Q.wp_eLenScr, Q.wp_eIxScr, Q.scr_is, Q.cap_iff, Q.rng_iff, Q.lrg_iff, Q.div_iff, Q.mul_iff, Q.pow_iff, Q.size_lt, Q.free_pin, Q.free_lk, Q.lent_lk, Q.ff, Q.ft, Q.tt, Q.ffp, Q.dt, Q.df, Q.ndt, Q.ndf, Q.wo_ret, Q.fin_hot, Q.fin_val, Q.fin_nil, Q.ownOk_nil, Q.ownOk_cons, Q.hot_v, Q.hot_u, Q.wipe_0, Q.wipe_1, Q.back_0, Q.back_1, Q.slotPos_nil, List.set_cons_zero, List.set_cons_succ, List.getElem?_cons_zero, List.getElem?_cons_succ, List.length_cons, List.length_nil, Nat.zero_add, Nat.reduceAdd, Nat.reduceLeDiff, true_and, and_true, and_self, Bool.not_true, Bool.not_false, List.cons_append, List.nil_append, Q.wput_is, Q.true_imp, imp_self, implies_true, true_or, or_true, a1, c1, shaped_int, shaped_tuple, any_eq, lenSet_t]
  have len : (dedupI (ts.take m)).length ≤ 20 := by
    have := dedupI_le (ts.take m)
    rw [List.length_take] at this
    omega
  refine ⟨fun q => ?_, fun q => ⟨by rw [List.length_take]; omega, ?_⟩⟩
  · rw [dep_new hm q]
  · refine wp_eLc (onK (fun k => markAt ts k m) false) id rfl ?_
    simp only [Q.wp_ok, Q.wp_no, Q.wo_some, Q.wo_none, Q.wo_bind, Q.wo_map, Q.wo_at0, Q.wo_atS, Q.wset_0, Q.wset_S, Q.bnd_val, Q.bnd_hot, Q.wp_eVar, Q.asArg_val, Q.asArg_hot, Q.wp_eArg, Q.wp_eC, Q.wp_cold, Q.wp_toCold_c, Q.wp_toCold_h, Q.chill_val, Q.chill_hot, Q.wp_toCold_s, Q.wp_own, Q.wp_toOwn_c, Q.wp_toOwn_h, Q.wp_toOwn_s, Q.giveBack_val, Q.giveBack_hot, Q.wp_toRet_c, Q.wp_toRet_h, Q.wp_toRet_s, Q.wp_aNil, Q.wp_aCons, Q.wp_bin, Q.wp_una, Q.wp_dat1, Q.wp_dat2, Q.wp_whole2, Q.view_c, Q.view_h, Q.view_s, Q.sview_v, Q.sview_h, Q.data_l, Q.data_d, Q.viewC_c, Q.viewC_h, Q.viewC_s, Q.sviewC_v, Q.sviewC_h, Q.dataC_l, Q.dataC_d, Q.plain_n, Q.plain_b, Q.plain_i, Q.plain_s, Q.plain_l, Q.plain_t, Q.wp_asB, Q.boolR_c, Q.boolS_v, Q.boolR_s, Q.wp_bAnd, Q.wp_bOr, Q.wp_bNot, Q.wp_eAnd, Q.wp_eOr, Q.wp_eNot, Q.wp_eIf, Q.wp_tTrue, Q.wp_sNx, Q.wp_never, Q.seqK_nx, Q.seqK_rt, Q.seqK_bk, Q.seqK_ct, Q.wp_sSeq, Q.wp_sExpr, Q.wp_sRet, Q.wp_sIf, Q.wp_putS, Q.wp_sSet, Q.set_val, Q.set_un, Q.set_hot, Q.sl_cold, Q.sl_hot, Q.wp_sTg, Q.ex_cold, Q.asg_nm, Q.asg_tp, Q.asgs_nil, Q.asgs_cons, Q.wputs_nil, Q.wputs_cons, Q.wp_sPar, Q.colds_nil, Q.colds_c, Q.wp_eTup, Q.wp_eLst, Q.wp_eDic0, Q.viewsC_nil, Q.viewsC_c, Q.wp_eB, Q.toArgs_nil, Q.toArgs_c, Q.lend_hot, Q.toArgs_s, Q.slotPos_c, Q.backA_nil, Q.backA_c, Q.takeBack_hot, Q.backA_s, Q.resR_v, Q.resR_h, Q.wp_callE, Q.resS_c, Q.resS_h, Q.resS_n, Q.wp_eMt, Q.wp_eMt0, Q.chg_lst, Q.wp_mAppend, Q.wp_mPopAt, Q.wp_mPop, Q.wp_mDat, Q.tyD_l, Q.tyD_t, Q.tyD_d, Q.isTy_o, Q.wp_oNone, Q.intD_i, Q.wp_oSome, Q.wp_eCut, Q.cut_l, Q.cut_t, Q.wp_eIsi, Q.wp_eLRg1, Q.wp_iRng1, Q.wp_iRng2, Q.seq_l, Q.seq_t, Q.wp_iCold, Q.wp_iEnumC, Q.walked_v, Q.walked_h, Q.wp_iSlot, Q.unlk_none, Q.wp_sFor, Q.turnK_nx, Q.turnK_ct, Q.turnK_bk, Q.turnK_rt, Q.add_ii, Q.add_ll, Q.add_tt, Q.sub_ii, Q.mul_ii, Q.mul_li, Q.mul_ti, Q.div_ii, Q.mod_ii, Q.pow_ii, Q.neg_i, Q.rev_l, Q.ix_l, Q.ix_t, Q.ix_d, Q.eq_xy, Q.ne_xy, Q.ord_ii, Q.in_w, Q.notin_w, Q.in_l, Q.in_t, Q.is_w, Q.isnot_w, Q.isq_n, Q.isNone_n, Q.isNone_i, Q.isNone_t, Q.isNone_l, Q.len_l, Q.len_t, Q.list_l, Q.list_t, Q.tup_l, Q.tup_t, Q.abs_i, Q.int_i, Q.int_b, Q.min_ii, Q.max_ii, Q.min_l, Q.max_l, Q.sum_l, Q.sort_l, Q.wo_asInts, Q.wo_asInts0, Q.wo_asIntsC, Q.key_i, Q.key_s, Q.wp_eLenSet, Q.lenSet_t, Q.wp_eChain, Q.store_l, Q.store_d, Q.wo_stI, Q.wp_sSub, Q.wp_sAugS, Q.aug_v, Q.wp_sAug, Q.ip_ii, Q.hI_ii, Q.wp_eLenScr, Q.wp_eIxScr, Q.scr_is, Q.cap_iff, Q.rng_iff, Q.lrg_iff, Q.div_iff, Q.mul_iff, Q.pow_iff, Q.size_lt, Q.free_pin, Q.free_lk, Q.lent_lk, Q.ff, Q.ft, Q.tt, Q.ffp, Q.dt, Q.df, Q.ndt, Q.ndf, Q.wo_ret, Q.fin_hot, Q.fin_val, Q.fin_nil, Q.ownOk_nil, Q.ownOk_cons, Q.hot_v, Q.hot_u, Q.wipe_0, Q.wipe_1, Q.back_0, Q.back_1, Q.slotPos_nil, List.set_cons_zero, List.set_cons_succ, List.getElem?_cons_zero, List.getElem?_cons_succ, List.length_cons, List.length_nil, Nat.zero_add, Nat.reduceAdd, Nat.reduceLeDiff, true_and, and_true, and_self, Bool.not_true, Bool.not_false, List.cons_append, List.nil_append, Q.wput_is, Q.true_imp, imp_self, implies_true, true_or, or_true]
    refine ⟨⟨⟨by omega, by omega⟩, by omega, by omega⟩, by rw [rngD_len]; omega, fun d hd => ?_, ?_⟩
    · rw [range1] at hd
      obtain ⟨k, hk, rfl⟩ := List.mem_map.mp hd
      have hk := List.mem_range.mp hk
      simp only [Q.wp_ok, Q.wp_no, Q.wo_some, Q.wo_none, Q.wo_bind, Q.wo_map, Q.wo_at0, Q.wo_atS, Q.wset_0, Q.wset_S, Q.bnd_val, Q.bnd_hot, Q.wp_eVar, Q.asArg_val, Q.asArg_hot, Q.wp_eArg, Q.wp_eC, Q.wp_cold, Q.wp_toCold_c, Q.wp_toCold_h, Q.chill_val, Q.chill_hot, Q.wp_toCold_s, Q.wp_own, Q.wp_toOwn_c, Q.wp_toOwn_h, Q.wp_toOwn_s, Q.giveBack_val, Q.giveBack_hot, Q.wp_toRet_c, Q.wp_toRet_h, Q.wp_toRet_s, Q.wp_aNil, Q.wp_aCons, Q.wp_bin, Q.wp_una, Q.wp_dat1, Q.wp_dat2, Q.wp_whole2, Q.view_c, Q.view_h, Q.view_s, Q.sview_v, Q.sview_h, Q.data_l, Q.data_d, Q.viewC_c, Q.viewC_h, Q.viewC_s, Q.sviewC_v, Q.sviewC_h, Q.dataC_l, Q.dataC_d, Q.plain_n, Q.plain_b, Q.plain_i, Q.plain_s, Q.plain_l, Q.plain_t, Q.wp_asB, Q.boolR_c, Q.boolS_v, Q.boolR_s, Q.wp_bAnd, Q.wp_bOr, Q.wp_bNot, Q.wp_eAnd, Q.wp_eOr, Q.wp_eNot, Q.wp_eIf, Q.wp_tTrue, Q.wp_sNx, Q.wp_never, Q.seqK_nx, Q.seqK_rt, Q.seqK_bk, Q.seqK_ct, Q.wp_sSeq, Q.wp_sExpr, Q.wp_sRet, Q.wp_sIf, Q.wp_putS, Q.wp_sSet, Q.set_val, Q.set_un, Q.set_hot, Q.sl_cold, Q.sl_hot, Q.wp_sTg, Q.ex_cold, Q.asg_nm, Q.asg_tp, Q.asgs_nil, Q.asgs_cons, Q.wputs_nil, Q.wputs_cons, Q.wp_sPar, Q.colds_nil, Q.colds_c, Q.wp_eTup, Q.wp_eLst, Q.wp_eDic0, Q.viewsC_nil, Q.viewsC_c, Q.wp_eB, Q.toArgs_nil, Q.toArgs_c, Q.lend_hot, Q.toArgs_s, Q.slotPos_c, Q.backA_nil, Q.backA_c, Q.takeBack_hot, Q.backA_s, Q.resR_v, Q.resR_h, Q.wp_callE, Q.resS_c, Q.resS_h, Q.resS_n, Q.wp_eMt, Q.wp_eMt0, Q.chg_lst, Q.wp_mAppend, Q.wp_mPopAt, Q.wp_mPop, Q.wp_mDat, Q.tyD_l, Q.tyD_t, Q.tyD_d, Q.isTy_o, Q.wp_oNone, Q.intD_i, Q.wp_oSome, Q.wp_eCut, Q.cut_l, Q.cut_t, Q.wp_eIsi, Q.wp_eLRg1, Q.wp_iRng1, Q.wp_iRng2, Q.seq_l, Q.seq_t, Q.wp_iCold, Q.wp_iEnumC, Q.walked_v, Q.walked_h, Q.wp_iSlot, Q.unlk_none, Q.wp_sFor, Q.turnK_nx, Q.turnK_ct, Q.turnK_bk, Q.turnK_rt, Q.add_ii, Q.add_ll, Q.add_tt, Q.sub_ii, Q.mul_ii, Q.mul_li, Q.mul_ti, Q.div_ii, Q.mod_ii, Q.pow_ii, Q.neg_i, Q.rev_l, Q.ix_l, Q.ix_t, Q.ix_d, Q.eq_xy, Q.ne_xy, Q.ord_ii, Q.in_w, Q.notin_w, Q.in_l, Q.in_t, Q.is_w, Q.isnot_w, Q.isq_n, Q.isNone_n, Q.isNone_i, Q.isNone_t, Q.isNone_l, Q.len_l, Q.len_t, Q.list_l, Q.list_t, Q.tup_l, Q.tup_t, Q.abs_i, Q.int_i, Q.int_b, Q.min_ii, Q.max_ii, Q.min_l, Q.max_l, Q.sum_l, Q.sort_l, Q.wo_asInts, Q.wo_asInts0, Q.wo_asIntsC, Q.key_i, Q.key_s, Q.wp_eLenSet, Q.lenSet_t, Q.wp_eChain, Q.store_l, Q.store_d, Q.wo_stI, Q.wp_sSub, Q.wp_sAugS, Q.aug_v, Q.wp_sAug, Q.ip_ii, Q.hI_ii, Q.wp_eLenScr, Q.wp_eIxScr, Q.scr_is, Q.cap_iff, Q.rng_iff, Q.lrg_iff, Q.div_iff, Q.mul_iff, Q.pow_iff, Q.size_lt, Q.free_pin, Q.free_lk, Q.lent_lk, Q.ff, Q.ft, Q.tt, Q.ffp, Q.dt, Q.df, Q.ndt, Q.ndf, Q.wo_ret, Q.fin_hot, Q.fin_val, Q.fin_nil, Q.ownOk_nil, Q.ownOk_cons, Q.hot_v, Q.hot_u, Q.wipe_0, Q.wipe_1, Q.back_0, Q.back_1, Q.slotPos_nil, List.set_cons_zero, List.set_cons_succ, List.getElem?_cons_zero, List.getElem?_cons_succ, List.length_cons, List.length_nil, Nat.zero_add, Nat.reduceAdd, Nat.reduceLeDiff, true_and, and_true, and_self, Bool.not_true, Bool.not_false, List.cons_append, List.nil_append, Q.wput_is, Q.true_imp, imp_self, implies_true, true_or, or_true, c1, c2]
      rw [show ((k : Nat) : Int) + 1 = ((k + 1 : Nat) : Int) by omega]
      refine wo_of (law_least (ts := ts.take m) (by rw [List.length_take]; omega) (r := k + 1) (by omega) (by omega)) ?_
      simp only [Q.wp_ok, Q.wp_no, Q.wo_some, Q.wo_none, Q.wo_bind, Q.wo_map, Q.wo_at0, Q.wo_atS, Q.wset_0, Q.wset_S, Q.bnd_val, Q.bnd_hot, Q.wp_eVar, Q.asArg_val, Q.asArg_hot, Q.wp_eArg, Q.wp_eC, Q.wp_cold, Q.wp_toCold_c, Q.wp_toCold_h, Q.chill_val, Q.chill_hot, Q.wp_toCold_s, Q.wp_own, Q.wp_toOwn_c, Q.wp_toOwn_h, Q.wp_toOwn_s, Q.giveBack_val, Q.giveBack_hot, Q.wp_toRet_c, Q.wp_toRet_h, Q.wp_toRet_s, Q.wp_aNil, Q.wp_aCons, Q.wp_bin, Q.wp_una, Q.wp_dat1, Q.wp_dat2, Q.wp_whole2, Q.view_c, Q.view_h, Q.view_s, Q.sview_v, Q.sview_h, Q.data_l, Q.data_d, Q.viewC_c, Q.viewC_h, Q.viewC_s, Q.sviewC_v, Q.sviewC_h, Q.dataC_l, Q.dataC_d, Q.plain_n, Q.plain_b, Q.plain_i, Q.plain_s, Q.plain_l, Q.plain_t, Q.wp_asB, Q.boolR_c, Q.boolS_v, Q.boolR_s, Q.wp_bAnd, Q.wp_bOr, Q.wp_bNot, Q.wp_eAnd, Q.wp_eOr, Q.wp_eNot, Q.wp_eIf, Q.wp_tTrue, Q.wp_sNx, Q.wp_never, Q.seqK_nx, Q.seqK_rt, Q.seqK_bk, Q.seqK_ct, Q.wp_sSeq, Q.wp_sExpr, Q.wp_sRet, Q.wp_sIf, Q.wp_putS, Q.wp_sSet, Q.set_val, Q.set_un, Q.set_hot, Q.sl_cold, Q.sl_hot, Q.wp_sTg, Q.ex_cold, Q.asg_nm, Q.asg_tp, Q.asgs_nil, Q.asgs_cons, Q.wputs_nil, Q.wputs_cons, Q.wp_sPar, Q.colds_nil, Q.colds_c, Q.wp_eTup, Q.wp_eLst, Q.wp_eDic0, Q.viewsC_nil, Q.viewsC_c, Q.wp_eB, Q.toArgs_nil, Q.toArgs_c, Q.lend_hot, Q.toArgs_s, Q.slotPos_c, Q.backA_nil, Q.backA_c, Q.takeBack_hot, Q.backA_s, Q.resR_v, Q.resR_h, Q.wp_callE, Q.resS_c, Q.resS_h, Q.resS_n, Q.wp_eMt, Q.wp_eMt0, Q.chg_lst, Q.wp_mAppend, Q.wp_mPopAt, Q.wp_mPop, Q.wp_mDat, Q.tyD_l, Q.tyD_t, Q.tyD_d, Q.isTy_o, Q.wp_oNone, Q.intD_i, Q.wp_oSome, Q.wp_eCut, Q.cut_l, Q.cut_t, Q.wp_eIsi, Q.wp_eLRg1, Q.wp_iRng1, Q.wp_iRng2, Q.seq_l, Q.seq_t, Q.wp_iCold, Q.wp_iEnumC, Q.walked_v, Q.walked_h, Q.wp_iSlot, Q.unlk_none, Q.wp_sFor, Q.turnK_nx, Q.turnK_ct, Q.turnK_bk, Q.turnK_rt, Q.add_ii, Q.add_ll, Q.add_tt, Q.sub_ii, Q.mul_ii, Q.mul_li, Q.mul_ti, Q.div_ii, Q.mod_ii, Q.pow_ii, Q.neg_i, Q.rev_l, Q.ix_l, Q.ix_t, Q.ix_d, Q.eq_xy, Q.ne_xy, Q.ord_ii, Q.in_w, Q.notin_w, Q.in_l, Q.in_t, Q.is_w, Q.isnot_w, Q.isq_n, Q.isNone_n, Q.isNone_i, Q.isNone_t, Q.isNone_l, Q.len_l, Q.len_t, Q.list_l, Q.list_t, Q.tup_l, Q.tup_t, Q.abs_i, Q.int_i, Q.int_b, Q.min_ii, Q.max_ii, Q.min_l, Q.max_l, Q.sum_l, Q.sort_l, Q.wo_asInts, Q.wo_asInts0, Q.wo_asIntsC, Q.key_i, Q.key_s, Q.wp_eLenSet, Q.lenSet_t, Q.wp_eChain, Q.store_l, Q.store_d, Q.wo_stI, Q.wp_sSub, Q.wp_sAugS, Q.aug_v, Q.wp_sAug, Q.ip_ii, Q.hI_ii, Q.wp_eLenScr, Q.wp_eIxScr, Q.scr_is, Q.cap_iff, Q.rng_iff, Q.lrg_iff, Q.div_iff, Q.mul_iff, Q.pow_iff, Q.size_lt, Q.free_pin, Q.free_lk, Q.lent_lk, Q.ff, Q.ft, Q.tt, Q.ffp, Q.dt, Q.df, Q.ndt, Q.ndf, Q.wo_ret, Q.fin_hot, Q.fin_val, Q.fin_nil, Q.ownOk_nil, Q.ownOk_cons, Q.hot_v, Q.hot_u, Q.wipe_0, Q.wipe_1, Q.back_0, Q.back_1, Q.slotPos_nil, List.set_cons_zero, List.set_cons_succ, List.getElem?_cons_zero, List.getElem?_cons_succ, List.length_cons, List.length_nil, Nat.zero_add, Nat.reduceAdd, Nat.reduceLeDiff, true_and, and_true, and_self, Bool.not_true, Bool.not_false, List.cons_append, List.nil_append, Q.wput_is, Q.true_imp, imp_self, implies_true, true_or, or_true, c1, c2]
      refine wo_of (law_least (ts := ts.take (m + 1)) (by rw [List.length_take]; omega) (r := k + 1) (by omega) (by omega)) ?_
      have sc := step_count hm (r := k + 1) (by omega)
      rw [Nat.add_sub_cancel] at sc
      have e : onK (fun k => markAt ts k m) false (.int ((k + 1 : Nat) : Int)) = markAt ts k m := by
        rw [onK_int]
        rw [show (((k + 1 : Nat) : Int) - 1).toNat = k by omega]
      simp only [Q.wp_ok, Q.wp_no, Q.wo_some, Q.wo_none, Q.wo_bind, Q.wo_map, Q.wo_at0, Q.wo_atS, Q.wset_0, Q.wset_S, Q.bnd_val, Q.bnd_hot, Q.wp_eVar, Q.asArg_val, Q.asArg_hot, Q.wp_eArg, Q.wp_eC, Q.wp_cold, Q.wp_toCold_c, Q.wp_toCold_h, Q.chill_val, Q.chill_hot, Q.wp_toCold_s, Q.wp_own, Q.wp_toOwn_c, Q.wp_toOwn_h, Q.wp_toOwn_s, Q.giveBack_val, Q.giveBack_hot, Q.wp_toRet_c, Q.wp_toRet_h, Q.wp_toRet_s, Q.wp_aNil, Q.wp_aCons, Q.wp_bin, Q.wp_una, Q.wp_dat1, Q.wp_dat2, Q.wp_whole2, Q.view_c, Q.view_h, Q.view_s, Q.sview_v, Q.sview_h, Q.data_l, Q.data_d, Q.viewC_c, Q.viewC_h, Q.viewC_s, Q.sviewC_v, Q.sviewC_h, Q.dataC_l, Q.dataC_d, Q.plain_n, Q.plain_b, Q.plain_i, Q.plain_s, Q.plain_l, Q.plain_t, Q.wp_asB, Q.boolR_c, Q.boolS_v, Q.boolR_s, Q.wp_bAnd, Q.wp_bOr, Q.wp_bNot, Q.wp_eAnd, Q.wp_eOr, Q.wp_eNot, Q.wp_eIf, Q.wp_tTrue, Q.wp_sNx, Q.wp_never, Q.seqK_nx, Q.seqK_rt, Q.seqK_bk, Q.seqK_ct, Q.wp_sSeq, Q.wp_sExpr, Q.wp_sRet, Q.wp_sIf, Q.wp_putS, Q.wp_sSet, Q.set_val, Q.set_un, Q.set_hot, Q.sl_cold, Q.sl_hot, Q.wp_sTg, Q.ex_cold, Q.asg_nm, Q.asg_tp, Q.asgs_nil, Q.asgs_cons, Q.wputs_nil, Q.wputs_cons, Q.wp_sPar, Q.colds_nil, Q.colds_c, Q.wp_eTup, Q.wp_eLst, Q.wp_eDic0, Q.viewsC_nil, Q.viewsC_c, Q.wp_eB, Q.toArgs_nil, Q.toArgs_c, Q.lend_hot, Q.toArgs_s, Q.slotPos_c, Q.backA_nil, Q.backA_c, Q.takeBack_hot, Q.backA_s, Q.resR_v, Q.resR_h, Q.wp_callE, Q.resS_c, Q.resS_h, Q.resS_n, Q.wp_eMt, Q.wp_eMt0, Q.chg_lst, Q.wp_mAppend, Q.wp_mPopAt, Q.wp_mPop, Q.wp_mDat, Q.tyD_l, Q.tyD_t, Q.tyD_d, Q.isTy_o, Q.wp_oNone, Q.intD_i, Q.wp_oSome, Q.wp_eCut, Q.cut_l, Q.cut_t, Q.wp_eIsi, Q.wp_eLRg1, Q.wp_iRng1, Q.wp_iRng2, Q.seq_l, Q.seq_t, Q.wp_iCold, Q.wp_iEnumC, Q.walked_v, Q.walked_h, Q.wp_iSlot, Q.unlk_none, Q.wp_sFor, Q.turnK_nx, Q.turnK_ct, Q.turnK_bk, Q.turnK_rt, Q.add_ii, Q.add_ll, Q.add_tt, Q.sub_ii, Q.mul_ii, Q.mul_li, Q.mul_ti, Q.div_ii, Q.mod_ii, Q.pow_ii, Q.neg_i, Q.rev_l, Q.ix_l, Q.ix_t, Q.ix_d, Q.eq_xy, Q.ne_xy, Q.ord_ii, Q.in_w, Q.notin_w, Q.in_l, Q.in_t, Q.is_w, Q.isnot_w, Q.isq_n, Q.isNone_n, Q.isNone_i, Q.isNone_t, Q.isNone_l, Q.len_l, Q.len_t, Q.list_l, Q.list_t, Q.tup_l, Q.tup_t, Q.abs_i, Q.int_i, Q.int_b, Q.min_ii, Q.max_ii, Q.min_l, Q.max_l, Q.sum_l, Q.sort_l, Q.wo_asInts, Q.wo_asInts0, Q.wo_asIntsC, Q.key_i, Q.key_s, Q.wp_eLenSet, Q.lenSet_t, Q.wp_eChain, Q.store_l, Q.store_d, Q.wo_stI, Q.wp_sSub, Q.wp_sAugS, Q.aug_v, Q.wp_sAug, Q.ip_ii, Q.hI_ii, Q.wp_eLenScr, Q.wp_eIxScr, Q.scr_is, Q.cap_iff, Q.rng_iff, Q.lrg_iff, Q.div_iff, Q.mul_iff, Q.pow_iff, Q.size_lt, Q.free_pin, Q.free_lk, Q.lent_lk, Q.ff, Q.ft, Q.tt, Q.ffp, Q.dt, Q.df, Q.ndt, Q.ndf, Q.wo_ret, Q.fin_hot, Q.fin_val, Q.fin_nil, Q.ownOk_nil, Q.ownOk_cons, Q.hot_v, Q.hot_u, Q.wipe_0, Q.wipe_1, Q.back_0, Q.back_1, Q.slotPos_nil, List.set_cons_zero, List.set_cons_succ, List.getElem?_cons_zero, List.getElem?_cons_succ, List.length_cons, List.length_nil, Nat.zero_add, Nat.reduceAdd, Nat.reduceLeDiff, true_and, and_true, and_self, Bool.not_true, Bool.not_false, List.cons_append, List.nil_append, Q.wput_is, Q.true_imp, imp_self, implies_true, true_or, or_true, shaped_int, eqv_i, e, sc]
      refine ⟨?_, fun _ => rfl⟩
      cases markAt ts k m <;> simp; omega
    · obtain ⟨x, d1, d2⟩ := depth_is hm q
      rw [range1, filter_m, List.map_id]
      have e : ∀ k : Nat, onK (fun k => markAt ts k m) false (.int ((k : Nat) + 1 : Int)) = markAt ts k m := fun k => by
        rw [onK_int]
        rw [show (((k : Nat) : Int) + 1 - 1).toNat = k by omega]
      simp only [e]
      have e2 : ((List.range (dedupI (ts.take m)).length).filter fun k => markAt ts k m).map (fun (k : Nat) => PySem.PyData.int (((k : Nat) : Int) + 1)) = (((List.range (dedupI (ts.take m)).length).filter fun k => markAt ts k m).map fun (k : Nat) => ((k : Nat) : Int) + 1).map .int := by rw [List.map_map]; rfl
      rw [e2]
      simp only [Q.wp_ok, Q.wp_no, Q.wo_some, Q.wo_none, Q.wo_bind, Q.wo_map, Q.wo_at0, Q.wo_atS, Q.wset_0, Q.wset_S, Q.bnd_val, Q.bnd_hot, Q.wp_eVar, Q.asArg_val, Q.asArg_hot, Q.wp_eArg, Q.wp_eC, Q.wp_cold, Q.wp_toCold_c, Q.wp_toCold_h, Q.chill_val, Q.chill_hot, Q.wp_toCold_s, Q.wp_own, Q.wp_toOwn_c, Q.wp_toOwn_h, Q.wp_toOwn_s, Q.giveBack_val, Q.giveBack_hot, Q.wp_toRet_c, Q.wp_toRet_h, Q.wp_toRet_s, Q.wp_aNil, Q.wp_aCons, Q.wp_bin, Q.wp_una, Q.wp_dat1, Q.wp_dat2, Q.wp_whole2, Q.view_c, Q.view_h, Q.view_s, Q.sview_v, Q.sview_h, Q.data_l, Q.data_d, Q.viewC_c, Q.viewC_h, Q.viewC_s, Q.sviewC_v, Q.sviewC_h, Q.dataC_l, Q.dataC_d, Q.plain_n, Q.plain_b, Q.plain_i, Q.plain_s, Q.plain_l, Q.plain_t, Q.wp_asB, Q.boolR_c, Q.boolS_v, Q.boolR_s, Q.wp_bAnd, Q.wp_bOr, Q.wp_bNot, Q.wp_eAnd, Q.wp_eOr, Q.wp_eNot, Q.wp_eIf, Q.wp_tTrue, Q.wp_sNx, Q.wp_never, Q.seqK_nx, Q.seqK_rt, Q.seqK_bk, Q.seqK_ct, Q.wp_sSeq, Q.wp_sExpr, Q.wp_sRet, Q.wp_sIf, Q.wp_putS, Q.wp_sSet, Q.set_val, Q.set_un, Q.set_hot, Q.sl_cold, Q.sl_hot, Q.wp_sTg, Q.ex_cold, Q.asg_nm, Q.asg_tp, Q.asgs_nil, Q.asgs_cons, Q.wputs_nil, Q.wputs_cons, Q.wp_sPar, Q.colds_nil, Q.colds_c, Q.wp_eTup, Q.wp_eLst, Q.wp_eDic0, Q.viewsC_nil, Q.viewsC_c, Q.wp_eB, Q.toArgs_nil, Q.toArgs_c, Q.lend_hot, Q.toArgs_s, Q.slotPos_c, Q.backA_nil, Q.backA_c, Q.takeBack_hot, Q.backA_s, Q.resR_v, Q.resR_h, Q.wp_callE, Q.resS_c, Q.resS_h, Q.resS_n, Q.wp_eMt, Q.wp_eMt0, Q.chg_lst, Q.wp_mAppend, Q.wp_mPopAt, Q.wp_mPop, Q.wp_mDat, Q.tyD_l, Q.tyD_t, Q.tyD_d, Q.isTy_o, Q.wp_oNone, Q.intD_i, Q.wp_oSome, Q.wp_eCut, Q.cut_l, Q.cut_t, Q.wp_eIsi, Q.wp_eLRg1, Q.wp_iRng1, Q.wp_iRng2, Q.seq_l, Q.seq_t, Q.wp_iCold, Q.wp_iEnumC, Q.walked_v, Q.walked_h, Q.wp_iSlot, Q.unlk_none, Q.wp_sFor, Q.turnK_nx, Q.turnK_ct, Q.turnK_bk, Q.turnK_rt, Q.add_ii, Q.add_ll, Q.add_tt, Q.sub_ii, Q.mul_ii, Q.mul_li, Q.mul_ti, Q.div_ii, Q.mod_ii, Q.pow_ii, Q.neg_i, Q.rev_l, Q.ix_l, Q.ix_t, Q.ix_d, Q.eq_xy, Q.ne_xy, Q.ord_ii, Q.in_w, Q.notin_w, Q.in_l, Q.in_t, Q.is_w, Q.isnot_w, Q.isq_n, Q.isNone_n, Q.isNone_i, Q.isNone_t, Q.isNone_l, Q.len_l, Q.len_t, Q.list_l, Q.list_t, Q.tup_l, Q.tup_t, Q.abs_i, Q.int_i, Q.int_b, Q.min_ii, Q.max_ii, Q.min_l, Q.max_l, Q.sum_l, Q.sort_l, Q.wo_asInts, Q.wo_asInts0, Q.wo_asIntsC, Q.key_i, Q.key_s, Q.wp_eLenSet, Q.lenSet_t, Q.wp_eChain, Q.store_l, Q.store_d, Q.wo_stI, Q.wp_sSub, Q.wp_sAugS, Q.aug_v, Q.wp_sAug, Q.ip_ii, Q.hI_ii, Q.wp_eLenScr, Q.wp_eIxScr, Q.scr_is, Q.cap_iff, Q.rng_iff, Q.lrg_iff, Q.div_iff, Q.mul_iff, Q.pow_iff, Q.size_lt, Q.free_pin, Q.free_lk, Q.lent_lk, Q.ff, Q.ft, Q.tt, Q.ffp, Q.dt, Q.df, Q.ndt, Q.ndf, Q.wo_ret, Q.fin_hot, Q.fin_val, Q.fin_nil, Q.ownOk_nil, Q.ownOk_cons, Q.hot_v, Q.hot_u, Q.wipe_0, Q.wipe_1, Q.back_0, Q.back_1, Q.slotPos_nil, List.set_cons_zero, List.set_cons_succ, List.getElem?_cons_zero, List.getElem?_cons_succ, List.length_cons, List.length_nil, Nat.zero_add, Nat.reduceAdd, Nat.reduceLeDiff, true_and, and_true, and_self, Bool.not_true, Bool.not_false, List.cons_append, List.nil_append, Q.wput_is, Q.true_imp, imp_self, implies_true, true_or, or_true, d2, d1]
end K79
set_option Elab.async false
set_option linter.all false
set_option maxRecDepth 100000
set_option maxHeartbeats 4000000
namespace K79
open Q Bel
theorem us_len (ts : List Int) : (usort ts).length = (dedupI ts).length := (sortI_perm _).length_eq
abbrev scr (ns : List Int) : Sl := .val (.dict [(.none, .list (ns.map .int))])
/-- what stands while the turns go on -/
def Env1 (ns : List Int) (e : Sto) : Prop := ∃ s1 s2 s3 s4 s5 s6 s7 s8 s9 s10 : Sl, s1.settable = true ∧ s2.settable = true ∧ s3.settable = true ∧ s4.settable = true ∧ s5.settable = true ∧ s6.settable = true ∧ s6.isHot = false ∧ s7.settable = true ∧ s8.settable = true ∧ s9.settable = true ∧ s10.settable = true ∧ e = [scr ns, s1, s2, s3, s4, s5, s6, s7, s8, s9, s10]
theorem plain (ns : List Int) (hn : ns.length ≤ 63) : ∃ as, f_law [scr ns] = some (.val (.bool true), as) := by
  suffices h : wo (f_law [scr ns]) fun p => p.1 = .val (.bool true) by
    obtain ⟨⟨a, as⟩, h1, h2⟩ := h
    cases h2
    exact ⟨as, h1⟩
  refine def_wo ⟨rfl, by decide⟩ ?_
  unfold g_law
  show wp (sSeq _ _ [scr ns, .un, .un, .un, .un, .un, .un, .un, .un, .un, .un]) _
  rw [wp_sSeq, wp_sFor]
  simp only [Q.wp_ok, Q.wp_no, Q.wo_some, Q.wo_none, Q.wo_bind, Q.wo_map, Q.wo_at0, Q.wo_atS, Q.wset_0, Q.wset_S, Q.bnd_val, Q.bnd_hot, Q.wp_eVar, Q.asArg_val, Q.asArg_hot, Q.wp_eArg, Q.wp_eC, Q.wp_cold, Q.wp_toCold_c, Q.wp_toCold_h, Q.chill_val, Q.chill_hot, Q.wp_toCold_s, Q.wp_own, Q.wp_toOwn_c, Q.wp_toOwn_h, Q.wp_toOwn_s, Q.giveBack_val, Q.giveBack_hot, Q.wp_toRet_c, Q.wp_toRet_h, Q.wp_toRet_s, Q.wp_aNil, Q.wp_aCons, Q.wp_bin, Q.wp_una, Q.wp_dat1, Q.wp_dat2, Q.wp_whole2, Q.view_c, Q.view_h, Q.view_s, Q.sview_v, Q.sview_h, Q.data_l, Q.data_d, Q.viewC_c, Q.viewC_h, Q.viewC_s, Q.sviewC_v, Q.sviewC_h, Q.dataC_l, Q.dataC_d, Q.plain_n, Q.plain_b, Q.plain_i, Q.plain_s, Q.plain_l, Q.plain_t, Q.wp_asB, Q.boolR_c, Q.boolS_v, Q.boolR_s, Q.wp_bAnd, Q.wp_bOr, Q.wp_bNot, Q.wp_eAnd, Q.wp_eOr, Q.wp_eNot, Q.wp_eIf, Q.wp_tTrue, Q.wp_sNx, Q.wp_never, Q.seqK_nx, Q.seqK_rt, Q.seqK_bk, Q.seqK_ct, Q.wp_sSeq, Q.wp_sExpr, Q.wp_sRet, Q.wp_sIf, Q.wp_putS, Q.wp_sSet, Q.set_val, Q.set_un, Q.set_hot, Q.sl_cold, Q.sl_hot, Q.wp_sTg, Q.ex_cold, Q.asg_nm, Q.asg_tp, Q.asgs_nil, Q.asgs_cons, Q.wputs_nil, Q.wputs_cons, Q.wp_sPar, Q.colds_nil, Q.colds_c, Q.wp_eTup, Q.wp_eLst, Q.wp_eDic0, Q.viewsC_nil, Q.viewsC_c, Q.wp_eB, Q.toArgs_nil, Q.toArgs_c, Q.lend_hot, Q.toArgs_s, Q.slotPos_c, Q.backA_nil, Q.backA_c, Q.takeBack_hot, Q.backA_s, Q.resR_v, Q.resR_h, Q.wp_callE, Q.resS_c, Q.resS_h, Q.resS_n, Q.wp_eMt, Q.wp_eMt0, Q.chg_lst, Q.wp_mAppend, Q.wp_mPopAt, Q.wp_mPop, Q.wp_mDat, Q.tyD_l, Q.tyD_t, Q.tyD_d, Q.isTy_o, Q.wp_oNone, Q.intD_i, Q.wp_oSome, Q.wp_eCut, Q.cut_l, Q.cut_t, Q.wp_eIsi, Q.wp_eLRg1, Q.wp_iRng1, Q.wp_iRng2, Q.seq_l, Q.seq_t, Q.wp_iCold, Q.wp_iEnumC, Q.walked_v, Q.walked_h, Q.wp_iSlot, Q.unlk_none, Q.wp_sFor, Q.turnK_nx, Q.turnK_ct, Q.turnK_bk, Q.turnK_rt, Q.add_ii, Q.add_ll, Q.add_tt, Q.sub_ii, Q.mul_ii, Q.mul_li, Q.mul_ti, Q.div_ii, Q.mod_ii, Q.pow_ii, Q.neg_i, Q.rev_l, Q.ix_l, Q.ix_t, Q.ix_d, Q.eq_xy, Q.ne_xy, Q.ord_ii, Q.in_w, Q.notin_w, Q.in_l, Q.in_t, Q.is_w, Q.isnot_w, Q.isq_n, Q.isNone_n, Q.isNone_i, Q.isNone_t, Q.isNone_l, Q.len_l, Q.len_t, Q.list_l, Q.list_t, Q.tup_l, Q.tup_t, Q.abs_i, Q.int_i, Q.int_b, Q.min_ii, Q.max_ii, Q.min_l, Q.max_l, Q.sum_l, Q.sort_l, Q.wo_asInts, Q.wo_asInts0, Q.wo_asIntsC, Q.key_i, Q.key_s, Q.wp_eLenSet, Q.lenSet_t, Q.wp_eChain, Q.store_l, Q.store_d, Q.wo_stI, Q.wp_sSub, Q.wp_sAugS, Q.aug_v, Q.wp_sAug, Q.ip_ii, Q.hI_ii, Q.wp_eLenScr, Q.wp_eIxScr, Q.scr_is, Q.cap_iff, Q.rng_iff, Q.lrg_iff, Q.div_iff, Q.mul_iff, Q.pow_iff, Q.size_lt, Q.free_pin, Q.free_lk, Q.lent_lk, Q.ff, Q.ft, Q.tt, Q.ffp, Q.dt, Q.df, Q.ndt, Q.ndf, Q.wo_ret, Q.fin_hot, Q.fin_val, Q.fin_nil, Q.ownOk_nil, Q.ownOk_cons, Q.hot_v, Q.hot_u, Q.wipe_0, Q.wipe_1, Q.back_0, Q.back_1, Q.slotPos_nil, List.set_cons_zero, List.set_cons_succ, List.getElem?_cons_zero, List.getElem?_cons_succ, List.length_cons, List.length_nil, Nat.zero_add, Nat.reduceAdd, Nat.reduceLeDiff, true_and, and_true, and_self, Bool.not_true, Bool.not_false, List.cons_append, List.nil_append, Q.wput_is, Q.true_imp, imp_self, implies_true, true_or, or_true]
  refine ⟨by decide, wp_forL (fun i e => Env1 ns e) (k := 0) ⟨.un, .un, .un, .un, .un, .un, .un, .un, .un, .un, rfl, rfl, rfl, rfl, rfl, rfl, rfl, rfl, rfl, rfl, rfl, rfl⟩ (fun i d e hd he => ?_) fun e he => ?_⟩
  · obtain ⟨s1, s2, s3, s4, s5, s6, s7, s8, s9, s10, t1, t2, t3, t4, t5, t6, n6, t7, t8, t9, t10, rfl⟩ := he
    rw [rngD_at] at hd
    split at hd
    · rename_i hi
      have hi : i < 2 := hi
      cases hd
      simp only [Q.wp_ok, Q.wp_no, Q.wo_some, Q.wo_none, Q.wo_bind, Q.wo_map, Q.wo_at0, Q.wo_atS, Q.wset_0, Q.wset_S, Q.bnd_val, Q.bnd_hot, Q.wp_eVar, Q.asArg_val, Q.asArg_hot, Q.wp_eArg, Q.wp_eC, Q.wp_cold, Q.wp_toCold_c, Q.wp_toCold_h, Q.chill_val, Q.chill_hot, Q.wp_toCold_s, Q.wp_own, Q.wp_toOwn_c, Q.wp_toOwn_h, Q.wp_toOwn_s, Q.giveBack_val, Q.giveBack_hot, Q.wp_toRet_c, Q.wp_toRet_h, Q.wp_toRet_s, Q.wp_aNil, Q.wp_aCons, Q.wp_bin, Q.wp_una, Q.wp_dat1, Q.wp_dat2, Q.wp_whole2, Q.view_c, Q.view_h, Q.view_s, Q.sview_v, Q.sview_h, Q.data_l, Q.data_d, Q.viewC_c, Q.viewC_h, Q.viewC_s, Q.sviewC_v, Q.sviewC_h, Q.dataC_l, Q.dataC_d, Q.plain_n, Q.plain_b, Q.plain_i, Q.plain_s, Q.plain_l, Q.plain_t, Q.wp_asB, Q.boolR_c, Q.boolS_v, Q.boolR_s, Q.wp_bAnd, Q.wp_bOr, Q.wp_bNot, Q.wp_eAnd, Q.wp_eOr, Q.wp_eNot, Q.wp_eIf, Q.wp_tTrue, Q.wp_sNx, Q.wp_never, Q.seqK_nx, Q.seqK_rt, Q.seqK_bk, Q.seqK_ct, Q.wp_sSeq, Q.wp_sExpr, Q.wp_sRet, Q.wp_sIf, Q.wp_putS, Q.wp_sSet, Q.set_val, Q.set_un, Q.set_hot, Q.sl_cold, Q.sl_hot, Q.wp_sTg, Q.ex_cold, Q.asg_nm, Q.asg_tp, Q.asgs_nil, Q.asgs_cons, Q.wputs_nil, Q.wputs_cons, Q.wp_sPar, Q.colds_nil, Q.colds_c, Q.wp_eTup, Q.wp_eLst, Q.wp_eDic0, Q.viewsC_nil, Q.viewsC_c, Q.wp_eB, Q.toArgs_nil, Q.toArgs_c, Q.lend_hot, Q.toArgs_s, Q.slotPos_c, Q.backA_nil, Q.backA_c, Q.takeBack_hot, Q.backA_s, Q.resR_v, Q.resR_h, Q.wp_callE, Q.resS_c, Q.resS_h, Q.resS_n, Q.wp_eMt, Q.wp_eMt0, Q.chg_lst, Q.wp_mAppend, Q.wp_mPopAt, Q.wp_mPop, Q.wp_mDat, Q.tyD_l, Q.tyD_t, Q.tyD_d, Q.isTy_o, Q.wp_oNone, Q.intD_i, Q.wp_oSome, Q.wp_eCut, Q.cut_l, Q.cut_t, Q.wp_eIsi, Q.wp_eLRg1, Q.wp_iRng1, Q.wp_iRng2, Q.seq_l, Q.seq_t, Q.wp_iCold, Q.wp_iEnumC, Q.walked_v, Q.walked_h, Q.wp_iSlot, Q.unlk_none, Q.wp_sFor, Q.turnK_nx, Q.turnK_ct, Q.turnK_bk, Q.turnK_rt, Q.add_ii, Q.add_ll, Q.add_tt, Q.sub_ii, Q.mul_ii, Q.mul_li, Q.mul_ti, Q.div_ii, Q.mod_ii, Q.pow_ii, Q.neg_i, Q.rev_l, Q.ix_l, Q.ix_t, Q.ix_d, Q.eq_xy, Q.ne_xy, Q.ord_ii, Q.in_w, Q.notin_w, Q.in_l, Q.in_t, Q.is_w, Q.isnot_w, Q.isq_n, Q.isNone_n, Q.isNone_i, Q.isNone_t, Q.isNone_l, Q.len_l, Q.len_t, Q.list_l, Q.list_t, Q.tup_l, Q.tup_t, Q.abs_i, Q.int_i, Q.int_b, Q.min_ii, Q.max_ii, Q.min_l, Q.max_l, Q.sum_l, Q.sort_l, Q.wo_asInts, Q.wo_asInts0, Q.wo_asIntsC, Q.key_i, Q.key_s, Q.wp_eLenSet, Q.lenSet_t, Q.wp_eChain, Q.store_l, Q.store_d, Q.wo_stI, Q.wp_sSub, Q.wp_sAugS, Q.aug_v, Q.wp_sAug, Q.ip_ii, Q.hI_ii, Q.wp_eLenScr, Q.wp_eIxScr, Q.scr_is, Q.cap_iff, Q.rng_iff, Q.lrg_iff, Q.div_iff, Q.mul_iff, Q.pow_iff, Q.size_lt, Q.free_pin, Q.free_lk, Q.lent_lk, Q.ff, Q.ft, Q.tt, Q.ffp, Q.dt, Q.df, Q.ndt, Q.ndf, Q.wo_ret, Q.fin_hot, Q.fin_val, Q.fin_nil, Q.ownOk_nil, Q.ownOk_cons, Q.hot_v, Q.hot_u, Q.wipe_0, Q.wipe_1, Q.back_0, Q.back_1, Q.slotPos_nil, List.set_cons_zero, List.set_cons_succ, List.getElem?_cons_zero, List.getElem?_cons_succ, List.length_cons, List.length_nil, Nat.zero_add, Nat.reduceAdd, Nat.reduceLeDiff, true_and, and_true, and_self, Bool.not_true, Bool.not_false, List.cons_append, List.nil_append, Q.wput_is, Q.true_imp, imp_self, implies_true, true_or, or_true, t1, t2]
      refine wo_imp (law_box ns (0 + (i : Nat)) (by omega)) fun p hp => ?_
      obtain ⟨h, B, rfl⟩ := hp
      simp only [Q.wp_ok, Q.wp_no, Q.wo_some, Q.wo_none, Q.wo_bind, Q.wo_map, Q.wo_at0, Q.wo_atS, Q.wset_0, Q.wset_S, Q.bnd_val, Q.bnd_hot, Q.wp_eVar, Q.asArg_val, Q.asArg_hot, Q.wp_eArg, Q.wp_eC, Q.wp_cold, Q.wp_toCold_c, Q.wp_toCold_h, Q.chill_val, Q.chill_hot, Q.wp_toCold_s, Q.wp_own, Q.wp_toOwn_c, Q.wp_toOwn_h, Q.wp_toOwn_s, Q.giveBack_val, Q.giveBack_hot, Q.wp_toRet_c, Q.wp_toRet_h, Q.wp_toRet_s, Q.wp_aNil, Q.wp_aCons, Q.wp_bin, Q.wp_una, Q.wp_dat1, Q.wp_dat2, Q.wp_whole2, Q.view_c, Q.view_h, Q.view_s, Q.sview_v, Q.sview_h, Q.data_l, Q.data_d, Q.viewC_c, Q.viewC_h, Q.viewC_s, Q.sviewC_v, Q.sviewC_h, Q.dataC_l, Q.dataC_d, Q.plain_n, Q.plain_b, Q.plain_i, Q.plain_s, Q.plain_l, Q.plain_t, Q.wp_asB, Q.boolR_c, Q.boolS_v, Q.boolR_s, Q.wp_bAnd, Q.wp_bOr, Q.wp_bNot, Q.wp_eAnd, Q.wp_eOr, Q.wp_eNot, Q.wp_eIf, Q.wp_tTrue, Q.wp_sNx, Q.wp_never, Q.seqK_nx, Q.seqK_rt, Q.seqK_bk, Q.seqK_ct, Q.wp_sSeq, Q.wp_sExpr, Q.wp_sRet, Q.wp_sIf, Q.wp_putS, Q.wp_sSet, Q.set_val, Q.set_un, Q.set_hot, Q.sl_cold, Q.sl_hot, Q.wp_sTg, Q.ex_cold, Q.asg_nm, Q.asg_tp, Q.asgs_nil, Q.asgs_cons, Q.wputs_nil, Q.wputs_cons, Q.wp_sPar, Q.colds_nil, Q.colds_c, Q.wp_eTup, Q.wp_eLst, Q.wp_eDic0, Q.viewsC_nil, Q.viewsC_c, Q.wp_eB, Q.toArgs_nil, Q.toArgs_c, Q.lend_hot, Q.toArgs_s, Q.slotPos_c, Q.backA_nil, Q.backA_c, Q.takeBack_hot, Q.backA_s, Q.resR_v, Q.resR_h, Q.wp_callE, Q.resS_c, Q.resS_h, Q.resS_n, Q.wp_eMt, Q.wp_eMt0, Q.chg_lst, Q.wp_mAppend, Q.wp_mPopAt, Q.wp_mPop, Q.wp_mDat, Q.tyD_l, Q.tyD_t, Q.tyD_d, Q.isTy_o, Q.wp_oNone, Q.intD_i, Q.wp_oSome, Q.wp_eCut, Q.cut_l, Q.cut_t, Q.wp_eIsi, Q.wp_eLRg1, Q.wp_iRng1, Q.wp_iRng2, Q.seq_l, Q.seq_t, Q.wp_iCold, Q.wp_iEnumC, Q.walked_v, Q.walked_h, Q.wp_iSlot, Q.unlk_none, Q.wp_sFor, Q.turnK_nx, Q.turnK_ct, Q.turnK_bk, Q.turnK_rt, Q.add_ii, Q.add_ll, Q.add_tt, Q.sub_ii, Q.mul_ii, Q.mul_li, Q.mul_ti, Q.div_ii, Q.mod_ii, Q.pow_ii, Q.neg_i, Q.rev_l, Q.ix_l, Q.ix_t, Q.ix_d, Q.eq_xy, Q.ne_xy, Q.ord_ii, Q.in_w, Q.notin_w, Q.in_l, Q.in_t, Q.is_w, Q.isnot_w, Q.isq_n, Q.isNone_n, Q.isNone_i, Q.isNone_t, Q.isNone_l, Q.len_l, Q.len_t, Q.list_l, Q.list_t, Q.tup_l, Q.tup_t, Q.abs_i, Q.int_i, Q.int_b, Q.min_ii, Q.max_ii, Q.min_l, Q.max_l, Q.sum_l, Q.sort_l, Q.wo_asInts, Q.wo_asInts0, Q.wo_asIntsC, Q.key_i, Q.key_s, Q.wp_eLenSet, Q.lenSet_t, Q.wp_eChain, Q.store_l, Q.store_d, Q.wo_stI, Q.wp_sSub, Q.wp_sAugS, Q.aug_v, Q.wp_sAug, Q.ip_ii, Q.hI_ii, Q.wp_eLenScr, Q.wp_eIxScr, Q.scr_is, Q.cap_iff, Q.rng_iff, Q.lrg_iff, Q.div_iff, Q.mul_iff, Q.pow_iff, Q.size_lt, Q.free_pin, Q.free_lk, Q.lent_lk, Q.ff, Q.ft, Q.tt, Q.ffp, Q.dt, Q.df, Q.ndt, Q.ndf, Q.wo_ret, Q.fin_hot, Q.fin_val, Q.fin_nil, Q.ownOk_nil, Q.ownOk_cons, Q.hot_v, Q.hot_u, Q.wipe_0, Q.wipe_1, Q.back_0, Q.back_1, Q.slotPos_nil, List.set_cons_zero, List.set_cons_succ, List.getElem?_cons_zero, List.getElem?_cons_succ, List.length_cons, List.length_nil, Nat.zero_add, Nat.reduceAdd, Nat.reduceLeDiff, true_and, and_true, and_self, Bool.not_true, Bool.not_false, List.cons_append, List.nil_append, Q.wput_is, Q.true_imp, imp_self, implies_true, true_or, or_true, t2]
      refine wo_imp (law_touches h B Md.lent rfl) fun p hp => ?_
      obtain ⟨ts, h1, W, B1, rfl⟩ := hp
      have few := W.few
      have u1 := rooms_moves W
      have u2 := touch_depths W
      simp only [Q.wp_ok, Q.wp_no, Q.wo_some, Q.wo_none, Q.wo_bind, Q.wo_map, Q.wo_at0, Q.wo_atS, Q.wset_0, Q.wset_S, Q.bnd_val, Q.bnd_hot, Q.wp_eVar, Q.asArg_val, Q.asArg_hot, Q.wp_eArg, Q.wp_eC, Q.wp_cold, Q.wp_toCold_c, Q.wp_toCold_h, Q.chill_val, Q.chill_hot, Q.wp_toCold_s, Q.wp_own, Q.wp_toOwn_c, Q.wp_toOwn_h, Q.wp_toOwn_s, Q.giveBack_val, Q.giveBack_hot, Q.wp_toRet_c, Q.wp_toRet_h, Q.wp_toRet_s, Q.wp_aNil, Q.wp_aCons, Q.wp_bin, Q.wp_una, Q.wp_dat1, Q.wp_dat2, Q.wp_whole2, Q.view_c, Q.view_h, Q.view_s, Q.sview_v, Q.sview_h, Q.data_l, Q.data_d, Q.viewC_c, Q.viewC_h, Q.viewC_s, Q.sviewC_v, Q.sviewC_h, Q.dataC_l, Q.dataC_d, Q.plain_n, Q.plain_b, Q.plain_i, Q.plain_s, Q.plain_l, Q.plain_t, Q.wp_asB, Q.boolR_c, Q.boolS_v, Q.boolR_s, Q.wp_bAnd, Q.wp_bOr, Q.wp_bNot, Q.wp_eAnd, Q.wp_eOr, Q.wp_eNot, Q.wp_eIf, Q.wp_tTrue, Q.wp_sNx, Q.wp_never, Q.seqK_nx, Q.seqK_rt, Q.seqK_bk, Q.seqK_ct, Q.wp_sSeq, Q.wp_sExpr, Q.wp_sRet, Q.wp_sIf, Q.wp_putS, Q.wp_sSet, Q.set_val, Q.set_un, Q.set_hot, Q.sl_cold, Q.sl_hot, Q.wp_sTg, Q.ex_cold, Q.asg_nm, Q.asg_tp, Q.asgs_nil, Q.asgs_cons, Q.wputs_nil, Q.wputs_cons, Q.wp_sPar, Q.colds_nil, Q.colds_c, Q.wp_eTup, Q.wp_eLst, Q.wp_eDic0, Q.viewsC_nil, Q.viewsC_c, Q.wp_eB, Q.toArgs_nil, Q.toArgs_c, Q.lend_hot, Q.toArgs_s, Q.slotPos_c, Q.backA_nil, Q.backA_c, Q.takeBack_hot, Q.backA_s, Q.resR_v, Q.resR_h, Q.wp_callE, Q.resS_c, Q.resS_h, Q.resS_n, Q.wp_eMt, Q.wp_eMt0, Q.chg_lst, Q.wp_mAppend, Q.wp_mPopAt, Q.wp_mPop, Q.wp_mDat, Q.tyD_l, Q.tyD_t, Q.tyD_d, Q.isTy_o, Q.wp_oNone, Q.intD_i, Q.wp_oSome, Q.wp_eCut, Q.cut_l, Q.cut_t, Q.wp_eIsi, Q.wp_eLRg1, Q.wp_iRng1, Q.wp_iRng2, Q.seq_l, Q.seq_t, Q.wp_iCold, Q.wp_iEnumC, Q.walked_v, Q.walked_h, Q.wp_iSlot, Q.unlk_none, Q.wp_sFor, Q.turnK_nx, Q.turnK_ct, Q.turnK_bk, Q.turnK_rt, Q.add_ii, Q.add_ll, Q.add_tt, Q.sub_ii, Q.mul_ii, Q.mul_li, Q.mul_ti, Q.div_ii, Q.mod_ii, Q.pow_ii, Q.neg_i, Q.rev_l, Q.ix_l, Q.ix_t, Q.ix_d, Q.eq_xy, Q.ne_xy, Q.ord_ii, Q.in_w, Q.notin_w, Q.in_l, Q.in_t, Q.is_w, Q.isnot_w, Q.isq_n, Q.isNone_n, Q.isNone_i, Q.isNone_t, Q.isNone_l, Q.len_l, Q.len_t, Q.list_l, Q.list_t, Q.tup_l, Q.tup_t, Q.abs_i, Q.int_i, Q.int_b, Q.min_ii, Q.max_ii, Q.min_l, Q.max_l, Q.sum_l, Q.sort_l, Q.wo_asInts, Q.wo_asInts0, Q.wo_asIntsC, Q.key_i, Q.key_s, Q.wp_eLenSet, Q.lenSet_t, Q.wp_eChain, Q.store_l, Q.store_d, Q.wo_stI, Q.wp_sSub, Q.wp_sAugS, Q.aug_v, Q.wp_sAug, Q.ip_ii, Q.hI_ii, Q.wp_eLenScr, Q.wp_eIxScr, Q.scr_is, Q.cap_iff, Q.rng_iff, Q.lrg_iff, Q.div_iff, Q.mul_iff, Q.pow_iff, Q.size_lt, Q.free_pin, Q.free_lk, Q.lent_lk, Q.ff, Q.ft, Q.tt, Q.ffp, Q.dt, Q.df, Q.ndt, Q.ndf, Q.wo_ret, Q.fin_hot, Q.fin_val, Q.fin_nil, Q.ownOk_nil, Q.ownOk_cons, Q.hot_v, Q.hot_u, Q.wipe_0, Q.wipe_1, Q.back_0, Q.back_1, Q.slotPos_nil, List.set_cons_zero, List.set_cons_succ, List.getElem?_cons_zero, List.getElem?_cons_succ, List.length_cons, List.length_nil, Nat.zero_add, Nat.reduceAdd, Nat.reduceLeDiff, true_and, and_true, and_self, Bool.not_true, Bool.not_false, List.cons_append, List.nil_append, Q.wput_is, Q.true_imp, imp_self, implies_true, true_or, or_true, t3, t4, t5, t6, n6, lenSet_t, u1, u2]
      refine ⟨by omega, ?_⟩
      have ur := ul20 few
      have ud := us_len ts
      have row1 := law_is_row ((List.range (usort ts).length).map fun k => (misses ts k : Int)) (by simp; omega) (dedupI ts).length
      have tr1 : decide ((((List.range (usort ts).length).map fun k => (misses ts k : Int)).length : Int) = (dedupI ts).length) = true := by simp; omega
      rw [tr1] at row1
      refine wo_of row1 ?_
      simp only [Q.wp_ok, Q.wp_no, Q.wo_some, Q.wo_none, Q.wo_bind, Q.wo_map, Q.wo_at0, Q.wo_atS, Q.wset_0, Q.wset_S, Q.bnd_val, Q.bnd_hot, Q.wp_eVar, Q.asArg_val, Q.asArg_hot, Q.wp_eArg, Q.wp_eC, Q.wp_cold, Q.wp_toCold_c, Q.wp_toCold_h, Q.chill_val, Q.chill_hot, Q.wp_toCold_s, Q.wp_own, Q.wp_toOwn_c, Q.wp_toOwn_h, Q.wp_toOwn_s, Q.giveBack_val, Q.giveBack_hot, Q.wp_toRet_c, Q.wp_toRet_h, Q.wp_toRet_s, Q.wp_aNil, Q.wp_aCons, Q.wp_bin, Q.wp_una, Q.wp_dat1, Q.wp_dat2, Q.wp_whole2, Q.view_c, Q.view_h, Q.view_s, Q.sview_v, Q.sview_h, Q.data_l, Q.data_d, Q.viewC_c, Q.viewC_h, Q.viewC_s, Q.sviewC_v, Q.sviewC_h, Q.dataC_l, Q.dataC_d, Q.plain_n, Q.plain_b, Q.plain_i, Q.plain_s, Q.plain_l, Q.plain_t, Q.wp_asB, Q.boolR_c, Q.boolS_v, Q.boolR_s, Q.wp_bAnd, Q.wp_bOr, Q.wp_bNot, Q.wp_eAnd, Q.wp_eOr, Q.wp_eNot, Q.wp_eIf, Q.wp_tTrue, Q.wp_sNx, Q.wp_never, Q.seqK_nx, Q.seqK_rt, Q.seqK_bk, Q.seqK_ct, Q.wp_sSeq, Q.wp_sExpr, Q.wp_sRet, Q.wp_sIf, Q.wp_putS, Q.wp_sSet, Q.set_val, Q.set_un, Q.set_hot, Q.sl_cold, Q.sl_hot, Q.wp_sTg, Q.ex_cold, Q.asg_nm, Q.asg_tp, Q.asgs_nil, Q.asgs_cons, Q.wputs_nil, Q.wputs_cons, Q.wp_sPar, Q.colds_nil, Q.colds_c, Q.wp_eTup, Q.wp_eLst, Q.wp_eDic0, Q.viewsC_nil, Q.viewsC_c, Q.wp_eB, Q.toArgs_nil, Q.toArgs_c, Q.lend_hot, Q.toArgs_s, Q.slotPos_c, Q.backA_nil, Q.backA_c, Q.takeBack_hot, Q.backA_s, Q.resR_v, Q.resR_h, Q.wp_callE, Q.resS_c, Q.resS_h, Q.resS_n, Q.wp_eMt, Q.wp_eMt0, Q.chg_lst, Q.wp_mAppend, Q.wp_mPopAt, Q.wp_mPop, Q.wp_mDat, Q.tyD_l, Q.tyD_t, Q.tyD_d, Q.isTy_o, Q.wp_oNone, Q.intD_i, Q.wp_oSome, Q.wp_eCut, Q.cut_l, Q.cut_t, Q.wp_eIsi, Q.wp_eLRg1, Q.wp_iRng1, Q.wp_iRng2, Q.seq_l, Q.seq_t, Q.wp_iCold, Q.wp_iEnumC, Q.walked_v, Q.walked_h, Q.wp_iSlot, Q.unlk_none, Q.wp_sFor, Q.turnK_nx, Q.turnK_ct, Q.turnK_bk, Q.turnK_rt, Q.add_ii, Q.add_ll, Q.add_tt, Q.sub_ii, Q.mul_ii, Q.mul_li, Q.mul_ti, Q.div_ii, Q.mod_ii, Q.pow_ii, Q.neg_i, Q.rev_l, Q.ix_l, Q.ix_t, Q.ix_d, Q.eq_xy, Q.ne_xy, Q.ord_ii, Q.in_w, Q.notin_w, Q.in_l, Q.in_t, Q.is_w, Q.isnot_w, Q.isq_n, Q.isNone_n, Q.isNone_i, Q.isNone_t, Q.isNone_l, Q.len_l, Q.len_t, Q.list_l, Q.list_t, Q.tup_l, Q.tup_t, Q.abs_i, Q.int_i, Q.int_b, Q.min_ii, Q.max_ii, Q.min_l, Q.max_l, Q.sum_l, Q.sort_l, Q.wo_asInts, Q.wo_asInts0, Q.wo_asIntsC, Q.key_i, Q.key_s, Q.wp_eLenSet, Q.lenSet_t, Q.wp_eChain, Q.store_l, Q.store_d, Q.wo_stI, Q.wp_sSub, Q.wp_sAugS, Q.aug_v, Q.wp_sAug, Q.ip_ii, Q.hI_ii, Q.wp_eLenScr, Q.wp_eIxScr, Q.scr_is, Q.cap_iff, Q.rng_iff, Q.lrg_iff, Q.div_iff, Q.mul_iff, Q.pow_iff, Q.size_lt, Q.free_pin, Q.free_lk, Q.lent_lk, Q.ff, Q.ft, Q.tt, Q.ffp, Q.dt, Q.df, Q.ndt, Q.ndf, Q.wo_ret, Q.fin_hot, Q.fin_val, Q.fin_nil, Q.ownOk_nil, Q.ownOk_cons, Q.hot_v, Q.hot_u, Q.wipe_0, Q.wipe_1, Q.back_0, Q.back_1, Q.slotPos_nil, List.set_cons_zero, List.set_cons_succ, List.getElem?_cons_zero, List.getElem?_cons_succ, List.length_cons, List.length_nil, Nat.zero_add, Nat.reduceAdd, Nat.reduceLeDiff, true_and, and_true, and_self, Bool.not_true, Bool.not_false, List.cons_append, List.nil_append, Q.wput_is, Q.true_imp, imp_self, implies_true, true_or, or_true]
      refine wp_eLc (fun _ => true) (onK (fun k => .int (misses ts k : Nat)) .none) rfl ?_
      simp only [Q.wp_ok, Q.wp_no, Q.wo_some, Q.wo_none, Q.wo_bind, Q.wo_map, Q.wo_at0, Q.wo_atS, Q.wset_0, Q.wset_S, Q.bnd_val, Q.bnd_hot, Q.wp_eVar, Q.asArg_val, Q.asArg_hot, Q.wp_eArg, Q.wp_eC, Q.wp_cold, Q.wp_toCold_c, Q.wp_toCold_h, Q.chill_val, Q.chill_hot, Q.wp_toCold_s, Q.wp_own, Q.wp_toOwn_c, Q.wp_toOwn_h, Q.wp_toOwn_s, Q.giveBack_val, Q.giveBack_hot, Q.wp_toRet_c, Q.wp_toRet_h, Q.wp_toRet_s, Q.wp_aNil, Q.wp_aCons, Q.wp_bin, Q.wp_una, Q.wp_dat1, Q.wp_dat2, Q.wp_whole2, Q.view_c, Q.view_h, Q.view_s, Q.sview_v, Q.sview_h, Q.data_l, Q.data_d, Q.viewC_c, Q.viewC_h, Q.viewC_s, Q.sviewC_v, Q.sviewC_h, Q.dataC_l, Q.dataC_d, Q.plain_n, Q.plain_b, Q.plain_i, Q.plain_s, Q.plain_l, Q.plain_t, Q.wp_asB, Q.boolR_c, Q.boolS_v, Q.boolR_s, Q.wp_bAnd, Q.wp_bOr, Q.wp_bNot, Q.wp_eAnd, Q.wp_eOr, Q.wp_eNot, Q.wp_eIf, Q.wp_tTrue, Q.wp_sNx, Q.wp_never, Q.seqK_nx, Q.seqK_rt, Q.seqK_bk, Q.seqK_ct, Q.wp_sSeq, Q.wp_sExpr, Q.wp_sRet, Q.wp_sIf, Q.wp_putS, Q.wp_sSet, Q.set_val, Q.set_un, Q.set_hot, Q.sl_cold, Q.sl_hot, Q.wp_sTg, Q.ex_cold, Q.asg_nm, Q.asg_tp, Q.asgs_nil, Q.asgs_cons, Q.wputs_nil, Q.wputs_cons, Q.wp_sPar, Q.colds_nil, Q.colds_c, Q.wp_eTup, Q.wp_eLst, Q.wp_eDic0, Q.viewsC_nil, Q.viewsC_c, Q.wp_eB, Q.toArgs_nil, Q.toArgs_c, Q.lend_hot, Q.toArgs_s, Q.slotPos_c, Q.backA_nil, Q.backA_c, Q.takeBack_hot, Q.backA_s, Q.resR_v, Q.resR_h, Q.wp_callE, Q.resS_c, Q.resS_h, Q.resS_n, Q.wp_eMt, Q.wp_eMt0, Q.chg_lst, Q.wp_mAppend, Q.wp_mPopAt, Q.wp_mPop, Q.wp_mDat, Q.tyD_l, Q.tyD_t, Q.tyD_d, Q.isTy_o, Q.wp_oNone, Q.intD_i, Q.wp_oSome, Q.wp_eCut, Q.cut_l, Q.cut_t, Q.wp_eIsi, Q.wp_eLRg1, Q.wp_iRng1, Q.wp_iRng2, Q.seq_l, Q.seq_t, Q.wp_iCold, Q.wp_iEnumC, Q.walked_v, Q.walked_h, Q.wp_iSlot, Q.unlk_none, Q.wp_sFor, Q.turnK_nx, Q.turnK_ct, Q.turnK_bk, Q.turnK_rt, Q.add_ii, Q.add_ll, Q.add_tt, Q.sub_ii, Q.mul_ii, Q.mul_li, Q.mul_ti, Q.div_ii, Q.mod_ii, Q.pow_ii, Q.neg_i, Q.rev_l, Q.ix_l, Q.ix_t, Q.ix_d, Q.eq_xy, Q.ne_xy, Q.ord_ii, Q.in_w, Q.notin_w, Q.in_l, Q.in_t, Q.is_w, Q.isnot_w, Q.isq_n, Q.isNone_n, Q.isNone_i, Q.isNone_t, Q.isNone_l, Q.len_l, Q.len_t, Q.list_l, Q.list_t, Q.tup_l, Q.tup_t, Q.abs_i, Q.int_i, Q.int_b, Q.min_ii, Q.max_ii, Q.min_l, Q.max_l, Q.sum_l, Q.sort_l, Q.wo_asInts, Q.wo_asInts0, Q.wo_asIntsC, Q.key_i, Q.key_s, Q.wp_eLenSet, Q.lenSet_t, Q.wp_eChain, Q.store_l, Q.store_d, Q.wo_stI, Q.wp_sSub, Q.wp_sAugS, Q.aug_v, Q.wp_sAug, Q.ip_ii, Q.hI_ii, Q.wp_eLenScr, Q.wp_eIxScr, Q.scr_is, Q.cap_iff, Q.rng_iff, Q.lrg_iff, Q.div_iff, Q.mul_iff, Q.pow_iff, Q.size_lt, Q.free_pin, Q.free_lk, Q.lent_lk, Q.ff, Q.ft, Q.tt, Q.ffp, Q.dt, Q.df, Q.ndt, Q.ndf, Q.wo_ret, Q.fin_hot, Q.fin_val, Q.fin_nil, Q.ownOk_nil, Q.ownOk_cons, Q.hot_v, Q.hot_u, Q.wipe_0, Q.wipe_1, Q.back_0, Q.back_1, Q.slotPos_nil, List.set_cons_zero, List.set_cons_succ, List.getElem?_cons_zero, List.getElem?_cons_succ, List.length_cons, List.length_nil, Nat.zero_add, Nat.reduceAdd, Nat.reduceLeDiff, true_and, and_true, and_self, Bool.not_true, Bool.not_false, List.cons_append, List.nil_append, Q.wput_is, Q.true_imp, imp_self, implies_true, true_or, or_true, n6]
      refine ⟨⟨⟨by omega, by omega⟩, by omega, by omega⟩, by rw [rngD_len]; omega, fun d hd => ?_, ?_⟩
      · rw [range1] at hd
        obtain ⟨k, hk, rfl⟩ := List.mem_map.mp hd
        have hk := List.mem_range.mp hk
        simp only [Q.wp_ok, Q.wp_no, Q.wo_some, Q.wo_none, Q.wo_bind, Q.wo_map, Q.wo_at0, Q.wo_atS, Q.wset_0, Q.wset_S, Q.bnd_val, Q.bnd_hot, Q.wp_eVar, Q.asArg_val, Q.asArg_hot, Q.wp_eArg, Q.wp_eC, Q.wp_cold, Q.wp_toCold_c, Q.wp_toCold_h, Q.chill_val, Q.chill_hot, Q.wp_toCold_s, Q.wp_own, Q.wp_toOwn_c, Q.wp_toOwn_h, Q.wp_toOwn_s, Q.giveBack_val, Q.giveBack_hot, Q.wp_toRet_c, Q.wp_toRet_h, Q.wp_toRet_s, Q.wp_aNil, Q.wp_aCons, Q.wp_bin, Q.wp_una, Q.wp_dat1, Q.wp_dat2, Q.wp_whole2, Q.view_c, Q.view_h, Q.view_s, Q.sview_v, Q.sview_h, Q.data_l, Q.data_d, Q.viewC_c, Q.viewC_h, Q.viewC_s, Q.sviewC_v, Q.sviewC_h, Q.dataC_l, Q.dataC_d, Q.plain_n, Q.plain_b, Q.plain_i, Q.plain_s, Q.plain_l, Q.plain_t, Q.wp_asB, Q.boolR_c, Q.boolS_v, Q.boolR_s, Q.wp_bAnd, Q.wp_bOr, Q.wp_bNot, Q.wp_eAnd, Q.wp_eOr, Q.wp_eNot, Q.wp_eIf, Q.wp_tTrue, Q.wp_sNx, Q.wp_never, Q.seqK_nx, Q.seqK_rt, Q.seqK_bk, Q.seqK_ct, Q.wp_sSeq, Q.wp_sExpr, Q.wp_sRet, Q.wp_sIf, Q.wp_putS, Q.wp_sSet, Q.set_val, Q.set_un, Q.set_hot, Q.sl_cold, Q.sl_hot, Q.wp_sTg, Q.ex_cold, Q.asg_nm, Q.asg_tp, Q.asgs_nil, Q.asgs_cons, Q.wputs_nil, Q.wputs_cons, Q.wp_sPar, Q.colds_nil, Q.colds_c, Q.wp_eTup, Q.wp_eLst, Q.wp_eDic0, Q.viewsC_nil, Q.viewsC_c, Q.wp_eB, Q.toArgs_nil, Q.toArgs_c, Q.lend_hot, Q.toArgs_s, Q.slotPos_c, Q.backA_nil, Q.backA_c, Q.takeBack_hot, Q.backA_s, Q.resR_v, Q.resR_h, Q.wp_callE, Q.resS_c, Q.resS_h, Q.resS_n, Q.wp_eMt, Q.wp_eMt0, Q.chg_lst, Q.wp_mAppend, Q.wp_mPopAt, Q.wp_mPop, Q.wp_mDat, Q.tyD_l, Q.tyD_t, Q.tyD_d, Q.isTy_o, Q.wp_oNone, Q.intD_i, Q.wp_oSome, Q.wp_eCut, Q.cut_l, Q.cut_t, Q.wp_eIsi, Q.wp_eLRg1, Q.wp_iRng1, Q.wp_iRng2, Q.seq_l, Q.seq_t, Q.wp_iCold, Q.wp_iEnumC, Q.walked_v, Q.walked_h, Q.wp_iSlot, Q.unlk_none, Q.wp_sFor, Q.turnK_nx, Q.turnK_ct, Q.turnK_bk, Q.turnK_rt, Q.add_ii, Q.add_ll, Q.add_tt, Q.sub_ii, Q.mul_ii, Q.mul_li, Q.mul_ti, Q.div_ii, Q.mod_ii, Q.pow_ii, Q.neg_i, Q.rev_l, Q.ix_l, Q.ix_t, Q.ix_d, Q.eq_xy, Q.ne_xy, Q.ord_ii, Q.in_w, Q.notin_w, Q.in_l, Q.in_t, Q.is_w, Q.isnot_w, Q.isq_n, Q.isNone_n, Q.isNone_i, Q.isNone_t, Q.isNone_l, Q.len_l, Q.len_t, Q.list_l, Q.list_t, Q.tup_l, Q.tup_t, Q.abs_i, Q.int_i, Q.int_b, Q.min_ii, Q.max_ii, Q.min_l, Q.max_l, Q.sum_l, Q.sort_l, Q.wo_asInts, Q.wo_asInts0, Q.wo_asIntsC, Q.key_i, Q.key_s, Q.wp_eLenSet, Q.lenSet_t, Q.wp_eChain, Q.store_l, Q.store_d, Q.wo_stI, Q.wp_sSub, Q.wp_sAugS, Q.aug_v, Q.wp_sAug, Q.ip_ii, Q.hI_ii, Q.wp_eLenScr, Q.wp_eIxScr, Q.scr_is, Q.cap_iff, Q.rng_iff, Q.lrg_iff, Q.div_iff, Q.mul_iff, Q.pow_iff, Q.size_lt, Q.free_pin, Q.free_lk, Q.lent_lk, Q.ff, Q.ft, Q.tt, Q.ffp, Q.dt, Q.df, Q.ndt, Q.ndf, Q.wo_ret, Q.fin_hot, Q.fin_val, Q.fin_nil, Q.ownOk_nil, Q.ownOk_cons, Q.hot_v, Q.hot_u, Q.wipe_0, Q.wipe_1, Q.back_0, Q.back_1, Q.slotPos_nil, List.set_cons_zero, List.set_cons_succ, List.getElem?_cons_zero, List.getElem?_cons_succ, List.length_cons, List.length_nil, Nat.zero_add, Nat.reduceAdd, Nat.reduceLeDiff, true_and, and_true, and_self, Bool.not_true, Bool.not_false, List.cons_append, List.nil_append, Q.wput_is, Q.true_imp, imp_self, implies_true, true_or, or_true, onK_int]
        rw [show ((k : Nat) : Int) + 1 = ((k + 1 : Nat) : Int) by omega]
        refine wo_of (law_least (ts := ts) few (r := k + 1) (by omega) (by omega)) ?_
        simp only [Q.wp_ok, Q.wp_no, Q.wo_some, Q.wo_none, Q.wo_bind, Q.wo_map, Q.wo_at0, Q.wo_atS, Q.wset_0, Q.wset_S, Q.bnd_val, Q.bnd_hot, Q.wp_eVar, Q.asArg_val, Q.asArg_hot, Q.wp_eArg, Q.wp_eC, Q.wp_cold, Q.wp_toCold_c, Q.wp_toCold_h, Q.chill_val, Q.chill_hot, Q.wp_toCold_s, Q.wp_own, Q.wp_toOwn_c, Q.wp_toOwn_h, Q.wp_toOwn_s, Q.giveBack_val, Q.giveBack_hot, Q.wp_toRet_c, Q.wp_toRet_h, Q.wp_toRet_s, Q.wp_aNil, Q.wp_aCons, Q.wp_bin, Q.wp_una, Q.wp_dat1, Q.wp_dat2, Q.wp_whole2, Q.view_c, Q.view_h, Q.view_s, Q.sview_v, Q.sview_h, Q.data_l, Q.data_d, Q.viewC_c, Q.viewC_h, Q.viewC_s, Q.sviewC_v, Q.sviewC_h, Q.dataC_l, Q.dataC_d, Q.plain_n, Q.plain_b, Q.plain_i, Q.plain_s, Q.plain_l, Q.plain_t, Q.wp_asB, Q.boolR_c, Q.boolS_v, Q.boolR_s, Q.wp_bAnd, Q.wp_bOr, Q.wp_bNot, Q.wp_eAnd, Q.wp_eOr, Q.wp_eNot, Q.wp_eIf, Q.wp_tTrue, Q.wp_sNx, Q.wp_never, Q.seqK_nx, Q.seqK_rt, Q.seqK_bk, Q.seqK_ct, Q.wp_sSeq, Q.wp_sExpr, Q.wp_sRet, Q.wp_sIf, Q.wp_putS, Q.wp_sSet, Q.set_val, Q.set_un, Q.set_hot, Q.sl_cold, Q.sl_hot, Q.wp_sTg, Q.ex_cold, Q.asg_nm, Q.asg_tp, Q.asgs_nil, Q.asgs_cons, Q.wputs_nil, Q.wputs_cons, Q.wp_sPar, Q.colds_nil, Q.colds_c, Q.wp_eTup, Q.wp_eLst, Q.wp_eDic0, Q.viewsC_nil, Q.viewsC_c, Q.wp_eB, Q.toArgs_nil, Q.toArgs_c, Q.lend_hot, Q.toArgs_s, Q.slotPos_c, Q.backA_nil, Q.backA_c, Q.takeBack_hot, Q.backA_s, Q.resR_v, Q.resR_h, Q.wp_callE, Q.resS_c, Q.resS_h, Q.resS_n, Q.wp_eMt, Q.wp_eMt0, Q.chg_lst, Q.wp_mAppend, Q.wp_mPopAt, Q.wp_mPop, Q.wp_mDat, Q.tyD_l, Q.tyD_t, Q.tyD_d, Q.isTy_o, Q.wp_oNone, Q.intD_i, Q.wp_oSome, Q.wp_eCut, Q.cut_l, Q.cut_t, Q.wp_eIsi, Q.wp_eLRg1, Q.wp_iRng1, Q.wp_iRng2, Q.seq_l, Q.seq_t, Q.wp_iCold, Q.wp_iEnumC, Q.walked_v, Q.walked_h, Q.wp_iSlot, Q.unlk_none, Q.wp_sFor, Q.turnK_nx, Q.turnK_ct, Q.turnK_bk, Q.turnK_rt, Q.add_ii, Q.add_ll, Q.add_tt, Q.sub_ii, Q.mul_ii, Q.mul_li, Q.mul_ti, Q.div_ii, Q.mod_ii, Q.pow_ii, Q.neg_i, Q.rev_l, Q.ix_l, Q.ix_t, Q.ix_d, Q.eq_xy, Q.ne_xy, Q.ord_ii, Q.in_w, Q.notin_w, Q.in_l, Q.in_t, Q.is_w, Q.isnot_w, Q.isq_n, Q.isNone_n, Q.isNone_i, Q.isNone_t, Q.isNone_l, Q.len_l, Q.len_t, Q.list_l, Q.list_t, Q.tup_l, Q.tup_t, Q.abs_i, Q.int_i, Q.int_b, Q.min_ii, Q.max_ii, Q.min_l, Q.max_l, Q.sum_l, Q.sort_l, Q.wo_asInts, Q.wo_asInts0, Q.wo_asIntsC, Q.key_i, Q.key_s, Q.wp_eLenSet, Q.lenSet_t, Q.wp_eChain, Q.store_l, Q.store_d, Q.wo_stI, Q.wp_sSub, Q.wp_sAugS, Q.aug_v, Q.wp_sAug, Q.ip_ii, Q.hI_ii, Q.wp_eLenScr, Q.wp_eIxScr, Q.scr_is, Q.cap_iff, Q.rng_iff, Q.lrg_iff, Q.div_iff, Q.mul_iff, Q.pow_iff, Q.size_lt, Q.free_pin, Q.free_lk, Q.lent_lk, Q.ff, Q.ft, Q.tt, Q.ffp, Q.dt, Q.df, Q.ndt, Q.ndf, Q.wo_ret, Q.fin_hot, Q.fin_val, Q.fin_nil, Q.ownOk_nil, Q.ownOk_cons, Q.hot_v, Q.hot_u, Q.wipe_0, Q.wipe_1, Q.back_0, Q.back_1, Q.slotPos_nil, List.set_cons_zero, List.set_cons_succ, List.getElem?_cons_zero, List.getElem?_cons_succ, List.length_cons, List.length_nil, Nat.zero_add, Nat.reduceAdd, Nat.reduceLeDiff, true_and, and_true, and_self, Bool.not_true, Bool.not_false, List.cons_append, List.nil_append, Q.wput_is, Q.true_imp, imp_self, implies_true, true_or, or_true]
        rw [show ((((k + 1 : Nat)) : Int) - 1).toNat = k by omega, misses_ok]
      · rw [filter_all, range1]
        have e5 : ((List.range (dedupI ts).length).map fun (k : Nat) => PySem.PyData.int (((k : Nat) : Int) + 1)).map (onK (fun k => PySem.PyData.int (misses ts k : Nat)) .none) = ((List.range (usort ts).length).map fun k => (misses ts k : Int)).map .int := by
          rw [ud, List.map_map, List.map_map]
          refine List.map_congr_left fun kk _ => ?_
          show onK _ _ (.int _) = _
          rw [onK_int, show (((kk : Nat) : Int) + 1 - 1).toNat = kk by omega]; rfl
        rw [e5]
        generalize (List.range (usort ts).length).map (fun k => (misses ts k : Int)) = ms
        simp only [Q.wp_ok, Q.wp_no, Q.wo_some, Q.wo_none, Q.wo_bind, Q.wo_map, Q.wo_at0, Q.wo_atS, Q.wset_0, Q.wset_S, Q.bnd_val, Q.bnd_hot, Q.wp_eVar, Q.asArg_val, Q.asArg_hot, Q.wp_eArg, Q.wp_eC, Q.wp_cold, Q.wp_toCold_c, Q.wp_toCold_h, Q.chill_val, Q.chill_hot, Q.wp_toCold_s, Q.wp_own, Q.wp_toOwn_c, Q.wp_toOwn_h, Q.wp_toOwn_s, Q.giveBack_val, Q.giveBack_hot, Q.wp_toRet_c, Q.wp_toRet_h, Q.wp_toRet_s, Q.wp_aNil, Q.wp_aCons, Q.wp_bin, Q.wp_una, Q.wp_dat1, Q.wp_dat2, Q.wp_whole2, Q.view_c, Q.view_h, Q.view_s, Q.sview_v, Q.sview_h, Q.data_l, Q.data_d, Q.viewC_c, Q.viewC_h, Q.viewC_s, Q.sviewC_v, Q.sviewC_h, Q.dataC_l, Q.dataC_d, Q.plain_n, Q.plain_b, Q.plain_i, Q.plain_s, Q.plain_l, Q.plain_t, Q.wp_asB, Q.boolR_c, Q.boolS_v, Q.boolR_s, Q.wp_bAnd, Q.wp_bOr, Q.wp_bNot, Q.wp_eAnd, Q.wp_eOr, Q.wp_eNot, Q.wp_eIf, Q.wp_tTrue, Q.wp_sNx, Q.wp_never, Q.seqK_nx, Q.seqK_rt, Q.seqK_bk, Q.seqK_ct, Q.wp_sSeq, Q.wp_sExpr, Q.wp_sRet, Q.wp_sIf, Q.wp_putS, Q.wp_sSet, Q.set_val, Q.set_un, Q.set_hot, Q.sl_cold, Q.sl_hot, Q.wp_sTg, Q.ex_cold, Q.asg_nm, Q.asg_tp, Q.asgs_nil, Q.asgs_cons, Q.wputs_nil, Q.wputs_cons, Q.wp_sPar, Q.colds_nil, Q.colds_c, Q.wp_eTup, Q.wp_eLst, Q.wp_eDic0, Q.viewsC_nil, Q.viewsC_c, Q.wp_eB, Q.toArgs_nil, Q.toArgs_c, Q.lend_hot, Q.toArgs_s, Q.slotPos_c, Q.backA_nil, Q.backA_c, Q.takeBack_hot, Q.backA_s, Q.resR_v, Q.resR_h, Q.wp_callE, Q.resS_c, Q.resS_h, Q.resS_n, Q.wp_eMt, Q.wp_eMt0, Q.chg_lst, Q.wp_mAppend, Q.wp_mPopAt, Q.wp_mPop, Q.wp_mDat, Q.tyD_l, Q.tyD_t, Q.tyD_d, Q.isTy_o, Q.wp_oNone, Q.intD_i, Q.wp_oSome, Q.wp_eCut, Q.cut_l, Q.cut_t, Q.wp_eIsi, Q.wp_eLRg1, Q.wp_iRng1, Q.wp_iRng2, Q.seq_l, Q.seq_t, Q.wp_iCold, Q.wp_iEnumC, Q.walked_v, Q.walked_h, Q.wp_iSlot, Q.unlk_none, Q.wp_sFor, Q.turnK_nx, Q.turnK_ct, Q.turnK_bk, Q.turnK_rt, Q.add_ii, Q.add_ll, Q.add_tt, Q.sub_ii, Q.mul_ii, Q.mul_li, Q.mul_ti, Q.div_ii, Q.mod_ii, Q.pow_ii, Q.neg_i, Q.rev_l, Q.ix_l, Q.ix_t, Q.ix_d, Q.eq_xy, Q.ne_xy, Q.ord_ii, Q.in_w, Q.notin_w, Q.in_l, Q.in_t, Q.is_w, Q.isnot_w, Q.isq_n, Q.isNone_n, Q.isNone_i, Q.isNone_t, Q.isNone_l, Q.len_l, Q.len_t, Q.list_l, Q.list_t, Q.tup_l, Q.tup_t, Q.abs_i, Q.int_i, Q.int_b, Q.min_ii, Q.max_ii, Q.min_l, Q.max_l, Q.sum_l, Q.sort_l, Q.wo_asInts, Q.wo_asInts0, Q.wo_asIntsC, Q.key_i, Q.key_s, Q.wp_eLenSet, Q.lenSet_t, Q.wp_eChain, Q.store_l, Q.store_d, Q.wo_stI, Q.wp_sSub, Q.wp_sAugS, Q.aug_v, Q.wp_sAug, Q.ip_ii, Q.hI_ii, Q.wp_eLenScr, Q.wp_eIxScr, Q.scr_is, Q.cap_iff, Q.rng_iff, Q.lrg_iff, Q.div_iff, Q.mul_iff, Q.pow_iff, Q.size_lt, Q.free_pin, Q.free_lk, Q.lent_lk, Q.ff, Q.ft, Q.tt, Q.ffp, Q.dt, Q.df, Q.ndt, Q.ndf, Q.wo_ret, Q.fin_hot, Q.fin_val, Q.fin_nil, Q.ownOk_nil, Q.ownOk_cons, Q.hot_v, Q.hot_u, Q.wipe_0, Q.wipe_1, Q.back_0, Q.back_1, Q.slotPos_nil, List.set_cons_zero, List.set_cons_succ, List.getElem?_cons_zero, List.getElem?_cons_succ, List.length_cons, List.length_nil, Nat.zero_add, Nat.reduceAdd, Nat.reduceLeDiff, true_and, and_true, and_self, Bool.not_true, Bool.not_false, List.cons_append, List.nil_append, Q.wput_is, Q.true_imp, imp_self, implies_true, true_or, or_true, shaped_list, eqv_list, u2, decide_true]
        refine wo_imp (take_wo h1 B1 5 Md.lent rfl (by decide) (by decide)) fun p hp => ?_
        obtain ⟨r, h2, B2, r1, r2, rfl⟩ := hp
        simp only [Q.wp_ok, Q.wp_no, Q.wo_some, Q.wo_none, Q.wo_bind, Q.wo_map, Q.wo_at0, Q.wo_atS, Q.wset_0, Q.wset_S, Q.bnd_val, Q.bnd_hot, Q.wp_eVar, Q.asArg_val, Q.asArg_hot, Q.wp_eArg, Q.wp_eC, Q.wp_cold, Q.wp_toCold_c, Q.wp_toCold_h, Q.chill_val, Q.chill_hot, Q.wp_toCold_s, Q.wp_own, Q.wp_toOwn_c, Q.wp_toOwn_h, Q.wp_toOwn_s, Q.giveBack_val, Q.giveBack_hot, Q.wp_toRet_c, Q.wp_toRet_h, Q.wp_toRet_s, Q.wp_aNil, Q.wp_aCons, Q.wp_bin, Q.wp_una, Q.wp_dat1, Q.wp_dat2, Q.wp_whole2, Q.view_c, Q.view_h, Q.view_s, Q.sview_v, Q.sview_h, Q.data_l, Q.data_d, Q.viewC_c, Q.viewC_h, Q.viewC_s, Q.sviewC_v, Q.sviewC_h, Q.dataC_l, Q.dataC_d, Q.plain_n, Q.plain_b, Q.plain_i, Q.plain_s, Q.plain_l, Q.plain_t, Q.wp_asB, Q.boolR_c, Q.boolS_v, Q.boolR_s, Q.wp_bAnd, Q.wp_bOr, Q.wp_bNot, Q.wp_eAnd, Q.wp_eOr, Q.wp_eNot, Q.wp_eIf, Q.wp_tTrue, Q.wp_sNx, Q.wp_never, Q.seqK_nx, Q.seqK_rt, Q.seqK_bk, Q.seqK_ct, Q.wp_sSeq, Q.wp_sExpr, Q.wp_sRet, Q.wp_sIf, Q.wp_putS, Q.wp_sSet, Q.set_val, Q.set_un, Q.set_hot, Q.sl_cold, Q.sl_hot, Q.wp_sTg, Q.ex_cold, Q.asg_nm, Q.asg_tp, Q.asgs_nil, Q.asgs_cons, Q.wputs_nil, Q.wputs_cons, Q.wp_sPar, Q.colds_nil, Q.colds_c, Q.wp_eTup, Q.wp_eLst, Q.wp_eDic0, Q.viewsC_nil, Q.viewsC_c, Q.wp_eB, Q.toArgs_nil, Q.toArgs_c, Q.lend_hot, Q.toArgs_s, Q.slotPos_c, Q.backA_nil, Q.backA_c, Q.takeBack_hot, Q.backA_s, Q.resR_v, Q.resR_h, Q.wp_callE, Q.resS_c, Q.resS_h, Q.resS_n, Q.wp_eMt, Q.wp_eMt0, Q.chg_lst, Q.wp_mAppend, Q.wp_mPopAt, Q.wp_mPop, Q.wp_mDat, Q.tyD_l, Q.tyD_t, Q.tyD_d, Q.isTy_o, Q.wp_oNone, Q.intD_i, Q.wp_oSome, Q.wp_eCut, Q.cut_l, Q.cut_t, Q.wp_eIsi, Q.wp_eLRg1, Q.wp_iRng1, Q.wp_iRng2, Q.seq_l, Q.seq_t, Q.wp_iCold, Q.wp_iEnumC, Q.walked_v, Q.walked_h, Q.wp_iSlot, Q.unlk_none, Q.wp_sFor, Q.turnK_nx, Q.turnK_ct, Q.turnK_bk, Q.turnK_rt, Q.add_ii, Q.add_ll, Q.add_tt, Q.sub_ii, Q.mul_ii, Q.mul_li, Q.mul_ti, Q.div_ii, Q.mod_ii, Q.pow_ii, Q.neg_i, Q.rev_l, Q.ix_l, Q.ix_t, Q.ix_d, Q.eq_xy, Q.ne_xy, Q.ord_ii, Q.in_w, Q.notin_w, Q.in_l, Q.in_t, Q.is_w, Q.isnot_w, Q.isq_n, Q.isNone_n, Q.isNone_i, Q.isNone_t, Q.isNone_l, Q.len_l, Q.len_t, Q.list_l, Q.list_t, Q.tup_l, Q.tup_t, Q.abs_i, Q.int_i, Q.int_b, Q.min_ii, Q.max_ii, Q.min_l, Q.max_l, Q.sum_l, Q.sort_l, Q.wo_asInts, Q.wo_asInts0, Q.wo_asIntsC, Q.key_i, Q.key_s, Q.wp_eLenSet, Q.lenSet_t, Q.wp_eChain, Q.store_l, Q.store_d, Q.wo_stI, Q.wp_sSub, Q.wp_sAugS, Q.aug_v, Q.wp_sAug, Q.ip_ii, Q.hI_ii, Q.wp_eLenScr, Q.wp_eIxScr, Q.scr_is, Q.cap_iff, Q.rng_iff, Q.lrg_iff, Q.div_iff, Q.mul_iff, Q.pow_iff, Q.size_lt, Q.free_pin, Q.free_lk, Q.lent_lk, Q.ff, Q.ft, Q.tt, Q.ffp, Q.dt, Q.df, Q.ndt, Q.ndf, Q.wo_ret, Q.fin_hot, Q.fin_val, Q.fin_nil, Q.ownOk_nil, Q.ownOk_cons, Q.hot_v, Q.hot_u, Q.wipe_0, Q.wipe_1, Q.back_0, Q.back_1, Q.slotPos_nil, List.set_cons_zero, List.set_cons_succ, List.getElem?_cons_zero, List.getElem?_cons_succ, List.length_cons, List.length_nil, Nat.zero_add, Nat.reduceAdd, Nat.reduceLeDiff, true_and, and_true, and_self, Bool.not_true, Bool.not_false, List.cons_append, List.nil_append, Q.wput_is, Q.true_imp, imp_self, implies_true, true_or, or_true, t5, t6, t7]
        obtain ⟨q, rfl⟩ : ∃ q : Nat, r = (q : Nat) := ⟨r.toNat, by omega⟩
        rw [show (1 : Int) + (q : Nat) = ((q + 1 : Nat) : Int) by omega]
        refine wo_of (beginning_moves W (r := ((q + 1 : Nat) : Int)) (by omega) (by omega)) ?_
        have bo : ((List.range ts.length).map fun i => (bmoves (marks ts (((q + 1 : Nat) : Int) - 1)) (i + 1) : Int)) = (List.range ts.length).map fun i => ((bel (ts.take (i + 1)) (q + 1) (ts.take (i + 1)).length).2 : Int) := by
          refine List.map_congr_left fun i hi => ?_
          have := List.mem_range.mp hi
          rw [begin_ok ts (r := q + 1) (by omega) (by omega)]
        rw [bo]
        generalize hcs : ((List.range ts.length).map fun i => ((bel (ts.take (i + 1)) (q + 1) (ts.take (i + 1)).length).2 : Int)) = cs
        have cl : cs.length = ts.length := by rw [← hcs]; simp
        have ty : ∀ x, (["tuple"].any (isT (tyN (.tuple x)))) = true := fun _ => rfl
        have row2 := law_is_row cs (by omega) (ts.length : Nat)
        have tr2 : decide ((cs.length : Int) = (ts.length : Nat)) = true := by simp [cl]
        rw [tr2] at row2
        simp only [Q.wp_ok, Q.wp_no, Q.wo_some, Q.wo_none, Q.wo_bind, Q.wo_map, Q.wo_at0, Q.wo_atS, Q.wset_0, Q.wset_S, Q.bnd_val, Q.bnd_hot, Q.wp_eVar, Q.asArg_val, Q.asArg_hot, Q.wp_eArg, Q.wp_eC, Q.wp_cold, Q.wp_toCold_c, Q.wp_toCold_h, Q.chill_val, Q.chill_hot, Q.wp_toCold_s, Q.wp_own, Q.wp_toOwn_c, Q.wp_toOwn_h, Q.wp_toOwn_s, Q.giveBack_val, Q.giveBack_hot, Q.wp_toRet_c, Q.wp_toRet_h, Q.wp_toRet_s, Q.wp_aNil, Q.wp_aCons, Q.wp_bin, Q.wp_una, Q.wp_dat1, Q.wp_dat2, Q.wp_whole2, Q.view_c, Q.view_h, Q.view_s, Q.sview_v, Q.sview_h, Q.data_l, Q.data_d, Q.viewC_c, Q.viewC_h, Q.viewC_s, Q.sviewC_v, Q.sviewC_h, Q.dataC_l, Q.dataC_d, Q.plain_n, Q.plain_b, Q.plain_i, Q.plain_s, Q.plain_l, Q.plain_t, Q.wp_asB, Q.boolR_c, Q.boolS_v, Q.boolR_s, Q.wp_bAnd, Q.wp_bOr, Q.wp_bNot, Q.wp_eAnd, Q.wp_eOr, Q.wp_eNot, Q.wp_eIf, Q.wp_tTrue, Q.wp_sNx, Q.wp_never, Q.seqK_nx, Q.seqK_rt, Q.seqK_bk, Q.seqK_ct, Q.wp_sSeq, Q.wp_sExpr, Q.wp_sRet, Q.wp_sIf, Q.wp_putS, Q.wp_sSet, Q.set_val, Q.set_un, Q.set_hot, Q.sl_cold, Q.sl_hot, Q.wp_sTg, Q.ex_cold, Q.asg_nm, Q.asg_tp, Q.asgs_nil, Q.asgs_cons, Q.wputs_nil, Q.wputs_cons, Q.wp_sPar, Q.colds_nil, Q.colds_c, Q.wp_eTup, Q.wp_eLst, Q.wp_eDic0, Q.viewsC_nil, Q.viewsC_c, Q.wp_eB, Q.toArgs_nil, Q.toArgs_c, Q.lend_hot, Q.toArgs_s, Q.slotPos_c, Q.backA_nil, Q.backA_c, Q.takeBack_hot, Q.backA_s, Q.resR_v, Q.resR_h, Q.wp_callE, Q.resS_c, Q.resS_h, Q.resS_n, Q.wp_eMt, Q.wp_eMt0, Q.chg_lst, Q.wp_mAppend, Q.wp_mPopAt, Q.wp_mPop, Q.wp_mDat, Q.tyD_l, Q.tyD_t, Q.tyD_d, Q.isTy_o, Q.wp_oNone, Q.intD_i, Q.wp_oSome, Q.wp_eCut, Q.cut_l, Q.cut_t, Q.wp_eIsi, Q.wp_eLRg1, Q.wp_iRng1, Q.wp_iRng2, Q.seq_l, Q.seq_t, Q.wp_iCold, Q.wp_iEnumC, Q.walked_v, Q.walked_h, Q.wp_iSlot, Q.unlk_none, Q.wp_sFor, Q.turnK_nx, Q.turnK_ct, Q.turnK_bk, Q.turnK_rt, Q.add_ii, Q.add_ll, Q.add_tt, Q.sub_ii, Q.mul_ii, Q.mul_li, Q.mul_ti, Q.div_ii, Q.mod_ii, Q.pow_ii, Q.neg_i, Q.rev_l, Q.ix_l, Q.ix_t, Q.ix_d, Q.eq_xy, Q.ne_xy, Q.ord_ii, Q.in_w, Q.notin_w, Q.in_l, Q.in_t, Q.is_w, Q.isnot_w, Q.isq_n, Q.isNone_n, Q.isNone_i, Q.isNone_t, Q.isNone_l, Q.len_l, Q.len_t, Q.list_l, Q.list_t, Q.tup_l, Q.tup_t, Q.abs_i, Q.int_i, Q.int_b, Q.min_ii, Q.max_ii, Q.min_l, Q.max_l, Q.sum_l, Q.sort_l, Q.wo_asInts, Q.wo_asInts0, Q.wo_asIntsC, Q.key_i, Q.key_s, Q.wp_eLenSet, Q.lenSet_t, Q.wp_eChain, Q.store_l, Q.store_d, Q.wo_stI, Q.wp_sSub, Q.wp_sAugS, Q.aug_v, Q.wp_sAug, Q.ip_ii, Q.hI_ii, Q.wp_eLenScr, Q.wp_eIxScr, Q.scr_is, Q.cap_iff, Q.rng_iff, Q.lrg_iff, Q.div_iff, Q.mul_iff, Q.pow_iff, Q.size_lt, Q.free_pin, Q.free_lk, Q.lent_lk, Q.ff, Q.ft, Q.tt, Q.ffp, Q.dt, Q.df, Q.ndt, Q.ndf, Q.wo_ret, Q.fin_hot, Q.fin_val, Q.fin_nil, Q.ownOk_nil, Q.ownOk_cons, Q.hot_v, Q.hot_u, Q.wipe_0, Q.wipe_1, Q.back_0, Q.back_1, Q.slotPos_nil, List.set_cons_zero, List.set_cons_succ, List.getElem?_cons_zero, List.getElem?_cons_succ, List.length_cons, List.length_nil, Nat.zero_add, Nat.reduceAdd, Nat.reduceLeDiff, true_and, and_true, and_self, Bool.not_true, Bool.not_false, List.cons_append, List.nil_append, Q.wput_is, Q.true_imp, imp_self, implies_true, true_or, or_true, t5, t6, t7, ty, shaped_int, eqv_i, List.length_map, List.length_range, decide_true]
        refine wo_of row2 ?_
        simp only [Q.wp_ok, Q.wp_no, Q.wo_some, Q.wo_none, Q.wo_bind, Q.wo_map, Q.wo_at0, Q.wo_atS, Q.wset_0, Q.wset_S, Q.bnd_val, Q.bnd_hot, Q.wp_eVar, Q.asArg_val, Q.asArg_hot, Q.wp_eArg, Q.wp_eC, Q.wp_cold, Q.wp_toCold_c, Q.wp_toCold_h, Q.chill_val, Q.chill_hot, Q.wp_toCold_s, Q.wp_own, Q.wp_toOwn_c, Q.wp_toOwn_h, Q.wp_toOwn_s, Q.giveBack_val, Q.giveBack_hot, Q.wp_toRet_c, Q.wp_toRet_h, Q.wp_toRet_s, Q.wp_aNil, Q.wp_aCons, Q.wp_bin, Q.wp_una, Q.wp_dat1, Q.wp_dat2, Q.wp_whole2, Q.view_c, Q.view_h, Q.view_s, Q.sview_v, Q.sview_h, Q.data_l, Q.data_d, Q.viewC_c, Q.viewC_h, Q.viewC_s, Q.sviewC_v, Q.sviewC_h, Q.dataC_l, Q.dataC_d, Q.plain_n, Q.plain_b, Q.plain_i, Q.plain_s, Q.plain_l, Q.plain_t, Q.wp_asB, Q.boolR_c, Q.boolS_v, Q.boolR_s, Q.wp_bAnd, Q.wp_bOr, Q.wp_bNot, Q.wp_eAnd, Q.wp_eOr, Q.wp_eNot, Q.wp_eIf, Q.wp_tTrue, Q.wp_sNx, Q.wp_never, Q.seqK_nx, Q.seqK_rt, Q.seqK_bk, Q.seqK_ct, Q.wp_sSeq, Q.wp_sExpr, Q.wp_sRet, Q.wp_sIf, Q.wp_putS, Q.wp_sSet, Q.set_val, Q.set_un, Q.set_hot, Q.sl_cold, Q.sl_hot, Q.wp_sTg, Q.ex_cold, Q.asg_nm, Q.asg_tp, Q.asgs_nil, Q.asgs_cons, Q.wputs_nil, Q.wputs_cons, Q.wp_sPar, Q.colds_nil, Q.colds_c, Q.wp_eTup, Q.wp_eLst, Q.wp_eDic0, Q.viewsC_nil, Q.viewsC_c, Q.wp_eB, Q.toArgs_nil, Q.toArgs_c, Q.lend_hot, Q.toArgs_s, Q.slotPos_c, Q.backA_nil, Q.backA_c, Q.takeBack_hot, Q.backA_s, Q.resR_v, Q.resR_h, Q.wp_callE, Q.resS_c, Q.resS_h, Q.resS_n, Q.wp_eMt, Q.wp_eMt0, Q.chg_lst, Q.wp_mAppend, Q.wp_mPopAt, Q.wp_mPop, Q.wp_mDat, Q.tyD_l, Q.tyD_t, Q.tyD_d, Q.isTy_o, Q.wp_oNone, Q.intD_i, Q.wp_oSome, Q.wp_eCut, Q.cut_l, Q.cut_t, Q.wp_eIsi, Q.wp_eLRg1, Q.wp_iRng1, Q.wp_iRng2, Q.seq_l, Q.seq_t, Q.wp_iCold, Q.wp_iEnumC, Q.walked_v, Q.walked_h, Q.wp_iSlot, Q.unlk_none, Q.wp_sFor, Q.turnK_nx, Q.turnK_ct, Q.turnK_bk, Q.turnK_rt, Q.add_ii, Q.add_ll, Q.add_tt, Q.sub_ii, Q.mul_ii, Q.mul_li, Q.mul_ti, Q.div_ii, Q.mod_ii, Q.pow_ii, Q.neg_i, Q.rev_l, Q.ix_l, Q.ix_t, Q.ix_d, Q.eq_xy, Q.ne_xy, Q.ord_ii, Q.in_w, Q.notin_w, Q.in_l, Q.in_t, Q.is_w, Q.isnot_w, Q.isq_n, Q.isNone_n, Q.isNone_i, Q.isNone_t, Q.isNone_l, Q.len_l, Q.len_t, Q.list_l, Q.list_t, Q.tup_l, Q.tup_t, Q.abs_i, Q.int_i, Q.int_b, Q.min_ii, Q.max_ii, Q.min_l, Q.max_l, Q.sum_l, Q.sort_l, Q.wo_asInts, Q.wo_asInts0, Q.wo_asIntsC, Q.key_i, Q.key_s, Q.wp_eLenSet, Q.lenSet_t, Q.wp_eChain, Q.store_l, Q.store_d, Q.wo_stI, Q.wp_sSub, Q.wp_sAugS, Q.aug_v, Q.wp_sAug, Q.ip_ii, Q.hI_ii, Q.wp_eLenScr, Q.wp_eIxScr, Q.scr_is, Q.cap_iff, Q.rng_iff, Q.lrg_iff, Q.div_iff, Q.mul_iff, Q.pow_iff, Q.size_lt, Q.free_pin, Q.free_lk, Q.lent_lk, Q.ff, Q.ft, Q.tt, Q.ffp, Q.dt, Q.df, Q.ndt, Q.ndf, Q.wo_ret, Q.fin_hot, Q.fin_val, Q.fin_nil, Q.ownOk_nil, Q.ownOk_cons, Q.hot_v, Q.hot_u, Q.wipe_0, Q.wipe_1, Q.back_0, Q.back_1, Q.slotPos_nil, List.set_cons_zero, List.set_cons_succ, List.getElem?_cons_zero, List.getElem?_cons_succ, List.length_cons, List.length_nil, Nat.zero_add, Nat.reduceAdd, Nat.reduceLeDiff, true_and, and_true, and_self, Bool.not_true, Bool.not_false, List.cons_append, List.nil_append, Q.wput_is, Q.true_imp, imp_self, implies_true, true_or, or_true]
        refine ⟨by decide, wp_forL (fun i' e => ∃ h' s8 s9 s10, Box h' ∧ s8.settable = true ∧ s9.settable = true ∧ s10.settable = true ∧ e = [scr ns, .val (.int (0 + (i : Nat))), .hot Md.free h', .val (T ts), .val (.int (dedupI ts).length), .val (.tuple ((List.range ts.length).map (dep ts))), .val (.int ((q + 1 : Nat) : Int)), .val (T cs), s8, s9, s10]) (k := 0) ⟨h2, s8, s9, s10, B2, t8, t9, t10, rfl⟩ (fun i' d e hd he => ?_) fun e he => ?_⟩
        · obtain ⟨h', s8, s9, s10, B', t8, t9, t10, rfl⟩ := he
          rw [rngD_at] at hd
          split at hd
          · cases hd
            have some1 := W.some_
            simp only [Q.wp_ok, Q.wp_no, Q.wo_some, Q.wo_none, Q.wo_bind, Q.wo_map, Q.wo_at0, Q.wo_atS, Q.wset_0, Q.wset_S, Q.bnd_val, Q.bnd_hot, Q.wp_eVar, Q.asArg_val, Q.asArg_hot, Q.wp_eArg, Q.wp_eC, Q.wp_cold, Q.wp_toCold_c, Q.wp_toCold_h, Q.chill_val, Q.chill_hot, Q.wp_toCold_s, Q.wp_own, Q.wp_toOwn_c, Q.wp_toOwn_h, Q.wp_toOwn_s, Q.giveBack_val, Q.giveBack_hot, Q.wp_toRet_c, Q.wp_toRet_h, Q.wp_toRet_s, Q.wp_aNil, Q.wp_aCons, Q.wp_bin, Q.wp_una, Q.wp_dat1, Q.wp_dat2, Q.wp_whole2, Q.view_c, Q.view_h, Q.view_s, Q.sview_v, Q.sview_h, Q.data_l, Q.data_d, Q.viewC_c, Q.viewC_h, Q.viewC_s, Q.sviewC_v, Q.sviewC_h, Q.dataC_l, Q.dataC_d, Q.plain_n, Q.plain_b, Q.plain_i, Q.plain_s, Q.plain_l, Q.plain_t, Q.wp_asB, Q.boolR_c, Q.boolS_v, Q.boolR_s, Q.wp_bAnd, Q.wp_bOr, Q.wp_bNot, Q.wp_eAnd, Q.wp_eOr, Q.wp_eNot, Q.wp_eIf, Q.wp_tTrue, Q.wp_sNx, Q.wp_never, Q.seqK_nx, Q.seqK_rt, Q.seqK_bk, Q.seqK_ct, Q.wp_sSeq, Q.wp_sExpr, Q.wp_sRet, Q.wp_sIf, Q.wp_putS, Q.wp_sSet, Q.set_val, Q.set_un, Q.set_hot, Q.sl_cold, Q.sl_hot, Q.wp_sTg, Q.ex_cold, Q.asg_nm, Q.asg_tp, Q.asgs_nil, Q.asgs_cons, Q.wputs_nil, Q.wputs_cons, Q.wp_sPar, Q.colds_nil, Q.colds_c, Q.wp_eTup, Q.wp_eLst, Q.wp_eDic0, Q.viewsC_nil, Q.viewsC_c, Q.wp_eB, Q.toArgs_nil, Q.toArgs_c, Q.lend_hot, Q.toArgs_s, Q.slotPos_c, Q.backA_nil, Q.backA_c, Q.takeBack_hot, Q.backA_s, Q.resR_v, Q.resR_h, Q.wp_callE, Q.resS_c, Q.resS_h, Q.resS_n, Q.wp_eMt, Q.wp_eMt0, Q.chg_lst, Q.wp_mAppend, Q.wp_mPopAt, Q.wp_mPop, Q.wp_mDat, Q.tyD_l, Q.tyD_t, Q.tyD_d, Q.isTy_o, Q.wp_oNone, Q.intD_i, Q.wp_oSome, Q.wp_eCut, Q.cut_l, Q.cut_t, Q.wp_eIsi, Q.wp_eLRg1, Q.wp_iRng1, Q.wp_iRng2, Q.seq_l, Q.seq_t, Q.wp_iCold, Q.wp_iEnumC, Q.walked_v, Q.walked_h, Q.wp_iSlot, Q.unlk_none, Q.wp_sFor, Q.turnK_nx, Q.turnK_ct, Q.turnK_bk, Q.turnK_rt, Q.add_ii, Q.add_ll, Q.add_tt, Q.sub_ii, Q.mul_ii, Q.mul_li, Q.mul_ti, Q.div_ii, Q.mod_ii, Q.pow_ii, Q.neg_i, Q.rev_l, Q.ix_l, Q.ix_t, Q.ix_d, Q.eq_xy, Q.ne_xy, Q.ord_ii, Q.in_w, Q.notin_w, Q.in_l, Q.in_t, Q.is_w, Q.isnot_w, Q.isq_n, Q.isNone_n, Q.isNone_i, Q.isNone_t, Q.isNone_l, Q.len_l, Q.len_t, Q.list_l, Q.list_t, Q.tup_l, Q.tup_t, Q.abs_i, Q.int_i, Q.int_b, Q.min_ii, Q.max_ii, Q.min_l, Q.max_l, Q.sum_l, Q.sort_l, Q.wo_asInts, Q.wo_asInts0, Q.wo_asIntsC, Q.key_i, Q.key_s, Q.wp_eLenSet, Q.lenSet_t, Q.wp_eChain, Q.store_l, Q.store_d, Q.wo_stI, Q.wp_sSub, Q.wp_sAugS, Q.aug_v, Q.wp_sAug, Q.ip_ii, Q.hI_ii, Q.wp_eLenScr, Q.wp_eIxScr, Q.scr_is, Q.cap_iff, Q.rng_iff, Q.lrg_iff, Q.div_iff, Q.mul_iff, Q.pow_iff, Q.size_lt, Q.free_pin, Q.free_lk, Q.lent_lk, Q.ff, Q.ft, Q.tt, Q.ffp, Q.dt, Q.df, Q.ndt, Q.ndf, Q.wo_ret, Q.fin_hot, Q.fin_val, Q.fin_nil, Q.ownOk_nil, Q.ownOk_cons, Q.hot_v, Q.hot_u, Q.wipe_0, Q.wipe_1, Q.back_0, Q.back_1, Q.slotPos_nil, List.set_cons_zero, List.set_cons_succ, List.getElem?_cons_zero, List.getElem?_cons_succ, List.length_cons, List.length_nil, Nat.zero_add, Nat.reduceAdd, Nat.reduceLeDiff, true_and, and_true, and_self, Bool.not_true, Bool.not_false, List.cons_append, List.nil_append, Q.wput_is, Q.true_imp, imp_self, implies_true, true_or, or_true, t8, t9, t10, List.length_map]
            refine wo_imp (pick_v h' B' [(ts.length : Int), if 6 < (ts.length : Int) then 6 else (ts.length : Int)] (by simp) (by simp) Md.lent rfl) fun p hp => ?_
            obtain ⟨x, h3, B3, xm, rfl⟩ := hp
            have xr : 1 ≤ x ∧ x ≤ ts.length := by
              simp at xm
              rcases xm with z | z
              · omega
              · rw [z]; split <;> omega
            simp only [Q.wp_ok, Q.wp_no, Q.wo_some, Q.wo_none, Q.wo_bind, Q.wo_map, Q.wo_at0, Q.wo_atS, Q.wset_0, Q.wset_S, Q.bnd_val, Q.bnd_hot, Q.wp_eVar, Q.asArg_val, Q.asArg_hot, Q.wp_eArg, Q.wp_eC, Q.wp_cold, Q.wp_toCold_c, Q.wp_toCold_h, Q.chill_val, Q.chill_hot, Q.wp_toCold_s, Q.wp_own, Q.wp_toOwn_c, Q.wp_toOwn_h, Q.wp_toOwn_s, Q.giveBack_val, Q.giveBack_hot, Q.wp_toRet_c, Q.wp_toRet_h, Q.wp_toRet_s, Q.wp_aNil, Q.wp_aCons, Q.wp_bin, Q.wp_una, Q.wp_dat1, Q.wp_dat2, Q.wp_whole2, Q.view_c, Q.view_h, Q.view_s, Q.sview_v, Q.sview_h, Q.data_l, Q.data_d, Q.viewC_c, Q.viewC_h, Q.viewC_s, Q.sviewC_v, Q.sviewC_h, Q.dataC_l, Q.dataC_d, Q.plain_n, Q.plain_b, Q.plain_i, Q.plain_s, Q.plain_l, Q.plain_t, Q.wp_asB, Q.boolR_c, Q.boolS_v, Q.boolR_s, Q.wp_bAnd, Q.wp_bOr, Q.wp_bNot, Q.wp_eAnd, Q.wp_eOr, Q.wp_eNot, Q.wp_eIf, Q.wp_tTrue, Q.wp_sNx, Q.wp_never, Q.seqK_nx, Q.seqK_rt, Q.seqK_bk, Q.seqK_ct, Q.wp_sSeq, Q.wp_sExpr, Q.wp_sRet, Q.wp_sIf, Q.wp_putS, Q.wp_sSet, Q.set_val, Q.set_un, Q.set_hot, Q.sl_cold, Q.sl_hot, Q.wp_sTg, Q.ex_cold, Q.asg_nm, Q.asg_tp, Q.asgs_nil, Q.asgs_cons, Q.wputs_nil, Q.wputs_cons, Q.wp_sPar, Q.colds_nil, Q.colds_c, Q.wp_eTup, Q.wp_eLst, Q.wp_eDic0, Q.viewsC_nil, Q.viewsC_c, Q.wp_eB, Q.toArgs_nil, Q.toArgs_c, Q.lend_hot, Q.toArgs_s, Q.slotPos_c, Q.backA_nil, Q.backA_c, Q.takeBack_hot, Q.backA_s, Q.resR_v, Q.resR_h, Q.wp_callE, Q.resS_c, Q.resS_h, Q.resS_n, Q.wp_eMt, Q.wp_eMt0, Q.chg_lst, Q.wp_mAppend, Q.wp_mPopAt, Q.wp_mPop, Q.wp_mDat, Q.tyD_l, Q.tyD_t, Q.tyD_d, Q.isTy_o, Q.wp_oNone, Q.intD_i, Q.wp_oSome, Q.wp_eCut, Q.cut_l, Q.cut_t, Q.wp_eIsi, Q.wp_eLRg1, Q.wp_iRng1, Q.wp_iRng2, Q.seq_l, Q.seq_t, Q.wp_iCold, Q.wp_iEnumC, Q.walked_v, Q.walked_h, Q.wp_iSlot, Q.unlk_none, Q.wp_sFor, Q.turnK_nx, Q.turnK_ct, Q.turnK_bk, Q.turnK_rt, Q.add_ii, Q.add_ll, Q.add_tt, Q.sub_ii, Q.mul_ii, Q.mul_li, Q.mul_ti, Q.div_ii, Q.mod_ii, Q.pow_ii, Q.neg_i, Q.rev_l, Q.ix_l, Q.ix_t, Q.ix_d, Q.eq_xy, Q.ne_xy, Q.ord_ii, Q.in_w, Q.notin_w, Q.in_l, Q.in_t, Q.is_w, Q.isnot_w, Q.isq_n, Q.isNone_n, Q.isNone_i, Q.isNone_t, Q.isNone_l, Q.len_l, Q.len_t, Q.list_l, Q.list_t, Q.tup_l, Q.tup_t, Q.abs_i, Q.int_i, Q.int_b, Q.min_ii, Q.max_ii, Q.min_l, Q.max_l, Q.sum_l, Q.sort_l, Q.wo_asInts, Q.wo_asInts0, Q.wo_asIntsC, Q.key_i, Q.key_s, Q.wp_eLenSet, Q.lenSet_t, Q.wp_eChain, Q.store_l, Q.store_d, Q.wo_stI, Q.wp_sSub, Q.wp_sAugS, Q.aug_v, Q.wp_sAug, Q.ip_ii, Q.hI_ii, Q.wp_eLenScr, Q.wp_eIxScr, Q.scr_is, Q.cap_iff, Q.rng_iff, Q.lrg_iff, Q.div_iff, Q.mul_iff, Q.pow_iff, Q.size_lt, Q.free_pin, Q.free_lk, Q.lent_lk, Q.ff, Q.ft, Q.tt, Q.ffp, Q.dt, Q.df, Q.ndt, Q.ndf, Q.wo_ret, Q.fin_hot, Q.fin_val, Q.fin_nil, Q.ownOk_nil, Q.ownOk_cons, Q.hot_v, Q.hot_u, Q.wipe_0, Q.wipe_1, Q.back_0, Q.back_1, Q.slotPos_nil, List.set_cons_zero, List.set_cons_succ, List.getElem?_cons_zero, List.getElem?_cons_succ, List.length_cons, List.length_nil, Nat.zero_add, Nat.reduceAdd, Nat.reduceLeDiff, true_and, and_true, and_self, Bool.not_true, Bool.not_false, List.cons_append, List.nil_append, Q.wput_is, Q.true_imp, imp_self, implies_true, true_or, or_true]
            refine wo_imp (take_wo h3 B3 x Md.lent rfl (by omega) (by omega)) fun p hp => ?_
            obtain ⟨y, h4, B4, y1, y2, rfl⟩ := hp
            obtain ⟨m, hm⟩ : ∃ m : Nat, (ts.length : Int) - 1 - y = (m : Nat) := ⟨((ts.length : Int) - 1 - y).toNat, by omega⟩
            have ml : m < ts.length := by omega
            have a1 : L2.atI ((List.range ts.length).map (dep ts)) (m : Int) = some (dep ts m) := by
              unfold L2.atI L2.ixN
              simp [ml]
            have a2 : L2.atI (cs.map PySem.PyData.int) (m : Int) = some (.int ((bel (ts.take (m + 1)) (q + 1) (ts.take (m + 1)).length).2 : Nat)) := by
              rw [atI_T cs m (by omega), ← hcs, List.getD_eq_getElem?_getD, List.getElem?_map, List.getElem?_range ml]; rfl
            have c2 := T_take ts ((m : Int) + 1) (by omega)
            rw [show ((m : Int) + 1).toNat = m + 1 by omega] at c2
            have ld := law_depth few ml
            have ll := law_least (ts := ts.take (m + 1)) (by rw [List.length_take]; omega) (r := q + 1) (by omega) (by omega)
            have dc : dep ts m = .none ∨ ∃ x, dep ts m = .int x := by
              unfold dep
              split
              · exact .inr ⟨_, rfl⟩
              · exact .inl rfl
            rcases dc with e | ⟨x, e⟩
            · simp only [Q.wp_ok, Q.wp_no, Q.wo_some, Q.wo_none, Q.wo_bind, Q.wo_map, Q.wo_at0, Q.wo_atS, Q.wset_0, Q.wset_S, Q.bnd_val, Q.bnd_hot, Q.wp_eVar, Q.asArg_val, Q.asArg_hot, Q.wp_eArg, Q.wp_eC, Q.wp_cold, Q.wp_toCold_c, Q.wp_toCold_h, Q.chill_val, Q.chill_hot, Q.wp_toCold_s, Q.wp_own, Q.wp_toOwn_c, Q.wp_toOwn_h, Q.wp_toOwn_s, Q.giveBack_val, Q.giveBack_hot, Q.wp_toRet_c, Q.wp_toRet_h, Q.wp_toRet_s, Q.wp_aNil, Q.wp_aCons, Q.wp_bin, Q.wp_una, Q.wp_dat1, Q.wp_dat2, Q.wp_whole2, Q.view_c, Q.view_h, Q.view_s, Q.sview_v, Q.sview_h, Q.data_l, Q.data_d, Q.viewC_c, Q.viewC_h, Q.viewC_s, Q.sviewC_v, Q.sviewC_h, Q.dataC_l, Q.dataC_d, Q.plain_n, Q.plain_b, Q.plain_i, Q.plain_s, Q.plain_l, Q.plain_t, Q.wp_asB, Q.boolR_c, Q.boolS_v, Q.boolR_s, Q.wp_bAnd, Q.wp_bOr, Q.wp_bNot, Q.wp_eAnd, Q.wp_eOr, Q.wp_eNot, Q.wp_eIf, Q.wp_tTrue, Q.wp_sNx, Q.wp_never, Q.seqK_nx, Q.seqK_rt, Q.seqK_bk, Q.seqK_ct, Q.wp_sSeq, Q.wp_sExpr, Q.wp_sRet, Q.wp_sIf, Q.wp_putS, Q.wp_sSet, Q.set_val, Q.set_un, Q.set_hot, Q.sl_cold, Q.sl_hot, Q.wp_sTg, Q.ex_cold, Q.asg_nm, Q.asg_tp, Q.asgs_nil, Q.asgs_cons, Q.wputs_nil, Q.wputs_cons, Q.wp_sPar, Q.colds_nil, Q.colds_c, Q.wp_eTup, Q.wp_eLst, Q.wp_eDic0, Q.viewsC_nil, Q.viewsC_c, Q.wp_eB, Q.toArgs_nil, Q.toArgs_c, Q.lend_hot, Q.toArgs_s, Q.slotPos_c, Q.backA_nil, Q.backA_c, Q.takeBack_hot, Q.backA_s, Q.resR_v, Q.resR_h, Q.wp_callE, Q.resS_c, Q.resS_h, Q.resS_n, Q.wp_eMt, Q.wp_eMt0, Q.chg_lst, Q.wp_mAppend, Q.wp_mPopAt, Q.wp_mPop, Q.wp_mDat, Q.tyD_l, Q.tyD_t, Q.tyD_d, Q.isTy_o, Q.wp_oNone, Q.intD_i, Q.wp_oSome, Q.wp_eCut, Q.cut_l, Q.cut_t, Q.wp_eIsi, Q.wp_eLRg1, Q.wp_iRng1, Q.wp_iRng2, Q.seq_l, Q.seq_t, Q.wp_iCold, Q.wp_iEnumC, Q.walked_v, Q.walked_h, Q.wp_iSlot, Q.unlk_none, Q.wp_sFor, Q.turnK_nx, Q.turnK_ct, Q.turnK_bk, Q.turnK_rt, Q.add_ii, Q.add_ll, Q.add_tt, Q.sub_ii, Q.mul_ii, Q.mul_li, Q.mul_ti, Q.div_ii, Q.mod_ii, Q.pow_ii, Q.neg_i, Q.rev_l, Q.ix_l, Q.ix_t, Q.ix_d, Q.eq_xy, Q.ne_xy, Q.ord_ii, Q.in_w, Q.notin_w, Q.in_l, Q.in_t, Q.is_w, Q.isnot_w, Q.isq_n, Q.isNone_n, Q.isNone_i, Q.isNone_t, Q.isNone_l, Q.len_l, Q.len_t, Q.list_l, Q.list_t, Q.tup_l, Q.tup_t, Q.abs_i, Q.int_i, Q.int_b, Q.min_ii, Q.max_ii, Q.min_l, Q.max_l, Q.sum_l, Q.sort_l, Q.wo_asInts, Q.wo_asInts0, Q.wo_asIntsC, Q.key_i, Q.key_s, Q.wp_eLenSet, Q.lenSet_t, Q.wp_eChain, Q.store_l, Q.store_d, Q.wo_stI, Q.wp_sSub, Q.wp_sAugS, Q.aug_v, Q.wp_sAug, Q.ip_ii, Q.hI_ii, Q.wp_eLenScr, Q.wp_eIxScr, Q.scr_is, Q.cap_iff, Q.rng_iff, Q.lrg_iff, Q.div_iff, Q.mul_iff, Q.pow_iff, Q.size_lt, Q.free_pin, Q.free_lk, Q.lent_lk, Q.ff, Q.ft, Q.tt, Q.ffp, Q.dt, Q.df, Q.ndt, Q.ndf, Q.wo_ret, Q.fin_hot, Q.fin_val, Q.fin_nil, Q.ownOk_nil, Q.ownOk_cons, Q.hot_v, Q.hot_u, Q.wipe_0, Q.wipe_1, Q.back_0, Q.back_1, Q.slotPos_nil, List.set_cons_zero, List.set_cons_succ, List.getElem?_cons_zero, List.getElem?_cons_succ, List.length_cons, List.length_nil, Nat.zero_add, Nat.reduceAdd, Nat.reduceLeDiff, true_and, and_true, and_self, Bool.not_true, Bool.not_false, List.cons_append, List.nil_append, Q.wput_is, Q.true_imp, imp_self, implies_true, true_or, or_true, t8, t9, t10, hm, ld, a1, e]
              refine wo_of a2 ?_
              simp only [Q.wp_ok, Q.wp_no, Q.wo_some, Q.wo_none, Q.wo_bind, Q.wo_map, Q.wo_at0, Q.wo_atS, Q.wset_0, Q.wset_S, Q.bnd_val, Q.bnd_hot, Q.wp_eVar, Q.asArg_val, Q.asArg_hot, Q.wp_eArg, Q.wp_eC, Q.wp_cold, Q.wp_toCold_c, Q.wp_toCold_h, Q.chill_val, Q.chill_hot, Q.wp_toCold_s, Q.wp_own, Q.wp_toOwn_c, Q.wp_toOwn_h, Q.wp_toOwn_s, Q.giveBack_val, Q.giveBack_hot, Q.wp_toRet_c, Q.wp_toRet_h, Q.wp_toRet_s, Q.wp_aNil, Q.wp_aCons, Q.wp_bin, Q.wp_una, Q.wp_dat1, Q.wp_dat2, Q.wp_whole2, Q.view_c, Q.view_h, Q.view_s, Q.sview_v, Q.sview_h, Q.data_l, Q.data_d, Q.viewC_c, Q.viewC_h, Q.viewC_s, Q.sviewC_v, Q.sviewC_h, Q.dataC_l, Q.dataC_d, Q.plain_n, Q.plain_b, Q.plain_i, Q.plain_s, Q.plain_l, Q.plain_t, Q.wp_asB, Q.boolR_c, Q.boolS_v, Q.boolR_s, Q.wp_bAnd, Q.wp_bOr, Q.wp_bNot, Q.wp_eAnd, Q.wp_eOr, Q.wp_eNot, Q.wp_eIf, Q.wp_tTrue, Q.wp_sNx, Q.wp_never, Q.seqK_nx, Q.seqK_rt, Q.seqK_bk, Q.seqK_ct, Q.wp_sSeq, Q.wp_sExpr, Q.wp_sRet, Q.wp_sIf, Q.wp_putS, Q.wp_sSet, Q.set_val, Q.set_un, Q.set_hot, Q.sl_cold, Q.sl_hot, Q.wp_sTg, Q.ex_cold, Q.asg_nm, Q.asg_tp, Q.asgs_nil, Q.asgs_cons, Q.wputs_nil, Q.wputs_cons, Q.wp_sPar, Q.colds_nil, Q.colds_c, Q.wp_eTup, Q.wp_eLst, Q.wp_eDic0, Q.viewsC_nil, Q.viewsC_c, Q.wp_eB, Q.toArgs_nil, Q.toArgs_c, Q.lend_hot, Q.toArgs_s, Q.slotPos_c, Q.backA_nil, Q.backA_c, Q.takeBack_hot, Q.backA_s, Q.resR_v, Q.resR_h, Q.wp_callE, Q.resS_c, Q.resS_h, Q.resS_n, Q.wp_eMt, Q.wp_eMt0, Q.chg_lst, Q.wp_mAppend, Q.wp_mPopAt, Q.wp_mPop, Q.wp_mDat, Q.tyD_l, Q.tyD_t, Q.tyD_d, Q.isTy_o, Q.wp_oNone, Q.intD_i, Q.wp_oSome, Q.wp_eCut, Q.cut_l, Q.cut_t, Q.wp_eIsi, Q.wp_eLRg1, Q.wp_iRng1, Q.wp_iRng2, Q.seq_l, Q.seq_t, Q.wp_iCold, Q.wp_iEnumC, Q.walked_v, Q.walked_h, Q.wp_iSlot, Q.unlk_none, Q.wp_sFor, Q.turnK_nx, Q.turnK_ct, Q.turnK_bk, Q.turnK_rt, Q.add_ii, Q.add_ll, Q.add_tt, Q.sub_ii, Q.mul_ii, Q.mul_li, Q.mul_ti, Q.div_ii, Q.mod_ii, Q.pow_ii, Q.neg_i, Q.rev_l, Q.ix_l, Q.ix_t, Q.ix_d, Q.eq_xy, Q.ne_xy, Q.ord_ii, Q.in_w, Q.notin_w, Q.in_l, Q.in_t, Q.is_w, Q.isnot_w, Q.isq_n, Q.isNone_n, Q.isNone_i, Q.isNone_t, Q.isNone_l, Q.len_l, Q.len_t, Q.list_l, Q.list_t, Q.tup_l, Q.tup_t, Q.abs_i, Q.int_i, Q.int_b, Q.min_ii, Q.max_ii, Q.min_l, Q.max_l, Q.sum_l, Q.sort_l, Q.wo_asInts, Q.wo_asInts0, Q.wo_asIntsC, Q.key_i, Q.key_s, Q.wp_eLenSet, Q.lenSet_t, Q.wp_eChain, Q.store_l, Q.store_d, Q.wo_stI, Q.wp_sSub, Q.wp_sAugS, Q.aug_v, Q.wp_sAug, Q.ip_ii, Q.hI_ii, Q.wp_eLenScr, Q.wp_eIxScr, Q.scr_is, Q.cap_iff, Q.rng_iff, Q.lrg_iff, Q.div_iff, Q.mul_iff, Q.pow_iff, Q.size_lt, Q.free_pin, Q.free_lk, Q.lent_lk, Q.ff, Q.ft, Q.tt, Q.ffp, Q.dt, Q.df, Q.ndt, Q.ndf, Q.wo_ret, Q.fin_hot, Q.fin_val, Q.fin_nil, Q.ownOk_nil, Q.ownOk_cons, Q.hot_v, Q.hot_u, Q.wipe_0, Q.wipe_1, Q.back_0, Q.back_1, Q.slotPos_nil, List.set_cons_zero, List.set_cons_succ, List.getElem?_cons_zero, List.getElem?_cons_succ, List.length_cons, List.length_nil, Nat.zero_add, Nat.reduceAdd, Nat.reduceLeDiff, true_and, and_true, and_self, Bool.not_true, Bool.not_false, List.cons_append, List.nil_append, Q.wput_is, Q.true_imp, imp_self, implies_true, true_or, or_true, c2]
              refine wo_of ll ?_
              simp only [Q.wp_ok, Q.wp_no, Q.wo_some, Q.wo_none, Q.wo_bind, Q.wo_map, Q.wo_at0, Q.wo_atS, Q.wset_0, Q.wset_S, Q.bnd_val, Q.bnd_hot, Q.wp_eVar, Q.asArg_val, Q.asArg_hot, Q.wp_eArg, Q.wp_eC, Q.wp_cold, Q.wp_toCold_c, Q.wp_toCold_h, Q.chill_val, Q.chill_hot, Q.wp_toCold_s, Q.wp_own, Q.wp_toOwn_c, Q.wp_toOwn_h, Q.wp_toOwn_s, Q.giveBack_val, Q.giveBack_hot, Q.wp_toRet_c, Q.wp_toRet_h, Q.wp_toRet_s, Q.wp_aNil, Q.wp_aCons, Q.wp_bin, Q.wp_una, Q.wp_dat1, Q.wp_dat2, Q.wp_whole2, Q.view_c, Q.view_h, Q.view_s, Q.sview_v, Q.sview_h, Q.data_l, Q.data_d, Q.viewC_c, Q.viewC_h, Q.viewC_s, Q.sviewC_v, Q.sviewC_h, Q.dataC_l, Q.dataC_d, Q.plain_n, Q.plain_b, Q.plain_i, Q.plain_s, Q.plain_l, Q.plain_t, Q.wp_asB, Q.boolR_c, Q.boolS_v, Q.boolR_s, Q.wp_bAnd, Q.wp_bOr, Q.wp_bNot, Q.wp_eAnd, Q.wp_eOr, Q.wp_eNot, Q.wp_eIf, Q.wp_tTrue, Q.wp_sNx, Q.wp_never, Q.seqK_nx, Q.seqK_rt, Q.seqK_bk, Q.seqK_ct, Q.wp_sSeq, Q.wp_sExpr, Q.wp_sRet, Q.wp_sIf, Q.wp_putS, Q.wp_sSet, Q.set_val, Q.set_un, Q.set_hot, Q.sl_cold, Q.sl_hot, Q.wp_sTg, Q.ex_cold, Q.asg_nm, Q.asg_tp, Q.asgs_nil, Q.asgs_cons, Q.wputs_nil, Q.wputs_cons, Q.wp_sPar, Q.colds_nil, Q.colds_c, Q.wp_eTup, Q.wp_eLst, Q.wp_eDic0, Q.viewsC_nil, Q.viewsC_c, Q.wp_eB, Q.toArgs_nil, Q.toArgs_c, Q.lend_hot, Q.toArgs_s, Q.slotPos_c, Q.backA_nil, Q.backA_c, Q.takeBack_hot, Q.backA_s, Q.resR_v, Q.resR_h, Q.wp_callE, Q.resS_c, Q.resS_h, Q.resS_n, Q.wp_eMt, Q.wp_eMt0, Q.chg_lst, Q.wp_mAppend, Q.wp_mPopAt, Q.wp_mPop, Q.wp_mDat, Q.tyD_l, Q.tyD_t, Q.tyD_d, Q.isTy_o, Q.wp_oNone, Q.intD_i, Q.wp_oSome, Q.wp_eCut, Q.cut_l, Q.cut_t, Q.wp_eIsi, Q.wp_eLRg1, Q.wp_iRng1, Q.wp_iRng2, Q.seq_l, Q.seq_t, Q.wp_iCold, Q.wp_iEnumC, Q.walked_v, Q.walked_h, Q.wp_iSlot, Q.unlk_none, Q.wp_sFor, Q.turnK_nx, Q.turnK_ct, Q.turnK_bk, Q.turnK_rt, Q.add_ii, Q.add_ll, Q.add_tt, Q.sub_ii, Q.mul_ii, Q.mul_li, Q.mul_ti, Q.div_ii, Q.mod_ii, Q.pow_ii, Q.neg_i, Q.rev_l, Q.ix_l, Q.ix_t, Q.ix_d, Q.eq_xy, Q.ne_xy, Q.ord_ii, Q.in_w, Q.notin_w, Q.in_l, Q.in_t, Q.is_w, Q.isnot_w, Q.isq_n, Q.isNone_n, Q.isNone_i, Q.isNone_t, Q.isNone_l, Q.len_l, Q.len_t, Q.list_l, Q.list_t, Q.tup_l, Q.tup_t, Q.abs_i, Q.int_i, Q.int_b, Q.min_ii, Q.max_ii, Q.min_l, Q.max_l, Q.sum_l, Q.sort_l, Q.wo_asInts, Q.wo_asInts0, Q.wo_asIntsC, Q.key_i, Q.key_s, Q.wp_eLenSet, Q.lenSet_t, Q.wp_eChain, Q.store_l, Q.store_d, Q.wo_stI, Q.wp_sSub, Q.wp_sAugS, Q.aug_v, Q.wp_sAug, Q.ip_ii, Q.hI_ii, Q.wp_eLenScr, Q.wp_eIxScr, Q.scr_is, Q.cap_iff, Q.rng_iff, Q.lrg_iff, Q.div_iff, Q.mul_iff, Q.pow_iff, Q.size_lt, Q.free_pin, Q.free_lk, Q.lent_lk, Q.ff, Q.ft, Q.tt, Q.ffp, Q.dt, Q.df, Q.ndt, Q.ndf, Q.wo_ret, Q.fin_hot, Q.fin_val, Q.fin_nil, Q.ownOk_nil, Q.ownOk_cons, Q.hot_v, Q.hot_u, Q.wipe_0, Q.wipe_1, Q.back_0, Q.back_1, Q.slotPos_nil, List.set_cons_zero, List.set_cons_succ, List.getElem?_cons_zero, List.getElem?_cons_succ, List.length_cons, List.length_nil, Nat.zero_add, Nat.reduceAdd, Nat.reduceLeDiff, true_and, and_true, and_self, Bool.not_true, Bool.not_false, List.cons_append, List.nil_append, Q.wput_is, Q.true_imp, imp_self, implies_true, true_or, or_true, shaped_int, eqv_i, decide_true]
              exact ⟨h4, _, _, _, B4, rfl, rfl, rfl, rfl⟩
            · simp only [Q.wp_ok, Q.wp_no, Q.wo_some, Q.wo_none, Q.wo_bind, Q.wo_map, Q.wo_at0, Q.wo_atS, Q.wset_0, Q.wset_S, Q.bnd_val, Q.bnd_hot, Q.wp_eVar, Q.asArg_val, Q.asArg_hot, Q.wp_eArg, Q.wp_eC, Q.wp_cold, Q.wp_toCold_c, Q.wp_toCold_h, Q.chill_val, Q.chill_hot, Q.wp_toCold_s, Q.wp_own, Q.wp_toOwn_c, Q.wp_toOwn_h, Q.wp_toOwn_s, Q.giveBack_val, Q.giveBack_hot, Q.wp_toRet_c, Q.wp_toRet_h, Q.wp_toRet_s, Q.wp_aNil, Q.wp_aCons, Q.wp_bin, Q.wp_una, Q.wp_dat1, Q.wp_dat2, Q.wp_whole2, Q.view_c, Q.view_h, Q.view_s, Q.sview_v, Q.sview_h, Q.data_l, Q.data_d, Q.viewC_c, Q.viewC_h, Q.viewC_s, Q.sviewC_v, Q.sviewC_h, Q.dataC_l, Q.dataC_d, Q.plain_n, Q.plain_b, Q.plain_i, Q.plain_s, Q.plain_l, Q.plain_t, Q.wp_asB, Q.boolR_c, Q.boolS_v, Q.boolR_s, Q.wp_bAnd, Q.wp_bOr, Q.wp_bNot, Q.wp_eAnd, Q.wp_eOr, Q.wp_eNot, Q.wp_eIf, Q.wp_tTrue, Q.wp_sNx, Q.wp_never, Q.seqK_nx, Q.seqK_rt, Q.seqK_bk, Q.seqK_ct, Q.wp_sSeq, Q.wp_sExpr, Q.wp_sRet, Q.wp_sIf, Q.wp_putS, Q.wp_sSet, Q.set_val, Q.set_un, Q.set_hot, Q.sl_cold, Q.sl_hot, Q.wp_sTg, Q.ex_cold, Q.asg_nm, Q.asg_tp, Q.asgs_nil, Q.asgs_cons, Q.wputs_nil, Q.wputs_cons, Q.wp_sPar, Q.colds_nil, Q.colds_c, Q.wp_eTup, Q.wp_eLst, Q.wp_eDic0, Q.viewsC_nil, Q.viewsC_c, Q.wp_eB, Q.toArgs_nil, Q.toArgs_c, Q.lend_hot, Q.toArgs_s, Q.slotPos_c, Q.backA_nil, Q.backA_c, Q.takeBack_hot, Q.backA_s, Q.resR_v, Q.resR_h, Q.wp_callE, Q.resS_c, Q.resS_h, Q.resS_n, Q.wp_eMt, Q.wp_eMt0, Q.chg_lst, Q.wp_mAppend, Q.wp_mPopAt, Q.wp_mPop, Q.wp_mDat, Q.tyD_l, Q.tyD_t, Q.tyD_d, Q.isTy_o, Q.wp_oNone, Q.intD_i, Q.wp_oSome, Q.wp_eCut, Q.cut_l, Q.cut_t, Q.wp_eIsi, Q.wp_eLRg1, Q.wp_iRng1, Q.wp_iRng2, Q.seq_l, Q.seq_t, Q.wp_iCold, Q.wp_iEnumC, Q.walked_v, Q.walked_h, Q.wp_iSlot, Q.unlk_none, Q.wp_sFor, Q.turnK_nx, Q.turnK_ct, Q.turnK_bk, Q.turnK_rt, Q.add_ii, Q.add_ll, Q.add_tt, Q.sub_ii, Q.mul_ii, Q.mul_li, Q.mul_ti, Q.div_ii, Q.mod_ii, Q.pow_ii, Q.neg_i, Q.rev_l, Q.ix_l, Q.ix_t, Q.ix_d, Q.eq_xy, Q.ne_xy, Q.ord_ii, Q.in_w, Q.notin_w, Q.in_l, Q.in_t, Q.is_w, Q.isnot_w, Q.isq_n, Q.isNone_n, Q.isNone_i, Q.isNone_t, Q.isNone_l, Q.len_l, Q.len_t, Q.list_l, Q.list_t, Q.tup_l, Q.tup_t, Q.abs_i, Q.int_i, Q.int_b, Q.min_ii, Q.max_ii, Q.min_l, Q.max_l, Q.sum_l, Q.sort_l, Q.wo_asInts, Q.wo_asInts0, Q.wo_asIntsC, Q.key_i, Q.key_s, Q.wp_eLenSet, Q.lenSet_t, Q.wp_eChain, Q.store_l, Q.store_d, Q.wo_stI, Q.wp_sSub, Q.wp_sAugS, Q.aug_v, Q.wp_sAug, Q.ip_ii, Q.hI_ii, Q.wp_eLenScr, Q.wp_eIxScr, Q.scr_is, Q.cap_iff, Q.rng_iff, Q.lrg_iff, Q.div_iff, Q.mul_iff, Q.pow_iff, Q.size_lt, Q.free_pin, Q.free_lk, Q.lent_lk, Q.ff, Q.ft, Q.tt, Q.ffp, Q.dt, Q.df, Q.ndt, Q.ndf, Q.wo_ret, Q.fin_hot, Q.fin_val, Q.fin_nil, Q.ownOk_nil, Q.ownOk_cons, Q.hot_v, Q.hot_u, Q.wipe_0, Q.wipe_1, Q.back_0, Q.back_1, Q.slotPos_nil, List.set_cons_zero, List.set_cons_succ, List.getElem?_cons_zero, List.getElem?_cons_succ, List.length_cons, List.length_nil, Nat.zero_add, Nat.reduceAdd, Nat.reduceLeDiff, true_and, and_true, and_self, Bool.not_true, Bool.not_false, List.cons_append, List.nil_append, Q.wput_is, Q.true_imp, imp_self, implies_true, true_or, or_true, t8, t9, t10, hm, ld, a1, e, law_is_int, shaped_int, eqv_i, decide_true]
              refine wo_of a2 ?_
              simp only [Q.wp_ok, Q.wp_no, Q.wo_some, Q.wo_none, Q.wo_bind, Q.wo_map, Q.wo_at0, Q.wo_atS, Q.wset_0, Q.wset_S, Q.bnd_val, Q.bnd_hot, Q.wp_eVar, Q.asArg_val, Q.asArg_hot, Q.wp_eArg, Q.wp_eC, Q.wp_cold, Q.wp_toCold_c, Q.wp_toCold_h, Q.chill_val, Q.chill_hot, Q.wp_toCold_s, Q.wp_own, Q.wp_toOwn_c, Q.wp_toOwn_h, Q.wp_toOwn_s, Q.giveBack_val, Q.giveBack_hot, Q.wp_toRet_c, Q.wp_toRet_h, Q.wp_toRet_s, Q.wp_aNil, Q.wp_aCons, Q.wp_bin, Q.wp_una, Q.wp_dat1, Q.wp_dat2, Q.wp_whole2, Q.view_c, Q.view_h, Q.view_s, Q.sview_v, Q.sview_h, Q.data_l, Q.data_d, Q.viewC_c, Q.viewC_h, Q.viewC_s, Q.sviewC_v, Q.sviewC_h, Q.dataC_l, Q.dataC_d, Q.plain_n, Q.plain_b, Q.plain_i, Q.plain_s, Q.plain_l, Q.plain_t, Q.wp_asB, Q.boolR_c, Q.boolS_v, Q.boolR_s, Q.wp_bAnd, Q.wp_bOr, Q.wp_bNot, Q.wp_eAnd, Q.wp_eOr, Q.wp_eNot, Q.wp_eIf, Q.wp_tTrue, Q.wp_sNx, Q.wp_never, Q.seqK_nx, Q.seqK_rt, Q.seqK_bk, Q.seqK_ct, Q.wp_sSeq, Q.wp_sExpr, Q.wp_sRet, Q.wp_sIf, Q.wp_putS, Q.wp_sSet, Q.set_val, Q.set_un, Q.set_hot, Q.sl_cold, Q.sl_hot, Q.wp_sTg, Q.ex_cold, Q.asg_nm, Q.asg_tp, Q.asgs_nil, Q.asgs_cons, Q.wputs_nil, Q.wputs_cons, Q.wp_sPar, Q.colds_nil, Q.colds_c, Q.wp_eTup, Q.wp_eLst, Q.wp_eDic0, Q.viewsC_nil, Q.viewsC_c, Q.wp_eB, Q.toArgs_nil, Q.toArgs_c, Q.lend_hot, Q.toArgs_s, Q.slotPos_c, Q.backA_nil, Q.backA_c, Q.takeBack_hot, Q.backA_s, Q.resR_v, Q.resR_h, Q.wp_callE, Q.resS_c, Q.resS_h, Q.resS_n, Q.wp_eMt, Q.wp_eMt0, Q.chg_lst, Q.wp_mAppend, Q.wp_mPopAt, Q.wp_mPop, Q.wp_mDat, Q.tyD_l, Q.tyD_t, Q.tyD_d, Q.isTy_o, Q.wp_oNone, Q.intD_i, Q.wp_oSome, Q.wp_eCut, Q.cut_l, Q.cut_t, Q.wp_eIsi, Q.wp_eLRg1, Q.wp_iRng1, Q.wp_iRng2, Q.seq_l, Q.seq_t, Q.wp_iCold, Q.wp_iEnumC, Q.walked_v, Q.walked_h, Q.wp_iSlot, Q.unlk_none, Q.wp_sFor, Q.turnK_nx, Q.turnK_ct, Q.turnK_bk, Q.turnK_rt, Q.add_ii, Q.add_ll, Q.add_tt, Q.sub_ii, Q.mul_ii, Q.mul_li, Q.mul_ti, Q.div_ii, Q.mod_ii, Q.pow_ii, Q.neg_i, Q.rev_l, Q.ix_l, Q.ix_t, Q.ix_d, Q.eq_xy, Q.ne_xy, Q.ord_ii, Q.in_w, Q.notin_w, Q.in_l, Q.in_t, Q.is_w, Q.isnot_w, Q.isq_n, Q.isNone_n, Q.isNone_i, Q.isNone_t, Q.isNone_l, Q.len_l, Q.len_t, Q.list_l, Q.list_t, Q.tup_l, Q.tup_t, Q.abs_i, Q.int_i, Q.int_b, Q.min_ii, Q.max_ii, Q.min_l, Q.max_l, Q.sum_l, Q.sort_l, Q.wo_asInts, Q.wo_asInts0, Q.wo_asIntsC, Q.key_i, Q.key_s, Q.wp_eLenSet, Q.lenSet_t, Q.wp_eChain, Q.store_l, Q.store_d, Q.wo_stI, Q.wp_sSub, Q.wp_sAugS, Q.aug_v, Q.wp_sAug, Q.ip_ii, Q.hI_ii, Q.wp_eLenScr, Q.wp_eIxScr, Q.scr_is, Q.cap_iff, Q.rng_iff, Q.lrg_iff, Q.div_iff, Q.mul_iff, Q.pow_iff, Q.size_lt, Q.free_pin, Q.free_lk, Q.lent_lk, Q.ff, Q.ft, Q.tt, Q.ffp, Q.dt, Q.df, Q.ndt, Q.ndf, Q.wo_ret, Q.fin_hot, Q.fin_val, Q.fin_nil, Q.ownOk_nil, Q.ownOk_cons, Q.hot_v, Q.hot_u, Q.wipe_0, Q.wipe_1, Q.back_0, Q.back_1, Q.slotPos_nil, List.set_cons_zero, List.set_cons_succ, List.getElem?_cons_zero, List.getElem?_cons_succ, List.length_cons, List.length_nil, Nat.zero_add, Nat.reduceAdd, Nat.reduceLeDiff, true_and, and_true, and_self, Bool.not_true, Bool.not_false, List.cons_append, List.nil_append, Q.wput_is, Q.true_imp, imp_self, implies_true, true_or, or_true, c2]
              refine wo_of ll ?_
              simp only [Q.wp_ok, Q.wp_no, Q.wo_some, Q.wo_none, Q.wo_bind, Q.wo_map, Q.wo_at0, Q.wo_atS, Q.wset_0, Q.wset_S, Q.bnd_val, Q.bnd_hot, Q.wp_eVar, Q.asArg_val, Q.asArg_hot, Q.wp_eArg, Q.wp_eC, Q.wp_cold, Q.wp_toCold_c, Q.wp_toCold_h, Q.chill_val, Q.chill_hot, Q.wp_toCold_s, Q.wp_own, Q.wp_toOwn_c, Q.wp_toOwn_h, Q.wp_toOwn_s, Q.giveBack_val, Q.giveBack_hot, Q.wp_toRet_c, Q.wp_toRet_h, Q.wp_toRet_s, Q.wp_aNil, Q.wp_aCons, Q.wp_bin, Q.wp_una, Q.wp_dat1, Q.wp_dat2, Q.wp_whole2, Q.view_c, Q.view_h, Q.view_s, Q.sview_v, Q.sview_h, Q.data_l, Q.data_d, Q.viewC_c, Q.viewC_h, Q.viewC_s, Q.sviewC_v, Q.sviewC_h, Q.dataC_l, Q.dataC_d, Q.plain_n, Q.plain_b, Q.plain_i, Q.plain_s, Q.plain_l, Q.plain_t, Q.wp_asB, Q.boolR_c, Q.boolS_v, Q.boolR_s, Q.wp_bAnd, Q.wp_bOr, Q.wp_bNot, Q.wp_eAnd, Q.wp_eOr, Q.wp_eNot, Q.wp_eIf, Q.wp_tTrue, Q.wp_sNx, Q.wp_never, Q.seqK_nx, Q.seqK_rt, Q.seqK_bk, Q.seqK_ct, Q.wp_sSeq, Q.wp_sExpr, Q.wp_sRet, Q.wp_sIf, Q.wp_putS, Q.wp_sSet, Q.set_val, Q.set_un, Q.set_hot, Q.sl_cold, Q.sl_hot, Q.wp_sTg, Q.ex_cold, Q.asg_nm, Q.asg_tp, Q.asgs_nil, Q.asgs_cons, Q.wputs_nil, Q.wputs_cons, Q.wp_sPar, Q.colds_nil, Q.colds_c, Q.wp_eTup, Q.wp_eLst, Q.wp_eDic0, Q.viewsC_nil, Q.viewsC_c, Q.wp_eB, Q.toArgs_nil, Q.toArgs_c, Q.lend_hot, Q.toArgs_s, Q.slotPos_c, Q.backA_nil, Q.backA_c, Q.takeBack_hot, Q.backA_s, Q.resR_v, Q.resR_h, Q.wp_callE, Q.resS_c, Q.resS_h, Q.resS_n, Q.wp_eMt, Q.wp_eMt0, Q.chg_lst, Q.wp_mAppend, Q.wp_mPopAt, Q.wp_mPop, Q.wp_mDat, Q.tyD_l, Q.tyD_t, Q.tyD_d, Q.isTy_o, Q.wp_oNone, Q.intD_i, Q.wp_oSome, Q.wp_eCut, Q.cut_l, Q.cut_t, Q.wp_eIsi, Q.wp_eLRg1, Q.wp_iRng1, Q.wp_iRng2, Q.seq_l, Q.seq_t, Q.wp_iCold, Q.wp_iEnumC, Q.walked_v, Q.walked_h, Q.wp_iSlot, Q.unlk_none, Q.wp_sFor, Q.turnK_nx, Q.turnK_ct, Q.turnK_bk, Q.turnK_rt, Q.add_ii, Q.add_ll, Q.add_tt, Q.sub_ii, Q.mul_ii, Q.mul_li, Q.mul_ti, Q.div_ii, Q.mod_ii, Q.pow_ii, Q.neg_i, Q.rev_l, Q.ix_l, Q.ix_t, Q.ix_d, Q.eq_xy, Q.ne_xy, Q.ord_ii, Q.in_w, Q.notin_w, Q.in_l, Q.in_t, Q.is_w, Q.isnot_w, Q.isq_n, Q.isNone_n, Q.isNone_i, Q.isNone_t, Q.isNone_l, Q.len_l, Q.len_t, Q.list_l, Q.list_t, Q.tup_l, Q.tup_t, Q.abs_i, Q.int_i, Q.int_b, Q.min_ii, Q.max_ii, Q.min_l, Q.max_l, Q.sum_l, Q.sort_l, Q.wo_asInts, Q.wo_asInts0, Q.wo_asIntsC, Q.key_i, Q.key_s, Q.wp_eLenSet, Q.lenSet_t, Q.wp_eChain, Q.store_l, Q.store_d, Q.wo_stI, Q.wp_sSub, Q.wp_sAugS, Q.aug_v, Q.wp_sAug, Q.ip_ii, Q.hI_ii, Q.wp_eLenScr, Q.wp_eIxScr, Q.scr_is, Q.cap_iff, Q.rng_iff, Q.lrg_iff, Q.div_iff, Q.mul_iff, Q.pow_iff, Q.size_lt, Q.free_pin, Q.free_lk, Q.lent_lk, Q.ff, Q.ft, Q.tt, Q.ffp, Q.dt, Q.df, Q.ndt, Q.ndf, Q.wo_ret, Q.fin_hot, Q.fin_val, Q.fin_nil, Q.ownOk_nil, Q.ownOk_cons, Q.hot_v, Q.hot_u, Q.wipe_0, Q.wipe_1, Q.back_0, Q.back_1, Q.slotPos_nil, List.set_cons_zero, List.set_cons_succ, List.getElem?_cons_zero, List.getElem?_cons_succ, List.length_cons, List.length_nil, Nat.zero_add, Nat.reduceAdd, Nat.reduceLeDiff, true_and, and_true, and_self, Bool.not_true, Bool.not_false, List.cons_append, List.nil_append, Q.wput_is, Q.true_imp, imp_self, implies_true, true_or, or_true, shaped_int, eqv_i, decide_true]
              exact ⟨h4, _, _, _, B4, rfl, rfl, rfl, rfl⟩
          · cases hd
        · obtain ⟨h', s8, s9, s10, B', t8, t9, t10, rfl⟩ := he
          exact ⟨.inl rfl, _, _, _, _, _, _, _, _, _, _, rfl, rfl, rfl, rfl, rfl, rfl, rfl, rfl, t8, t9, t10, rfl⟩
    · cases hd
  · obtain ⟨s1, s2, s3, s4, s5, s6, s7, s8, s9, s10, t1, t2, t3, t4, t5, t6, n6, t7, t8, t9, t10, rfl⟩ := he
    simp only [Q.wp_ok, Q.wp_no, Q.wo_some, Q.wo_none, Q.wo_bind, Q.wo_map, Q.wo_at0, Q.wo_atS, Q.wset_0, Q.wset_S, Q.bnd_val, Q.bnd_hot, Q.wp_eVar, Q.asArg_val, Q.asArg_hot, Q.wp_eArg, Q.wp_eC, Q.wp_cold, Q.wp_toCold_c, Q.wp_toCold_h, Q.chill_val, Q.chill_hot, Q.wp_toCold_s, Q.wp_own, Q.wp_toOwn_c, Q.wp_toOwn_h, Q.wp_toOwn_s, Q.giveBack_val, Q.giveBack_hot, Q.wp_toRet_c, Q.wp_toRet_h, Q.wp_toRet_s, Q.wp_aNil, Q.wp_aCons, Q.wp_bin, Q.wp_una, Q.wp_dat1, Q.wp_dat2, Q.wp_whole2, Q.view_c, Q.view_h, Q.view_s, Q.sview_v, Q.sview_h, Q.data_l, Q.data_d, Q.viewC_c, Q.viewC_h, Q.viewC_s, Q.sviewC_v, Q.sviewC_h, Q.dataC_l, Q.dataC_d, Q.plain_n, Q.plain_b, Q.plain_i, Q.plain_s, Q.plain_l, Q.plain_t, Q.wp_asB, Q.boolR_c, Q.boolS_v, Q.boolR_s, Q.wp_bAnd, Q.wp_bOr, Q.wp_bNot, Q.wp_eAnd, Q.wp_eOr, Q.wp_eNot, Q.wp_eIf, Q.wp_tTrue, Q.wp_sNx, Q.wp_never, Q.seqK_nx, Q.seqK_rt, Q.seqK_bk, Q.seqK_ct, Q.wp_sSeq, Q.wp_sExpr, Q.wp_sRet, Q.wp_sIf, Q.wp_putS, Q.wp_sSet, Q.set_val, Q.set_un, Q.set_hot, Q.sl_cold, Q.sl_hot, Q.wp_sTg, Q.ex_cold, Q.asg_nm, Q.asg_tp, Q.asgs_nil, Q.asgs_cons, Q.wputs_nil, Q.wputs_cons, Q.wp_sPar, Q.colds_nil, Q.colds_c, Q.wp_eTup, Q.wp_eLst, Q.wp_eDic0, Q.viewsC_nil, Q.viewsC_c, Q.wp_eB, Q.toArgs_nil, Q.toArgs_c, Q.lend_hot, Q.toArgs_s, Q.slotPos_c, Q.backA_nil, Q.backA_c, Q.takeBack_hot, Q.backA_s, Q.resR_v, Q.resR_h, Q.wp_callE, Q.resS_c, Q.resS_h, Q.resS_n, Q.wp_eMt, Q.wp_eMt0, Q.chg_lst, Q.wp_mAppend, Q.wp_mPopAt, Q.wp_mPop, Q.wp_mDat, Q.tyD_l, Q.tyD_t, Q.tyD_d, Q.isTy_o, Q.wp_oNone, Q.intD_i, Q.wp_oSome, Q.wp_eCut, Q.cut_l, Q.cut_t, Q.wp_eIsi, Q.wp_eLRg1, Q.wp_iRng1, Q.wp_iRng2, Q.seq_l, Q.seq_t, Q.wp_iCold, Q.wp_iEnumC, Q.walked_v, Q.walked_h, Q.wp_iSlot, Q.unlk_none, Q.wp_sFor, Q.turnK_nx, Q.turnK_ct, Q.turnK_bk, Q.turnK_rt, Q.add_ii, Q.add_ll, Q.add_tt, Q.sub_ii, Q.mul_ii, Q.mul_li, Q.mul_ti, Q.div_ii, Q.mod_ii, Q.pow_ii, Q.neg_i, Q.rev_l, Q.ix_l, Q.ix_t, Q.ix_d, Q.eq_xy, Q.ne_xy, Q.ord_ii, Q.in_w, Q.notin_w, Q.in_l, Q.in_t, Q.is_w, Q.isnot_w, Q.isq_n, Q.isNone_n, Q.isNone_i, Q.isNone_t, Q.isNone_l, Q.len_l, Q.len_t, Q.list_l, Q.list_t, Q.tup_l, Q.tup_t, Q.abs_i, Q.int_i, Q.int_b, Q.min_ii, Q.max_ii, Q.min_l, Q.max_l, Q.sum_l, Q.sort_l, Q.wo_asInts, Q.wo_asInts0, Q.wo_asIntsC, Q.key_i, Q.key_s, Q.wp_eLenSet, Q.lenSet_t, Q.wp_eChain, Q.store_l, Q.store_d, Q.wo_stI, Q.wp_sSub, Q.wp_sAugS, Q.aug_v, Q.wp_sAug, Q.ip_ii, Q.hI_ii, Q.wp_eLenScr, Q.wp_eIxScr, Q.scr_is, Q.cap_iff, Q.rng_iff, Q.lrg_iff, Q.div_iff, Q.mul_iff, Q.pow_iff, Q.size_lt, Q.free_pin, Q.free_lk, Q.lent_lk, Q.ff, Q.ft, Q.tt, Q.ffp, Q.dt, Q.df, Q.ndt, Q.ndf, Q.wo_ret, Q.fin_hot, Q.fin_val, Q.fin_nil, Q.ownOk_nil, Q.ownOk_cons, Q.hot_v, Q.hot_u, Q.wipe_0, Q.wipe_1, Q.back_0, Q.back_1, Q.slotPos_nil, List.set_cons_zero, List.set_cons_succ, List.getElem?_cons_zero, List.getElem?_cons_succ, List.length_cons, List.length_nil, Nat.zero_add, Nat.reduceAdd, Nat.reduceLeDiff, true_and, and_true, and_self, Bool.not_true, Bool.not_false, List.cons_append, List.nil_append, Q.wput_is, Q.true_imp, imp_self, implies_true, true_or, or_true]
end K79
open PySem PySem.W PyProof.Rows
set_option maxHeartbeats 0 in
theorem PySem.Challenge.cw_slowshelves_k79_whole_more_rooms_than_ei_holds : PySem.Challenge.rw_slowshelves_k79_whole_more_rooms_than_ei.Holds := by
  w_on; o_law; k_head; (case hw => w_witness2)
  k_fill
  refine L2.walk_of (l := PySem.Challenge.rw_slowshelves_k79_whole_more_rooms_than_ei) (n := 63) (k := 9) (x := "script") (CX := fun _ => L2.CX0) (sp := fun w => Q.spQ _ K79.f_law) rfl (by decide) rfl ⟨rfl, by decide, by decide⟩ (fun w h Y => PySem.W.kIn_of Y) ?F (fun _ _ a ns hl _ hS => Q.law_sp hS (K79.plain ns hl)) (fun _ _ _ _ _ h => h)
  case F =>
    intro w mg fa h KX G hmg
    refine' K79.all_mk KX G hmg ?a0 ?b0 ?c0 ?k0 ?a1 ?b1 ?c1 ?k1 ?a2 ?b2 ?c2 ?k2 ?a3 ?b3 ?c3 ?k3 ?a4 ?b4 ?c4 ?k4 ?a5 ?b5 ?c5 ?k5 ?a6 ?b6 ?c6 ?k6 ?a7 ?b7 ?c7 ?k7 ?a8 ?b8 ?c8 ?k8 ?a9 ?b9 ?c9 ?k9 ?a10 ?b10 ?c10 ?k10 ?a11 ?b11 ?c11 ?k11 ?a12 ?b12 ?c12 ?k12 ?a13 ?b13 ?c13 ?k13 ?a14 ?b14 ?c14 ?k14 ?a15 ?b15 ?c15 ?k15 ?a16 ?b16 ?c16 ?k16 ?a17 ?b17 ?c17 ?k17 ?a18 ?b18 ?c18 ?k18 ?a19 ?b19 ?c19 ?k19 ?a20 ?b20 ?c20 ?k20 ?a21 ?b21 ?c21 ?k21 ?a22 ?b22 ?c22 ?k22 ?a23 ?b23 ?c23 ?k23 ?a24 ?b24 ?c24 ?k24 ?a25 ?b25 ?c25 ?k25 ?z0 ?z1 ?z2 ?z3 ?z4 ?z5 ?z6 ?z7 ?z8 ?z9 ?z10 ?z11 ?z12 ?z13 ?e0 ?e1 ?e2
    (case a0 => k_is); (case b0 => k_is); (case c0 => k_is); (case k0 => k_is); (case a1 => k_is); (case b1 => k_is); (case c1 => k_is); (case k1 => k_is); (case a2 => k_is); (case b2 => k_is); (case c2 => k_is); (case k2 => k_is); (case a3 => k_is); (case b3 => k_is); (case c3 => k_is); (case k3 => k_is); (case a4 => k_is); (case b4 => k_is); (case c4 => k_is); (case k4 => k_is); (case a5 => k_is); (case b5 => k_is); (case c5 => k_is); (case k5 => k_is); (case a6 => k_is); (case b6 => k_is); (case c6 => k_is); (case k6 => k_is); (case a7 => k_is); (case b7 => k_is); (case c7 => k_is); (case k7 => k_is); (case a8 => k_is); (case b8 => k_is); (case c8 => k_is); (case k8 => k_is); (case a9 => k_is); (case b9 => k_is); (case c9 => k_is); (case k9 => k_is); (case a10 => k_is); (case b10 => k_is); (case c10 => k_is); (case k10 => k_is); (case a11 => k_is); (case b11 => k_is); (case c11 => k_is); (case k11 => k_is); (case a12 => k_is); (case b12 => k_is); (case c12 => k_is); (case k12 => k_is); (case a13 => k_is); (case b13 => k_is); (case c13 => k_is); (case k13 => k_is); (case a14 => k_is); (case b14 => k_is); (case c14 => k_is); (case k14 => k_is); (case a15 => k_is); (case b15 => k_is); (case c15 => k_is); (case k15 => k_is); (case a16 => k_is); (case b16 => k_is); (case c16 => k_is); (case k16 => k_is); (case a17 => k_is); (case b17 => k_is); (case c17 => k_is); (case k17 => k_is); (case a18 => k_is); (case b18 => k_is); (case c18 => k_is); (case k18 => k_is); (case a19 => k_is); (case b19 => k_is); (case c19 => k_is); (case k19 => k_is); (case a20 => k_is); (case b20 => k_is); (case c20 => k_is); (case k20 => k_is); (case a21 => k_is); (case b21 => k_is); (case c21 => k_is); (case k21 => k_is); (case a22 => k_is); (case b22 => k_is); (case c22 => k_is); (case k22 => k_is); (case a23 => k_is); (case b23 => k_is); (case c23 => k_is); (case k23 => k_is); (case a24 => k_is); (case b24 => k_is); (case c24 => k_is); (case k24 => k_is); (case a25 => k_is); (case b25 => k_is); (case c25 => k_is); (case k25 => k_is); (case z0 => k_is); (case z1 => k_is); (case z2 => k_is); (case z3 => k_is); (case z4 => k_is); (case z5 => k_is); (case z6 => k_is); (case z7 => k_is); (case z8 => k_is); (case z9 => k_is); (case z10 => k_is); (case z11 => k_is); (case z12 => k_is); (case z13 => k_is); (case e0 => k_is); (case e1 => k_is); (case e2 => k_is)
